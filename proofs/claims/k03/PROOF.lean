import PyProof.Rows.All
import Wide.All
import OpenK.AllK
import Wide.FinOn
import HandS.ForMost
import HandS.ForExc
import HandS.Wide
import HandS.Property
import HandS.DictComp
import HandS.IsInst
import HandS.TupMul
import HandS.TupAny
import HandS.Zip
import HandS.Style
import HandS.Flow
import HandS.Defaults
import HandS.Small
import HandS.Walk
import KE.GoesEnum
import KE.GoesMore
import HandS.Lambda
import HandS.Strs
import HandS.MakeKwOnly
import HandS.ExcInit
import HandS.ExcSuper
import KE.KExcSuper
import HandS.ExcOwn
import HandS.ExcField
import KE.KExcIs
import HandS.Star
import HandS.EndTab
import KE.KNest
import PySem.Challenge.RW_stacksure_k03_whole_joined_programs
set_option Elab.async false
set_option linter.all false
set_option maxRecDepth 100000
set_option maxHeartbeats 4000000
namespace FL
open PySem PySem.Spec PyProof.Rows L2

/-- data that does not change -/
inductive D where
  | non | bl (b : Bool) | int (i : Int) | str (s : Str)
  | tup (xs : List D) | lst (xs : List D)
  | scr (xs : List D)
  | dK (ks : List Key) (ds : List D)
  | dT (ks : List (List Key)) (ds : List D)
  | ins (c : Str) (ns : List Str) (ds : List D)
  | gl (x : Str)
  | wld
  | ty (n : String)
  | tpx (xs : List D)
  | exc (c : Str) (ns : List Str) (ds : List D)
instance : Inhabited D := ⟨.non⟩

/-- at e: an exception that was caught; its class, its dict -/
def exg (e C : Addr) (d : Option Addr) : HO := .ext fun h => ∃ ox : Obj, h.get? e = some ox ∧ ox.cls = .ref C ∧ ox.dict = d ∧ ∃ vs, ox.data = .fields vs
/-- where the text's names stand -/
structure Cc where
  K : PySem.W.Frag
  mg : Str → Option Value
  root : Addr
mutual
def Rz (C : Cc) (H : Hp) : D → V → Prop
  | .non, v => v = .non
  | .bl b, v => v = .bl b
  | .int i, v => v = .int i
  | .str s, v => v = .str s
  | .tup xs, v => ∃ a vs, v = .ref a ∧ H a = some (.tup vs) ∧ RzL C H xs vs
  | .lst xs, v => ∃ a vs, v = .ref a ∧ H a = some (.lst vs) ∧ RzL C H xs vs
  | .scr xs, v => ∃ a vs, v = .ref a ∧ SqL C.K H a vs ∧ RzL C H xs vs
  | .dK ks ds, v => ∃ a vs, v = .ref a ∧ Rd H a (.dK (ks.zip vs)) ∧ ks.length = vs.length ∧ ks.Nodup ∧ RzL C H ds vs
  | .dT ks ds, v => ∃ a vs, v = .ref a ∧ Rd H a (.dT (ks.zip vs)) ∧ ks.length = vs.length ∧ ks.Nodup ∧ RzL C H ds vs
  | .ins c ns ds, v => ∃ a Ca dx vs, v = .ref a ∧ C.mg c = some (.ref Ca) ∧ H a = some (.ins Ca dx (ns.zip vs)) ∧ ns.length = vs.length ∧ RzL C H ds vs
  | .gl x, v => ∃ f, v = .ref f ∧ C.mg x = some (.ref f)
  | .wld, v => v = .ref C.root
  | .ty n, v => v = .ty n
  | .exc c ns ds, v => ∃ a Ca d vs, v = .ref a ∧ C.mg c = some (.ref Ca) ∧ H a = some (exg a Ca d) ∧ ((ns = [] ∧ vs = [] ∧ d = none) ∨ ∃ dx, d = some dx ∧ H dx = some (.xd (ns.zip vs))) ∧ ns.length = vs.length ∧ RzL C H ds vs
  | .tpx xs, v => ∃ a vs o, v = .ref a ∧ H a = some (.frz o (.tup vs)) ∧ o.dict = none ∧ RzL C H xs vs
def RzL (C : Cc) (H : Hp) : List D → List V → Prop
  | [], vs => vs = []
  | d :: ds, vs => ∃ v r, vs = v :: r ∧ Rz C H d v ∧ RzL C H ds r
end
theorem Same.sqT {K : PySem.W.Frag} {H H' : Hp} {a : Addr} {xs : List V} (e : Same H H') (h : SqT K H a xs) : SqT K H' a xs := by
  rcases h with (h | ⟨o, h⟩) | h
  · exact .inl (.inl (e _ _ h))
  · exact .inl (.inr ⟨o, e _ _ h⟩)
  · exact .inr h
theorem Same.rd {H H' : Hp} {a : Addr} {u : HO} (e : Same H H') (h : Rd H a u) : Rd H' a u := by
  rcases h with h | ⟨o, h⟩
  · exact .inl (e _ _ h)
  · exact .inr ⟨o, e _ _ h⟩
mutual
theorem Rz.mono {C : Cc} {H H' : Hp} (e : Same H H') : ∀ {d : D} {v : V}, Rz C H d v → Rz C H' d v
  | .non, _, h => h
  | .bl _, _, h => h
  | .int _, _, h => h
  | .str _, _, h => h
  | .tup _, _, ⟨a, vs, q, s, r⟩ => ⟨a, vs, q, e _ _ s, RzL.mono e r⟩
  | .lst _, _, ⟨a, vs, q, s, r⟩ => ⟨a, vs, q, e _ _ s, RzL.mono e r⟩
  | .scr _, _, ⟨a, vs, q, s, r⟩ => ⟨a, vs, q, e.seq s, RzL.mono e r⟩
  | .dK _ _, _, ⟨a, vs, q, s, l, n, r⟩ => ⟨a, vs, q, Same.rd e s, l, n, RzL.mono e r⟩
  | .dT _ _, _, ⟨a, vs, q, s, l, n, r⟩ => ⟨a, vs, q, Same.rd e s, l, n, RzL.mono e r⟩
  | .ins _ _ _, _, ⟨a, Ca, dx, vs, q, m, s, l, r⟩ => ⟨a, Ca, dx, vs, q, m, e _ _ s, l, RzL.mono e r⟩
  | .gl _, _, h => h
  | .wld, _, h => h
  | .ty _, _, h => h
  | .exc _ _ _, _, ⟨a, Ca, d, vs, q, m, s, f, l, r⟩ => ⟨a, Ca, d, vs, q, m, e _ _ s, f.imp (fun z => z) (fun ⟨dx, z1, z2⟩ => ⟨dx, z1, e _ _ z2⟩), l, RzL.mono e r⟩
  | .tpx _, _, ⟨a, vs, o, q, s, n, r⟩ => ⟨a, vs, o, q, e _ _ s, n, RzL.mono e r⟩
theorem RzL.mono {C : Cc} {H H' : Hp} (e : Same H H') : ∀ {ds : List D} {vs : List V}, RzL C H ds vs → RzL C H' ds vs
  | [], _, h => h
  | _ :: _, _, ⟨v, r, q, h1, h2⟩ => ⟨v, r, q, Rz.mono e h1, RzL.mono e h2⟩
end
theorem RzL.len {C : Cc} {H : Hp} : ∀ {ds : List D} {vs : List V}, RzL C H ds vs → ds.length = vs.length
  | [], _, h => by
    have h' : _ = [] := h
    subst h'
    rfl
  | _ :: _, _, ⟨v, r, q, _, h2⟩ => by
    rw [q, List.length_cons, List.length_cons, RzL.len h2]
theorem RzL.app {C : Cc} {H : Hp} : ∀ {ds es : List D} {vs us : List V}, RzL C H ds vs → RzL C H es us → RzL C H (ds ++ es) (vs ++ us)
  | [], _, _, _, h, h' => by
    have e : _ = [] := h
    rw [e]
    exact h'
  | _ :: _, _, _, _, ⟨v, r, q, h1, h2⟩, h' => ⟨v, r ++ _, by rw [q]; rfl, h1, RzL.app h2 h'⟩
theorem RzL.get {C : Cc} {H : Hp} : ∀ {ds : List D} {vs : List V} {i : Nat} {d : D}, RzL C H ds vs → ds[i]? = some d → ∃ v, vs[i]? = some v ∧ Rz C H d v
  | [], _, i, d, _, e => by simp at e
  | _ :: _, _, 0, d, ⟨v, r, q, h1, h2⟩, e => by
    have e' : _ = d := Option.some.inj e
    subst e'
    rw [q]
    exact ⟨v, rfl, h1⟩
  | _ :: _, _, i + 1, d, ⟨v, r, q, h1, h2⟩, e => by
    obtain ⟨u, h3, h4⟩ := RzL.get (i := i) h2 e
    rw [q]
    exact ⟨u, h3, h4⟩
theorem RzL.getV {C : Cc} {H : Hp} {ds : List D} {vs : List V} {i : Nat} {v : V} (h : RzL C H ds vs) (e : vs[i]? = some v) : ∃ d, ds[i]? = some d ∧ Rz C H d v := by
  have hl := h.len
  have hi : i < ds.length := by
    rw [hl]
    exact (List.getElem?_eq_some_iff.mp e).1
  obtain ⟨u, h1, h2⟩ := h.get (List.getElem?_eq_getElem hi)
  rw [e] at h1
  cases h1
  exact ⟨_, List.getElem?_eq_getElem hi, h2⟩
theorem RzL.set {C : Cc} {H : Hp} {d : D} {v : V} (hd : Rz C H d v) : ∀ {ds : List D} {vs : List V} (i : Nat), RzL C H ds vs → RzL C H (ds.set i d) (vs.set i v)
  | [], _, _, h => by
    have e : _ = [] := h
    rw [e]
    exact rfl
  | _ :: _, _, 0, ⟨u, r, q, h1, h2⟩ => ⟨v, r, by rw [q]; rfl, hd, h2⟩
  | _ :: _, _, i + 1, ⟨u, r, q, h1, h2⟩ => ⟨u, r.set i v, by rw [q]; rfl, h1, RzL.set hd i h2⟩
theorem RzL.take {C : Cc} {H : Hp} : ∀ {ds : List D} {vs : List V} (i : Nat), RzL C H ds vs → RzL C H (ds.take i) (vs.take i)
  | [], _, _, h => by
    have e : _ = [] := h
    rw [e]
    simp [RzL]
  | _ :: _, _, 0, ⟨u, r, q, h1, h2⟩ => rfl
  | _ :: _, _, i + 1, ⟨u, r, q, h1, h2⟩ => ⟨u, r.take i, by rw [q]; rfl, h1, RzL.take i h2⟩
theorem RzL.drop {C : Cc} {H : Hp} : ∀ {ds : List D} {vs : List V} (i : Nat), RzL C H ds vs → RzL C H (ds.drop i) (vs.drop i)
  | [], _, _, h => by
    have e : _ = [] := h
    rw [e]
    simp [RzL]
  | _ :: _, _, 0, h => h
  | _ :: _, _, i + 1, ⟨u, r, q, h1, h2⟩ => by
    rw [q]
    exact RzL.drop i h2
theorem RzL.rev {C : Cc} {H : Hp} : ∀ {ds : List D} {vs : List V}, RzL C H ds vs → RzL C H ds.reverse vs.reverse
  | [], _, h => by
    have e : _ = [] := h
    rw [e]
    exact rfl
  | _ :: _, _, ⟨u, r, q, h1, h2⟩ => by
    rw [q, List.reverse_cons, List.reverse_cons]
    exact RzL.app (RzL.rev h2) ⟨u, [], rfl, h1, rfl⟩
theorem RzL.nilv {C : Cc} {H : Hp} {ds : List D} (h : RzL C H ds []) : ds = [] := by
  cases ds with
  | nil => rfl
  | cons d r =>
    obtain ⟨_, _, q, _⟩ := h
    cases q
theorem RzL.consv {C : Cc} {H : Hp} {ds : List D} {v : V} {r : List V} (h : RzL C H ds (v :: r)) : ∃ d es, ds = d :: es ∧ Rz C H d v ∧ RzL C H es r := by
  cases ds with
  | nil => cases h
  | cons d es =>
    obtain ⟨v', r', q, h1, h2⟩ := h
    cases q
    exact ⟨d, es, rfl, h1, h2⟩
end FL
set_option maxRecDepth 100000
set_option maxHeartbeats 4000000
namespace FL
open PySem PySem.Spec PyProof.Rows L2

/-- a world: objects that defs change, told by a value -/
structure Wd (ω : Type) where
  fp : Addr → Prop
  rel : Hp → ω → Prop
  loc : ∀ {H H' : Hp} {w : ω}, (∀ a, fp a → H' a = H a) → (∀ a φ, H a = some (.ext φ) → H' a = some (.ext φ)) → rel H w → rel H' w
  dom : ∀ {H : Hp} {w : ω}, rel H w → ∀ a, fp a → H a ≠ none

theorem Wd.put {ω : Type} (W : Wd ω) {H : Hp} {w : ω} {p : Addr} {o : HO} (hn : ¬ W.fp p) (he : ∀ φ, H p ≠ some (.ext φ)) (r : W.rel H w) : W.rel (upd H p o) w :=
  W.loc (fun a h => upd_ne fun z => hn (by rw [← z]; exact h)) (fun a φ h => by rw [upd_ne fun z => he φ (by rw [← z]; exact h)]; exact h) r
/-- what a slot holds: data, or a list, a dict of its own (it may be changed) -/
inductive O where
  | frz (d : D)
  | lst (ds : List D)
  | mat (rows : List (List D))
  | dK (ks : List Key) (ds : List D)
  | dT (ks : List (List Key)) (ds : List D)
  | ins (p : Addr) (c : Str) (ns : List Str) (ds : List D)
def O.toD : O → D
  | .frz d => d
  | .lst ds => .lst ds
  | .mat rows => .lst (rows.map .lst)
  | .dK ks ds => .dK ks ds
  | .dT ks ds => .dT ks ds
  | .ins _ c ns ds => .ins c ns ds
def Rowsz (C : Cc) (Ht H : Hp) : List (List D) → List Addr → Prop
  | [], as => as = []
  | r :: rows, as => ∃ a bs vs, as = a :: bs ∧ H a = some (.lst vs) ∧ RzL C Ht r vs ∧ Rowsz C Ht H rows bs
def Ow (C : Cc) (Ht H : Hp) : O → V → List Addr → Prop
  | .frz d, v, fp => Rz C Ht d v ∧ fp = []
  | .lst ds, v, fp => ∃ a vs, v = .ref a ∧ H a = some (.lst vs) ∧ RzL C Ht ds vs ∧ fp = [a]
  | .mat rows, v, fp => ∃ a as, v = .ref a ∧ H a = some (.lst (as.map V.ref)) ∧ Rowsz C Ht H rows as ∧ fp = a :: as ∧ (a :: as).Nodup
  | .dK ks ds, v, fp => ∃ a vs, v = .ref a ∧ H a = some (.dK (ks.zip vs)) ∧ ks.length = vs.length ∧ ks.Nodup ∧ RzL C Ht ds vs ∧ fp = [a]
  | .dT ks ds, v, fp => ∃ a vs, v = .ref a ∧ H a = some (.dT (ks.zip vs)) ∧ ks.length = vs.length ∧ ks.Nodup ∧ RzL C Ht ds vs ∧ fp = [a]
  | .ins p c ns ds, v, fp => ∃ a Ca dx vs, v = .ref a ∧ C.mg c = some (.ref Ca) ∧ H a = some (.ins Ca dx (ns.zip vs)) ∧ ns.length = vs.length ∧ RzL C Ht ds vs ∧ fp = [a] ∧ a = p

abbrev Ev := List (Option O)
abbrev Fp := Nat → List Addr
structure EnvO {ω : Type} (C : Cc) (W : Wd ω) (Ht H : Hp) (ρ : Ev) (σ : L2.St) (fp : Fp) : Prop where
  sub : Same Ht H
  len : ρ.length = σ.length
  slot : ∀ i o, ρ[i]? = some (some o) → ∃ v, σ[i]? = some (some v) ∧ Ow C Ht H o v (fp i)
  out : ∀ i a, a ∈ fp i → Ht a = none ∧ ¬ W.fp a ∧ H a ≠ none
  one : ∀ i j a, a ∈ fp i → a ∈ fp j → i = j
  wout : ∀ a, W.fp a → Ht a = none
/-- what a step leaves: all but the world's and the slots' own objects stays -/
structure Stp {ω : Type} (W : Wd ω) (Ht H : Hp) (fp : Fp) (Ht' H' : Hp) : Prop where
  ch : ∀ a x, ¬ W.fp a → (∀ i, a ∉ fp i) → H a = some x → H' a = some x
  th : Same Ht Ht'
  sub : Same Ht' H'
  new : ∀ a, Ht' a ≠ none → Ht a ≠ none ∨ (∃ i, a ∈ fp i) ∨ H a = none
  keep : ∀ a, H' a = none → H a = none
def OwnS (H : Hp) (fp fp' : Fp) : Prop := ∀ i a, a ∈ fp' i → (∃ j, a ∈ fp j) ∨ H a = none
section
variable {ω : Type} {C : Cc} {W : Wd ω} {Ht H Ht1 H1 Ht2 H2 : Hp} {fp fp1 fp2 : Fp} {ρ ρ1 ρ2 : Ev} {σ : L2.St} {w w1 w2 : ω}
theorem Stp.refl (s : Same Ht H) : Stp W Ht H fp Ht H := ⟨fun _ _ _ _ h => h, Same.refl _, s, fun _ h => .inl h, fun _ h => h⟩
theorem OwnS.refl : OwnS H fp fp := fun i a h => .inl ⟨i, h⟩
theorem Stp.trans (a : Stp W Ht H fp Ht1 H1) (ow : OwnS H fp fp1) (b : Stp W Ht1 H1 fp1 Ht2 H2) : Stp W Ht H fp Ht2 H2 where
  ch := fun c x h1 h2 e => by
    refine b.ch c x h1 (fun i hi => ?_) (a.ch c x h1 h2 e)
    rcases ow i c hi with ⟨j, hj⟩ | hn
    · exact h2 j hj
    · rw [e] at hn
      cases hn
  th := a.th.trans b.th
  sub := b.sub
  new := fun c h => by
    rcases b.new c h with h | ⟨i, h⟩ | h
    · exact a.new c h
    · rcases ow i c h with ⟨j, hj⟩ | hn
      · exact .inr (.inl ⟨j, hj⟩)
      · exact .inr (.inr hn)
    · exact .inr (.inr (a.keep c h))
  keep := fun c h => a.keep c (b.keep c h)
theorem OwnS.trans (a : Stp W Ht H fp Ht1 H1) (ow : OwnS H fp fp1) (ow2 : OwnS H1 fp1 fp2) : OwnS H fp fp2 := fun i c h => by
  rcases ow2 i c h with ⟨j, hj⟩ | hn
  · exact ow j c hj
  · exact .inr (a.keep c hn)
theorem Rowsz.imp (hT : Same Ht Ht1) : ∀ {rows : List (List D)} {as : List Addr}, (∀ a x, a ∈ as → H a = some x → H1 a = some x) → Rowsz C Ht H rows as → Rowsz C Ht1 H1 rows as
  | [], _, _, h => h
  | _ :: _, _, hc, ⟨a, bs, vs, q, h1, h2, h3⟩ => by
    subst q
    exact ⟨a, bs, vs, rfl, hc a _ List.mem_cons_self h1, RzL.mono hT h2, Rowsz.imp hT (fun b x hb => hc b x (List.mem_cons_of_mem _ hb)) h3⟩
/-- a slot's word stays where its objects stay -/
theorem Ow.imp (hT : Same Ht Ht1) {o : O} {v : V} {f : List Addr} (hc : ∀ a x, a ∈ f → H a = some x → H1 a = some x) (h : Ow C Ht H o v f) : Ow C Ht1 H1 o v f := by
  cases o with
  | frz d => exact ⟨Rz.mono hT h.1, h.2⟩
  | lst ds =>
    obtain ⟨a, vs, q, e, r, f'⟩ := h
    subst f'
    exact ⟨a, vs, q, hc a _ List.mem_cons_self e, RzL.mono hT r, rfl⟩
  | mat rows =>
    obtain ⟨a, as, q, e, r, f', n⟩ := h
    subst f'
    exact ⟨a, as, q, hc a _ List.mem_cons_self e, Rowsz.imp hT (fun b x hb => hc b x (List.mem_cons_of_mem _ hb)) r, rfl, n⟩
  | dK ks ds =>
    obtain ⟨a, vs, q, e, l, n, r, f'⟩ := h
    subst f'
    exact ⟨a, vs, q, hc a _ List.mem_cons_self e, l, n, RzL.mono hT r, rfl⟩
  | dT ks ds =>
    obtain ⟨a, vs, q, e, l, n, r, f'⟩ := h
    subst f'
    exact ⟨a, vs, q, hc a _ List.mem_cons_self e, l, n, RzL.mono hT r, rfl⟩
  | ins p c ns ds =>
    obtain ⟨a, Ca, dx, vs, q, m, e, l, r, f', ap⟩ := h
    subst f'
    exact ⟨a, Ca, dx, vs, q, m, hc a _ List.mem_cons_self e, l, RzL.mono hT r, rfl, ap⟩
end
/-- an error: its class, what it tells -/
structure Er where
  cls : Str
  fld : Option (Str × D)
def ErOk (C : Cc) (Ht H : Hp) (e : Er) (cls : Value) (dx : Option Addr) : Prop :=
  ∃ Ca, C.mg e.cls = some (.ref Ca) ∧ cls = .ref Ca ∧ match e.fld with
    | none => dx = none
    | some (f, d) => ∃ a v, dx = some a ∧ Ht a = some (.xd [(f, v)]) ∧ Rz C Ht d v
/-- what an expression leaves -/
inductive R (ω α : Type) where
  | ok (a : α) (ρ : Ev) (w : ω)
  | er (e : Er) (w : ω)
abbrev M (ω α : Type) := Ev → ω → Option (R ω α)
/-- how a result stands for data: by the heap ahead, the shared part, the heap, the own objects -/
abbrev RRt (α β : Type) := Hp → Hp → Hp → Fp → α → β → Prop
class RRk {α β : Type} (RR : RRt α β) : Prop where
  k : ∀ {H H1 Ht H' : Hp} {fp : Fp} {d : α} {v : β}, (∀ a, H1 a = none → H a = none) → RR H1 Ht H' fp d v → RR H Ht H' fp d v
section
variable {ω : Type} (C : Cc) (W : Wd ω) (E : XK)
def At {α β : Type} (RR : RRt α β) (r : Option (R ω α)) (Ht H : Hp) (fp : Fp) (σ : L2.St) (Q : β → Hp → Prop) : Prop :=
  match r with
  | some (.ok d ρ' w') => ∀ v H' Ht' fp', EnvO C W Ht' H' ρ' σ fp' → Stp W Ht H fp Ht' H' → OwnS H fp fp' → W.rel H' w' → RR H Ht' H' fp' d v → Q v H'
  | some (.er e w') => ∀ cls dx H' Ht', Stp W Ht H fp Ht' H' → W.rel H' w' → ErOk C Ht' H' e cls dx → E cls dx H'
  | none => False
/-- THE READING of an expression that means m -/
def gOf {α β : Type} (RR : RRt α β) (m : M ω α) : L2.St → Hp → (β → Hp → Prop) → Prop := fun σ H Q =>
  ∃ Ht ρ w fp, EnvO C W Ht H ρ σ fp ∧ W.rel H w ∧ At C W E RR (m ρ w) Ht H fp σ Q
end
/-- data as it stands; truths; several -/
abbrev rD (C : Cc) : RRt D V := fun _ Ht _ _ d v => Rz C Ht d v
abbrev rB : RRt Bool Bool := fun _ _ _ _ b c => b = c
abbrev rL (C : Cc) : RRt (List D) (List V) := fun _ Ht _ _ ds vs => RzL C Ht ds vs
/-- a new list that nobody else holds -/
abbrev rF (C : Cc) {ω : Type} (W : Wd ω) : RRt (List D) V := fun H0 Ht H fp ds v => ∃ a vs, v = .ref a ∧ H a = some (.lst vs) ∧ RzL C Ht ds vs ∧ Ht a = none ∧ H0 a = none ∧ ¬ W.fp a ∧ ∀ i, a ∉ fp i
instance {C : Cc} : RRk (rD C) := ⟨fun _ h => h⟩
instance : RRk rB := ⟨fun _ h => h⟩
instance {C : Cc} : RRk (rL C) := ⟨fun _ h => h⟩
instance {C : Cc} {ω : Type} {W : Wd ω} : RRk (rF C W) := ⟨fun k ⟨a, vs, h1, h2, h3, h4, h5, h6⟩ => ⟨a, vs, h1, h2, h3, h4, k a h5, h6⟩⟩
def bnd {ω α β : Type} (r : Option (R ω α)) (k : α → M ω β) : Option (R ω β) :=
  match r with
  | some (.ok d ρ w) => k d ρ w
  | some (.er e w) => some (.er e w)
  | none => none
theorem bnd_ok {ω α β : Type} (d : α) (ρ : Ev) (w : ω) (k : α → M ω β) : bnd (some (.ok d ρ w)) k = k d ρ w := rfl
section
variable {ω : Type} {C : Cc} {W : Wd ω} {E : XK} {Ht H : Hp} {fp : Fp} {ρ : Ev} {σ : L2.St} {w : ω}
theorem At.shift {α β : Type} {RR : RRt α β} [RRk RR] {r : Option (R ω α)} {Q : β → Hp → Prop} {Ht1 H1 : Hp} {fp1 : Fp} (s : Stp W Ht H fp Ht1 H1) (o : OwnS H fp fp1) (h : At C W E RR r Ht H fp σ Q) : At C W E RR r Ht1 H1 fp1 σ Q := by
  cases r with
  | none => exact h
  | some r =>
    cases r with
    | er e w' => exact fun cls dx H' Ht' s1 r1 e1 => h cls dx H' Ht' (s.trans o s1) r1 e1
    | ok d ρ1 w1 => exact fun v H' Ht' fp' e1 s1 o1 r1 ra => h v H' Ht' fp' e1 (s.trans o s1) (o.trans s o1) r1 (RRk.k s.keep ra)
theorem At.bind {α β γ δ : Type} {RA : RRt α β} {RC : RRt γ δ} [RRk RC] {r : Option (R ω α)} {k : α → M ω γ} {Q : δ → Hp → Prop} {T : β → Hp → Prop}
    (h : At C W E RC (bnd r k) Ht H fp σ Q)
    (hk : ∀ d v H1 Ht1 ρ1 w1 fp1, EnvO C W Ht1 H1 ρ1 σ fp1 → Stp W Ht H fp Ht1 H1 → OwnS H fp fp1 → W.rel H1 w1 → RA H Ht1 H1 fp1 d v → At C W E RC (k d ρ1 w1) Ht1 H1 fp1 σ Q → T v H1) : At C W E RA r Ht H fp σ T := by
  cases r with
  | none => exact h
  | some r =>
    cases r with
    | er e w' => exact h
    | ok d ρ1 w1 =>
      intro v H1 Ht1 fp1 e1 s1 o1 r1 ra
      exact hk d v H1 Ht1 ρ1 w1 fp1 e1 s1 o1 r1 ra (At.shift s1 o1 h)
theorem gOf.bind {α β γ δ : Type} {RA : RRt α β} {RC : RRt γ δ} [RRk RC] {m : M ω α} {k : α → M ω γ} {Q : δ → Hp → Prop} {T : β → Hp → Prop}
    (h : gOf C W E RC (fun ρ w => bnd (m ρ w) k) σ H Q)
    (hk : ∀ d v Ht H1 Ht1 fp ρ1 w1 fp1, EnvO C W Ht1 H1 ρ1 σ fp1 → Stp W Ht H fp Ht1 H1 → OwnS H fp fp1 → W.rel H1 w1 → RA H Ht1 H1 fp1 d v → At C W E RC (k d ρ1 w1) Ht1 H1 fp1 σ Q → T v H1) : gOf C W E RA m σ H T := by
  obtain ⟨Ht, ρ, w, fp, e, r, h⟩ := h
  exact ⟨Ht, ρ, w, fp, e, r, At.bind h fun d v H1 Ht1 ρ1 w1 fp1 e1 s1 o1 r1 ra z => hk d v Ht H1 Ht1 fp ρ1 w1 fp1 e1 s1 o1 r1 ra z⟩
end
/-- a reading weakened -/
theorem PE.imp {X : Cx} {e : Expr} {t t' : TE} (h : PE X e t) (i : ∀ σ H Q, t' σ H Q → t σ H Q) : PE X e t' := ⟨fun pins s σ H Q I q => h.run pins s σ H Q I (i σ H Q q)⟩
theorem PT.imp {X : Cx} {e : Expr} {t t' : TT} (h : PT X e t) (i : ∀ σ H Q, t' σ H Q → t σ H Q) : PT X e t' := ⟨fun pins s σ H Q I q => h.run pins s σ H Q I (i σ H Q q)⟩
theorem PW.imp {X : Cx} {e : Expr} {t t' : TT} (h : PW X e t) (i : ∀ σ H Q, t' σ H Q → t σ H Q) : PW X e t' := ⟨fun wh pins s σ H Q I q => h.run wh pins s σ H Q I (i σ H Q q)⟩
theorem PA.imp {X : Cx} {e : List Expr} {t t' : TA} (h : PA X e t) (i : ∀ σ H Q, t' σ H Q → t σ H Q) : PA X e t' := ⟨fun p pins s σ H Q I q => h.run p pins s σ H Q I (i σ H Q q)⟩
theorem PS.imp {X : Cx} {e : Stmt} {t t' : TS} (h : PS X e t) (i : ∀ D σ H, t' D σ H → t D σ H) : PS X e t' := ⟨fun pins s σ H D I q => h.run pins s σ H D I (i D σ H q)⟩
theorem PSs.imp {X : Cx} {e : List Stmt} {t t' : TS} (h : PSs X e t) (i : ∀ D σ H, t' D σ H → t D σ H) : PSs X e t' := ⟨fun pins s σ H D I q => h.run pins s σ H D I (i D σ H q)⟩
end FL
set_option maxRecDepth 100000
set_option maxHeartbeats 4000000
namespace FL
open PySem PySem.Spec PyProof.Rows L2
section
variable {ω : Type} {C : Cc} {W : Wd ω} {E : XK} {Ht H : Hp} {fp : Fp} {ρ : Ev} {σ : L2.St} {w : ω}

theorem At.here {α β : Type} {RR : RRt α β} {d : α} {v : β} {Q : β → Hp → Prop} (h : At C W E RR (some (.ok d ρ w)) Ht H fp σ Q) (e : EnvO C W Ht H ρ σ fp) (r : W.rel H w) (q : RR H Ht H fp d v) : Q v H :=
  h v H Ht fp e (Stp.refl e.sub) OwnS.refl r q
theorem none_of_sub {p : Addr} (s : Same Ht H) (n : H p = none) : Ht p = none := by
  cases q : Ht p with
  | none => rfl
  | some x =>
    rw [s p x q] at n
    cases n
theorem same_upd {G : Hp} {p : Addr} {o : HO} (n : G p = none) : Same G (upd G p o) := fun b x e => by
  rw [upd_ne (ne_of_none e n)]
  exact e
theorem same_upd2 {G G' : Hp} {p : Addr} {o : HO} (s : Same G G') : Same (upd G p o) (upd G' p o) := fun b x e => by
  by_cases h : b = p
  · subst h
    rw [upd_same] at e ⊢
    exact e
  · rw [upd_ne h] at e ⊢
    exact s b x e
theorem upd_none {G : Hp} {p b : Addr} {o : HO} (h : upd G p o b = none) : G b = none := by
  by_cases e : b = p
  · subst e
    rw [upd_same] at h
    cases h
  · rwa [upd_ne e] at h
theorem rel_upd {p : Addr} {o : HO} (r : W.rel H w) (n : H p = none) : W.rel (upd H p o) w :=
  W.put (fun z => W.dom r p z n) (fun φ z => by rw [n] at z; cases z) r
theorem alloc_env {p : Addr} {o : HO} (e : EnvO C W Ht H ρ σ fp) (r : W.rel H w) (n : H p = none) :
    EnvO C W (upd Ht p o) (upd H p o) ρ σ fp ∧ Stp W Ht H fp (upd Ht p o) (upd H p o) := by
  have nt := none_of_sub e.sub n
  have ne : ∀ {a : Addr}, H a ≠ none → a ≠ p := fun h z => h (by rw [z]; exact n)
  refine ⟨⟨same_upd2 e.sub, e.len, fun i o' h => ?_, fun i a h => ?_, e.one, fun a h => ?_⟩, ⟨fun a x _ _ h => ?_, same_upd nt, same_upd2 e.sub, fun a h => ?_, fun a h => upd_none h⟩⟩
  · obtain ⟨v, h1, h2⟩ := e.slot i o' h
    exact ⟨v, h1, Ow.imp (same_upd nt) (fun a x _ q => same_upd n a x q) h2⟩
  · obtain ⟨h1, h2, h3⟩ := e.out i a h
    exact ⟨by rw [upd_ne (ne h3)]; exact h1, h2, by rw [upd_ne (ne h3)]; exact h3⟩
  · rw [upd_ne (ne (W.dom r a h))]
    exact e.wout a h
  · exact same_upd n a x h
  · by_cases z : a = p
    · subst z
      exact .inr (.inr n)
    · rw [upd_ne z] at h
      exact .inl h
/-- the new object is nobody's yet -/
theorem alloc_own {p : Addr} {o : HO} (e : EnvO C W Ht H ρ σ fp) (r : W.rel H w) (n : H p = none) :
    EnvO C W Ht (upd H p o) ρ σ fp ∧ Stp W Ht H fp Ht (upd H p o) ∧ Ht p = none ∧ ¬ W.fp p ∧ ∀ i, p ∉ fp i := by
  have nt := none_of_sub e.sub n
  have ne : ∀ {a : Addr}, H a ≠ none → a ≠ p := fun h z => h (by rw [z]; exact n)
  refine ⟨⟨fun b x h => same_upd n b x (e.sub b x h), e.len, fun i o' h => ?_, fun i a h => ?_, e.one, e.wout⟩, ⟨fun a x _ _ h => same_upd n a x h, Same.refl _, fun b x h => same_upd n b x (e.sub b x h), fun a h => .inl h, fun a h => upd_none h⟩, nt, fun h => W.dom r p h n, fun i h => (e.out i p h).2.2 n⟩
  · obtain ⟨v, h1, h2⟩ := e.slot i o' h
    exact ⟨v, h1, Ow.imp (Same.refl _) (fun a x _ q => same_upd n a x q) h2⟩
  · obtain ⟨h1, h2, h3⟩ := e.out i a h
    exact ⟨h1, h2, by rw [upd_ne (ne h3)]; exact h3⟩
theorem At.alloc {α : Type} {d : D} {p : Addr} {o : HO} {Q : VK} (h : At C W E (rD C) (some (.ok d ρ w)) Ht H fp σ Q) (e : EnvO C W Ht H ρ σ fp) (r : W.rel H w) (n : H p = none)
    (q : Rz C (upd Ht p o) d (.ref p)) : Q (.ref p) (upd H p o) :=
  h _ _ _ fp (alloc_env e r n).1 (alloc_env e r n).2 OwnS.refl (rel_upd r n) q
theorem Rowsz.toL {Ht1 : Hp} (hT : Same Ht Ht1) : ∀ {rows : List (List D)} {as : List Addr}, (∀ a ∈ as, ∀ x, H a = some x → Ht1 a = some x) → Rowsz C Ht H rows as → RzL C Ht1 (rows.map .lst) (as.map V.ref)
  | [], _, _, h => by
    have e : _ = [] := h
    rw [e]
    exact rfl
  | _ :: _, _, hc, ⟨a, bs, vs, q, h1, h2, h3⟩ => by
    subst q
    exact ⟨.ref a, _, rfl, ⟨a, vs, rfl, hc a List.mem_cons_self _ h1, RzL.mono hT h2⟩, Rowsz.toL hT (fun b hb => hc b (List.mem_cons_of_mem _ hb)) h3⟩
theorem Ow.rz {Ht1 : Hp} (hT : Same Ht Ht1) {o : O} {v : V} {f : List Addr} (hc : ∀ a ∈ f, ∀ x, H a = some x → Ht1 a = some x) (h : Ow C Ht H o v f) : Rz C Ht1 o.toD v := by
  cases o with
  | frz d => exact Rz.mono hT h.1
  | lst ds =>
    obtain ⟨a, vs, q, e, r, f'⟩ := h
    subst f'
    exact ⟨a, vs, q, hc a List.mem_cons_self _ e, RzL.mono hT r⟩
  | mat rows =>
    obtain ⟨a, as, q, e, r, f', n⟩ := h
    subst f'
    exact ⟨a, _, q, hc a List.mem_cons_self _ e, Rowsz.toL hT (fun b hb => hc b (List.mem_cons_of_mem _ hb)) r⟩
  | dK ks ds =>
    obtain ⟨a, vs, q, e, l, n, r, f'⟩ := h
    subst f'
    exact ⟨a, vs, q, .inl (hc a List.mem_cons_self _ e), l, n, RzL.mono hT r⟩
  | dT ks ds =>
    obtain ⟨a, vs, q, e, l, n, r, f'⟩ := h
    subst f'
    exact ⟨a, vs, q, .inl (hc a List.mem_cons_self _ e), l, n, RzL.mono hT r⟩
  | ins p c ns ds =>
    obtain ⟨a, Ca, dx, vs, q, m, e, l, r, f', ap⟩ := h
    subst f'
    exact ⟨a, Ca, dx, vs, q, m, hc a List.mem_cons_self _ e, l, RzL.mono hT r⟩
/-- a slot's own things become data -/
theorem freeze {i : Nat} {o : O} (e : EnvO C W Ht H ρ σ fp) (h : ρ[i]? = some (some o)) :
    ∃ Ht' fp' v, EnvO C W Ht' H (ρ.set i (some (.frz o.toD))) σ fp' ∧ Stp W Ht H fp Ht' H ∧ OwnS H fp fp' ∧ σ[i]? = some (some v) ∧ Rz C Ht' o.toD v := by
  obtain ⟨v, hv, ho⟩ := e.slot i o h
  have hT : Same Ht (fun a => if a ∈ fp i then H a else Ht a) := fun a x q => by
    show (if a ∈ fp i then H a else Ht a) = some x
    by_cases z : a ∈ fp i
    · rw [(e.out i a z).1] at q
      cases q
    · rw [if_neg z]
      exact q
  have hS : Same (fun a => if a ∈ fp i then H a else Ht a) H := fun a x q => by
    have q' : (if a ∈ fp i then H a else Ht a) = some x := q
    by_cases z : a ∈ fp i
    · rwa [if_pos z] at q'
    · rw [if_neg z] at q'
      exact e.sub a x q'
  have hz : Rz C (fun a => if a ∈ fp i then H a else Ht a) o.toD v := Ow.rz hT (fun a z x q => by rw [if_pos z]; exact q) ho
  refine ⟨fun a => if a ∈ fp i then H a else Ht a, fun j => if j = i then [] else fp j, v, ⟨hS, by rw [List.length_set]; exact e.len, fun j o' hj => ?_, fun j a ha => ?_, fun j k a h1 h2 => ?_, fun a ha => ?_⟩, ⟨fun _ _ _ _ q => q, hT, hS, fun a q => ?_, fun _ q => q⟩, fun j a ha => ?_, hv, hz⟩
  · by_cases hji : j = i
    · subst hji
      have hlt : j < ρ.length := (List.getElem?_eq_some_iff.mp h).1
      rw [List.getElem?_set_self hlt] at hj
      cases hj
      exact ⟨v, hv, hz, if_pos rfl⟩
    · rw [List.getElem?_set_ne (Ne.symm hji)] at hj
      obtain ⟨u, h1, h2⟩ := e.slot j o' hj
      refine ⟨u, h1, ?_⟩
      show Ow C _ H o' u (if j = i then [] else fp j)
      rw [if_neg hji]
      exact Ow.imp hT (fun _ _ _ q => q) h2
  · have ha' : a ∈ (if j = i then [] else fp j) := ha
    by_cases hji : j = i
    · rw [if_pos hji] at ha'
      cases ha'
    · rw [if_neg hji] at ha'
      obtain ⟨h1, h2, h3⟩ := e.out j a ha'
      refine ⟨?_, h2, h3⟩
      show (if a ∈ fp i then H a else Ht a) = none
      rw [if_neg fun z => hji (e.one j i a ha' z)]
      exact h1
  · have h1' : a ∈ (if j = i then [] else fp j) := h1
    have h2' : a ∈ (if k = i then [] else fp k) := h2
    by_cases hj : j = i
    · rw [if_pos hj] at h1'
      cases h1'
    · by_cases hk : k = i
      · rw [if_pos hk] at h2'
        cases h2'
      · rw [if_neg hj] at h1'
        rw [if_neg hk] at h2'
        exact e.one j k a h1' h2'
  · show (if a ∈ fp i then H a else Ht a) = none
    rw [if_neg fun z => (e.out i a z).2.1 ha]
    exact e.wout a ha
  · have q' : (if a ∈ fp i then H a else Ht a) ≠ none := q
    by_cases z : a ∈ fp i
    · exact .inr (.inl ⟨i, z⟩)
    · rw [if_neg z] at q'
      exact .inl q'
  · have ha' : a ∈ (if j = i then [] else fp j) := ha
    by_cases hji : j = i
    · rw [if_pos hji] at ha'
      cases ha'
    · rw [if_neg hji] at ha'
      exact .inl ⟨j, ha'⟩
end

/-! ### meanings -/
section
variable {ω : Type}
def mC (d : D) : M ω D := fun ρ w => some (.ok d ρ w)
def rdV (i : Nat) (o : Option (Option O)) (ρ : Ev) (w : ω) : Option (R ω D) := match o with
  | some (some (.frz d)) => some (.ok d ρ w)
  | some (some o) => some (.ok o.toD (ρ.set i (some (.frz o.toD))) w)
  | _ => none
def mVar (i : Nat) : M ω D := fun ρ w => rdV i (ρ[i]?) ρ w
def m1 {α β : Type} (f : α → M ω β) (ma : M ω α) : M ω β := fun ρ w => bnd (ma ρ w) f
def m2 {α β γ : Type} (f : α → β → M ω γ) (ma : M ω α) (mb : M ω β) : M ω γ := fun ρ w => bnd (ma ρ w) fun a ρ w => bnd (mb ρ w) fun b ρ w => f a b ρ w
/-- a value by values -/
def pu {α : Type} (o : Option α) : M ω α := fun ρ w => match o with
  | some d => some (.ok d ρ w)
  | none => none
def mNil : M ω (List D) := fun ρ w => some (.ok [] ρ w)
def mCons (ma : M ω D) (mb : M ω (List D)) : M ω (List D) := m2 (fun a bs => pu (some (a :: bs))) ma mb
def mIf {α : Type} (c : M ω Bool) (a b : M ω α) : M ω α := fun ρ w => bnd (c ρ w) fun k ρ w => if k = true then a ρ w else b ρ w
def mAnd (a b : M ω Bool) : M ω Bool := mIf a b (fun ρ w => some (.ok false ρ w))
def mOr (a b : M ω Bool) : M ω Bool := mIf a (fun ρ w => some (.ok true ρ w)) b
def mNot (a : M ω Bool) : M ω Bool := m1 (fun k => pu (some (!k))) a
def D.tr : D → Option Bool
  | .bl b => some b
  | _ => none
/-- an expression whose value is a truth -/
def mB (a : M ω D) : M ω Bool := m1 (fun d => pu d.tr) a
/-- a truth as a value -/
def mBv (a : M ω Bool) : M ω D := m1 (fun k => pu (some (.bl k))) a
end

section
variable {ω : Type} {X : Cx} {C : Cc} {W : Wd ω} {E : XK}

/-! ### constants, names -/
theorem fe_int {i j pos} : PE X (.Constant (.int i) j pos) (gOf C W E (rD C) (mC (.int i))) := PE.imp pe_int fun _ _ _ ⟨_, _, _, _, e, r, h⟩ => At.here h e r rfl
theorem fe_bl {b j pos} : PE X (.Constant (.bool b) j pos) (gOf C W E (rD C) (mC (.bl b))) := PE.imp pe_bl fun _ _ _ ⟨_, _, _, _, e, r, h⟩ => At.here h e r rfl
theorem fe_non {j pos} : PE X (.Constant .none j pos) (gOf C W E (rD C) (mC .non)) := PE.imp pe_non fun _ _ _ ⟨_, _, _, _, e, r, h⟩ => At.here h e r rfl
theorem fe_str {x j pos} : PE X (.Constant (.str x) j pos) (gOf C W E (rD C) (mC (.str x))) := PE.imp pe_str fun _ _ _ ⟨_, _, _, _, e, r, h⟩ => At.here h e r rfl
theorem At.var {i : Nat} {Ht H : Hp} {fp : Fp} {ρ : Ev} {σ : L2.St} {w : ω} {Q : VK} (e : EnvO C W Ht H ρ σ fp) (r : W.rel H w) (h : At C W E (rD C) (mVar i ρ w) Ht H fp σ Q) : tVar i σ H Q := by
  unfold mVar at h
  cases q : ρ[i]? with
  | none =>
    rw [q] at h
    exact h.elim
  | some oo =>
    cases oo with
    | none =>
      rw [q] at h
      exact h.elim
    | some o =>
      by_cases z : ∃ d, o = .frz d
      · obtain ⟨d, rfl⟩ := z
        obtain ⟨v, h1, h2⟩ := e.slot i _ q
        rw [q] at h
        exact ⟨v, h1, At.here h e r h2.1⟩
      · obtain ⟨Ht', fp', v, e', s', o', h1, h2⟩ := freeze e q
        have hq : rdV i (some (some o)) ρ w = some (.ok o.toD (ρ.set i (some (.frz o.toD))) w) := by
          cases o with
          | frz d => exact absurd ⟨d, rfl⟩ z
          | lst _ => rfl
          | mat _ => rfl
          | dK _ _ => rfl
          | dT _ _ => rfl
          | ins _ _ _ _ => rfl
        rw [q, hq] at h
        exact ⟨v, h1, h v H Ht' fp' e' s' o' r h2⟩
theorem fv (i : Nat) {x : Str} {pos : Pos} (hN : X.N[i]? = some x := by rfl) (hv : Vis X.env.scope x := by first | exact Or.inl rfl | exact Or.inr (Or.inl rfl) | exact Or.inr (Or.inr rfl)) (hd : (x == ("__debug__" : Str)) = false := by decide)
    (hcd : (x == ("__classdict__" : Str)) = false := by decide) : PE X (.Name x pos) (gOf C W E (rD C) (mVar i)) :=
  PE.imp (pe_var hN hv hd hcd) fun _ _ _ ⟨_, _, _, _, e, r, h⟩ => At.var e r h

/-! ### several -/
theorem fa_nil : PA X [] (gOf C W E (rL C) mNil) := PA.imp pa_nil fun _ _ _ ⟨_, _, _, _, e, r, h⟩ => At.here h e r rfl
theorem fa_cons {e : Expr} {es : List Expr} {ma : M ω D} {mb : M ω (List D)} (ha : PE X e (gOf C W E (rD C) ma)) (hb : PA X es (gOf C W E (rL C) mb)) (hs : starEach (e :: es) X.env = (false, eval e X.env) :: starEach es X.env := by rfl) :
    PA X (e :: es) (gOf C W E (rL C) (mCons ma mb)) :=
  PA.imp (pa_cons ha hb hs) fun σ H Q h => by
    refine gOf.bind h fun d v Ht H1 Ht1 fp ρ1 w1 fp1 e1 s1 o1 r1 q1 h1 => ?_
    refine ⟨Ht1, ρ1, w1, fp1, e1, r1, At.bind h1 fun ds vs H2 Ht2 ρ2 w2 fp2 e2 s2 o2 r2 q2 h2 => ?_⟩
    exact At.here h2 e2 r2 ⟨v, vs, rfl, Rz.mono s2.th q1, q2⟩

/-! ### operators by values -/
/-- what an operator's rule asks is there wherever f tells an answer -/
def OpS (C : Cc) (W : Wd ω) (E : XK) (r : R2) (f : D → D → M ω D) : Prop :=
  ∀ da db x y Ht H fp ρ σ w Q, EnvO C W Ht H ρ σ fp → W.rel H w → Rz C Ht da x → Rz C Ht db y → At C W E (rD C) (f da db ρ w) Ht H fp σ Q → r x y H Q
theorem tOp_of {r : R2} {f : D → D → M ω D} (hf : OpS C W E r f) {ma mb : M ω D} (σ : L2.St) (H : Hp) (Q : VK) (h : gOf C W E (rD C) (m2 f ma mb) σ H Q) : tOp r (gOf C W E (rD C) ma) (gOf C W E (rD C) mb) σ H Q := by
  refine gOf.bind h fun d v Ht H1 Ht1 fp ρ1 w1 fp1 e1 s1 o1 r1 q1 h1 => ?_
  refine ⟨Ht1, ρ1, w1, fp1, e1, r1, At.bind h1 fun d2 v2 H2 Ht2 ρ2 w2 fp2 e2 s2 o2 r2 q2 h2 => ?_⟩
  exact hf d d2 v v2 Ht2 H2 fp2 ρ2 σ w2 Q e2 r2 (Rz.mono s2.th q1) q2 h2
theorem fe_op {op : Operator} {r : R2} {f : D → D → M ω D} {a b : Expr} {pos : Pos} {ma mb : M ω D} (ho : OpR X (binaryOp op) r) (hf : OpS C W E r f) (ha : PE X a (gOf C W E (rD C) ma)) (hb : PE X b (gOf C W E (rD C) mb)) :
    PE X (.BinOp a op b pos) (gOf C W E (rD C) (m2 f ma mb)) := PE.imp (pe_op ho ha hb) (tOp_of hf)
theorem fe_cmp {op : CmpOp} {r : R2} {f : D → D → M ω D} {a b : Expr} {pos : Pos} {ma mb : M ω D} (ho : OpR X (compareOp op) r) (hf : OpS C W E r f) (ha : PE X a (gOf C W E (rD C) ma)) (hb : PE X b (gOf C W E (rD C) mb)) (hm : behindInMarks op b = false) :
    PE X (.Compare a [op] [b] pos) (gOf C W E (rD C) (m2 f ma mb)) := PE.imp (pe_cmpR ho ha hb hm) (tOp_of hf)
theorem tB_of {ma : M ω D} {t : TE} (σ : L2.St) (H : Hp) (Q : Bool → Hp → Prop) (h : gOf C W E rB (mB ma) σ H Q) (i : ∀ Q', gOf C W E (rD C) ma σ H Q' → t σ H Q') : t σ H fun x H' => ∃ k, x = .bl k ∧ Q k H' := by
  refine i _ (gOf.bind h fun d v Ht H1 Ht1 fp ρ1 w1 fp1 e1 s1 o1 r1 q1 h1 => ?_)
  cases d with
  | bl b => exact ⟨b, q1, At.here h1 e1 r1 rfl⟩
  | _ => exact h1.elim
theorem ft_cmp {op : CmpOp} {r : R2} {f : D → D → M ω D} {a b : Expr} {pos : Pos} {ma mb : M ω D} (ho : OpR X (compareOp op) r) (hf : OpS C W E r f) (ha : PE X a (gOf C W E (rD C) ma)) (hb : PE X b (gOf C W E (rD C) mb)) (hm : behindInMarks op b = false) :
    PT X (.Compare a [op] [b] pos) (gOf C W E rB (mB (m2 f ma mb))) := PT.imp (pt_cmpR ho ha hb hm) fun σ H Q h => tB_of σ H Q h fun Q' h' => tOp_of hf σ H Q' h'
/-- an expression that gives True or False, as a test -/
theorem ft_val {e : Expr} {ma : M ω D} (h : PE X e (gOf C W E (rD C) ma)) (he : ∀ whole, isTrue e X.env whole = (do let v ← whole; standAt e.pos; holding [v] (truthy v)) := by intro _; rfl) : PT X e (gOf C W E rB (mB ma)) :=
  PT.imp (pt_val h he) fun σ H Q q => tB_of σ H Q q fun _ h' => h'

/-! ### and, or, not, if-else -/
theorem At.ite {α β : Type} {RR : RRt α β} {k : Bool} {a b : M ω α} {Ht H : Hp} {fp : Fp} {ρ : Ev} {σ : L2.St} {w : ω} {Q : β → Hp → Prop} {A B : Prop} (h : At C W E RR (if k = true then a ρ w else b ρ w) Ht H fp σ Q)
    (ha : At C W E RR (a ρ w) Ht H fp σ Q → A) (hb : At C W E RR (b ρ w) Ht H fp σ Q → B) : if k = true then A else B := by
  cases k with
  | true => exact ha h
  | false => exact hb h
theorem fw_and1 {a : Expr} {pos : Pos} {ma : M ω Bool} (ha : PT X a (gOf C W E rB ma)) : PW X (.BoolOp .And [a] pos) (gOf C W E rB ma) := pw_and1 ha
theorem fw_or1 {a : Expr} {pos : Pos} {ma : M ω Bool} (ha : PT X a (gOf C W E rB ma)) : PW X (.BoolOp .Or [a] pos) (gOf C W E rB ma) := pw_or1 ha
theorem fw_and {a b : Expr} {rest : List Expr} {pos : Pos} {ma mb : M ω Bool} (ha : PT X a (gOf C W E rB ma)) (hb : PW X (.BoolOp .And (b :: rest) pos) (gOf C W E rB mb)) : PW X (.BoolOp .And (a :: b :: rest) pos) (gOf C W E rB (mAnd ma mb)) :=
  PW.imp (pw_and ha hb) fun σ H Q h => gOf.bind h fun d v Ht H1 Ht1 fp ρ1 w1 fp1 e1 s1 o1 r1 q1 h1 => by
    have q : d = v := q1
    subst q
    exact At.ite (a := mb) (b := fun ρ w => some (.ok false ρ w)) h1 (fun z => ⟨Ht1, ρ1, w1, fp1, e1, r1, z⟩) fun z => At.here (RR := rB) z e1 r1 rfl
theorem fw_or {a b : Expr} {rest : List Expr} {pos : Pos} {ma mb : M ω Bool} (ha : PT X a (gOf C W E rB ma)) (hb : PW X (.BoolOp .Or (b :: rest) pos) (gOf C W E rB mb)) : PW X (.BoolOp .Or (a :: b :: rest) pos) (gOf C W E rB (mOr ma mb)) :=
  PW.imp (pw_or ha hb) fun σ H Q h => gOf.bind h fun d v Ht H1 Ht1 fp ρ1 w1 fp1 e1 s1 o1 r1 q1 h1 => by
    have q : d = v := q1
    subst q
    exact At.ite (a := fun ρ w => some (.ok true ρ w)) (b := mb) h1 (fun z => At.here (RR := rB) z e1 r1 rfl) fun z => ⟨Ht1, ρ1, w1, fp1, e1, r1, z⟩
theorem ft_not {a : Expr} {pos : Pos} {ma : M ω Bool} (ha : PT X a (gOf C W E rB ma)) : PT X (.UnaryOp .Not a pos) (gOf C W E rB (mNot ma)) :=
  PT.imp (pt_not ha) fun σ H Q h => gOf.bind h fun d v Ht H1 Ht1 fp ρ1 w1 fp1 e1 s1 o1 r1 q1 h1 => by
    have q : d = v := q1
    subst q
    exact At.here h1 e1 r1 rfl
theorem fe_ifExp {c a b : Expr} {pos : Pos} {mc : M ω Bool} {ma mb : M ω D} (hc : PT X c (gOf C W E rB mc)) (ha : PE X a (gOf C W E (rD C) ma)) (hb : PE X b (gOf C W E (rD C) mb)) : PE X (.IfExp c a b pos) (gOf C W E (rD C) (mIf mc ma mb)) :=
  PE.imp (pe_ifExp hc ha hb) fun σ H Q h => gOf.bind h fun d v Ht H1 Ht1 fp ρ1 w1 fp1 e1 s1 o1 r1 q1 h1 => by
    have q : d = v := q1
    subst q
    exact At.ite h1 (fun z => ⟨Ht1, ρ1, w1, fp1, e1, r1, z⟩) fun z => ⟨Ht1, ρ1, w1, fp1, e1, r1, z⟩
/-- and, or, not as values -/
theorem fe_one {op} {a : Expr} {pos : Pos} {ma : M ω D} (ha : PE X a (gOf C W E (rD C) ma)) : PE X (.BoolOp op [a] pos) (gOf C W E (rD C) ma) := pe_one ha
def mAndV (a b : M ω D) : M ω D := mIf (mB a) b (mC (.bl false))
def mOrV (a b : M ω D) : M ω D := mIf (mB a) (mC (.bl true)) b
theorem fe_and {a b : Expr} {rest : List Expr} {pos : Pos} {ma mb : M ω D} (ha : PE X a (gOf C W E (rD C) ma)) (hb : PE X (.BoolOp .And (b :: rest) pos) (gOf C W E (rD C) mb)) : PE X (.BoolOp .And (a :: b :: rest) pos) (gOf C W E (rD C) (mAndV ma mb)) :=
  PE.imp (pe_and ha hb) fun σ H Q h => by
    obtain ⟨Ht, ρ, w, fp, e, r, h⟩ := h
    refine ⟨Ht, ρ, w, fp, e, r, ?_⟩
    have h' : At C W E (rD C) (bnd (bnd (ma ρ w) fun d => pu d.tr) fun k ρ w => if k = true then mb ρ w else mC (.bl false) ρ w) Ht H fp σ Q := h
    cases q : ma ρ w with
    | none =>
      rw [q] at h'
      exact h'.elim
    | some rr =>
      rw [q] at h'
      cases rr with
      | er e' w' => exact h'
      | ok d ρ1 w1 =>
        intro v H1 Ht1 fp1 e1 s1 o1 r1 q1
        cases d with
        | bl b =>
          refine ⟨b, q1, ?_⟩
          have h2 : At C W E (rD C) (if b = true then mb ρ1 w1 else mC (.bl false) ρ1 w1) Ht1 H1 fp1 σ Q := At.shift s1 o1 h'
          exact At.ite h2 (fun z => ⟨Ht1, ρ1, w1, fp1, e1, r1, z⟩) fun z => At.here z e1 r1 rfl
        | _ => exact h'.elim
theorem fe_or {a b : Expr} {rest : List Expr} {pos : Pos} {ma mb : M ω D} (ha : PE X a (gOf C W E (rD C) ma)) (hb : PE X (.BoolOp .Or (b :: rest) pos) (gOf C W E (rD C) mb)) : PE X (.BoolOp .Or (a :: b :: rest) pos) (gOf C W E (rD C) (mOrV ma mb)) :=
  PE.imp (pe_or ha hb) fun σ H Q h => by
    obtain ⟨Ht, ρ, w, fp, e, r, h⟩ := h
    refine ⟨Ht, ρ, w, fp, e, r, ?_⟩
    have h' : At C W E (rD C) (bnd (bnd (ma ρ w) fun d => pu d.tr) fun k ρ w => if k = true then mC (.bl true) ρ w else mb ρ w) Ht H fp σ Q := h
    cases q : ma ρ w with
    | none =>
      rw [q] at h'
      exact h'.elim
    | some rr =>
      rw [q] at h'
      cases rr with
      | er e' w' => exact h'
      | ok d ρ1 w1 =>
        intro v H1 Ht1 fp1 e1 s1 o1 r1 q1
        cases d with
        | bl b =>
          refine ⟨b, q1, ?_⟩
          have h2 : At C W E (rD C) (if b = true then mC (.bl true) ρ1 w1 else mb ρ1 w1) Ht1 H1 fp1 σ Q := At.shift s1 o1 h'
          exact At.ite h2 (fun z => At.here z e1 r1 rfl) fun z => ⟨Ht1, ρ1, w1, fp1, e1, r1, z⟩
        | _ => exact h'.elim
theorem fe_not {a : Expr} {pos : Pos} {ma : M ω D} (ha : PE X a (gOf C W E (rD C) ma)) : PE X (.UnaryOp .Not a pos) (gOf C W E (rD C) (m1 (fun d => pu (d.tr.map fun k => .bl (!k))) ma)) :=
  PE.imp (pe_not ha) fun σ H Q h => gOf.bind h fun d v Ht H1 Ht1 fp ρ1 w1 fp1 e1 s1 o1 r1 q1 h1 => by
    cases d with
    | bl b => exact ⟨b, q1, At.here h1 e1 r1 rfl⟩
    | _ => exact h1.elim
end
end FL
set_option maxRecDepth 100000
set_option maxHeartbeats 4000000
namespace FL
open PySem PySem.Spec PyProof.Rows L2

/-! ### operators on data -/
section
variable {ω : Type}
def pu2 (g : D → D → Option D) : D → D → M ω D := fun a b => pu (g a b)
def D.add : D → D → Option D
  | .int i, .int j => some (.int (i + j))
  | .tup xs, .tup ys => if xs.length + ys.length ≤ 16777216 then some (.tup (xs ++ ys)) else none
  | .lst xs, .lst ys => if xs.length + ys.length ≤ 16777216 then some (.lst (xs ++ ys)) else none
  | .str x, .str y => if x.length + y.length ≤ 16777216 then some (.str (x ++ y)) else none
  | _, _ => none
def D.sub : D → D → Option D
  | .int i, .int j => some (.int (i - j))
  | _, _ => none
def D.mul : D → D → Option D
  | .int i, .int j => if (-(2 ^ 64) < i ∧ i < 2 ^ 64) ∨ (-(2 ^ 64) < j ∧ j < 2 ^ 64) then some (.int (i * j)) else none
  | _, _ => none
def D.fdiv : D → D → Option D
  | .int i, .int j => if 0 < j ∧ j < 1073741824 then some (.int (i / j)) else none
  | _, _ => none
def D.mod : D → D → Option D
  | .int i, .int j => if 0 < j then some (.int (i % j)) else none
  | _, _ => none
def D.pow : D → D → Option D
  | .int i, .int j => if 0 ≤ j ∧ j ≤ 1000000 ∧ i.natAbs < 2 ^ 64 then some (.int (i ^ j.toNat)) else none
  | _, _ => none
def D.lt : D → D → Option D
  | .int i, .int j => some (.bl (decide (i < j)))
  | _, _ => none
def D.le : D → D → Option D
  | .int i, .int j => some (.bl (decide (i ≤ j)))
  | _, _ => none
def D.gt : D → D → Option D
  | .int i, .int j => some (.bl (decide (j < i)))
  | _, _ => none
def D.ge : D → D → Option D
  | .int i, .int j => some (.bl (decide (j ≤ i)))
  | _, _ => none
mutual
def D.py : D → Option PyData
  | .non => some .none
  | .bl b => some (.bool b)
  | .int i => some (.int i)
  | .str s => some (.str s)
  | .tup xs => match D.pyL xs with
    | some l => some (.tuple l)
    | none => none
  | .lst xs => match D.pyL xs with
    | some l => some (.list l)
    | none => none
  | _ => none
def D.pyL : List D → Option (List PyData)
  | [] => some []
  | d :: ds => match D.py d, D.pyL ds with
    | some a, some l => some (a :: l)
    | _, _ => none
end
def D.eq (a b : D) : Option Bool := match a.py, b.py with
  | some p, some q => if SeqAt.shaped p = true ∧ SeqAt.shaped q = true then some (PyData.eqv p q) else none
  | _, _ => none
def D.eqD (a b : D) : Option D := (D.eq a b).map .bl
def D.neD (a b : D) : Option D := (D.eq a b).map fun k => .bl (!k)
/-- is None, is True .. -/
def D.isN : D → D → Option D
  | .non, .non => some (.bl true)
  | _, .non => some (.bl false)
  | _, _ => none
def D.notN : D → D → Option D
  | .non, .non => some (.bl false)
  | _, .non => some (.bl true)
  | _, _ => none
def D.isB : D → D → Option D
  | .bl a, .bl b => some (.bl (decide (a = b)))
  | _, _ => none
def D.notB : D → D → Option D
  | .bl a, .bl b => some (.bl (!decide (a = b)))
  | _, _ => none
end
section
variable {ω : Type} {X : Cx} {C : Cc} {W : Wd ω} {E : XK}
theorem sizeLine24 : (sizeLine : Nat) = 16777216 := sizeLine_eq
theorem ops_pu {r : R2} {g : D → D → Option D} (h : ∀ da db d x y Ht H Q, Same Ht H → Rz C Ht da x → Rz C Ht db y → g da db = some d → (∀ v, Rz C Ht d v → Q v H) → r x y H Q) : OpS C W E r (pu2 g) := by
  intro da db x y Ht H fp ρ σ w Q e rl ra rb h0
  unfold pu2 pu at h0
  cases q : g da db with
  | none =>
    rw [q] at h0
    exact h0.elim
  | some d =>
    rw [q] at h0
    exact h da db d x y Ht H Q e.sub ra rb q fun v hv => At.here h0 e rl hv
/-- two ints give a value -/
theorem ops_I {g : Int → Int → V} {r : R2} {G : D → D → Option D} {cond : Int → Int → Prop} (hr : ∀ i j H Q, cond i j → Q (g i j) H → r (.int i) (.int j) H Q)
    (hG : ∀ da db d, G da db = some d → ∃ i j, da = .int i ∧ db = .int j ∧ cond i j ∧ ∀ H, Rz C H d (g i j)) : OpS C W E r (pu2 G) :=
  ops_pu fun da db d x y Ht H Q _ ra rb q k => by
    obtain ⟨i, j, rfl, rfl, c, z⟩ := hG da db d q
    have ra' : x = .int i := ra
    have rb' : y = .int j := rb
    subst ra'
    subst rb'
    exact hr i j H Q c (k _ (z Ht))
theorem os_sub : OpS C W E (rI0 fun i j => .int (i - j)) (pu2 D.sub) := ops_I (g := fun i j => .int (i - j)) (cond := fun _ _ => True) (fun i j H Q _ q => ⟨i, j, rfl, rfl, q⟩) fun da db d q => by
  cases da <;> cases db <;> simp only [D.sub, reduceCtorEq, Option.some.injEq] at q
  subst q
  exact ⟨_, _, rfl, rfl, trivial, fun _ => rfl⟩
theorem os_mul : OpS C W E (rI CMul fun i j => .int (i * j)) (pu2 D.mul) := ops_I (g := fun i j => .int (i * j)) (cond := CMul) (fun i j H Q c q => ⟨i, j, rfl, rfl, c, q⟩) fun da db d q => by
  cases da <;> cases db <;> simp only [D.mul, reduceCtorEq] at q
  split at q
  · rename_i c
    cases q
    exact ⟨_, _, rfl, rfl, c, fun _ => rfl⟩
  · cases q
theorem os_fdiv : OpS C W E (rI CDiv fun i j => .int (i / j)) (pu2 D.fdiv) := ops_I (g := fun i j => .int (i / j)) (cond := CDiv) (fun i j H Q c q => ⟨i, j, rfl, rfl, c, q⟩) fun da db d q => by
  cases da <;> cases db <;> simp only [D.fdiv, reduceCtorEq] at q
  split at q
  · rename_i c
    cases q
    exact ⟨_, _, rfl, rfl, c, fun _ => rfl⟩
  · cases q
theorem os_mod : OpS C W E (rI (fun _ j => 0 < j) fun i j => .int (i % j)) (pu2 D.mod) := ops_I (g := fun i j => .int (i % j)) (cond := fun _ j => 0 < j) (fun i j H Q c q => ⟨i, j, rfl, rfl, c, q⟩) fun da db d q => by
  cases da <;> cases db <;> simp only [D.mod, reduceCtorEq] at q
  split at q
  · rename_i c
    cases q
    exact ⟨_, _, rfl, rfl, c, fun _ => rfl⟩
  · cases q
theorem os_pow : OpS C W E (rI CPow fun i j => .int (i ^ j.toNat)) (pu2 D.pow) := ops_I (g := fun i j => .int (i ^ j.toNat)) (cond := CPow) (fun i j H Q c q => ⟨i, j, rfl, rfl, c, q⟩) fun da db d q => by
  cases da <;> cases db <;> simp only [D.pow, reduceCtorEq] at q
  split at q
  · rename_i c
    cases q
    exact ⟨_, _, rfl, rfl, c, fun _ => rfl⟩
  · cases q
theorem os_lt : OpS C W E (rI0 fun i j => .bl (decide (i < j))) (pu2 D.lt) := ops_I (g := fun i j => .bl (decide (i < j))) (cond := fun _ _ => True) (fun i j H Q _ q => ⟨i, j, rfl, rfl, q⟩) fun da db d q => by
  cases da <;> cases db <;> simp only [D.lt, reduceCtorEq, Option.some.injEq] at q
  subst q
  exact ⟨_, _, rfl, rfl, trivial, fun _ => rfl⟩
theorem os_le : OpS C W E (rI0 fun i j => .bl (decide (i ≤ j))) (pu2 D.le) := ops_I (g := fun i j => .bl (decide (i ≤ j))) (cond := fun _ _ => True) (fun i j H Q _ q => ⟨i, j, rfl, rfl, q⟩) fun da db d q => by
  cases da <;> cases db <;> simp only [D.le, reduceCtorEq, Option.some.injEq] at q
  subst q
  exact ⟨_, _, rfl, rfl, trivial, fun _ => rfl⟩
theorem os_gt : OpS C W E (rI0 fun i j => .bl (decide (j < i))) (pu2 D.gt) := ops_I (g := fun i j => .bl (decide (j < i))) (cond := fun _ _ => True) (fun i j H Q _ q => ⟨i, j, rfl, rfl, q⟩) fun da db d q => by
  cases da <;> cases db <;> simp only [D.gt, reduceCtorEq, Option.some.injEq] at q
  subst q
  exact ⟨_, _, rfl, rfl, trivial, fun _ => rfl⟩
theorem os_ge : OpS C W E (rI0 fun i j => .bl (decide (j ≤ i))) (pu2 D.ge) := ops_I (g := fun i j => .bl (decide (j ≤ i))) (cond := fun _ _ => True) (fun i j H Q _ q => ⟨i, j, rfl, rfl, q⟩) fun da db d q => by
  cases da <;> cases db <;> simp only [D.ge, reduceCtorEq, Option.some.injEq] at q
  subst q
  exact ⟨_, _, rfl, rfl, trivial, fun _ => rfl⟩
theorem Rz.non_iff {H : Hp} {d : D} {x : V} (ra : Rz C H d x) : x = .non ↔ d = .non := by
  constructor
  · intro z
    subst z
    cases d
    case non => rfl
    all_goals
      first
        | (have ra' : V.non = _ := ra; cases ra'; done)
        | (obtain ⟨_, _, ra', _⟩ := ra; cases ra'; done)
        | (obtain ⟨_, ra', _⟩ := ra; cases ra'; done)
        | (obtain ⟨_, _, _, ra', _⟩ := ra; cases ra'; done)
        | (obtain ⟨_, _, _, _, ra', _⟩ := ra; cases ra'; done)
  · intro z
    subst z
    exact ra
theorem os_isN : OpS C W E (fun x y H Q => y = .non ∧ Q (.bl (decide (x = .non))) H) (pu2 D.isN) := ops_pu fun da db d x y Ht H Q _ ra rb q k => by
  cases db <;> simp only [D.isN, reduceCtorEq] at q
  have rb' : y = .non := rb
  refine ⟨rb', ?_⟩
  have hx := ra.non_iff
  cases da <;> simp only [D.isN, Option.some.injEq] at q <;> subst q <;> refine k _ ?_ <;> simp only [hx, reduceCtorEq, decide_true, decide_false] <;> rfl
theorem os_notN : OpS C W E (fun x y H Q => y = .non ∧ Q (.bl (!decide (x = .non))) H) (pu2 D.notN) := ops_pu fun da db d x y Ht H Q _ ra rb q k => by
  cases db <;> simp only [D.notN, reduceCtorEq] at q
  have rb' : y = .non := rb
  refine ⟨rb', ?_⟩
  have hx := ra.non_iff
  cases da <;> simp only [D.notN, Option.some.injEq] at q <;> subst q <;> refine k _ ?_ <;> simp only [hx, reduceCtorEq, decide_true, decide_false] <;> rfl
theorem os_isB : OpS C W E rIsB (pu2 D.isB) := ops_pu fun da db d x y Ht H Q _ ra rb q k => by
  cases da <;> cases db <;> simp only [D.isB, reduceCtorEq, Option.some.injEq] at q
  subst q
  exact ⟨_, _, ra, rb, k _ rfl⟩
theorem os_notB : OpS C W E rNotB (pu2 D.notB) := ops_pu fun da db d x y Ht H Q _ ra rb q k => by
  cases da <;> cases db <;> simp only [D.notB, reduceCtorEq, Option.some.injEq] at q
  subst q
  exact ⟨_, _, ra, rb, k _ rfl⟩
mutual
theorem Rz.dp {H : Hp} : ∀ {d : D} {v : V} {p : PyData}, Rz C H d v → d.py = some p → Dp C.K H v p
  | .non, _, _, h, e => by
    cases e
    have h' : _ = V.non := h
    subst h'
    exact .non
  | .bl b, _, _, h, e => by
    cases e
    have h' : _ = V.bl b := h
    subst h'
    exact .bl b
  | .int i, _, _, h, e => by
    cases e
    have h' : _ = V.int i := h
    subst h'
    exact .int i
  | .str i, _, _, h, e => by
    cases e
    have h' : _ = V.str i := h
    subst h'
    exact .str i
  | .tup xs, _, _, ⟨a, vs, q, s, r⟩, e => by
    subst q
    unfold D.py at e
    split at e
    · rename_i l hl
      cases e
      exact .tup (.of s) (RzL.dp r hl)
    · cases e
  | .lst xs, _, _, ⟨a, vs, q, s, r⟩, e => by
    subst q
    unfold D.py at e
    split at e
    · rename_i l hl
      cases e
      exact .lst (.of s) (RzL.dp r hl)
    · cases e
  | .scr _, _, _, _, e => by cases e
  | .dK _ _, _, _, _, e => by cases e
  | .dT _ _, _, _, _, e => by cases e
  | .ins _ _ _, _, _, _, e => by cases e
  | .gl _, _, _, _, e => by cases e
  | .wld, _, _, _, e => by cases e
  | .ty _, _, _, _, e => by cases e
  | .tpx _, _, _, _, e => by cases e
  | .exc _ _ _, _, _, _, e => by cases e
theorem RzL.dp {H : Hp} : ∀ {ds : List D} {vs : List V} {ps : List PyData}, RzL C H ds vs → D.pyL ds = some ps → DpAll C.K H vs ps
  | [], _, _, h, e => by
    cases e
    have h' : _ = [] := h
    subst h'
    exact .nil
  | d :: ds, _, _, ⟨v, r, q, h1, h2⟩, e => by
    subst q
    unfold D.pyL at e
    split at e
    · rename_i a l ha hl
      cases e
      exact .cons (Rz.dp h1 ha) (RzL.dp h2 hl)
    · cases e
end
theorem Dp.mono {K : PySem.W.Frag} {H H' : Hp} (s : Same H H') : True := trivial
theorem eq_dp {H Ht : Hp} {da db : D} {x y : V} {k : Bool} (s : Same Ht H) (ra : Rz C Ht da x) (rb : Rz C Ht db y) (q : D.eq da db = some k) :
    ∃ p q, Dp C.K H x p ∧ Dp C.K H y q ∧ SeqAt.shaped p = true ∧ SeqAt.shaped q = true ∧ PyData.eqv p q = k := by
  unfold D.eq at q
  split at q
  · rename_i p q' hp hq
    split at q
    · rename_i c
      cases q
      exact ⟨p, q', Rz.dp (Rz.mono s ra) hp, Rz.dp (Rz.mono s rb) hq, c.1, c.2, rfl⟩
    · cases q
  · cases q
theorem os_eqD (hK : X.K = C.K) : OpS C W E (rEqD X.K) (pu2 D.eqD) := ops_pu fun da db d x y Ht H Q s ra rb q k => by
  unfold D.eqD at q
  cases z : D.eq da db with
  | none =>
    rw [z] at q
    cases q
  | some b =>
    rw [z] at q
    cases q
    obtain ⟨p, q', h1, h2, h3, h4, h5⟩ := eq_dp s ra rb z
    rw [hK]
    exact ⟨p, q', h1, h2, h3, h4, by rw [h5]; exact k _ rfl⟩
theorem os_neD (hK : X.K = C.K) : OpS C W E (rNeD X.K) (pu2 D.neD) := ops_pu fun da db d x y Ht H Q s ra rb q k => by
  unfold D.neD at q
  cases z : D.eq da db with
  | none =>
    rw [z] at q
    cases q
  | some b =>
    rw [z] at q
    cases q
    obtain ⟨p, q', h1, h2, h3, h4, h5⟩ := eq_dp s ra rb z
    rw [hK]
    exact ⟨p, q', h1, h2, h3, h4, by rw [h5]; exact k _ rfl⟩
/-- a + b: ints, tuples, lists, texts -/
def rAddA (K : PySem.W.Frag) : R2 := fun x y H Q => rI0 (fun i j => .int (i + j)) x y H Q ∨ rCatA K x y H Q ∨ rCat x y H Q ∨ (∃ i j, x = .str i ∧ y = .str j ∧ i.length + j.length ≤ sizeLine ∧ Q (.str (i ++ j)) H)
theorem op_addA : OpR X (binaryOp .Add) (rAddA X.K) := op_add.or (op_catA.or (op_cat.or op_add_str))
theorem os_add (hK : X.K = C.K) : OpS C W E (rAddA X.K) (pu2 D.add) := by
  intro da db x y Ht H fp ρ σ w Q e rl ra rb h0
  unfold pu2 pu at h0
  cases da <;> cases db <;> simp only [D.add] at h0 <;> try exact h0.elim
  case int.int i j =>
    have ra' : x = .int i := ra
    have rb' : y = .int j := rb
    subst ra' rb'
    exact .inl ⟨i, j, rfl, rfl, At.here h0 e rl rfl⟩
  case str.str i j =>
    have ra' : x = .str i := ra
    have rb' : y = .str j := rb
    subst ra' rb'
    split at h0
    · rename_i d c
      split at c
      · rename_i le
        cases c
        exact .inr (.inr (.inr ⟨i, j, rfl, rfl, by rw [sizeLine24]; exact le, At.here h0 e rl rfl⟩))
      · cases c
    · exact h0.elim
  case tup.tup xs ys =>
    obtain ⟨a, vs, rfl, sa, la⟩ := ra
    obtain ⟨b, us, rfl, sb, lb⟩ := rb
    split at h0
    · rename_i d c
      split at c
      · rename_i le
        cases c
        refine .inr (.inl ⟨a, b, vs, us, rfl, rfl, SqT.of (e.sub _ _ sa), SqT.of (e.sub _ _ sb), by rw [sizeLine24, ← la.len, ← lb.len]; exact le, fun z => ?_, fun _ z => ?_, fun _ _ p np => ?_⟩)
        · subst z
          rw [la.nilv] at h0
          exact At.here h0 e rl ⟨b, us, rfl, sb, lb⟩
        · subst z
          rw [lb.nilv, List.append_nil] at h0
          exact At.here h0 e rl ⟨a, vs, rfl, sa, la⟩
        · exact At.alloc (α := D) h0 e rl np ⟨p, _, rfl, upd_same, RzL.mono (same_upd (none_of_sub e.sub np)) (la.app lb)⟩
      · cases c
    · exact h0.elim
  case lst.lst xs ys =>
    obtain ⟨a, vs, rfl, sa, la⟩ := ra
    obtain ⟨b, us, rfl, sb, lb⟩ := rb
    split at h0
    · rename_i d c
      split at c
      · rename_i le
        cases c
        refine .inr (.inr (.inl ⟨a, b, vs, us, rfl, rfl, e.sub _ _ sa, e.sub _ _ sb, by rw [sizeLine24, ← la.len, ← lb.len]; exact le, fun p np => ?_⟩))
        exact At.alloc (α := D) h0 e rl np ⟨p, _, rfl, upd_same, RzL.mono (same_upd (none_of_sub e.sub np)) (la.app lb)⟩
      · cases c
    · exact h0.elim
/-! ### displays -/
def mTup (ma : M ω (List D)) : M ω D := m1 (fun ds => pu (if ds.length ≤ 16777216 then some (.tup ds) else none)) ma
theorem fe_tup {es : List Expr} {pos : Pos} {x1} {ma : M ω (List D)} (h : PA X es (gOf C W E (rL C) ma)) : PE X (.Tuple es x1 pos) (gOf C W E (rD C) (mTup ma)) :=
  PE.imp (pe_tup h) fun σ H Q h => gOf.bind h fun d v Ht H1 Ht1 fp ρ1 w1 fp1 e1 s1 o1 r1 q1 h1 => by
    unfold pu at h1
    split at h1
    · rename_i dd c
      split at c
      · rename_i le
        cases c
        exact ⟨by rw [sizeLine24, ← q1.len]; exact le, fun p np => At.alloc (α := D) h1 e1 r1 np ⟨p, v, rfl, upd_same, RzL.mono (same_upd (none_of_sub e1.sub np)) q1⟩⟩
      · cases c
    · exact h1.elim
/-- a list that is new: its items -/
def mLs (ma : M ω (List D)) : M ω (List D) := m1 (fun ds => pu (if ds.length ≤ 16777216 then some ds else none)) ma
theorem At.fresh {ds : List D} {vs : List V} {p : Addr} {Ht H : Hp} {fp : Fp} {ρ : Ev} {σ : L2.St} {w : ω} {Q : VK} (h : At C W E (rF C W) (some (.ok ds ρ w)) Ht H fp σ Q) (e : EnvO C W Ht H ρ σ fp) (r : W.rel H w) (n : H p = none) (q : RzL C Ht ds vs) : Q (.ref p) (upd H p (.lst vs)) :=
  h _ _ _ fp (alloc_own e r n).1 (alloc_own e r n).2.1 OwnS.refl (rel_upd r n) ⟨p, vs, rfl, upd_same, q, (alloc_own (o := .lst vs) e r n).2.2.1, n, (alloc_own (o := .lst vs) e r n).2.2.2.1, (alloc_own (o := .lst vs) e r n).2.2.2.2⟩
theorem fn_lst {es : List Expr} {pos : Pos} {ma : M ω (List D)} (h : PA X es (gOf C W E (rL C) ma)) : PE X (.List es pos) (gOf C W E (rF C W) (mLs ma)) :=
  PE.imp (pe_lst h) fun σ H Q h => gOf.bind h fun d v Ht H1 Ht1 fp ρ1 w1 fp1 e1 s1 o1 r1 q1 h1 => by
    unfold pu at h1
    split at h1
    · rename_i dd c
      split at c
      · rename_i le
        cases c
        exact ⟨by rw [sizeLine24, ← q1.len]; exact le, fun p np => At.fresh h1 e1 r1 np q1⟩
      · cases c
    · exact h1.elim
/-- a new list as data -/
def mFz (ma : M ω (List D)) : M ω D := m1 (fun ds => pu (some (.lst ds))) ma
theorem fz_env {a : Addr} {o : HO} {Ht H0 Ht0 H : Hp} {fp fp0 : Fp} {ρ : Ev} {σ : L2.St} (e : EnvO C W Ht H ρ σ fp) (s : Stp W Ht0 H0 fp0 Ht H) (ha : H a = some o) (hn : Ht a = none) (h0 : H0 a = none) (hw : ¬ W.fp a) (hf : ∀ i, a ∉ fp i) :
    EnvO C W (upd Ht a o) H ρ σ fp ∧ Stp W Ht0 H0 fp0 (upd Ht a o) H ∧ Same Ht (upd Ht a o) := by
  have st : Same Ht (upd Ht a o) := fun b x z => by
    rw [upd_ne fun y => by subst y; rw [hn] at z; cases z]
    exact z
  have sh : Same (upd Ht a o) H := fun b x z => by
    by_cases y : b = a
    · subst y
      rw [upd_same] at z
      cases z
      exact ha
    · rw [upd_ne y] at z
      exact e.sub b x z
  refine ⟨⟨sh, e.len, fun i o' h => ?_, fun i b h => ?_, e.one, fun b h => ?_⟩, ⟨s.ch, s.th.trans st, sh, fun b h => ?_, s.keep⟩, st⟩
  · obtain ⟨v, h1, h2⟩ := e.slot i o' h
    exact ⟨v, h1, Ow.imp st (fun _ _ _ q => q) h2⟩
  · obtain ⟨h1, h2, h3⟩ := e.out i b h
    exact ⟨by rw [upd_ne fun y => hf i (by rw [← y]; exact h)]; exact h1, h2, h3⟩
  · rw [upd_ne fun y => hw (by rw [← y]; exact h)]
    exact e.wout b h
  · by_cases y : b = a
    · subst y
      exact .inr (.inr h0)
    · rw [upd_ne y] at h
      exact s.new b h
theorem fe_fz {e : Expr} {ma : M ω (List D)} (h : PE X e (gOf C W E (rF C W) ma)) : PE X e (gOf C W E (rD C) (mFz ma)) :=
  PE.imp h fun σ H Q ⟨Ht, ρ, w, fp, e, r, h⟩ => by
    refine ⟨Ht, ρ, w, fp, e, r, ?_⟩
    unfold mFz m1 bnd at h
    cases q : ma ρ w with
    | none =>
      rw [q] at h
      exact h.elim
    | some rr =>
      rw [q] at h
      cases rr with
      | er e' w' => exact h
      | ok ds ρ1 w1 =>
        intro v H1 Ht1 fp1 e1 s1 o1 r1 q1
        obtain ⟨a, vs, rfl, ha, hl, hn, h0, hw, hf⟩ := q1
        obtain ⟨e2, s2, st⟩ := fz_env e1 s1 ha hn h0 hw hf
        exact h (.ref a) H1 _ fp1 e2 s2 o1 r1 ⟨a, vs, rfl, upd_same, RzL.mono st hl⟩
end
end FL
set_option maxRecDepth 100000
set_option maxHeartbeats 4000000
namespace FL
open PySem PySem.Spec PyProof.Rows L2

/-! ### calls of what is built in -/
section
variable {ω : Type} {X : Cx} {C : Cc} {W : Wd ω} {E : XK}
def CallS (C : Cc) (W : Wd ω) (E : XK) (r : List V → Hp → VK → Prop) (f : List D → M ω D) : Prop :=
  ∀ ds vs Ht H fp ρ σ w Q, EnvO C W Ht H ρ σ fp → W.rel H w → RzL C Ht ds vs → At C W E (rD C) (f ds ρ w) Ht H fp σ Q → r vs H Q
theorem tCB_of {r : List V → Hp → VK → Prop} {f : List D → M ω D} (hf : CallS C W E r f) {ma : M ω (List D)} (σ : L2.St) (H : Hp) (Q : VK) (h : gOf C W E (rD C) (m1 f ma) σ H Q) : tCB r (gOf C W E (rL C) ma) σ H Q :=
  gOf.bind h fun d v Ht H1 Ht1 fp ρ1 w1 fp1 e1 s1 o1 r1 q1 h1 => hf d v Ht1 H1 fp1 ρ1 σ w1 Q e1 r1 q1 h1
theorem fe_callB {id : String} {x : Str} {p pos : Pos} {e : Expr} {es : List Expr} {r : List V → Hp → VK → Prop} {f : List D → M ω D} {ma : M ω (List D)} (hc : CallR X (.builtin id) r) (hf : CallS C W E r f) (hg : Gl X x) (hm : X.mg x = none) (hv : bootBuiltins x = some (.builtin id))
    (ha : PA X (e :: es) (gOf C W E (rL C) ma)) (hn : x ≠ "__name__" := by decide) (hdb : (x == ("__debug__" : Str)) = false := by decide) (he : starEach (e :: es) X.env = (false, eval e X.env) :: starEach es X.env := by rfl) (hpl : (backTo pos (starEach es X.env)).any (·.1) = false := by rfl) :
    PE X (.Call (.Name x p) (e :: es) [] pos) (gOf C W E (rD C) (m1 f ma)) := PE.imp (pe_callB hc hg hm hv ha hn hdb he hpl) (tCB_of hf)
theorem fe_callTy {T : String} {x : Str} {p pos : Pos} {e : Expr} {es : List Expr} {r : List V → Hp → VK → Prop} {f : List D → M ω D} {ma : M ω (List D)} (hc : CallR X (.type T) r) (hf : CallS C W E r f) (hg : Gl X x) (hm : X.mg x = none) (hv : bootBuiltins x = some (.type T))
    (ha : PA X (e :: es) (gOf C W E (rL C) ma)) (hn : x ≠ "__name__" := by decide) (hdb : (x == ("__debug__" : Str)) = false := by decide) (he : starEach (e :: es) X.env = (false, eval e X.env) :: starEach es X.env := by rfl) (hpl : (backTo pos (starEach es X.env)).any (·.1) = false := by rfl) :
    PE X (.Call (.Name x p) (e :: es) [] pos) (gOf C W E (rD C) (m1 f ma)) := PE.imp (pe_callTy hc hg hm hv ha hn hdb he hpl) (tCB_of hf)
/-- a built-in class as a value -/
theorem fe_ty {T : String} {x : Str} {pos : Pos} (hg : Gl X x) (hm : X.mg x = none) (hv : bootBuiltins x = some (.type T)) (hn : x ≠ "__name__" := by decide) (hd : (x == ("__debug__" : Str)) = false := by decide) :
    PE X (.Name x pos) (gOf C W E (rD C) (mC (.ty T))) := PE.imp (pe_bltn (v := .ty T) hg hm hv rfl hn hd) fun _ _ _ ⟨_, _, _, _, e, r, h⟩ => At.here h e r rfl
/-- a def, a class of the module as a value; a module's number -/
theorem fe_gl {x : Str} {a : Addr} {pos : Pos} (hg : Gl X x) (hm : X.mg x = some (.ref a)) (hC : C.mg = X.mg) (hd : (x == ("__debug__" : Str)) = false := by decide) :
    PE X (.Name x pos) (gOf C W E (rD C) (mC (.gl x))) := PE.imp (pe_glob (v := .ref a) hg hm rfl hd) fun _ _ _ ⟨_, _, _, _, e, r, h⟩ => At.here h e r ⟨a, rfl, by rw [hC]; exact hm⟩
theorem fe_gint {x : Str} {i : Int} {pos : Pos} (hg : Gl X x) (hm : ∃ t, X.mg x = some (.int i t)) (hd : (x == ("__debug__" : Str)) = false := by decide) :
    PE X (.Name x pos) (gOf C W E (rD C) (mC (.int i))) := by
  obtain ⟨t, hm⟩ := hm
  exact PE.imp (pe_glob (v := .int i) hg hm ⟨t, rfl⟩ hd) fun _ _ _ ⟨_, _, _, _, e, r, h⟩ => At.here h e r rfl

/-! len, abs, min, max, int, list, tuple, any, all, sum -/
def pu1 (g : List D → Option D) : List D → M ω D := fun ds => pu (g ds)
theorem cs_pu {r : List V → Hp → VK → Prop} {g : List D → Option D} (h : ∀ ds d vs Ht H Q, Same Ht H → RzL C Ht ds vs → g ds = some d → (∀ v, Rz C Ht d v → Q v H) → r vs H Q) : CallS C W E r (pu1 g) := by
  intro ds vs Ht H fp ρ σ w Q e rl ra h0
  unfold pu1 pu at h0
  cases q : g ds with
  | none =>
    rw [q] at h0
    exact h0.elim
  | some d =>
    rw [q] at h0
    exact h ds d vs Ht H Q e.sub ra q fun v hv => At.here h0 e rl hv
def D.lenL : List D → Option D
  | [.tup xs] => some (.int xs.length)
  | [.lst xs] => some (.int xs.length)
  | [.scr xs] => some (.int xs.length)
  | [.tpx xs] => some (.int xs.length)
  | [.dK ks _] => some (.int ks.length)
  | _ => none
def rLenA (K : PySem.W.Frag) : List V → Hp → VK → Prop := fun vs H Q =>
  (∃ p ys, vs = [.ref p] ∧ (SqL K H p ys ∨ SqT K H p ys) ∧ Q (.int ys.length) H) ∨ ∃ a kvs, vs = [.ref a] ∧ Rd H a (.dK kvs) ∧ Q (.int kvs.length) H
theorem call_lenDR : CallR X (.builtin "len") (fun xs H Q => ∃ a kvs, xs = [V.ref a] ∧ Rd H a (.dK kvs) ∧ Q (.int kvs.length) H) := by
  intro pins s σ H xs us Q I r h
  obtain ⟨a, kvs, rfl, ha, q⟩ := h
  obtain ⟨u, rfl, ru⟩ := vals1 r
  cases ru
  exact d_len I ha fun t s' I' => ⟨.int kvs.length, H, I', ⟨t, rfl⟩, q⟩
theorem call_lenA : CallR X (.builtin "len") (rLenA X.K) := call_len_seq.or call_lenDR
theorem rzl1 {H : Hp} {d : D} {vs : List V} (h : RzL C H [d] vs) : ∃ v, vs = [v] ∧ Rz C H d v := by
  obtain ⟨v, r, q, h1, h2⟩ := h
  have h2' : r = [] := h2
  subst h2'
  exact ⟨v, q, h1⟩
theorem rzl2 {H : Hp} {d e : D} {vs : List V} (h : RzL C H [d, e] vs) : ∃ v u, vs = [v, u] ∧ Rz C H d v ∧ Rz C H e u := by
  obtain ⟨v, r, q, h1, h2⟩ := h
  obtain ⟨u, rfl, h3⟩ := rzl1 h2
  exact ⟨v, u, q, h1, h3⟩
theorem cs_len (hK : X.K = C.K) : CallS C W E (rLenA X.K) (pu1 D.lenL) := cs_pu fun ds d vs Ht H Q s ra q k => by
  unfold D.lenL at q
  split at q <;> cases q
  · obtain ⟨v, rfl, a, vs, rfl, sa, la⟩ := rzl1 ra
    exact .inl ⟨a, vs, rfl, .inr (.of (s _ _ sa)), k _ (by rw [la.len]; rfl)⟩
  · obtain ⟨v, rfl, a, vs, rfl, sa, la⟩ := rzl1 ra
    exact .inl ⟨a, vs, rfl, .inl (.of (s _ _ sa)), k _ (by rw [la.len]; rfl)⟩
  · obtain ⟨v, rfl, a, vs, rfl, sa, la⟩ := rzl1 ra
    exact .inl ⟨a, vs, rfl, .inl (by rw [hK]; exact s.seq sa), k _ (by rw [la.len]; rfl)⟩
  · obtain ⟨v, rfl, a, vs, o, rfl, sa, n, la⟩ := rzl1 ra
    exact .inl ⟨a, vs, rfl, .inr (.inl (.inr ⟨o, s _ _ sa⟩)), k _ (by rw [la.len]; rfl)⟩
  · obtain ⟨v, rfl, a, vs, rfl, sa, l, n, la⟩ := rzl1 ra
    refine .inr ⟨a, _, rfl, Same.rd s sa, k _ ?_⟩
    show V.int _ = V.int _
    rw [List.length_zip, ← l, Nat.min_self]
def D.absL : List D → Option D
  | [.int i] => some (.int (if i < 0 then -i else i))
  | _ => none
theorem cs_abs : CallS C W E (fun xs H Q => ∃ i, xs = [.int i] ∧ Q (.int (if i < 0 then -i else i)) H) (pu1 D.absL) := cs_pu fun ds d vs Ht H Q s ra q k => by
  unfold D.absL at q
  split at q <;> cases q
  obtain ⟨v, rfl, h⟩ := rzl1 ra
  have h' : v = .int _ := h
  subst h'
  exact ⟨_, rfl, k _ rfl⟩
def D.max2 : List D → Option D
  | [.int i, .int j] => some (.int (if j > i then j else i))
  | _ => none
def D.min2 : List D → Option D
  | [.int i, .int j] => some (.int (if j < i then j else i))
  | _ => none
theorem cs_max2 : CallS C W E (fun xs H Q => ∃ i j, xs = [.int i, .int j] ∧ Q (.int (if j > i then j else i)) H) (pu1 D.max2) := cs_pu fun ds d vs Ht H Q s ra q k => by
  unfold D.max2 at q
  split at q <;> cases q
  obtain ⟨v, u, rfl, h, h2⟩ := rzl2 ra
  have h' : v = .int _ := h
  have h2' : u = .int _ := h2
  subst h' h2'
  exact ⟨_, _, rfl, k _ rfl⟩
theorem cs_min2 : CallS C W E (fun xs H Q => ∃ i j, xs = [.int i, .int j] ∧ Q (.int (if j < i then j else i)) H) (pu1 D.min2) := cs_pu fun ds d vs Ht H Q s ra q k => by
  unfold D.min2 at q
  split at q <;> cases q
  obtain ⟨v, u, rfl, h, h2⟩ := rzl2 ra
  have h' : v = .int _ := h
  have h2' : u = .int _ := h2
  subst h' h2'
  exact ⟨_, _, rfl, k _ rfl⟩
def D.intL : List D → Option D
  | [.int i] => some (.int i)
  | [.bl b] => some (.int (if b then 1 else 0))
  | _ => none
theorem cs_int : CallS C W E (fun xs H Q => (∃ i, xs = [.int i] ∧ Q (.int i) H) ∨ ∃ k, xs = [.bl k] ∧ Q (.int (if k then 1 else 0)) H) (pu1 D.intL) := cs_pu fun ds d vs Ht H Q s ra q k => by
  unfold D.intL at q
  split at q <;> cases q
  · obtain ⟨v, rfl, h⟩ := rzl1 ra
    have h' : v = .int _ := h
    subst h'
    exact .inl ⟨_, rfl, k _ rfl⟩
  · obtain ⟨v, rfl, h⟩ := rzl1 ra
    have h' : v = .bl _ := h
    subst h'
    exact .inr ⟨_, rfl, k _ rfl⟩
/-- any, all of a list of truths -/
def D.bls : List D → Option (List Bool)
  | [] => some []
  | .bl b :: r => (D.bls r).map (b :: ·)
  | _ => none
theorem RzL.bls {H : Hp} : ∀ {ds : List D} {vs : List V} {bs : List Bool}, RzL C H ds vs → D.bls ds = some bs → vs = bs.map V.bl
  | [], _, _, h, e => by
    cases e
    exact h
  | d :: r, _, bs, ⟨v, u, q, h1, h2⟩, e => by
    cases d <;> simp only [D.bls, reduceCtorEq] at e
    rename_i b
    cases z : D.bls r with
    | none =>
      rw [z] at e
      cases e
    | some cs =>
      rw [z] at e
      cases e
      have h1' : v = .bl b := h1
      rw [q, h1', RzL.bls h2 z]
      rfl
def D.anyL : List D → Option D
  | [.lst xs] => (D.bls xs).map fun bs => .bl (bs.any id)
  | _ => none
def D.allL : List D → Option D
  | [.lst xs] => (D.bls xs).map fun bs => .bl (bs.all id)
  | _ => none
theorem cs_any : CallS C W E (rAny X.K) (pu1 D.anyL) := cs_pu fun ds d vs Ht H Q s ra q k => by
  unfold D.anyL at q
  split at q
  · rename_i xs
    cases z : D.bls xs with
    | none =>
      rw [z] at q
      cases q
    | some bs =>
      rw [z] at q
      cases q
      obtain ⟨v, rfl, a, vs, rfl, sa, la⟩ := rzl1 ra
      exact ⟨a, bs, rfl, .of (by rw [← RzL.bls la z]; exact s _ _ sa), k _ rfl⟩
  · cases q
theorem cs_all : CallS C W E (rAll X.K) (pu1 D.allL) := cs_pu fun ds d vs Ht H Q s ra q k => by
  unfold D.allL at q
  split at q
  · rename_i xs
    cases z : D.bls xs with
    | none =>
      rw [z] at q
      cases q
    | some bs =>
      rw [z] at q
      cases q
      obtain ⟨v, rfl, a, vs, rfl, sa, la⟩ := rzl1 ra
      exact ⟨a, bs, rfl, .of (by rw [← RzL.bls la z]; exact s _ _ sa), k _ rfl⟩
  · cases q
def D.ints : List D → Option (List Int)
  | [] => some []
  | .int b :: r => (D.ints r).map (b :: ·)
  | _ => none
theorem RzL.ints {H : Hp} : ∀ {ds : List D} {vs : List V} {bs : List Int}, RzL C H ds vs → D.ints ds = some bs → vs = bs.map V.int
  | [], _, _, h, e => by
    cases e
    exact h
  | d :: r, _, bs, ⟨v, u, q, h1, h2⟩, e => by
    cases d <;> simp only [D.ints, reduceCtorEq] at e
    rename_i b
    cases z : D.ints r with
    | none =>
      rw [z] at e
      cases e
    | some cs =>
      rw [z] at e
      cases e
      have h1' : v = .int b := h1
      rw [q, h1', RzL.ints h2 z]
      rfl
def D.sumL : List D → Option D
  | [.lst xs] => (D.ints xs).map fun bs => .int bs.sum
  | _ => none
theorem cs_sum : CallS C W E (rSum X.K) (pu1 D.sumL) := cs_pu fun ds d vs Ht H Q s ra q k => by
  unfold D.sumL at q
  split at q
  · rename_i xs
    cases z : D.ints xs with
    | none =>
      rw [z] at q
      cases q
    | some bs =>
      rw [z] at q
      cases q
      obtain ⟨v, rfl, a, vs, rfl, sa, la⟩ := rzl1 ra
      exact ⟨a, bs, rfl, .of (by rw [← RzL.ints la z]; exact s _ _ sa), k _ rfl⟩
  · cases q
/-- items of a list, a tuple -/
def D.its : D → Option (List D)
  | .lst xs => some xs
  | .tup xs => some xs
  | .scr xs => some xs
  | .tpx xs => some xs
  | _ => none
theorem Rz.its {H : Hp} {d : D} {v : V} {xs : List D} (h : Rz C H d v) (q : d.its = some xs) : ∃ a vs, v = .ref a ∧ (SqL C.K H a vs ∨ SqT C.K H a vs) ∧ RzL C H xs vs := by
  cases d <;> simp only [D.its, reduceCtorEq] at q <;> cases q
  · obtain ⟨a, vs, rfl, sa, la⟩ := h
    exact ⟨a, vs, rfl, .inr (SqT.of sa), la⟩
  · obtain ⟨a, vs, rfl, sa, la⟩ := h
    exact ⟨a, vs, rfl, .inl (.of sa), la⟩
  · obtain ⟨a, vs, rfl, sa, la⟩ := h
    exact ⟨a, vs, rfl, .inl sa, la⟩
  · obtain ⟨a, vs, o, rfl, sa, n, la⟩ := h
    exact ⟨a, vs, rfl, .inr (.inl (.inr ⟨o, sa⟩)), la⟩
theorem sq_mono {K : PySem.W.Frag} {H H' : Hp} {a : Addr} {vs : List V} (s : Same H H') (h : SqL K H a vs ∨ SqT K H a vs) : SqL K H' a vs ∨ SqT K H' a vs := h.imp s.seq fun q => Same.sqT s q
def D.itsS : D → Option (List D)
  | .lst xs => some xs
  | .tup xs => some xs
  | .scr xs => some xs
  | _ => none
theorem Rz.itsS {H : Hp} {d : D} {v : V} {xs : List D} (h : Rz C H d v) (q : d.itsS = some xs) : ∃ a vs, v = .ref a ∧ (SqL C.K H a vs ∨ H a = some (.tup vs)) ∧ RzL C H xs vs := by
  cases d <;> simp only [D.itsS, reduceCtorEq] at q <;> cases q
  · obtain ⟨a, vs, rfl, sa, la⟩ := h
    exact ⟨a, vs, rfl, .inr sa, la⟩
  · obtain ⟨a, vs, rfl, sa, la⟩ := h
    exact ⟨a, vs, rfl, .inl (.of sa), la⟩
  · obtain ⟨a, vs, rfl, sa, la⟩ := h
    exact ⟨a, vs, rfl, .inl sa, la⟩
/-- tuple(x) -/
def D.tupF : List D → Option D
  | [d] => d.itsS.map .tup
  | _ => none
theorem cs_tuple (hK : X.K = C.K) : CallS C W E (fun xs H Q => ∃ p ys, xs = [.ref p] ∧ ((SqL X.K H p ys ∧ ∀ l, H l = none → Q (.ref l) (upd H l (.tup ys))) ∨ (SqT X.K H p ys ∧ Q (.ref p) H))) (pu1 D.tupF) := by
  intro ds vs Ht H fp ρ σ w Q e rl ra h0
  unfold pu1 pu D.tupF at h0
  split at h0
  · rename_i d c
    split at c
    · rename_i d1
      cases z : d1.itsS with
      | none =>
        rw [z] at c
        cases c
      | some xs =>
        rw [z] at c
        cases c
        obtain ⟨v, rfl, h1⟩ := rzl1 ra
        obtain ⟨a, vs, rfl, sq, la⟩ := h1.itsS z
        refine ⟨a, vs, rfl, ?_⟩
        rw [hK]
        rcases sq with sq | sq
        · exact .inl ⟨e.sub.seq sq, fun l nl => At.alloc (α := D) h0 e rl nl ⟨l, vs, rfl, upd_same, RzL.mono (same_upd (none_of_sub e.sub nl)) la⟩⟩
        · exact .inr ⟨.of (e.sub _ _ sq), At.here h0 e rl ⟨a, vs, rfl, sq, la⟩⟩
    · cases c
  · exact h0.elim
/-- list(x): a new list -/
def mItems (ma : M ω (List D)) : M ω (List D) := m1 (fun ds => pu (match ds with
  | [d] => d.its
  | _ => none)) ma
theorem fn_list {x : Str} {p pos : Pos} {e : Expr} {es : List Expr} {ma : M ω (List D)} (hK : X.K = C.K) (hg : Gl X x) (hm : X.mg x = none) (hv : bootBuiltins x = some (.type "list"))
    (ha : PA X (e :: es) (gOf C W E (rL C) ma)) (hn : x ≠ "__name__" := by decide) (hdb : (x == ("__debug__" : Str)) = false := by decide) (he : starEach (e :: es) X.env = (false, eval e X.env) :: starEach es X.env := by rfl) (hpl : (backTo pos (starEach es X.env)).any (·.1) = false := by rfl) :
    PE X (.Call (.Name x p) (e :: es) [] pos) (gOf C W E (rF C W) (mItems ma)) := PE.imp (pe_callTy call_list_of hg hm hv ha hn hdb he hpl) fun σ H Q h => by
  refine gOf.bind h fun d v Ht H1 Ht1 fp ρ1 w1 fp1 e1 s1 o1 r1 q1 h1 => ?_
  unfold pu at h1
  split at h1
  · rename_i xs c
    split at c
    · rename_i d1
      obtain ⟨v1, rfl, h2⟩ := rzl1 q1
      obtain ⟨a, vs, rfl, sq, la⟩ := h2.its c
      exact ⟨a, vs, rfl, by rw [hK]; exact sq_mono e1.sub sq, fun l nl => At.fresh h1 e1 r1 nl la⟩
    · cases c
  · exact h1.elim

/-! ### isinstance -/
def D.tyN : D → Option String
  | .non => some "NoneType"
  | .bl _ => some "bool"
  | .int _ => some "int"
  | .str _ => some "str"
  | .tup _ => some "tuple"
  | .tpx _ => some "tuple"
  | .lst _ => some "list"
  | .dK _ _ => some "dict"
  | _ => none
theorem Rz.tyX {H : Hp} {d : D} {v : V} {t : String} (h : Rz C H d v) (q : d.tyN = some t) : TyX C.K H v (.type t) := by
  cases d <;> simp only [D.tyN, reduceCtorEq] at q <;> cases q
  · have h' : v = .non := h
    subst h'
    exact .base .non
  · have h' : v = .bl _ := h
    subst h'
    exact .base (.bl _)
  · have h' : v = .int _ := h
    subst h'
    exact .base (.int _)
  · have h' : v = .str _ := h
    subst h'
    exact .base (.str _)
  · obtain ⟨a, vs, rfl, sa, la⟩ := h
    exact .base (.tup sa)
  · obtain ⟨a, vs, rfl, sa, la⟩ := h
    exact .base (.lst sa)
  · obtain ⟨a, vs, rfl, sa, la⟩ := h
    rcases sa with sa | ⟨o, sa⟩
    · exact .base (.dK sa)
    · exact .fDict sa
  · obtain ⟨a, vs, o, rfl, sa, n, la⟩ := h
    exact .fTuple sa
def D.isi : List D → Option D
  | [d, .ty n] => match d.tyN with
    | some t => (kitB t n).map .bl
    | none => none
  | _ => none
theorem cs_isi (hK : X.K = C.K) : CallS C W E (rIsi X.K) (pu1 D.isi) := cs_pu fun ds d vs Ht H Q s ra q k => by
  unfold D.isi at q
  split at q
  · rename_i d0 n
    split at q
    · rename_i t ht
      cases z : kitB t n with
      | none =>
        rw [z] at q
        cases q
      | some b =>
        rw [z] at q
        cases q
        obtain ⟨v, u, rfl, h1, h2⟩ := rzl2 ra
        have h2' : u = .ty n := h2
        subst h2'
        exact ⟨v, .ty n, .type t, .type n, b, rfl, .ty n, by rw [hK]; exact Rz.tyX (Rz.mono s h1) ht, kit_ty z, k _ rfl⟩
    · cases q
  · cases q
end
end FL
set_option maxRecDepth 100000
set_option maxHeartbeats 4000000
namespace FL
open PySem PySem.Spec PyProof.Rows L2

/-! ### isinstance with a tuple of classes -/
def D.tys : List D → Option (List String)
  | [] => some []
  | .ty n :: r => (D.tys r).map (n :: ·)
  | _ => none
def kitS (t : String) : List String → Option Bool
  | [] => some false
  | n :: r => match kitB t n with
    | some true => some true
    | some false => kitS t r
    | none => none
/-! ### items, keys -/
def D.key : D → Option Key
  | .int i => some (.inl i)
  | .str s => some (.inr s)
  | _ => none
def D.keys : List D → Option (List Key)
  | [] => some []
  | d :: r => match d.key, D.keys r with
    | some k, some l => some (k :: l)
    | _, _ => none
def asc {κ : Type} [DecidableEq κ] : List κ → List D → κ → Option D
  | k0 :: ks, d :: ds, k => if k0 = k then some d else asc ks ds k
  | _, _, _ => none
def D.ix : D → D → Option D
  | .tup xs, .int i => atI xs i
  | .lst xs, .int i => atI xs i
  | .scr xs, .int i => atI xs i
  | .dK ks ds, k => match k.key with
    | some k => asc ks ds k
    | none => none
  | .dT ks ds, .tup xs => match D.keys xs with
    | some k => asc ks ds k
    | none => none
  | _, _ => none
section
variable {ω : Type} {X : Cx} {C : Cc} {W : Wd ω} {E : XK}
theorem kitS_ok {K : PySem.W.Frag} {H : Hp} {t : String} : ∀ {ns : List String} {b : Bool}, kitS t ns = some b → PySem.W.kitAny K (.type t) (ns.map Value.type) = some b
  | [], b, e => by
    cases e
    exact kitAny_nil
  | n :: r, b, e => by
    unfold kitS at e
    split at e
    · rename_i hk
      cases e
      exact kitAny_cons (kit_ty hk) (fun z => nomatch z) fun _ => rfl
    · rename_i hk
      exact kitAny_cons (kit_ty hk) (fun _ => kitS_ok (K := K) (H := H) e) fun z => nomatch z
    · cases e
theorem tys_ok {H : Hp} : ∀ {cs : List D} {vs : List V} {ns : List String}, RzL C H cs vs → D.tys cs = some ns → Paired ClsV vs (ns.map Value.type)
  | [], _, _, h, e => by
    cases e
    have h' : _ = [] := h
    subst h'
    exact .nil
  | d :: r, _, ns, ⟨v, u, q, h1, h2⟩, e => by
    subst q
    cases d <;> simp only [D.tys, reduceCtorEq] at e
    rename_i n
    cases z : D.tys r with
    | none =>
      rw [z] at e
      cases e
    | some l =>
      rw [z] at e
      cases e
      have h1' : v = .ty n := h1
      subst h1'
      exact .cons (.ty n) (tys_ok h2 z)
def D.isiT : List D → Option D
  | [d, .tup cs] => match d.tyN, D.tys cs with
    | some t, some ns => (kitS t ns).map .bl
    | _, _ => none
  | _ => none
theorem cs_isiT (hK : X.K = C.K) : CallS C W E (rIsiT X.K) (pu1 D.isiT) := cs_pu fun ds d vs Ht H Q s ra q k => by
  unfold D.isiT at q
  split at q
  · rename_i d0 cs
    split at q
    · rename_i t ns ht hn
      cases z : kitS t ns with
      | none =>
        rw [z] at q
        cases q
      | some b =>
        rw [z] at q
        cases q
        obtain ⟨v, u, rfl, h1, tp, us, rfl, ha, hl⟩ := rzl2 ra
        exact ⟨v, tp, us, .type t, ns.map Value.type, b, rfl, s _ _ ha, tys_ok hl hn, by rw [hK]; exact Rz.tyX (Rz.mono s h1) ht, kitS_ok (H := H) z, k _ rfl⟩
    · cases q
  · cases q
/-! ### subscripts -/
theorem asc_val {κ : Type} [DecidableEq κ] {H : Hp} : ∀ {ks : List κ} {ds : List D} {vs : List V} {k : κ}, RzL C H ds vs → ks.length = vs.length →
    (∀ d, asc ks ds k = some d → ∃ v, valV (ks.zip vs) k = some v ∧ Rz C H d v) ∧ (asc ks ds k = none → valV (ks.zip vs) k = none)
  | [], _, _, k, _, _ => ⟨fun d e => by simp [asc] at e, fun _ => rfl⟩
  | k0 :: ks, [], _, k, h, l => by
    have h' : _ = [] := h
    subst h'
    cases l
  | k0 :: ks, d0 :: ds, _, k, ⟨v, u, q, h1, h2⟩, l => by
    subst q
    have ih := asc_val (k := k) h2 (Nat.succ.inj l)
    by_cases z : k0 = k
    · refine ⟨fun d e => ?_, fun e => ?_⟩
      · simp only [asc, if_pos z, Option.some.injEq] at e
        subst e
        exact ⟨v, valV_pos z, h1⟩
      · simp [asc, if_pos z] at e
    · refine ⟨fun d e => ?_, fun e => ?_⟩
      · simp only [asc, if_neg z] at e
        obtain ⟨v', h3, h4⟩ := ih.1 d e
        exact ⟨v', (valV_neg (p := (k0, v)) z).trans h3, h4⟩
      · simp only [asc, if_neg z] at e
        exact (valV_neg (p := (k0, v)) z).trans (ih.2 e)
theorem key_ok {H : Hp} {d : D} {v : V} {k : Key} (h : Rz C H d v) (q : d.key = some k) : v = kV k := by
  cases d <;> simp only [D.key, reduceCtorEq] at q <;> cases q
  · exact h
  · exact h
theorem keys_ok {H : Hp} : ∀ {ds : List D} {vs : List V} {ks : List Key}, RzL C H ds vs → D.keys ds = some ks → vs = ks.map kV
  | [], _, _, h, e => by
    cases e
    exact h
  | d :: r, _, ks, ⟨v, u, q, h1, h2⟩, e => by
    subst q
    unfold D.keys at e
    split at e
    · rename_i k l hk hl
      cases e
      rw [key_ok h1 hk, keys_ok h2 hl]
      rfl
    · cases e
def rDGetR : R2 := fun x y H Q => ∃ a v, x = .ref a ∧ DGet H a y (some v) ∧ Q v H
theorem ix_dict (hu : X.A.units + 1 < cLine) : IxR X rDGetR := by
  intro value slice pins s σ H x y v u Q I rx ry h hs
  obtain ⟨a, z, rfl, g, q⟩ := h
  cases rx
  exact tail_any (dict_typeIs I g) PySem.F.slot_dict_getitem.lookup (d_getItem hu I g ry fun w' s3 I3 rw' => ⟨z, H, I3, rw', q⟩) hs
def rIxA (K : PySem.W.Frag) : R2 := fun x y H Q => rIxL K x y H Q ∨ rIxT K x y H Q ∨ rDGetR x y H Q
theorem ix_all (hu : X.A.units + 1 < cLine) : IxR X (rIxA X.K) := ix_list.or (ix_tup.or (ix_dict hu))
theorem atI_rz {H : Hp} {xs : List D} {vs : List V} {i : Int} {d : D} (h : RzL C H xs vs) (e : atI xs i = some d) : ∃ v, atI vs i = some v ∧ Rz C H d v := by
  unfold atI at e ⊢
  rw [← h.len]
  cases q : ixN xs.length i with
  | none =>
    rw [q] at e
    cases e
  | some j =>
    rw [q] at e
    exact h.get e
theorem os_ix (hK : X.K = C.K) : OpS C W E (rIxA X.K) (pu2 D.ix) := ops_pu fun da db d x y Ht H Q s ra rb q k => by
  unfold D.ix at q
  split at q
  · obtain ⟨a, vs, rfl, sa, la⟩ := ra
    have rb' : y = .int _ := rb
    subst rb'
    obtain ⟨v, h1, h2⟩ := atI_rz la q
    exact .inr (.inl ⟨a, vs, _, v, rfl, rfl, .of (s _ _ sa), h1, k v h2⟩)
  · obtain ⟨a, vs, rfl, sa, la⟩ := ra
    have rb' : y = .int _ := rb
    subst rb'
    obtain ⟨v, h1, h2⟩ := atI_rz la q
    exact .inl ⟨a, vs, _, v, rfl, rfl, .of (s _ _ sa), h1, k v h2⟩
  · obtain ⟨a, vs, rfl, sa, la⟩ := ra
    have rb' : y = .int _ := rb
    subst rb'
    obtain ⟨v, h1, h2⟩ := atI_rz la q
    exact .inl ⟨a, vs, _, v, rfl, rfl, by rw [hK]; exact s.seq sa, h1, k v h2⟩
  · split at q
    · rename_i ky hk
      obtain ⟨a, vs, rfl, sa, l, n, la⟩ := ra
      obtain ⟨v, h1, h2⟩ := (asc_val la l).1 d q
      exact .inr (.inr ⟨a, v, rfl, .inl ⟨_, ky, Same.rd s sa, key_ok rb hk, h1.symm⟩, k v h2⟩)
    · cases q
  · split at q
    · rename_i ky hk
      obtain ⟨a, vs, rfl, sa, l, n, la⟩ := ra
      obtain ⟨b, us, rfl, sb, lb⟩ := rb
      obtain ⟨v, h1, h2⟩ := (asc_val la l).1 d q
      exact .inr (.inr ⟨a, v, rfl, .inr ⟨_, ky, b, Same.rd s sa, rfl, by rw [← keys_ok lb hk]; exact s _ _ sb, h1.symm⟩, k v h2⟩)
    · cases q
  · cases q
theorem fe_ix {a b : Expr} {pos : Pos} {ma mb : M ω D} (hK : X.K = C.K) (hu : X.A.units + 1 < cLine) (ha : PE X a (gOf C W E (rD C) ma)) (hb : PE X b (gOf C W E (rD C) mb)) (hs : PlainIx b) :
    PE X (.Subscript a b pos) (gOf C W E (rD C) (m2 (pu2 D.ix) ma mb)) := PE.imp (pe_ix (ix_all hu) ha hb hs) (tOp_of (os_ix hK))
/-! ### in, not in -/
def D.inS (x : D) (y : D) : Option Bool := match y with
  | .dK ks _ => match x.key with
    | some k => some (ks.any fun j => decide (j = k))
    | none => none
  | .dT ks _ => match x with
    | .tup xs => match D.keys xs with
      | some k => some (ks.any fun j => decide (j = k))
      | none => none
    | _ => none
  | _ => none
theorem asc_mem {κ : Type} [DecidableEq κ] : ∀ {ks : List κ} {vs : List V} {k : κ}, ks.length = vs.length → (valV (ks.zip vs) k).isSome = ks.any fun j => decide (j = k)
  | [], _, k, _ => rfl
  | k0 :: ks, [], k, l => by cases l
  | k0 :: ks, v :: vs, k, l => by
    have ih := asc_mem (k := k) (Nat.succ.inj l)
    by_cases z : k0 = k
    · rw [show valV ((k0 :: ks).zip (v :: vs)) k = some v from valV_pos (p := (k0, v)) z, List.any_cons, decide_eq_true z]
      rfl
    · rw [show valV ((k0 :: ks).zip (v :: vs)) k = valV (ks.zip vs) k from valV_neg (p := (k0, v)) z, ih, List.any_cons, decide_eq_false z, Bool.false_or]
theorem dget_in {H Ht : Hp} {dx dy : D} {x y : V} {b : Bool} (s : Same Ht H) (rx : Rz C Ht dx x) (ry : Rz C Ht dy y) (q : D.inS dx dy = some b) : ∃ a o, y = .ref a ∧ DGet H a x o ∧ o.isSome = b := by
  unfold D.inS at q
  split at q
  · split at q
    · rename_i k hk
      cases q
      obtain ⟨a, vs, rfl, sa, l, n, la⟩ := ry
      exact ⟨a, _, rfl, .inl ⟨_, k, Same.rd s sa, key_ok rx hk, rfl⟩, asc_mem l⟩
    · cases q
  · split at q
    · split at q
      · rename_i k hk
        cases q
        obtain ⟨a, vs, rfl, sa, l, n, la⟩ := ry
        obtain ⟨b, us, rfl, sb, lb⟩ := rx
        exact ⟨a, _, rfl, .inr ⟨_, k, b, Same.rd s sa, rfl, by rw [← keys_ok lb hk]; exact s _ _ sb, rfl⟩, asc_mem l⟩
      · cases q
    · cases q
  · cases q
def rDIn (neg : Bool) : R2 := fun x y H Q => ∃ a o, y = .ref a ∧ DGet H a x o ∧ Q (.bl (if neg then !o.isSome else o.isSome)) H
theorem op_din (hu : X.A.units + 1 < cLine) : OpR X (compareOp .In) (rDIn false) := by
  intro pins s σ H x y v u Q I rx ry h
  obtain ⟨a, o, rfl, g, q⟩ := h
  cases ry
  exact d_in hu I g rx fun s' I' => ⟨.bl _, H, I', rfl, q⟩
theorem op_dnotin (hu : X.A.units + 1 < cLine) : OpR X (compareOp .NotIn) (rDIn true) := by
  intro pins s σ H x y v u Q I rx ry h
  obtain ⟨a, o, rfl, g, q⟩ := h
  cases ry
  exact d_notIn hu I g rx fun s' I' => ⟨.bl _, H, I', rfl, q⟩
/-- flat things in a list, a tuple -/
def D.flV : D → Option V
  | .non => some .non
  | .bl b => some (.bl b)
  | .int i => some (.int i)
  | .str s => some (.str s)
  | _ => none
def D.flVs : List D → Option (List V)
  | [] => some []
  | d :: r => match d.flV, D.flVs r with
    | some v, some l => some (v :: l)
    | _, _ => none
theorem flV_ok {H : Hp} {d : D} {v u : V} (h : Rz C H d v) (q : d.flV = some u) : v = u ∧ flatV u = true := by
  cases d <;> simp only [D.flV, reduceCtorEq] at q <;> cases q <;> exact ⟨h, rfl⟩
theorem flVs_ok {H : Hp} : ∀ {ds : List D} {vs us : List V}, RzL C H ds vs → D.flVs ds = some us → vs = us ∧ us.all flatV = true
  | [], _, _, h, e => by
    cases e
    exact ⟨h, rfl⟩
  | d :: r, _, us, ⟨v, u, q, h1, h2⟩, e => by
    subst q
    unfold D.flVs at e
    split at e
    · rename_i k l hk hl
      cases e
      obtain ⟨a1, a2⟩ := flV_ok h1 hk
      obtain ⟨b1, b2⟩ := flVs_ok h2 hl
      rw [a1, b1]
      exact ⟨rfl, by rw [List.all_cons, a2, b2]; rfl⟩
    · cases e
def D.inQ (x y : D) : Option Bool := match D.inS x y with
  | some b => some b
  | none => match y.its with
    | some xs => match x.flV, D.flVs xs with
      | some v, some vs => some (inV v vs)
      | _, _ => none
    | none => none
def D.inD (x y : D) : Option D := (D.inQ x y).map .bl
def D.ninD (x y : D) : Option D := (D.inQ x y).map fun b => .bl (!b)
def rInA (K : PySem.W.Frag) (neg : Bool) : R2 := fun x y H Q => rDIn neg x y H Q ∨ rIn K neg x y H Q
theorem op_inA (hu : X.A.units + 1 < cLine) : OpR X (compareOp .In) (rInA X.K false) := (op_din hu).or op_in_seq
theorem op_ninA (hu : X.A.units + 1 < cLine) : OpR X (compareOp .NotIn) (rInA X.K true) := (op_dnotin hu).or op_notIn_seq
theorem in_ok (hK : X.K = C.K) {neg : Bool} {dx dy : D} {x y : V} {b : Bool} {Ht H : Hp} {Q : VK} (s : Same Ht H) (rx : Rz C Ht dx x) (ry : Rz C Ht dy y) (q : D.inQ dx dy = some b) (k : Q (.bl (if neg then !b else b)) H) : rInA X.K neg x y H Q := by
  unfold D.inQ at q
  split at q
  · rename_i b' hb
    cases q
    obtain ⟨a, o, rfl, g, e⟩ := dget_in s rx ry hb
    exact .inl ⟨a, o, rfl, g, by rw [e]; exact k⟩
  · split at q
    · rename_i xs hx
      split at q
      · rename_i v vs h1 h2
        cases q
        obtain ⟨a, us, rfl, sq, la⟩ := ry.its hx
        obtain ⟨e1, f1⟩ := flV_ok rx h1
        obtain ⟨e2, f2⟩ := flVs_ok la h2
        subst e1 e2
        exact .inr ⟨a, us, rfl, by rw [hK]; exact sq_mono s sq, f1, f2, k⟩
      · cases q
    · cases q
theorem os_in (hK : X.K = C.K) : OpS C W E (rInA X.K false) (pu2 D.inD) := ops_pu fun da db d x y Ht H Q s ra rb q k => by
  unfold D.inD at q
  cases z : D.inQ da db with
  | none =>
    rw [z] at q
    cases q
  | some b =>
    rw [z] at q
    cases q
    exact in_ok hK s ra rb z (k _ rfl)
theorem os_nin (hK : X.K = C.K) : OpS C W E (rInA X.K true) (pu2 D.ninD) := ops_pu fun da db d x y Ht H Q s ra rb q k => by
  unfold D.ninD at q
  cases z : D.inQ da db with
  | none =>
    rw [z] at q
    cases q
  | some b =>
    rw [z] at q
    cases q
    exact in_ok hK s ra rb z (k _ rfl)
/-! ### chains of two comparisons -/
def mCh (f g : D → D → M ω D) (ma mb mc : M ω D) : M ω D := fun ρ w => bnd (ma ρ w) fun a ρ w => bnd (mb ρ w) fun b ρ w => bnd (f a b ρ w) fun k ρ w => match k with
  | .bl true => bnd (mc ρ w) fun c ρ w => g b c ρ w
  | .bl false => some (.ok (.bl false) ρ w)
  | _ => none
end
end FL
set_option maxRecDepth 100000
set_option maxHeartbeats 4000000
namespace FL
open PySem PySem.Spec PyProof.Rows L2
section
variable {ω : Type} {X : Cx} {C : Cc} {W : Wd ω} {E : XK}
theorem tChain_of {r r' : R2} {f g : D → D → M ω D} (hf : OpS C W E r f) (hg : OpS C W E r' g) {ma mb mc : M ω D} (σ : L2.St) (H : Hp) (Q : VK) (h : gOf C W E (rD C) (mCh f g ma mb mc) σ H Q) :
    tChain r r' (gOf C W E (rD C) ma) (gOf C W E (rD C) mb) (gOf C W E (rD C) mc) σ H Q := by
  refine gOf.bind h fun da x Ht H1 Ht1 fp ρ1 w1 fp1 e1 s1 o1 r1 q1 h1 => ?_
  refine ⟨Ht1, ρ1, w1, fp1, e1, r1, At.bind h1 fun db y H2 Ht2 ρ2 w2 fp2 e2 s2 o2 r2 q2 h2 => ?_⟩
  refine hf da db x y Ht2 H2 fp2 ρ2 σ w2 _ e2 r2 (Rz.mono s2.th q1) q2 (At.bind h2 fun k z H3 Ht3 ρ3 w3 fp3 e3 s3 o3 r3 q3 h3 => ?_)
  cases k with
  | bl b =>
    refine ⟨b, q3, ?_⟩
    cases b with
    | true =>
      rw [if_pos rfl]
      refine ⟨Ht3, ρ3, w3, fp3, e3, r3, At.bind h3 fun dc u H4 Ht4 ρ4 w4 fp4 e4 s4 o4 r4 q4 h4 => ?_⟩
      exact hg db dc y u Ht4 H4 fp4 ρ4 σ w4 Q e4 r4 (Rz.mono (s3.th.trans s4.th) q2) q4 h4
    | false =>
      rw [if_neg Bool.false_ne_true]
      exact At.here h3 e3 r3 rfl
  | _ => exact h3.elim
theorem fe_chain {op op' : CmpOp} {r r' : R2} {f g : D → D → M ω D} {a b c : Expr} {pos : Pos} {ma mb mc : M ω D} (ho : OpR X (compareOp op) r) (hf : OpS C W E r f) (ho' : OpR X (compareOp op') r') (hg : OpS C W E r' g)
    (ha : PE X a (gOf C W E (rD C) ma)) (hb : PE X b (gOf C W E (rD C) mb)) (hc : PE X c (gOf C W E (rD C) mc)) (hm : lastMarks [op, op'] [b, c] = false := by with_unfolding_all rfl) :
    PE X (.Compare a [op, op'] [b, c] pos) (gOf C W E (rD C) (mCh f g ma mb mc)) := PE.imp (pe_chain ho ho' ha hb hc hm) (tChain_of hf hg)
theorem ft_chain {op op' : CmpOp} {r r' : R2} {f g : D → D → M ω D} {a b c : Expr} {pos : Pos} {ma mb mc : M ω D} (ho : OpR X (compareOp op) r) (hf : OpS C W E r f) (ho' : OpR X (compareOp op') r') (hg : OpS C W E r' g)
    (ha : PE X a (gOf C W E (rD C) ma)) (hb : PE X b (gOf C W E (rD C) mb)) (hc : PE X c (gOf C W E (rD C) mc)) (hm : lastMarks [op, op'] [b, c] = false := by with_unfolding_all rfl) :
    PT X (.Compare a [op, op'] [b, c] pos) (gOf C W E rB (mB (mCh f g ma mb mc))) := PT.imp (pt_chain ho ho' ha hb hc hm) fun σ H Q h => tB_of σ H Q h fun Q' h' => tChain_of hf hg σ H Q' h'
/-! ### unary -/
def D.neg : D → Option D
  | .int i => some (.int (-i))
  | _ => none
theorem fe_neg {a : Expr} {pos : Pos} {ma : M ω D} (ha : PE X a (gOf C W E (rD C) ma)) : PE X (.UnaryOp .USub a pos) (gOf C W E (rD C) (m1 (fun d => pu d.neg) ma)) :=
  PE.imp (pe_un un_neg ha) fun σ H Q h => gOf.bind h fun d v Ht H1 Ht1 fp ρ1 w1 fp1 e1 s1 o1 r1 q1 h1 => by
    cases d with
    | int i => exact ⟨i, q1, At.here h1 e1 r1 rfl⟩
    | _ => exact h1.elim
/-! ### slices -/
abbrev rO : RRt (Option Int) (Option Int) := fun _ _ _ _ a b => a = b
instance : RRk rO := ⟨fun _ h => h⟩
def mNoP : M ω (Option Int) := fun ρ w => some (.ok none ρ w)
def D.toI : D → Option Int
  | .int i => some i
  | _ => none
def mP (ma : M ω D) : M ω (Option Int) := m1 (fun d => pu (d.toI.map some)) ma
theorem fo_none : PO X none (gOf C W E rO mNoP) := ⟨fun pins s σ H Q I ⟨_, _, _, _, e, r, h⟩ => po_none.run pins s σ H Q I (At.here (RR := rO) h e r rfl)⟩
theorem fo_some {e : Expr} {ma : M ω D} (h : PE X e (gOf C W E (rD C) ma)) : PO X (some e) (gOf C W E rO (mP ma)) := ⟨fun pins s σ H Q I q => (po_some h).run pins s σ H Q I (gOf.bind q fun d v Ht H1 Ht1 fp ρ1 w1 fp1 e1 s1 o1 r1 q1 h1 => by
  cases d with
  | int i => exact ⟨i, q1, At.here (RR := rO) h1 e1 r1 rfl⟩
  | _ => exact h1.elim)⟩
def cutD (xs : List D) (lo hi : Option Int) : List D := (xs.drop (HT.sIx xs.length 0 lo)).take (HT.sIx xs.length xs.length hi - HT.sIx xs.length 0 lo)
theorem RzL.cut {H : Hp} {xs : List D} {vs : List V} (h : RzL C H xs vs) (lo hi : Option Int) : RzL C H (cutD xs lo hi) (cutV vs lo hi) := by
  unfold cutD cutV
  rw [h.len]
  exact (h.drop _).take _
/-- a slice of a tuple -/
def mSlT (ma : M ω D) (ml mh : M ω (Option Int)) : M ω D := fun ρ w => bnd (ma ρ w) fun d ρ w => bnd (ml ρ w) fun lo ρ w => bnd (mh ρ w) fun hi ρ w => match d with
  | .tup xs => some (.ok (.tup (cutD xs lo hi)) ρ w)
  | _ => none
theorem cut_all {xs : List D} {lo hi : Option Int} (h : HT.sIx xs.length 0 lo = 0 ∧ HT.sIx xs.length xs.length hi = xs.length) : cutD xs lo hi = xs := by
  unfold cutD
  rw [h.1, h.2]
  simp
theorem fe_slT {e : Expr} {lo hi : Option Expr} {p2 pos : Pos} {ma : M ω D} {ml mh : M ω (Option Int)} (he : PE X e (gOf C W E (rD C) ma)) (hl : PO X lo (gOf C W E rO ml)) (hu : PO X hi (gOf C W E rO mh)) :
    PE X (.Subscript e (.Slice lo hi none p2) pos) (gOf C W E (rD C) (mSlT ma ml mh)) := PE.imp (pe_slice sl_tupA he hl hu) fun σ H Q h => by
  refine gOf.bind h fun d x Ht H1 Ht1 fp ρ1 w1 fp1 e1 s1 o1 r1 q1 h1 => ?_
  refine ⟨Ht1, ρ1, w1, fp1, e1, r1, At.bind h1 fun l y H2 Ht2 ρ2 w2 fp2 e2 s2 o2 r2 q2 h2 => ?_⟩
  refine ⟨Ht2, ρ2, w2, fp2, e2, r2, At.bind h2 fun u z H3 Ht3 ρ3 w3 fp3 e3 s3 o3 r3 q3 h3 => ?_⟩
  have q2' : l = y := q2
  have q3' : u = z := q3
  subst q2' q3'
  cases d with
  | tup xs =>
    obtain ⟨a, vs, rfl, ha, la⟩ := Rz.mono (s2.th.trans s3.th) q1
    refine ⟨a, vs, rfl, .of (e3.sub _ _ ha), fun c => ?_, fun _ p np => ?_⟩
    · rw [← la.len] at c
      have h3' : At C W E (rD C) (some (.ok (.tup (cutD xs l u)) ρ3 w3)) Ht3 H3 fp3 σ Q := h3
      rw [cut_all c] at h3'
      exact At.here h3' e3 r3 ⟨a, vs, rfl, ha, la⟩
    · exact At.alloc (α := D) h3 e3 r3 np ⟨p, _, rfl, upd_same, RzL.mono (same_upd (none_of_sub e3.sub np)) (la.cut l u)⟩
  | _ => exact h3.elim
/-- a slice of a list: a new list -/
def mSlL (ma : M ω D) (ml mh : M ω (Option Int)) : M ω (List D) := fun ρ w => bnd (ma ρ w) fun d ρ w => bnd (ml ρ w) fun lo ρ w => bnd (mh ρ w) fun hi ρ w => match d with
  | .lst xs => some (.ok (cutD xs lo hi) ρ w)
  | _ => none
theorem fn_slL {e : Expr} {lo hi : Option Expr} {p2 pos : Pos} {ma : M ω D} {ml mh : M ω (Option Int)} (he : PE X e (gOf C W E (rD C) ma)) (hl : PO X lo (gOf C W E rO ml)) (hu : PO X hi (gOf C W E rO mh)) :
    PE X (.Subscript e (.Slice lo hi none p2) pos) (gOf C W E (rF C W) (mSlL ma ml mh)) := PE.imp (pe_slice sl_list he hl hu) fun σ H Q h => by
  refine gOf.bind h fun d x Ht H1 Ht1 fp ρ1 w1 fp1 e1 s1 o1 r1 q1 h1 => ?_
  refine ⟨Ht1, ρ1, w1, fp1, e1, r1, At.bind h1 fun l y H2 Ht2 ρ2 w2 fp2 e2 s2 o2 r2 q2 h2 => ?_⟩
  refine ⟨Ht2, ρ2, w2, fp2, e2, r2, At.bind h2 fun u z H3 Ht3 ρ3 w3 fp3 e3 s3 o3 r3 q3 h3 => ?_⟩
  have q2' : l = y := q2
  have q3' : u = z := q3
  subst q2' q3'
  cases d with
  | lst xs =>
    obtain ⟨a, vs, rfl, ha, la⟩ := Rz.mono (s2.th.trans s3.th) q1
    exact ⟨a, vs, rfl, .of (e3.sub _ _ ha), fun p np => At.fresh h3 e3 r3 np (la.cut l u)⟩
  | _ => exact h3.elim

/-! ### defs -/
inductive Rs (ω : Type) where
  | ok (d : D) (w : ω)
  | er (e : Er) (w : ω)
abbrev noF : Fp := fun _ => []
def FAt (C : Cc) (W : Wd ω) (E : XK) (r : Option (Rs ω)) (Ht H : Hp) (Q : VK) : Prop := match r with
  | some (.ok d w') => ∀ v H' Ht', Stp W Ht H noF Ht' H' → W.rel H' w' → Rz C Ht' d v → Q v H'
  | some (.er e w') => ∀ cls dx H' Ht', Stp W Ht H noF Ht' H' → W.rel H' w' → ErOk C Ht' H' e cls dx → E cls dx H'
  | none => False
/-- the promise of a def that computes g -/
def spF (C : Cc) (W : Wd ω) (n : Nat) (g : List D → ω → Option (Rs ω)) : Sp := fun vs H Q E =>
  vs.length = n ∧ ∃ Ht w ds, Same Ht H ∧ (∀ a, W.fp a → Ht a = none) ∧ W.rel H w ∧ RzL C Ht ds vs ∧ FAt C W E (g ds w) Ht H Q
def mCall (n : Nat) (g : List D → ω → Option (Rs ω)) (dds : List D) (ma : M ω (List D)) : M ω D := m1 (fun ds ρ w => if (ds ++ dds).length = n then (match g (ds ++ dds) w with
  | some (.ok d w') => some (.ok d ρ w')
  | some (.er e w') => some (.er e w')
  | none => none) else none) ma
theorem EnvO.pure {Ht H Ht' H' : Hp} {fp : Fp} {ρ : Ev} {σ : L2.St} {w : ω} (e : EnvO C W Ht H ρ σ fp) (r : W.rel H w) (s : Stp W Ht H noF Ht' H') : EnvO C W Ht' H' ρ σ fp ∧ Stp W Ht H fp Ht' H' := by
  have old : ∀ a, Ht a = none → H a ≠ none → Ht' a = none := fun a h1 h2 => by
    cases q : Ht' a with
    | none => rfl
    | some x =>
      rcases s.new a (by rw [q]; simp) with z | ⟨i, z⟩ | z
      · exact absurd h1 z
      · cases z
      · exact absurd z h2
  have nof : ∀ (a : Addr) (i : Nat), a ∉ noF i := fun a i z => by cases z
  refine ⟨⟨s.sub, e.len, fun i o h => ?_, fun i a h => ?_, e.one, fun a h => old a (e.wout a h) (W.dom r a h)⟩, ⟨fun a x h1 _ h3 => s.ch a x h1 (nof a) h3, s.th, s.sub, fun a h => ?_, s.keep⟩⟩
  · obtain ⟨v, h1, h2⟩ := e.slot i o h
    refine ⟨v, h1, Ow.imp s.th (fun a x ha q => s.ch a x (e.out i a ha).2.1 (nof a) q) h2⟩
  · obtain ⟨h1, h2, h3⟩ := e.out i a h
    exact ⟨old a h1 h3, h2, fun z => h3 (s.keep a z)⟩
  · rcases s.new a h with z | ⟨i, z⟩ | z
    · exact .inl z
    · cases z
    · exact .inr (.inr z)
theorem At.call {g : List D → ω → Option (Rs ω)} {n : Nat} {ds : List D} {vs : List V} {Ht H : Hp} {fp : Fp} {ρ : Ev} {σ : L2.St} {w : ω} {Q : VK} (hl : vs.length = n) (e : EnvO C W Ht H ρ σ fp) (r : W.rel H w) (q : RzL C Ht ds vs)
    (h : At C W E (rD C) (match g ds w with
      | some (.ok d w') => some (.ok d ρ w')
      | some (.er e w') => some (.er e w')
      | none => none) Ht H fp σ Q) : spF C W n g vs H Q E := by
  refine ⟨hl, Ht, w, ds, e.sub, e.wout, r, q, ?_⟩
  cases z : g ds w with
  | none =>
    rw [z] at h
    exact h.elim
  | some rr =>
    rw [z] at h
    cases rr with
    | ok d w' =>
      intro v H' Ht' s r' hv
      obtain ⟨e', s'⟩ := e.pure r s
      exact h v H' Ht' fp e' s' OwnS.refl r' hv
    | er er w' =>
      intro cls dx H' Ht' s r' hv
      obtain ⟨e', s'⟩ := e.pure r s
      exact h cls dx H' Ht' s' r' hv
theorem fe_call {CX : CXT} {k n : Nat} {f : Addr} {fd : FuncData} {ps : List Str} {x : Str} {p pos : Pos} {e : Expr} {es : List Expr} {g : List D → ω → Option (Rs ω)} {ma : M ω (List D)} {dvs : List V} {ds : List Value} {dds : List D}
    (F : FnOk X.prog X.w X.K X.mg X.base CX k f fd ps (spF C W n g)) (hr : Room k X.A) (hg : Gl X x) (hm : X.mg x = some (.ref f)) (hk : PySem.W.keepIn X.K (.ref f) = true) (hb : Binds X.K fd ps ds) (hd : Vals dvs ds) (hD : ∀ H, RzL C H dds dvs) (hx : Passes CX X E)
    (ha : PA X (e :: es) (gOf C W E (rL C) ma)) (hdb : (x == ("__debug__" : Str)) = false := by decide) (he : starEach (e :: es) X.env = (false, eval e X.env) :: starEach es X.env := by rfl) (hpl : (backTo pos (starEach es X.env)).any (·.1) = false := by rfl) :
    PE X (.Call (.Name x p) (e :: es) [] pos) (gOf C W E (rD C) (mCall n g dds ma)) := PE.imp (pe_call F hr hg hm hk hb hd hx ha hdb he hpl) fun σ H Q h => by
  refine gOf.bind h fun l v Ht H1 Ht1 fp ρ1 w1 fp1 e1 s1 o1 r1 q1 h1 => ?_
  by_cases c : (l ++ dds).length = n
  · rw [if_pos c] at h1
    have q2 := q1.app (hD Ht1)
    exact At.call (by rw [← q2.len]; exact c) e1 r1 q2 h1
  · rw [if_neg c] at h1
    exact h1.elim

end
end FL
set_option maxRecDepth 100000
set_option maxHeartbeats 4000000
namespace FL
open PySem PySem.Spec PyProof.Rows L2

/-! ### targets -/
abbrev Bd := D → Ev → Option Ev
def bdN (i : Nat) : Bd := fun d ρ => some (ρ.set i (some (.frz d)))
def bdL : List Bd → List D → Ev → Option Ev
  | [], [], ρ => some ρ
  | b :: bs, d :: ds, ρ => match b d ρ with
    | some ρ1 => bdL bs ds ρ1
    | none => none
  | _, _, _ => none
def bdT (bs : List Bd) : Bd := fun d ρ => match d with
  | .tup ds => bdL bs ds ρ
  | _ => none
section
variable {ω : Type} {X : Cx} {C : Cc} {W : Wd ω} {E : XK}
/-- a target stores what its meaning says, at the places js alone -/
def TgS (C : Cc) (W : Wd ω) (js : List Nat) (g : TG) (b : Bd) : Prop :=
  ∀ d x σ H Ht ρ fp ρ' Q, EnvO C W Ht H ρ σ fp → Rz C Ht d x → b d ρ = some ρ' →
    (∀ σ' fp', EnvO C W Ht H ρ' σ' fp' → OwnS H fp fp' → σ'.length = σ.length → (∀ i, i ∉ js → σ'[i]? = σ[i]?) → Q σ' H) → g x σ H Q
def TgsS (C : Cc) (W : Wd ω) (js : List Nat) (g : TGs) (bs : List Bd) : Prop :=
  ∀ ds xs σ H Ht ρ fp ρ' Q, EnvO C W Ht H ρ σ fp → RzL C Ht ds xs → bdL bs ds ρ = some ρ' →
    (∀ σ' fp', EnvO C W Ht H ρ' σ' fp' → OwnS H fp fp' → σ'.length = σ.length → (∀ i, i ∉ js → σ'[i]? = σ[i]?) → Q σ' H) → g xs σ H Q
/-- a slot is set to data -/
theorem EnvO.set {Ht H : Hp} {fp : Fp} {ρ : Ev} {σ : L2.St} {i : Nat} {d : D} {v : V} (e : EnvO C W Ht H ρ σ fp) (h : Rz C Ht d v) : EnvO C W Ht H (ρ.set i (some (.frz d))) (σ.set i (some v)) (fun j => if j = i then [] else fp j) := by
  refine ⟨e.sub, by rw [List.length_set, List.length_set]; exact e.len, fun j o hj => ?_, fun j a ha => ?_, fun j k a h1 h2 => ?_, e.wout⟩
  · by_cases hji : j = i
    · subst hji
      by_cases hlt : j < ρ.length
      · rw [List.getElem?_set_self hlt] at hj
        cases hj
        exact ⟨v, List.getElem?_set_self (by rw [← e.len]; exact hlt), h, if_pos rfl⟩
      · rw [List.getElem?_eq_none (by rw [List.length_set]; omega)] at hj
        cases hj
    · rw [List.getElem?_set_ne (Ne.symm hji)] at hj
      obtain ⟨u, h1, h2⟩ := e.slot j o hj
      refine ⟨u, by rw [List.getElem?_set_ne (Ne.symm hji)]; exact h1, ?_⟩
      show Ow C Ht H o u (if j = i then [] else fp j)
      rw [if_neg hji]
      exact h2
  · have ha' : a ∈ (if j = i then [] else fp j) := ha
    by_cases hji : j = i
    · rw [if_pos hji] at ha'
      cases ha'
    · rw [if_neg hji] at ha'
      exact e.out j a ha'
  · have h1' : a ∈ (if j = i then [] else fp j) := h1
    have h2' : a ∈ (if k = i then [] else fp k) := h2
    by_cases hj : j = i
    · rw [if_pos hj] at h1'
      cases h1'
    · by_cases hk : k = i
      · rw [if_pos hk] at h2'
        cases h2'
      · rw [if_neg hj] at h1'
        rw [if_neg hk] at h2'
        exact e.one j k a h1' h2'
theorem own_set {H : Hp} {fp : Fp} {i : Nat} : OwnS H fp (fun j => if j = i then [] else fp j) := fun j a ha => by
  have ha' : a ∈ (if j = i then [] else fp j) := ha
  by_cases hji : j = i
  · rw [if_pos hji] at ha'
    cases ha'
  · rw [if_neg hji] at ha'
    exact .inl ⟨j, ha'⟩
theorem OwnS.tr {H : Hp} {fp fp1 fp2 : Fp} (a : OwnS H fp fp1) (b : OwnS H fp1 fp2) : OwnS H fp fp2 := fun i c h => by
  rcases b i c h with ⟨j, hj⟩ | hn
  · exact a j c hj
  · exact .inr hn
theorem ts_name {i : Nat} : TgS C W [i] (gName i) (bdN i) := fun d x σ H Ht ρ fp ρ' Q e h q k => by
  cases q
  refine k _ _ (e.set h) own_set (List.length_set ..) fun j hj => ?_
  rw [List.getElem?_set_ne fun z => hj (by simp [z])]
theorem ts_nil : TgsS C W [] gNil [] := fun ds xs σ H Ht ρ fp ρ' Q e h q k => by
  cases ds with
  | nil =>
    cases q
    exact ⟨h, k _ _ e OwnS.refl rfl fun _ _ => rfl⟩
  | cons d ds => cases q
theorem ts_cons {js ks : List Nat} {g : TG} {gs : TGs} {b : Bd} {bs : List Bd} (h1 : TgS C W js g b) (h2 : TgsS C W ks gs bs) : TgsS C W (js ++ ks) (gCons g gs) (b :: bs) := fun ds xs σ H Ht ρ fp ρ' Q e h q k => by
  cases ds with
  | nil => cases q
  | cons d ds =>
    obtain ⟨v, r, rfl, r1, r2⟩ := h
    unfold bdL at q
    split at q
    · rename_i ρ1 hb
      refine ⟨v, r, rfl, h1 d v σ H Ht ρ fp ρ1 _ e r1 hb fun σ1 fp1 e1 o1 l1 n1 => h2 ds r σ1 H Ht ρ1 fp1 ρ' _ e1 r2 q fun σ2 fp2 e2 o2 l2 n2 => ?_⟩
      exact k σ2 fp2 e2 (o1.tr o2) (l2.trans l1) fun i hi => (n2 i fun z => hi (List.mem_append_right _ z)).trans (n1 i fun z => hi (List.mem_append_left _ z))
    · cases q
theorem bdL_len : ∀ {bs : List Bd} {ds : List D} {ρ ρ' : Ev}, bdL bs ds ρ = some ρ' → ds.length = bs.length
  | [], [], _, _, _ => rfl
  | [], _ :: _, _, _, h => by cases h
  | _ :: _, [], _, _, h => by cases h
  | b :: bs, d :: ds, ρ, ρ', h => by
    unfold bdL at h
    split at h
    · rw [List.length_cons, List.length_cons, bdL_len h]
    · cases h
theorem ts_tup {js : List Nat} {gs : TGs} {bs : List Bd} {n : Nat} (h : TgsS C W js gs bs) (hn : bs.length = n) : TgS C W js (gTup C.K n gs) (bdT bs) := fun d x σ H Ht ρ fp ρ' Q e r q k => by
  cases d with
  | tup ds =>
    obtain ⟨a, vs, rfl, ha, la⟩ := r
    exact ⟨a, vs, rfl, .of (e.sub _ _ ha), by rw [← la.len, ← hn]; exact bdL_len q, h ds vs σ H Ht ρ fp ρ' Q e la q k⟩
  | _ => cases q

/-! ### what is walked -/
def WkD {ω : Type} (C : Cc) (W : Wd ω) (J : It) (Ht : Hp) (ds : List D) : Prop := ∃ G Y, Walk J ds.length G Y ∧ (∀ H' w, Same Ht H' → W.rel H' w → G H') ∧
  ∀ i H' Ht' x H'' w, Same Ht Ht' → Same Ht' H' → W.rel H' w → i < ds.length → Y i H' x H'' → ∃ d, ds[i]? = some d ∧
    ((H'' = H' ∧ Rz C Ht' d x) ∨ ∃ T x1 x2 d1 d2, d = .tup [d1, d2] ∧ x = .ref T ∧ H' T = none ∧ H'' = upd H' T (.tup [x1, x2]) ∧ Rz C Ht' d1 x1 ∧ Rz C Ht' d2 x2)
abbrev rI (C : Cc) {ω : Type} (W : Wd ω) : RRt (List D) It := fun _ Ht _ _ ds J => WkD C W J Ht ds
instance {ω : Type} {W : Wd ω} : RRk (rI C W) := ⟨fun _ h => h⟩
theorem PI.imp {tg e : Expr} {t t' : TI} (h : PI X tg e t) (i : ∀ σ H Q, t' σ H Q → t σ H Q) : PI X tg e t' := ⟨fun pins s σ H Q I q => h.run pins s σ H Q I (i σ H Q q)⟩
theorem wk_list {Ht : Hp} {ds : List D} {vs : List V} {a : Addr} (ha : SqL C.K Ht a vs) (la : RzL C Ht ds vs) : WkD C W (Itl C.K a) Ht ds :=
  ⟨_, _, by rw [la.len]; exact walk_list, fun H' _ s _ => s.seq ha, fun i H' Ht' x H'' _ s _ _ hi y => by
    obtain ⟨d, h1, h2⟩ := la.getV y.2
    exact ⟨d, h1, .inl ⟨y.1, Rz.mono s h2⟩⟩⟩
theorem wk_tup {Ht : Hp} {ds : List D} {vs : List V} {a : Addr} (ha : SqT C.K Ht a vs) (la : RzL C Ht ds vs) : WkD C W (Itt C.K a) Ht ds :=
  ⟨_, _, by rw [la.len]; exact walk_tup, fun H' _ s _ => Same.sqT s ha, fun i H' Ht' x H'' _ s _ _ hi y => by
    obtain ⟨d, h1, h2⟩ := la.getV y.2
    exact ⟨d, h1, .inl ⟨y.1, Rz.mono s h2⟩⟩⟩
def mIts (ma : M ω D) : M ω (List D) := m1 (fun d => pu d.its) ma
theorem fi_seq {tg e : Expr} {ma : M ω D} (hK : X.K = C.K) (he : PE X e (gOf C W E (rD C) ma)) : PI X tg e (gOf C W E (rI C W) (mIts ma)) := ⟨fun pins s σ H R I h => by
  obtain ⟨Ht, ρ, w, fp, e0, r0, h0⟩ := h
  have h0' : At C W E (rI C W) (bnd (ma ρ w) fun d => pu d.its) Ht H fp σ R := h0
  cases q : ma ρ w with
  | none =>
    rw [q] at h0'
    exact h0'.elim
  | some rr =>
    rw [q] at h0'
    cases rr with
    | er er w' => exact (pi_list (tg := tg) he).run pins s σ H R I ⟨Ht, ρ, w, fp, e0, r0, by rw [q]; exact h0'⟩
    | ok d ρ1 w1 =>
      have seq : ∀ ys, d.its = some ys → (∀ H1 Ht1 v, Same Ht1 H1 → Rz C Ht1 d v → ∃ a vs, v = .ref a ∧ SqL C.K Ht1 a vs ∧ RzL C Ht1 ys vs) → wpAny (model X.prog X.w) X.A (eval e X.env) (fun v s1 => wpAny (model X.prog X.w) X.A (pyIter v) (PIE X pins σ tg R) X.xe s1) X.xe s := fun ys hy hz => by
        refine (pi_list (tg := tg) he).run pins s σ H R I ⟨Ht, ρ, w, fp, e0, r0, ?_⟩
        rw [q]
        intro v H1 Ht1 fp1 e1 s1 o1 r1 q1
        obtain ⟨a, vs, rfl, ha, la⟩ := hz H1 Ht1 v e1.sub q1
        refine ⟨a, rfl, ⟨vs, by rw [hK]; exact e1.sub.seq ha⟩, ?_⟩
        rw [hK]
        have h2 : At C W E (rI C W) (pu d.its ρ1 w1) Ht H fp σ R := h0'
        rw [hy] at h2
        exact h2 _ H1 Ht1 fp1 e1 s1 o1 r1 (wk_list ha la)
      cases d with
      | tup ys =>
        refine (pi_tup (tg := tg) he).run pins s σ H R I ⟨Ht, ρ, w, fp, e0, r0, ?_⟩
        rw [q]
        intro v H1 Ht1 fp1 e1 s1 o1 r1 q1
        obtain ⟨a, vs, rfl, ha, la⟩ := q1
        refine ⟨a, rfl, ⟨vs, SqT.of (e1.sub _ _ ha)⟩, ?_⟩
        rw [hK]
        exact h0' _ H1 Ht1 fp1 e1 s1 o1 r1 (wk_tup (SqT.of ha) la)
      | tpx ys =>
        refine (pi_tup (tg := tg) he).run pins s σ H R I ⟨Ht, ρ, w, fp, e0, r0, ?_⟩
        rw [q]
        intro v H1 Ht1 fp1 e1 s1 o1 r1 q1
        obtain ⟨a, vs, o, rfl, ha, _, la⟩ := q1
        have hT : SqT C.K Ht1 a vs := .inl (.inr ⟨o, ha⟩)
        refine ⟨a, rfl, ⟨vs, by rw [hK]; exact Same.sqT e1.sub hT⟩, ?_⟩
        rw [hK]
        exact h0' _ H1 Ht1 fp1 e1 s1 o1 r1 (wk_tup hT la)
      | lst ys => exact seq ys rfl fun H1 Ht1 v _ ⟨a, vs, q, ha, la⟩ => ⟨a, vs, q, .of ha, la⟩
      | scr ys => exact seq ys rfl fun H1 Ht1 v _ ⟨a, vs, q, ha, la⟩ => ⟨a, vs, q, ha, la⟩
      | _ => exact h0'.elim⟩
/-! range -/
def rngD (lo hi : Int) : List D := (List.range (hi - lo).toNat).map fun (i : Nat) => .int (lo + i)
theorem rngD_len (lo hi : Int) : (rngD lo hi).length = (hi - lo).toNat := by
  unfold rngD
  rw [List.length_map, List.length_range]
theorem wk_rng {Ht : Hp} {lo hi : Int} : WkD C W (Itr lo (hi - lo).toNat) Ht (rngD lo hi) :=
  ⟨_, _, by rw [rngD_len]; exact walk_range, fun _ _ _ _ => trivial, fun i H' Ht' x H'' _ s _ _ hi' y => by
    rw [rngD_len] at hi'
    refine ⟨.int (lo + i), ?_, .inl ⟨y.1, y.2⟩⟩
    unfold rngD
    rw [List.getElem?_map, List.getElem?_range hi']
    rfl⟩
def D.rng1 : List D → Option (List D)
  | [.int j] => if -(2 ^ 62) ≤ j ∧ j < 2 ^ 62 then some (rngD 0 j) else none
  | _ => none
def D.rng2 : List D → Option (List D)
  | [.int i, .int j] => if -(2 ^ 62) ≤ i ∧ i < 2 ^ 62 ∧ -(2 ^ 62) ≤ j ∧ j < 2 ^ 62 then some (rngD i j) else none
  | _ => none
theorem fi_range1 {tg a : Expr} {p pos : Pos} {ma : M ω (List D)} (hg : Gl X "range") (hm : X.mg "range" = none) (ha : PA X [a] (gOf C W E (rL C) ma)) (hs : starEach [a] X.env = [(false, eval a X.env)] := by rfl) :
    PI X tg (.Call (.Name "range" p) [a] [] pos) (gOf C W E (rI C W) (m1 (fun ds => pu (D.rng1 ds)) ma)) := PI.imp (pi_range1 hg hm ha hs) fun σ H R h => gOf.bind h fun d v Ht H1 Ht1 fp ρ1 w1 fp1 e1 s1 o1 r1 q1 h1 => by
  unfold pu at h1
  split at h1
  · rename_i l hl
    unfold D.rng1 at hl
    split at hl
    · rename_i j
      split at hl
      · rename_i c
        cases hl
        obtain ⟨u, rfl, hu⟩ := rzl1 q1
        have hu' : u = .int j := hu
        subst hu'
        refine ⟨j, rfl, c.1, c.2, ?_⟩
        have := At.here (RR := rI C W) h1 e1 r1 (wk_rng (C := C) (W := W))
        rwa [Int.sub_zero] at this
      · cases hl
    · cases hl
  · exact h1.elim
theorem fi_range2 {tg a b : Expr} {p pos : Pos} {ma : M ω (List D)} (hg : Gl X "range") (hm : X.mg "range" = none) (ha : PA X [a, b] (gOf C W E (rL C) ma)) (hs : starEach [a, b] X.env = [(false, eval a X.env), (false, eval b X.env)] := by rfl) (hs2 : starEach [b] X.env = [(false, eval b X.env)] := by rfl) :
    PI X tg (.Call (.Name "range" p) [a, b] [] pos) (gOf C W E (rI C W) (m1 (fun ds => pu (D.rng2 ds)) ma)) := PI.imp (pi_range2 hg hm ha hs hs2) fun σ H R h => gOf.bind h fun d v Ht H1 Ht1 fp ρ1 w1 fp1 e1 s1 o1 r1 q1 h1 => by
  unfold pu at h1
  split at h1
  · rename_i l hl
    unfold D.rng2 at hl
    split at hl
    · rename_i i j
      split at hl
      · rename_i c
        cases hl
        obtain ⟨u, u2, rfl, hu, hu2⟩ := rzl2 q1
        have hu' : u = .int i := hu
        have hu2' : u2 = .int j := hu2
        subst hu' hu2'
        exact ⟨i, j, rfl, c, At.here (RR := rI C W) h1 e1 r1 (wk_rng (C := C) (W := W))⟩
      · cases hl
    · cases hl
  · exact h1.elim
/-! enumerate, zip of lists -/
def enumD (xs : List D) : List D := xs.zipIdx.map fun p => .tup [.int p.2, p.1]
theorem enumD_len (xs : List D) : (enumD xs).length = xs.length := by
  unfold enumD
  rw [List.length_map, List.length_zipIdx]
theorem enumD_at (xs : List D) (i : Nat) : (enumD xs)[i]? = xs[i]?.map fun d => .tup [.int i, d] := by
  unfold enumD
  rw [List.getElem?_map, List.getElem?_zipIdx, Option.map_map]
  cases xs[i]? with
  | none => rfl
  | some d =>
    show some (D.tup [.int ((0 + i : Nat) : Int), d]) = some _
    rw [Nat.zero_add]
theorem wk_enum {Ht : Hp} {ds : List D} {vs : List V} {a : Addr} (ha : SqL C.K Ht a vs) (la : RzL C Ht ds vs) : WkD C W (Ite C.K a) Ht (enumD ds) :=
  ⟨_, _, by rw [enumD_len, la.len]; exact walk_enum, fun H' _ s _ => s.seq ha, fun i H' Ht' x H'' _ s _ _ hi y => by
    obtain ⟨T, x1, x2, rfl, n, rfl, h1, h2⟩ := y
    cases h1
    obtain ⟨d, h3, h4⟩ := la.getV h2
    exact ⟨.tup [.int i, d], by rw [enumD_at, h3]; rfl, .inr ⟨T, _, x2, .int i, d, rfl, rfl, n, rfl, rfl, Rz.mono s h4⟩⟩⟩
def D.enumL : List D → Option (List D)
  | [.lst xs] => some (enumD xs)
  | _ => none
theorem fi_enumL {e : Expr} {p pos tpos : Pos} {elts : List Expr} {kk : Nat} {ma : M ω (List D)} (hK : X.K = C.K) (hg : Gl X "enumerate") (hm : X.mg "enumerate" = none) (ha : PA X [e] (gOf C W E (rL C) ma)) (hs : starEach [e] X.env = [(false, eval e X.env)] := by rfl) :
    PI X (.Tuple elts kk tpos) (.Call (.Name "enumerate" p) [e] [] pos) (gOf C W E (rI C W) (m1 (fun ds => pu (D.enumL ds)) ma)) := PI.imp (pi_enum hg hm ha hs) fun σ H R h => gOf.bind h fun d v Ht H1 Ht1 fp ρ1 w1 fp1 e1 s1 o1 r1 q1 h1 => by
  unfold pu at h1
  split at h1
  · rename_i l hl
    unfold D.enumL at hl
    split at hl
    · rename_i xs
      cases hl
      obtain ⟨u, rfl, a, vs, rfl, ha, la⟩ := rzl1 q1
      refine ⟨a, vs, rfl, SqL.of (e1.sub _ _ ha), ?_⟩
      rw [hK]
      exact At.here (RR := rI C W) h1 e1 r1 (wk_enum (.of ha) la)
    · cases hl
  · exact h1.elim
def zipD (xs ys : List D) : List D := (xs.zip ys).map fun p => .tup [p.1, p.2]
theorem zipD_len (xs ys : List D) : (zipD xs ys).length = min xs.length ys.length := by
  unfold zipD
  rw [List.length_map, List.length_zip]
theorem zipD_at {xs ys : List D} {i : Nat} {a b : D} (h1 : xs[i]? = some a) (h2 : ys[i]? = some b) : (zipD xs ys)[i]? = some (.tup [a, b]) := by
  unfold zipD
  rw [List.getElem?_map, (List.getElem?_zip_eq_some (z := (a, b))).mpr ⟨h1, h2⟩]
  rfl
end
end FL
set_option maxRecDepth 100000
set_option maxHeartbeats 4000000
namespace FL
open PySem PySem.Spec PyProof.Rows L2

/-! ### comprehensions -/
def hidO : Option O → Option O
  | some (.frz d) => some (.frz d)
  | _ => none
def hidE (vs : List Nat) : Nat → Ev → Ev
  | _, [] => []
  | n, o :: ρ => (if vs.contains n = true then none else hidO o) :: hidE vs (n + 1) ρ
theorem hidE_len (vs : List Nat) : ∀ (n : Nat) (ρ : Ev), (hidE vs n ρ).length = ρ.length
  | _, [] => rfl
  | n, o :: ρ => by
    unfold hidE
    rw [List.length_cons, List.length_cons, hidE_len vs]
theorem hidE_get (vs : List Nat) : ∀ (n : Nat) (ρ : Ev) (i : Nat), (hidE vs n ρ)[i]? = ρ[i]?.map fun o => if vs.contains (n + i) = true then none else hidO o
  | _, [], i => by simp [hidE]
  | n, o :: ρ, 0 => rfl
  | n, o :: ρ, i + 1 => by
    unfold hidE
    rw [List.getElem?_cons_succ, List.getElem?_cons_succ, hidE_get vs (n + 1) ρ i, Nat.add_assoc, Nat.add_comm 1 i]
abbrev E0x : XK := fun _ _ _ => False
section
variable {ω : Type}
def lcGo (bd : Bd) (c : M ω Bool) (e : M ω D) (ρ ρh : Ev) : List D → List D → ω → Option (R ω (List D))
  | [], acc, w => some (.ok acc ρ w)
  | d :: ds, acc, w => match bd d ρh with
    | none => none
    | some ρ1 => match c ρ1 w with
      | some (.ok true ρ2 w1) => match e ρ2 w1 with
        | some (.ok x _ w2) => lcGo bd c e ρ ρh ds (acc ++ [x]) w2
        | _ => none
      | some (.ok false _ w1) => lcGo bd c e ρ ρh ds acc w1
      | _ => none
def mLc (src : M ω (List D)) (vs : List Nat) (bd : Bd) (c : M ω Bool) (e : M ω D) : M ω (List D) := fun ρ w => bnd (src ρ w) fun ds ρ w => if ds.length ≤ 16777216 then lcGo bd c e ρ (hidE vs 0 ρ) ds [] w else none
end
section
variable {ω : Type} {X : Cx} {C : Cc} {W : Wd ω} {E : XK}
theorem wipe_get {σ : L2.St} {i : Nat} : ∀ {vs : List Nat}, vs.contains i = false → (wipe σ vs)[i]? = σ[i]?
  | [], _ => rfl
  | v :: vs, h => by
    unfold wipe
    rw [List.contains_cons, Bool.or_eq_false_iff] at h
    have hne : v ≠ i := fun z => by
      subst z
      simp at h
    rw [List.getElem?_set_ne hne]
    exact wipe_get h.2
theorem wipe_in {σ σ' : L2.St} (l : σ'.length = σ.length) {i : Nat} : ∀ {vs : List Nat}, vs.contains i = true → (wipe σ' vs)[i]? = (wipe σ vs)[i]?
  | [], h => by cases h
  | v :: vs, h => by
    unfold wipe
    by_cases z : v = i
    · subst z
      by_cases hl : v < σ.length
      · rw [List.getElem?_set_self (by rw [wipe_length]; omega), List.getElem?_set_self (by rw [wipe_length]; omega)]
      · rw [List.getElem?_eq_none (by rw [List.length_set, wipe_length]; omega), List.getElem?_eq_none (by rw [List.length_set, wipe_length]; omega)]
    · rw [List.getElem?_set_ne z, List.getElem?_set_ne z]
      rw [List.contains_cons, Bool.or_eq_true] at h
      rcases h with h | h
      · exact absurd (by simpa using h : i = v).symm z
      · exact wipe_in l h
theorem wipe_eq {σ σ' : L2.St} {vs js : List Nat} (l : σ'.length = σ.length) (hj : ∀ j ∈ js, vs.contains j = true) (h : ∀ i, i ∉ js → σ'[i]? = (wipe σ vs)[i]?) : wipe σ' vs = wipe σ vs := by
  apply List.ext_getElem?
  intro i
  by_cases z : vs.contains i = true
  · exact wipe_in l z
  · have z' : vs.contains i = false := by simpa using z
    rw [wipe_get z', h i fun hi => z (hj i hi)]
theorem EnvO.hide {Ht H : Hp} {fp : Fp} {ρ : Ev} {σ : L2.St} (e : EnvO C W Ht H ρ σ fp) (vs : List Nat) : EnvO C W Ht H (hidE vs 0 ρ) (wipe σ vs) noF := by
  refine ⟨e.sub, by rw [hidE_len, wipe_length]; exact e.len, fun i o h => ?_, fun i a h => (by cases h), fun i j a h => (by cases h), e.wout⟩
  rw [hidE_get, Nat.zero_add] at h
  cases q : ρ[i]? with
  | none =>
    rw [q] at h
    cases h
  | some oo =>
    rw [q] at h
    have h' : (if vs.contains i = true then none else hidO oo) = some o := Option.some.inj h
    by_cases z : vs.contains i = true
    · rw [if_pos z] at h'
      cases h'
    · rw [if_neg z] at h'
      cases oo with
      | none => cases h'
      | some oo =>
        cases oo with
        | frz d =>
          cases h'
          obtain ⟨v, h1, h2⟩ := e.slot i _ q
          exact ⟨v, by rw [wipe_get (by simpa using z)]; exact h1, h2.1, rfl⟩
        | _ => cases h'
/-- one test of a comprehension, none -/
def mTrue : M ω Bool := fun ρ w => some (.ok true ρ w)
theorem PTs.imp {X : Cx} {e : List Expr} {t t' : TT} (h : PTs X e t) (i : ∀ σ H Q, t' σ H Q → t σ H Q) : PTs X e t' := ⟨fun pins s σ H Q I q => h.run pins s σ H Q I (i σ H Q q)⟩
theorem fts_nil {X : Cx} : PTs X [] (gOf C W E rB mTrue) := PTs.imp pts_nil fun _ _ _ ⟨_, _, _, _, e, r, h⟩ => At.here (RR := rB) h e r rfl
/-- what stands between two turns of a comprehension whose new list is at D -/
structure LcP (C : Cc) (W : Wd ω) (Ht0 H0 : Hp) (fp0 : Fp) (ρ : Ev) (σ : L2.St) (fp : Fp) (Da : Addr) (acc : List D) (w : ω) (Ht H : Hp) (vs : List V) : Prop where
  env : EnvO C W Ht H ρ σ fp
  stp : Stp W Ht0 H0 fp0 Ht H
  rel : W.rel H w
  at_ : H Da = some (.lst vs)
  lis : RzL C Ht acc vs
  hid : Ht Da = none
  new : H0 Da = none
  nw : ¬ W.fp Da
  nf : ∀ i, Da ∉ fp i
theorem LcP.step {Ht0 H0 : Hp} {fp0 : Fp} {ρ : Ev} {σ : L2.St} {fp : Fp} {Da : Addr} {acc : List D} {w w' : ω} {Ht H Ht' H' : Hp} {vs : List V} (o : OwnS H0 fp0 fp) (p : LcP C W Ht0 H0 fp0 ρ σ fp Da acc w Ht H vs) (s : Stp W Ht H noF Ht' H') (r : W.rel H' w') : LcP C W Ht0 H0 fp0 ρ σ fp Da acc w' Ht' H' vs := by
  obtain ⟨e', s'⟩ := p.env.pure p.rel s
  refine ⟨e', p.stp.trans o s', r, s.ch Da _ p.nw (fun i z => by cases z) p.at_, RzL.mono s.th p.lis, ?_, p.new, p.nw, p.nf⟩
  cases q : Ht' Da with
  | none => rfl
  | some x =>
    rcases s.new Da (by rw [q]; simp) with z | ⟨i, z⟩ | z
    · exact absurd p.hid z
    · cases z
    · rw [p.at_] at z
      cases z
theorem upd_env {Ht H : Hp} {fp : Fp} {ρ : Ev} {σ : L2.St} {w : ω} {a : Addr} {o u : HO} (e : EnvO C W Ht H ρ σ fp) (r : W.rel H w) (ha : H a = some o) (hn : Ht a = none) (hw : ¬ W.fp a) (hf : ∀ i, a ∉ fp i) (hx : ∀ φ, o ≠ .ext φ := by intro φ z; cases z) :
    EnvO C W Ht (upd H a u) ρ σ fp ∧ W.rel (upd H a u) w ∧ (∀ Ht0 H0 fp0, Stp W Ht0 H0 fp0 Ht H → H0 a = none → Stp W Ht0 H0 fp0 Ht (upd H a u)) := by
  have sub : Same Ht (upd H a u) := fun b x z => by
    rw [upd_ne fun y => by subst y; rw [hn] at z; cases z]
    exact e.sub b x z
  have keep : ∀ b, upd H a u b = none → H b = none := fun b h => upd_none h
  refine ⟨⟨sub, e.len, fun i o' h => ?_, fun i b h => ?_, e.one, e.wout⟩, W.put hw (fun φ z => hx φ (Option.some.inj (ha.symm.trans z))) r, fun Ht0 H0 fp0 s h0 => ⟨fun b x h1 h2 h3 => ?_, s.th, sub, s.new, fun b h => s.keep b (keep b h)⟩⟩
  · obtain ⟨v, h1, h2⟩ := e.slot i o' h
    exact ⟨v, h1, Ow.imp (Same.refl _) (fun b x hb q => by rw [upd_ne fun y => hf i (by rw [← y]; exact hb)]; exact q) h2⟩
  · obtain ⟨h1, h2, h3⟩ := e.out i b h
    exact ⟨h1, h2, fun z => h3 (keep b z)⟩
  · rw [upd_ne fun y => by subst y; rw [h0] at h3; cases h3]
    exact s.ch b x h1 h2 h3
theorem LcP.push {Ht0 H0 : Hp} {fp0 : Fp} {ρ : Ev} {σ : L2.St} {fp : Fp} {Da : Addr} {acc : List D} {w : ω} {Ht H : Hp} {vs : List V} {d : D} {v : V} (p : LcP C W Ht0 H0 fp0 ρ σ fp Da acc w Ht H vs) (h : Rz C Ht d v) :
    LcP C W Ht0 H0 fp0 ρ σ fp Da (acc ++ [d]) w Ht (upd H Da (.lst (vs ++ [v]))) (vs ++ [v]) := by
  obtain ⟨e, r, s⟩ := upd_env (u := .lst (vs ++ [v])) p.env p.rel p.at_ p.hid p.nw p.nf
  exact ⟨e, s _ _ _ p.stp p.new, r, upd_same, p.lis.app ⟨v, [], rfl, h, rfl⟩, p.hid, p.new, p.nw, p.nf⟩
theorem lc_len {bd : Bd} {c : M ω Bool} {e : M ω D} {ρ ρh : Ev} : ∀ {ds acc : List D} {w : ω} {l : List D} {ρ' : Ev} {w' : ω}, lcGo bd c e ρ ρh ds acc w = some (.ok l ρ' w') → True := fun _ => trivial
theorem tLc_of {own : List (Str × Nat)} {src : M ω (List D)} {g : TG} {bd : Bd} {js : List Nat} {mc : M ω Bool} {me : M ω D} (hb : TgS C W js g bd) (hj : js.all (fun j => (own.map (·.2)).contains j) = true) (σ : L2.St) (H : Hp) (Q : VK)
    (h : gOf C W E (rF C W) (mLc src (own.map (·.2)) bd mc me) σ H Q) : tLc (gOf C W E (rI C W) src) g (gOf C W E0x rB mc) (gOf C W E0x (rD C) me) (own.map (·.2)) σ H Q := by
  refine gOf.bind h fun ds J Ht H1 Ht1 fp0 ρ w1 fp e1 s1 o1 r1 q1 h1 => ?_
  intro Da nD
  have hz : ds.length ≤ 16777216 := Decidable.byContradiction fun c => by
    rw [if_neg c] at h1
    exact h1.elim
  rw [if_pos hz] at h1
  obtain ⟨G, Y, wk, hG, hY⟩ := q1
  have a0 := alloc_own (o := .lst []) e1 r1 nD
  have p0 : LcP C W Ht1 H1 fp ρ σ fp Da [] w1 Ht1 (upd H1 Da (.lst [])) [] := ⟨a0.1, a0.2.1, rel_upd r1 nD, upd_same, rfl, a0.2.2.1, nD, a0.2.2.2.1, a0.2.2.2.2⟩
  have hjs : ∀ j ∈ js, (own.map (·.2)).contains j = true := fun j hm => List.all_eq_true.mp hj j hm
  refine lc_it wk (fun i H => ∃ Ht' w' acc vs, LcP C W Ht1 H1 fp ρ σ fp Da acc w' Ht' H vs ∧ Same Ht1 Ht' ∧ acc.length ≤ i ∧ At C W E (rF C W) (lcGo bd mc me ρ (hidE (own.map (·.2)) 0 ρ) (ds.drop i) acc w') Ht1 H1 fp σ Q) ⟨Ht1, w1, [], [], p0, Same.refl _, Nat.le_refl _, h1⟩ (fun i H hi ⟨Ht', w', acc, vs, p, st, _, _⟩ => hG H w' (st.trans p.env.sub) p.rel) ?_ ?_
  · rintro i x H2 H3 hi ⟨Ht', w', acc, vs, p, st, la, ha⟩ y
    obtain ⟨d, hd, hx⟩ := hY i H2 Ht' x H3 w' st p.env.sub p.rel hi y
    have hdr : ds.drop i = d :: ds.drop (i + 1) := by
      rw [List.drop_eq_getElem_cons hi]
      have := List.getElem?_eq_getElem hi
      rw [this] at hd
      cases hd
      rfl
    rw [hdr] at ha
    -- the item stands in the heap
    have item : ∃ Ht3, LcP C W Ht1 H1 fp ρ σ fp Da acc w' Ht3 H3 vs ∧ Same Ht1 Ht3 ∧ Rz C Ht3 d x := by
      rcases hx with ⟨rfl, hx⟩ | ⟨T, x1, x2, d1, d2, rfl, rfl, nT, rfl, h1, h2⟩
      · exact ⟨Ht', p, st, hx⟩
      · have nt := none_of_sub p.env.sub nT
        have al := alloc_env (fp := noF) (ρ := []) (σ := []) (o := .tup [x1, x2]) (C := C) (W := W) (w := w') ⟨p.env.sub, rfl, fun i o h => by simp at h, fun i a h => (by cases h), fun i j a h => (by cases h), p.env.wout⟩ p.rel nT
        exact ⟨_, p.step OwnS.refl al.2 (rel_upd p.rel nT), st.trans (same_upd nt), T, _, rfl, upd_same, _, _, rfl, Rz.mono (same_upd nt) h1, _, _, rfl, Rz.mono (same_upd nt) h2, rfl⟩
    obtain ⟨Ht3, p3, st3, hx3⟩ := item
    have hid := p3.env.hide (own.map (·.2))
    unfold lcGo at ha
    split at ha
    · exact ha.elim
    · rename_i ρ1 hb1
      refine hb d x _ H3 Ht3 _ noF ρ1 _ hid hx3 hb1 fun σ2 fp2 e2 o2 l2 n2 => ⟨wipe_eq (l2.trans (wipe_length ..)) hjs n2, ?_⟩
      have fresh : ∀ i a, a ∉ fp2 i → True := fun _ _ _ => trivial
      have nofp : ∀ {fp3 : Fp}, OwnS H3 noF fp3 → (∀ i a, a ∈ fp3 i → H3 a ≠ none) → ∀ i a, a ∉ fp3 i := fun o z i a h => by
        rcases o i a h with ⟨j, hj⟩ | hn
        · cases hj
        · exact z i a h hn
      refine ⟨Ht3, ρ1, w', fp2, e2, p3.rel, ?_⟩
      have emp : ∀ i a, a ∉ fp2 i := nofp o2 fun i a h => (e2.out i a h).2.2
      -- the test
      cases qc : mc ρ1 w' with
      | none =>
        rw [qc] at ha
        exact ha.elim
      | some rc =>
        rw [qc] at ha
        cases rc with
        | er er w4 => exact ha.elim
        | ok k ρ4 w4 =>
          intro b H4 Ht4 fp4 e4 s4 o4 r4 q4
          have q4' : k = b := q4
          subst q4'
          have s4' : Stp W Ht3 H3 noF Ht4 H4 := ⟨fun a x h1 _ h3 => s4.ch a x h1 (emp · a) h3, s4.th, s4.sub, fun a h => by
            rcases s4.new a h with z | ⟨i, z⟩ | z
            · exact .inl z
            · exact absurd z (emp i a)
            · exact .inr (.inr z), s4.keep⟩
          have p4 := p3.step (w' := w4) OwnS.refl s4' r4
          cases k with
          | false =>
            rw [if_neg Bool.false_ne_true]
            exact ⟨Ht4, w4, acc, vs, p4, st3.trans s4.th, Nat.le_succ_of_le la, ha⟩
          | true =>
            rw [if_pos rfl]
            refine ⟨Ht4, ρ4, w4, fp4, e4, r4, ?_⟩
            have ha' : At C W E (rF C W) (match me ρ4 w4 with
              | some (.ok x _ w2) => lcGo bd mc me ρ (hidE (own.map (·.2)) 0 ρ) (ds.drop (i + 1)) (acc ++ [x]) w2
              | _ => none) Ht1 H1 fp σ Q := ha
            cases qe : me ρ4 w4 with
            | none =>
              rw [qe] at ha'
              exact ha'.elim
            | some re =>
              rw [qe] at ha'
              cases re with
              | er er w5 => exact ha'.elim
              | ok d5 ρ5 w5 =>
                intro v H5 Ht5 fp5 e5 s5 o5 r5 q5
                have emp4 : ∀ i a, a ∉ fp4 i → True := fun _ _ _ => trivial
                have own4 : ∀ i a, a ∈ fp4 i → H3 a = none := fun i a h => by
                  rcases o4 i a h with ⟨j, hj⟩ | hn
                  · exact absurd hj (emp j a)
                  · exact hn
                have s5' : Stp W Ht3 H3 noF Ht5 H5 := ⟨fun a x h1 _ h3 => s5.ch a x h1 (fun i z => by rw [own4 i a z] at h3; cases h3) (s4'.ch a x h1 (fun i z => by cases z) h3), s4.th.trans s5.th, s5.sub, fun a h => by
                  rcases s5.new a h with z | ⟨i, z⟩ | z
                  · exact s4'.new a z
                  · exact .inr (.inr (own4 i a z))
                  · exact .inr (.inr (s4.keep a z)), fun a h => s4.keep a (s5.keep a h)⟩
                have p5 := p3.step (w' := w5) OwnS.refl s5' r5
                refine ⟨vs, p5.at_, ?_, Ht5, w5, acc ++ [d5], vs ++ [v], p5.push q5, st3.trans s5'.th, by rw [List.length_append]; exact Nat.succ_le_succ la, ha'⟩
                rw [← p5.lis.len, sizeLine24]
                omega
  · rintro H2 ⟨Ht', w', acc, vs, p, st, la, ha⟩
    rw [List.drop_length] at ha
    exact ha (.ref Da) H2 Ht' fp p.env p.stp OwnS.refl p.rel ⟨Da, vs, rfl, p.at_, p.lis, p.hid, p.new, p.nw, p.nf⟩
theorem fn_lc {elt tg iter : Expr} {ifs : List Expr} {scope : Scope} {own : List (Str × Nat)} {pos : Pos} {src : M ω (List D)} {g : TG} {bd : Bd} {js : List Nat} {mc : M ω Bool} {me : M ω D} (hc : X.calm = true) (hN : X.N.Nodup) (hi : PI X tg iter (gOf C W E (rI C W) src)) (ok : BlkOk X.N X.env.scope scope own)
    (hg : ∀ (s : Shared) (H : Hp) (Cd : Addr) (cl : List (Str × Addr)) (fp : List Addr), PG (X.blk s H scope (compEnvC scope cl Cd X.env) fp) tg g) (hb : TgS C W js g bd) (hj : js.all (fun j => (own.map (·.2)).contains j) = true)
    (ht : ∀ (s : Shared) (H : Hp) (Cd : Addr) (cl : List (Str × Addr)) (fp : List Addr), PTs (X.blk s H scope (compEnvC scope cl Cd X.env) fp) ifs (gOf C W E0x rB mc))
    (he : ∀ (s : Shared) (H : Hp) (Cd : Addr) (cl : List (Str × Addr)) (fp : List Addr), PE (X.blk s H scope (compEnvC scope cl Cd X.env) fp) elt (gOf C W E0x (rD C) me)) (hs : ∀ x, foldedSetIterable iter X.env x = pure x := by intro _; rfl) :
    PE X (.ListComp elt [⟨tg, iter, ifs, 0⟩] scope pos) (gOf C W E (rF C W) (mLc src (own.map (·.2)) bd mc me)) := PE.imp (pe_lc hc hN hi ok hg ht he hs) (tLc_of hb hj)
end
end FL
set_option maxRecDepth 100000
set_option maxHeartbeats 4000000
namespace FL
open PySem PySem.Spec PyProof.Rows L2

/-! ### statements -/
inductive Fl (ω : Type) where
  | nx (ρ : Ev) (w : ω)
  | rt (d : D) (w : ω)
  | bk (ρ : Ev) (w : ω)
  | ct (ρ : Ev) (w : ω)
  | er (e : Er) (w : ω)
  | rn (ds : List D) (w : ω)
abbrev SM (ω : Type) := Ev → ω → Option (Fl ω)
section
variable {ω : Type} (C : Cc) (W : Wd ω) (E : XK)
def SAt (r : Option (Fl ω)) (Ht H : Hp) (fp : Fp) (Dn : Ends) : Prop := match r with
  | some (.nx ρ' w') => ∀ σ' H' Ht' fp', EnvO C W Ht' H' ρ' σ' fp' → Stp W Ht H fp Ht' H' → OwnS H fp fp' → W.rel H' w' → Dn.nx σ' H'
  | some (.bk ρ' w') => ∀ σ' H' Ht' fp', EnvO C W Ht' H' ρ' σ' fp' → Stp W Ht H fp Ht' H' → OwnS H fp fp' → W.rel H' w' → Dn.bk σ' H'
  | some (.ct ρ' w') => ∀ σ' H' Ht' fp', EnvO C W Ht' H' ρ' σ' fp' → Stp W Ht H fp Ht' H' → OwnS H fp fp' → W.rel H' w' → Dn.ct σ' H'
  | some (.rt d w') => ∀ v H' Ht', Stp W Ht H fp Ht' H' → W.rel H' w' → Rz C Ht' d v → Dn.rt v H'
  | some (.er e w') => ∀ cls dx H' Ht', Stp W Ht H fp Ht' H' → W.rel H' w' → ErOk C Ht' H' e cls dx → E cls dx H'
  | some (.rn ds w') => ∀ a vs H' Ht', Stp W Ht H fp Ht' H' → W.rel H' w' → H' a = some (.lst vs) → RzL C Ht' ds vs → Ht' a = none → (H a = none ∨ ∃ i, a ∈ fp i) → ¬ W.fp a → Dn.rt (.ref a) H'
  | none => False
def sOf (m : SM ω) : TS := fun Dn σ H => ∃ Ht ρ w fp, EnvO C W Ht H ρ σ fp ∧ W.rel H w ∧ SAt C W E (m ρ w) Ht H fp Dn
end
section
variable {ω : Type}
def sNext : SM ω := fun ρ w => some (.nx ρ w)
def sSeq (a b : SM ω) : SM ω := fun ρ w => match a ρ w with
  | some (.nx ρ w) => b ρ w
  | r => r
/-- with a result in hand -/
def sB {α : Type} (r : Option (R ω α)) (k : α → SM ω) : Option (Fl ω) := match r with
  | some (.ok d ρ w) => k d ρ w
  | some (.er e w) => some (.er e w)
  | none => none
def sAsg (ma : M ω D) (bd : Bd) : SM ω := fun ρ w => sB (ma ρ w) fun d ρ w => match bd d ρ with
  | some ρ' => some (.nx ρ' w)
  | none => none
def sOwn (i : Nat) (ml : M ω (List D)) : SM ω := fun ρ w => sB (ml ρ w) fun ds ρ w => some (.nx (ρ.set i (some (.lst ds))) w)
def sDrop (ma : M ω D) : SM ω := fun ρ w => sB (ma ρ w) fun _ ρ w => some (.nx ρ w)
def sRet (ma : M ω D) : SM ω := fun ρ w => sB (ma ρ w) fun d _ w => some (.rt d w)
def sRetL (ml : M ω (List D)) : SM ω := fun ρ w => sB (ml ρ w) fun ds _ w => some (.rn ds w)
def sRetN : SM ω := fun _ w => some (.rt .non w)
def sBrk : SM ω := fun ρ w => some (.bk ρ w)
def sCnt : SM ω := fun ρ w => some (.ct ρ w)
def sNo : SM ω := fun _ _ => none
def sIf (mc : M ω Bool) (a b : SM ω) : SM ω := fun ρ w => sB (mc ρ w) fun k ρ w => if k = true then a ρ w else b ρ w
/-- the slots' own things seen as data, for a look -/
def fzE (ρ : Ev) : Ev := ρ.map fun o => o.map fun o => .frz o.toD
def mBor (mc : M ω Bool) : M ω Bool := fun ρ w => match mc (fzE ρ) w with
  | some (.ok b _ w') => some (.ok b ρ w')
  | some (.er e w') => some (.er e w')
  | none => none
def mBorF (me : M ω D) : M ω D := fun ρ w => match me (fzE ρ) w with
  | some (.ok d _ w') => if d.flV.isSome = true then some (.ok d ρ w') else none
  | some (.er e w') => some (.er e w')
  | none => none
def sFor (body : SM ω) (bd : Bd) : List D → SM ω
  | [], ρ, w => some (.nx ρ w)
  | d :: ds, ρ, w => match bd d ρ with
    | none => none
    | some ρ1 => match body ρ1 w with
      | some (.nx ρ2 w2) => sFor body bd ds ρ2 w2
      | some (.ct ρ2 w2) => sFor body bd ds ρ2 w2
      | some (.bk ρ2 w2) => some (.nx ρ2 w2)
      | r => r
def sForM (src : M ω (List D)) (bd : Bd) (body : SM ω) : SM ω := fun ρ w => sB (src ρ w) fun ds ρ w => sFor body bd ds ρ w
/-- a while of at most n turns -/
def sWh (mc : M ω Bool) (body : SM ω) : Nat → SM ω
  | 0, _, _ => none
  | n + 1, ρ, w => sB (mc ρ w) fun k ρ w => if k = true then (match body ρ w with
    | some (.nx ρ2 w2) => sWh mc body n ρ2 w2
    | some (.ct ρ2 w2) => sWh mc body n ρ2 w2
    | some (.bk ρ2 w2) => some (.nx ρ2 w2)
    | r => r) else some (.nx ρ w)
end
section
variable {ω : Type} {X : Cx} {C : Cc} {W : Wd ω} {E : XK}
theorem own_up {Ht H Ht1 H1 : Hp} {fp fp1 : Fp} {a : Addr} (s : Stp W Ht H fp Ht1 H1) (o : OwnS H fp fp1) (h : H1 a = none ∨ ∃ i, a ∈ fp1 i) : H a = none ∨ ∃ i, a ∈ fp i := by
  rcases h with h | ⟨i, h⟩
  · exact .inl (s.keep a h)
  · exact (o i a h).symm
theorem SAt.shift {r : Option (Fl ω)} {Ht H Ht1 H1 : Hp} {fp fp1 : Fp} {Dn : Ends} (s : Stp W Ht H fp Ht1 H1) (o : OwnS H fp fp1) (h : SAt C W E r Ht H fp Dn) : SAt C W E r Ht1 H1 fp1 Dn := by
  cases r with
  | none => exact h
  | some r =>
    cases r with
    | nx ρ w => exact fun σ' H' Ht' fp' e1 s1 o1 r1 => h σ' H' Ht' fp' e1 (s.trans o s1) (o.trans s o1) r1
    | bk ρ w => exact fun σ' H' Ht' fp' e1 s1 o1 r1 => h σ' H' Ht' fp' e1 (s.trans o s1) (o.trans s o1) r1
    | ct ρ w => exact fun σ' H' Ht' fp' e1 s1 o1 r1 => h σ' H' Ht' fp' e1 (s.trans o s1) (o.trans s o1) r1
    | rt d w => exact fun v H' Ht' s1 r1 q => h v H' Ht' (s.trans o s1) r1 q
    | er e w => exact fun cls dx H' Ht' s1 r1 q => h cls dx H' Ht' (s.trans o s1) r1 q
    | rn ds w => exact fun a vs H' Ht' s1 r1 q1 q2 q3 q4 q5 => h a vs H' Ht' (s.trans o s1) r1 q1 q2 q3 (own_up s o q4) q5
theorem SAt.here {ρ : Ev} {w : ω} {Ht H : Hp} {fp : Fp} {σ : L2.St} {Dn : Ends} (h : SAt C W E (some (.nx ρ w)) Ht H fp Dn) (e : EnvO C W Ht H ρ σ fp) (r : W.rel H w) : Dn.nx σ H := h σ H Ht fp e (Stp.refl e.sub) OwnS.refl r
/-- an expression ahead -/
theorem sB.bind {α β : Type} {RA : RRt α β} {r : Option (R ω α)} {k : α → SM ω} {Ht H : Hp} {fp : Fp} {σ : L2.St} {Dn : Ends} {T : β → Hp → Prop} (h : SAt C W E (sB r k) Ht H fp Dn)
    (hk : ∀ d v H1 Ht1 ρ1 w1 fp1, EnvO C W Ht1 H1 ρ1 σ fp1 → Stp W Ht H fp Ht1 H1 → OwnS H fp fp1 → W.rel H1 w1 → RA H Ht1 H1 fp1 d v → SAt C W E (k d ρ1 w1) Ht1 H1 fp1 Dn → T v H1) : At C W E RA r Ht H fp σ T := by
  cases r with
  | none => exact h
  | some r =>
    cases r with
    | er e w' => exact h
    | ok d ρ1 w1 =>
      intro v H1 Ht1 fp1 e1 s1 o1 r1 ra
      exact hk d v H1 Ht1 ρ1 w1 fp1 e1 s1 o1 r1 ra (SAt.shift s1 o1 h)
theorem s_nil : PSs X [] (sOf C W E sNext) := PSs.imp pss_nil fun _ _ _ ⟨_, _, _, _, e, r, h⟩ => SAt.here h e r
theorem s_pass {pos : Pos} : PS X (.Pass pos) (sOf C W E sNext) := PS.imp ps_pass fun _ _ _ ⟨_, _, _, _, e, r, h⟩ => SAt.here h e r
theorem s_cons {st : Stmt} {rest : List Stmt} {a b : SM ω} (h1 : PS X st (sOf C W E a)) (h2 : PSs X rest (sOf C W E b)) : PSs X (st :: rest) (sOf C W E (sSeq a b)) := PSs.imp (pss_cons h1 h2) fun Dn σ H ⟨Ht, ρ, w, fp, e, r, h⟩ => by
  refine ⟨Ht, ρ, w, fp, e, r, ?_⟩
  unfold sSeq at h
  cases q : a ρ w with
  | none =>
    rw [q] at h
    exact h
  | some rr =>
    rw [q] at h
    cases rr with
    | nx ρ1 w1 => exact fun σ1 H1 Ht1 fp1 e1 s1 o1 r1 => ⟨Ht1, ρ1, w1, fp1, e1, r1, SAt.shift s1 o1 h⟩
    | _ => exact h
theorem s_asgT {st : Stmt} {te : TE} {g : TG} {ma : M ω D} {js : List Nat} {bd : Bd} (h : PS X st (tAsg te g)) (hi : ∀ σ H Q, gOf C W E (rD C) ma σ H Q → te σ H Q) (hb : TgS C W js g bd) : PS X st (sOf C W E (sAsg ma bd)) := PS.imp h fun Dn σ H ⟨Ht, ρ, w, fp, e, r, h⟩ => by
  refine hi _ _ _ ⟨Ht, ρ, w, fp, e, r, sB.bind h fun d v H1 Ht1 ρ1 w1 fp1 e1 s1 o1 r1 q1 h1 => ?_⟩
  split at h1
  · rename_i ρ' hb'
    exact hb d v σ H1 Ht1 ρ1 fp1 ρ' _ e1 q1 hb' fun σ' fp' e' o' _ _ => h1 σ' H1 Ht1 fp' e' (Stp.refl e1.sub) o' r1
  · exact h1.elim
theorem s_asg {tg e : Expr} {pos : Pos} {ma : M ω D} {g : TG} {js : List Nat} {bd : Bd} (he : PE X e (gOf C W E (rD C) ma)) (hg : PG X tg g) (hb : TgS C W js g bd) (hs : swapsWithSole [tg] e pos.line X.env = pure false := by rfl) (hw : swappedStores [tg] e X.env = pure none := by rfl)
    (h1 : (assignEach [tg] X.env).map (·.2) = [assign tg X.env] := by rfl) : PS X (.Assign [tg] e pos) (sOf C W E (sAsg ma bd)) := s_asgT (ps_asg he hg hs hw h1) (fun _ _ _ h => h) hb
/-- a new list goes to a slot, as its own -/
theorem own_env {Ht H : Hp} {fp : Fp} {ρ : Ev} {σ : L2.St} {i : Nat} {ds : List D} {a : Addr} {vs : List V} (e : EnvO C W Ht H ρ σ fp) (ha : H a = some (.lst vs)) (hl : RzL C Ht ds vs) (hn : Ht a = none) (hw : ¬ W.fp a) (hf : ∀ i, a ∉ fp i) :
    EnvO C W Ht H (ρ.set i (some (.lst ds))) (σ.set i (some (.ref a))) (fun j => if j = i then [a] else fp j) := by
  refine ⟨e.sub, by rw [List.length_set, List.length_set]; exact e.len, fun j o hj => ?_, fun j b hb => ?_, fun j k b h1 h2 => ?_, e.wout⟩
  · by_cases hji : j = i
    · subst hji
      by_cases hlt : j < ρ.length
      · rw [List.getElem?_set_self hlt] at hj
        cases hj
        exact ⟨.ref a, List.getElem?_set_self (by rw [← e.len]; exact hlt), a, vs, rfl, ha, hl, if_pos rfl⟩
      · rw [List.getElem?_eq_none (by rw [List.length_set]; omega)] at hj
        cases hj
    · rw [List.getElem?_set_ne (Ne.symm hji)] at hj
      obtain ⟨u, h1, h2⟩ := e.slot j o hj
      refine ⟨u, by rw [List.getElem?_set_ne (Ne.symm hji)]; exact h1, ?_⟩
      show Ow C Ht H o u (if j = i then [a] else fp j)
      rw [if_neg hji]
      exact h2
  · have hb' : b ∈ (if j = i then [a] else fp j) := hb
    by_cases hji : j = i
    · rw [if_pos hji] at hb'
      have := List.mem_singleton.mp hb'
      subst this
      exact ⟨hn, hw, by rw [ha]; simp⟩
    · rw [if_neg hji] at hb'
      exact e.out j b hb'
  · have h1' : b ∈ (if j = i then [a] else fp j) := h1
    have h2' : b ∈ (if k = i then [a] else fp k) := h2
    by_cases hj : j = i
    · by_cases hk : k = i
      · rw [hj, hk]
      · rw [if_pos hj] at h1'
        rw [if_neg hk] at h2'
        have := List.mem_singleton.mp h1'
        subst this
        exact absurd h2' (hf k)
    · by_cases hk : k = i
      · rw [if_neg hj] at h1'
        rw [if_pos hk] at h2'
        have := List.mem_singleton.mp h2'
        subst this
        exact absurd h1' (hf j)
      · rw [if_neg hj] at h1'
        rw [if_neg hk] at h2'
        exact e.one j k b h1' h2'
theorem s_ownT {st : Stmt} {te : TE} {i : Nat} {ml : M ω (List D)} (h : PS X st (tAsg te (gName i))) (hi : ∀ σ H Q, gOf C W E (rF C W) ml σ H Q → te σ H Q) : PS X st (sOf C W E (sOwn i ml)) := PS.imp h fun Dn σ H ⟨Ht, ρ, w, fp, e, r, h⟩ => by
  have h' : SAt C W E (sB (ml ρ w) fun ds ρ w => some (.nx (ρ.set i (some (.lst ds))) w)) Ht H fp Dn := h
  refine hi _ _ _ ⟨Ht, ρ, w, fp, e, r, ?_⟩
  cases q : ml ρ w with
  | none =>
    rw [q] at h'
    exact h'
  | some rr =>
    rw [q] at h'
    cases rr with
    | er er w' => exact h'
    | ok ds ρ1 w1 =>
      intro v H1 Ht1 fp1 e1 s1 o1 r1 q1
      obtain ⟨a, vs, rfl, ha, hl, hn, h0, hw, hf⟩ := q1
      refine h' _ H1 Ht1 _ (own_env e1 ha hl hn hw hf) s1 (fun j b hb => ?_) r1
      have hb' : b ∈ (if j = i then [a] else fp1 j) := hb
      by_cases hji : j = i
      · rw [if_pos hji] at hb'
        have := List.mem_singleton.mp hb'
        subst this
        exact .inr h0
      · rw [if_neg hji] at hb'
        exact o1 j b hb'
theorem s_own {i : Nat} {x : Str} {e : Expr} {px pos : Pos} {ml : M ω (List D)} (he : PE X e (gOf C W E (rF C W) ml)) (hN : X.N.Nodup) (hi : X.N[i]? = some x) (hx : Loc X.env.scope x) (hf : X.fn x = true ∨ X.env.scope.names.lookup x = some .local := by first | exact .inl rfl | exact .inr rfl | assumption)
    (hs : swapsWithSole [.Name x px] e pos.line X.env = pure false := by rfl) (hw : swappedStores [.Name x px] e X.env = pure none := by rfl)
    (h1 : (assignEach [.Name x px] X.env).map (·.2) = [assign (.Name x px) X.env] := by rfl) : PS X (.Assign [.Name x px] e pos) (sOf C W E (sOwn i ml)) := s_ownT (ps_asg he (pg_name hN hi hx hf) hs hw h1) fun _ _ _ h => h
theorem s_expr {e : Expr} {pos : Pos} {ma : M ω D} (he : PE X e (gOf C W E (rD C) ma)) (hs : swapsWith e none pos.line X.env = pure false := by rfl) : PS X (.Expr e pos) (sOf C W E (sDrop ma)) := PS.imp (ps_expr he hs) fun Dn σ H ⟨Ht, ρ, w, fp, e, r, h⟩ =>
  ⟨Ht, ρ, w, fp, e, r, sB.bind h fun d v H1 Ht1 ρ1 w1 fp1 e1 s1 o1 r1 q1 h1 => SAt.here h1 e1 r1⟩
theorem s_ret {e : Expr} {pos : Pos} {ma : M ω D} (he : PE X e (gOf C W E (rD C) ma)) : PS X (.Return (some e) pos) (sOf C W E (sRet ma)) := PS.imp (ps_ret he) fun Dn σ H ⟨Ht, ρ, w, fp, e, r, h⟩ =>
  ⟨Ht, ρ, w, fp, e, r, sB.bind h fun d v H1 Ht1 ρ1 w1 fp1 e1 s1 o1 r1 q1 h1 => h1 v H1 Ht1 (Stp.refl e1.sub) r1 q1⟩
theorem s_retN {pos : Pos} : PS X (.Return none pos) (sOf C W E sRetN) := PS.imp ps_retN fun Dn σ H ⟨Ht, ρ, w, fp, e, r, h⟩ => h .non H Ht (Stp.refl e.sub) r rfl
theorem s_brk {pos : Pos} : PS X (.Break pos) (sOf C W E sBrk) := PS.imp ps_break fun Dn σ H ⟨Ht, ρ, w, fp, e, r, h⟩ => h σ H Ht fp e (Stp.refl e.sub) OwnS.refl r
theorem s_cnt {pos : Pos} : PS X (.Continue pos) (sOf C W E sCnt) := PS.imp ps_continue fun Dn σ H ⟨Ht, ρ, w, fp, e, r, h⟩ => h σ H Ht fp e (Stp.refl e.sub) OwnS.refl r
/-- return of a new list -/
theorem s_retL {e : Expr} {pos : Pos} {ml : M ω (List D)} (he : PE X e (gOf C W E (rF C W) ml)) : PS X (.Return (some e) pos) (sOf C W E (sRetL ml)) := PS.imp (ps_ret he) fun Dn σ H ⟨Ht, ρ, w, fp, e, r, h⟩ => by
  refine ⟨Ht, ρ, w, fp, e, r, ?_⟩
  unfold sRetL at h
  cases q : ml ρ w with
  | none =>
    rw [q] at h
    exact h.elim
  | some rr =>
    rw [q] at h
    cases rr with
    | er e' w' => exact h
    | ok ds ρ1 w1 =>
      intro v H1 Ht1 fp1 e1 s1 o1 r1 ⟨a, vs, q0, q1, q2, q3, q4, q5, _⟩
      subst q0
      exact h a vs H1 Ht1 s1 r1 q1 q2 q3 (.inl q4) q5
/-- return of a slot's own list -/
def sRetO (i : Nat) : SM ω := fun ρ w => match ρ[i]? with
  | some (some (.lst ds)) => some (.rn ds w)
  | _ => none
theorem s_retO {i : Nat} {e : Expr} {pos : Pos} (he : PE X e (tVar i)) : PS X (.Return (some e) pos) (sOf C W E (sRetO i)) := PS.imp (ps_ret he) fun Dn σ H ⟨Ht, ρ, w, fp, e, r, h⟩ => by
  unfold sRetO at h
  split at h
  · rename_i ds hi
    obtain ⟨v, h1, a, vs, rfl, h2, h3, h4⟩ := e.slot i _ hi
    have ha : a ∈ fp i := by rw [h4]; exact List.mem_singleton.mpr rfl
    obtain ⟨n1, n2, _⟩ := e.out i a ha
    exact ⟨.ref a, h1, h a vs H Ht (Stp.refl e.sub) r h2 h3 n1 (.inr ⟨i, ha⟩) n2⟩
  · exact h.elim
/-- code that is not come to -/
theorem s_no {st : Stmt} : PS X st (sOf C W E sNo) := PS.imp ps_never fun Dn σ H ⟨Ht, ρ, w, fp, e, r, h⟩ => h
theorem s_if {c : Expr} {a b : List Stmt} {pos : Pos} {mc : M ω Bool} {ma mb : SM ω} (hc : PT X c (gOf C W E rB mc)) (ha : PSs X a (sOf C W E ma)) (hb : PSs X b (sOf C W E mb)) : PS X (.If c a b pos) (sOf C W E (sIf mc ma mb)) := PS.imp (ps_if hc ha hb) fun Dn σ H ⟨Ht, ρ, w, fp, e, r, h⟩ =>
  ⟨Ht, ρ, w, fp, e, r, sB.bind h fun d v H1 Ht1 ρ1 w1 fp1 e1 s1 o1 r1 q1 h1 => by
    have q : d = v := q1
    subst q
    cases d with
    | true => exact ⟨Ht1, ρ1, w1, fp1, e1, r1, h1⟩
    | false => exact ⟨Ht1, ρ1, w1, fp1, e1, r1, h1⟩⟩
end
end FL
set_option maxRecDepth 100000
set_option maxHeartbeats 4000000
namespace FL
open PySem PySem.Spec PyProof.Rows L2
section
variable {ω : Type} {X : Cx} {C : Cc} {W : Wd ω} {E : XK}

/-! ### a look at the slots' own things -/
open Classical in
theorem bor_env {Ht H : Hp} {fp : Fp} {ρ : Ev} {σ : L2.St} (e : EnvO C W Ht H ρ σ fp) (r : ∀ a, W.fp a → H a ≠ none) :
    ∃ Ht2, EnvO C W Ht2 H (fzE ρ) σ noF ∧ ∀ Ht3 H3, Stp W Ht2 H noF Ht3 H3 → Stp W Ht H fp Ht3 H3 ∧ ∃ Ht', EnvO C W Ht' H3 ρ σ fp ∧ Stp W Ht H fp Ht' H3 ∧ ∀ a, Ht3 a = none → Ht' a = none := by
  have hT : Same Ht (fun a => if ∃ i, a ∈ fp i then H a else Ht a) := fun a x q => by
    show (if ∃ i, a ∈ fp i then H a else Ht a) = some x
    by_cases z : ∃ i, a ∈ fp i
    · obtain ⟨i, z⟩ := z
      rw [(e.out i a z).1] at q
      cases q
    · rw [if_neg z]
      exact q
  have hS : Same (fun a => if ∃ i, a ∈ fp i then H a else Ht a) H := fun a x q => by
    have q' : (if ∃ i, a ∈ fp i then H a else Ht a) = some x := q
    by_cases z : ∃ i, a ∈ fp i
    · rwa [if_pos z] at q'
    · rw [if_neg z] at q'
      exact e.sub a x q'
  refine ⟨fun a => if ∃ i, a ∈ fp i then H a else Ht a, ⟨hS, by unfold fzE; rw [List.length_map]; exact e.len, fun i o h => ?_, fun i a h => (by cases h), fun i j a h => (by cases h), fun a h => ?_⟩, fun Ht3 H3 s => ?_⟩
  · unfold fzE at h
    rw [List.getElem?_map] at h
    cases q : ρ[i]? with
    | none =>
      rw [q] at h
      cases h
    | some oo =>
      cases oo with
      | none =>
        rw [q] at h
        cases h
      | some oo =>
        rw [q] at h
        cases h
        obtain ⟨v, h1, h2⟩ := e.slot i oo q
        exact ⟨v, h1, Ow.rz hT (fun a ha x q => by rw [if_pos ⟨i, ha⟩]; exact q) h2, rfl⟩
  · show (if ∃ i, a ∈ fp i then H a else Ht a) = none
    rw [if_neg fun ⟨i, z⟩ => (e.out i a z).2.1 h]
    exact e.wout a h
  · have st : Same Ht (fun a => if ∃ i, a ∈ fp i then none else Ht3 a) := fun a x q => by
      show (if ∃ i, a ∈ fp i then none else Ht3 a) = some x
      by_cases z : ∃ i, a ∈ fp i
      · obtain ⟨i, z⟩ := z
        rw [(e.out i a z).1] at q
        cases q
      · rw [if_neg z]
        exact s.th a x (hT a x q)
    have sub : Same (fun a => if ∃ i, a ∈ fp i then none else Ht3 a) H3 := fun a x q => by
      have q' : (if ∃ i, a ∈ fp i then none else Ht3 a) = some x := q
      by_cases z : ∃ i, a ∈ fp i
      · rw [if_pos z] at q'
        cases q'
      · rw [if_neg z] at q'
        exact s.sub a x q'
    have old : ∀ a, Ht3 a ≠ none → ¬ (∃ i, a ∈ fp i) → Ht a ≠ none ∨ H a = none := fun a h z => by
      rcases s.new a h with y | ⟨i, y⟩ | y
      · have y' : (if ∃ i, a ∈ fp i then H a else Ht a) ≠ none := y
        rw [if_neg z] at y'
        exact .inl y'
      · cases y
      · exact .inr y
    refine ⟨⟨fun a x h1 _ h3 => s.ch a x h1 (fun i z => by cases z) h3, hT.trans s.th, s.sub, fun a h => ?_, s.keep⟩, fun a => if ∃ i, a ∈ fp i then none else Ht3 a, ⟨sub, e.len, fun i o h => ?_, fun i a h => ?_, e.one, fun a h => ?_⟩, ⟨fun a x h1 _ h3 => s.ch a x h1 (fun i z => by cases z) h3, st, sub, fun a h => ?_, s.keep⟩, fun a h => by
      show (if ∃ i, a ∈ fp i then none else Ht3 a) = none
      rw [h]
      split <;> rfl⟩
    · by_cases z : ∃ i, a ∈ fp i
      · exact .inr (.inl z)
      · rcases old a h z with y | y
        · exact .inl y
        · exact .inr (.inr y)
    · obtain ⟨v, h1, h2⟩ := e.slot i o h
      exact ⟨v, h1, Ow.imp st (fun a x ha q => s.ch a x (e.out i a ha).2.1 (fun j z => by cases z) q) h2⟩
    · obtain ⟨h1, h2, h3⟩ := e.out i a h
      exact ⟨if_pos ⟨i, h⟩, h2, fun z => h3 (s.keep a z)⟩
    · show (if ∃ i, a ∈ fp i then none else Ht3 a) = none
      by_cases z : ∃ i, a ∈ fp i
      · rw [if_pos z]
      · rw [if_neg z]
        cases q : Ht3 a with
        | none => rfl
        | some x =>
          rcases old a (by rw [q]; simp) z with y | y
          · exact absurd (e.wout a h) y
          · exact absurd y (r a h)
    · have h' : (if ∃ i, a ∈ fp i then none else Ht3 a) ≠ none := h
      by_cases z : ∃ i, a ∈ fp i
      · exact .inr (.inl z)
      · rw [if_neg z] at h'
        rcases old a h' z with y | y
        · exact .inl y
        · exact .inr (.inr y)
theorem At.bor {α β : Type} {RA RC : RRt α β} {r r2 : Option (R ω α)} {Ht H : Hp} {fp : Fp} {ρ : Ev} {σ : L2.St} {w : ω} {Q : β → Hp → Prop} (e : EnvO C W Ht H ρ σ fp) (rl : W.rel H w)
    (h : At C W E RC r2 Ht H fp σ Q) (h0 : r = none → r2 = none) (h1 : ∀ e w', r = some (.er e w') → r2 = some (.er e w'))
    (h2 : ∀ b ρ' w', r = some (.ok b ρ' w') → r2 = none ∨ (r2 = some (.ok b ρ w') ∧ ∀ v H' Ht' Ht2 fp2, RA H Ht2 H' fp2 b v → RC H Ht' H' fp b v)) :
    ∃ Ht2, EnvO C W Ht2 H (fzE ρ) σ noF ∧ At C W E RA r Ht2 H noF σ Q := by
  obtain ⟨Ht2, e2, back⟩ := bor_env e (fun a => W.dom rl a)
  refine ⟨Ht2, e2, ?_⟩
  cases r with
  | none =>
    rw [h0 rfl] at h
    exact h
  | some r =>
    cases r with
    | er er w' =>
      rw [h1 er w' rfl] at h
      exact fun cls dx H' Ht' s r' q => h cls dx H' Ht' (back Ht' H' s).1 r' q
    | ok b ρ' w' =>
      rcases h2 b ρ' w' rfl with z | ⟨z, k⟩
      · rw [z] at h
        exact h.elim
      · rw [z] at h
        intro v H' Ht' fp' e' s o r' q
        obtain ⟨Ht3, e3, s3, _⟩ := (back Ht' H' s).2
        exact h v H' Ht3 fp e3 s3 OwnS.refl r' (k v H' Ht3 Ht' fp' q)
theorem ft_bor {c : Expr} {mc : M ω Bool} (h : PT X c (gOf C W E rB mc)) : PT X c (gOf C W E rB (mBor mc)) := PT.imp h fun σ H Q ⟨Ht, ρ, w, fp, e, r, h⟩ => by
  obtain ⟨Ht2, e2, h2⟩ := At.bor (RA := rB) (RC := rB) (r := mc (fzE ρ) w) e r h (fun q => by unfold mBor; rw [q]) (fun er w' q => by unfold mBor; rw [q]) fun b ρ' w' q => .inr ⟨by unfold mBor; rw [q], fun _ _ _ _ _ z => z⟩
  exact ⟨Ht2, fzE ρ, w, noF, e2, r, h2⟩
theorem flat_rz {H H' : Hp} {d : D} {v : V} (f : d.flV.isSome = true) (h : Rz C H d v) : Rz C H' d v := by
  cases d <;> simp only [D.flV, Option.isSome_none, Bool.false_eq_true] at f <;> exact h
theorem fe_bor {c : Expr} {mc : M ω D} (h : PE X c (gOf C W E (rD C) mc)) : PE X c (gOf C W E (rD C) (mBorF mc)) := PE.imp h fun σ H Q ⟨Ht, ρ, w, fp, e, r, h⟩ => by
  obtain ⟨Ht2, e2, h2⟩ := At.bor (RA := rD C) (RC := rD C) (r := mc (fzE ρ) w) e r h (fun q => by unfold mBorF; rw [q]) (fun er w' q => by unfold mBorF; rw [q]) fun b ρ' w' q => by
    by_cases f : b.flV.isSome = true
    · exact .inr ⟨by unfold mBorF; rw [q]; exact if_pos f, fun _ _ _ _ _ z => flat_rz f z⟩
    · exact .inl (by unfold mBorF; rw [q]; exact if_neg f)
  exact ⟨Ht2, fzE ρ, w, noF, e2, r, h2⟩

/-! ### loops -/
theorem s_for {tg iter : Expr} {body : List Stmt} {pos : Pos} {src : M ω (List D)} {g : TG} {js : List Nat} {bd : Bd} {mb : SM ω} (hp : PassesOwn (model X.prog X.w) X.A X.env X.xe) (hc : X.calm = true) (hi : PI X tg iter (gOf C W E (rI C W) src)) (hg : PG X tg g) (hb : TgS C W js g bd)
    (hbd : PSs X body (sOf C W E mb)) (hs : ∀ x, foldedSetIterable iter X.env x = pure x := by intro _; rfl) : PS X (.For tg iter body [] pos) (sOf C W E (sForM src bd mb)) := PS.imp (ps_for hp hc hi hg hbd hs) fun Dn σ H ⟨Ht0, ρ0, w0, fp00, e0, r0, h0⟩ => by
  refine ⟨Ht0, ρ0, w0, fp00, e0, r0, sB.bind h0 fun ds J H1 Ht1 ρ w1 fp e1 s1 o1 r1 q1 h1 => ?_⟩
  obtain ⟨G, Y, wk, hG, hY⟩ := q1
  refine for_it wk (fun i σ2 H2 => ∃ Ht' ρ' w' fp', EnvO C W Ht' H2 ρ' σ2 fp' ∧ W.rel H2 w' ∧ Stp W Ht1 H1 fp Ht' H2 ∧ OwnS H1 fp fp' ∧ SAt C W E (sFor mb bd (ds.drop i) ρ' w') Ht1 H1 fp Dn) ⟨Ht1, ρ, w1, fp, e1, r1, Stp.refl e1.sub, OwnS.refl, h1⟩ (fun i σ2 H2 hi ⟨Ht', ρ', w', fp', e', r', s', o', _⟩ => hG H2 w' (s'.th.trans e'.sub) r') ?_ ?_
  · rintro i x σ2 H2 H3 hi ⟨Ht', ρ', w', fp', e', r', s', o', ha⟩ y
    obtain ⟨d, hd, hx⟩ := hY i H2 Ht' x H3 w' s'.th e'.sub r' hi y
    have hdr : ds.drop i = d :: ds.drop (i + 1) := by
      rw [List.drop_eq_getElem_cons hi]
      have := List.getElem?_eq_getElem hi
      rw [this] at hd
      cases hd
      rfl
    rw [hdr] at ha
    have item : ∃ Ht3, EnvO C W Ht3 H3 ρ' σ2 fp' ∧ W.rel H3 w' ∧ Stp W Ht1 H1 fp Ht3 H3 ∧ Rz C Ht3 d x := by
      rcases hx with ⟨rfl, hx⟩ | ⟨T, x1, x2, d1, d2, rfl, rfl, nT, rfl, h1, h2⟩
      · exact ⟨Ht', e', r', s', hx⟩
      · have nt := none_of_sub e'.sub nT
        have al := alloc_env (o := .tup [x1, x2]) e' r' nT
        exact ⟨_, al.1, rel_upd r' nT, s'.trans o' al.2, T, _, rfl, upd_same, _, _, rfl, Rz.mono (same_upd nt) h1, _, _, rfl, Rz.mono (same_upd nt) h2, rfl⟩
    obtain ⟨Ht3, e3, r3, s3, hx3⟩ := item
    unfold sFor at ha
    split at ha
    · exact ha.elim
    · rename_i ρ4 hb4
      refine hb d x σ2 H3 Ht3 ρ' fp' ρ4 _ e3 hx3 hb4 fun σ4 fp4 e4 o4 _ _ => ?_
      have o4' : OwnS H1 fp fp4 := fun j a ha => by
        rcases o4 j a ha with ⟨k, hk⟩ | hn
        · exact o' k a hk
        · exact .inr (s3.keep a hn)
      have s3' : Stp W Ht1 H1 fp Ht3 H3 := s3
      refine ⟨Ht3, ρ4, w', fp4, e4, r3, ?_⟩
      cases q : mb ρ4 w' with
      | none =>
        rw [q] at ha
        exact ha.elim
      | some rr =>
        rw [q] at ha
        cases rr with
        | nx ρ5 w5 => exact fun σ5 H5 Ht5 fp5 e5 s5 o5 r5 => ⟨Ht5, ρ5, w5, fp5, e5, r5, s3.trans o4' s5, o4'.trans s3 o5, ha⟩
        | ct ρ5 w5 => exact fun σ5 H5 Ht5 fp5 e5 s5 o5 r5 => ⟨Ht5, ρ5, w5, fp5, e5, r5, s3.trans o4' s5, o4'.trans s3 o5, ha⟩
        | bk ρ5 w5 => exact fun σ5 H5 Ht5 fp5 e5 s5 o5 r5 => ha σ5 H5 Ht5 fp5 e5 (s3.trans o4' s5) (o4'.trans s3 o5) r5
        | rt d5 w5 => exact fun v H5 Ht5 s5 r5 q5 => ha v H5 Ht5 (s3.trans o4' s5) r5 q5
        | er e5 w5 => exact fun cls dx H5 Ht5 s5 r5 q5 => ha cls dx H5 Ht5 (s3.trans o4' s5) r5 q5
        | rn d5 w5 => exact fun a vs H5 Ht5 s5 r5 q1 q2 q3 q4 q5 => ha a vs H5 Ht5 (s3.trans o4' s5) r5 q1 q2 q3 (own_up s3 o4' q4) q5
  · rintro σ2 H2 ⟨Ht', ρ', w', fp', e', r', s', o', ha⟩
    rw [List.drop_length] at ha
    exact ha σ2 H2 Ht' fp' e' s' o' r'
theorem s_while {c : Expr} {body : List Stmt} {pos : Pos} {mc : M ω Bool} {mb : SM ω} (n : Nat) (hp : PassesOwn (model X.prog X.w) X.A X.env X.xe) (hc : PT X c (gOf C W E rB mc)) (hb : PSs X body (sOf C W E mb)) : PS X (.While c body [] pos) (sOf C W E (sWh mc mb n)) := PS.imp (ps_while hp hc hb) fun Dn σ H ⟨Ht1, ρ, w1, fp, e1, r1, h1⟩ => by
  refine ⟨fun m σ2 H2 => ∃ Ht' ρ' w' fp', EnvO C W Ht' H2 ρ' σ2 fp' ∧ W.rel H2 w' ∧ SAt C W E (sWh mc mb m ρ' w') Ht' H2 fp' Dn, ⟨n, Ht1, ρ, w1, fp, e1, r1, h1⟩, ?_⟩
  rintro m σ2 H2 ⟨Ht', ρ', w', fp', e', r', ha⟩
  cases m with
  | zero => exact ha.elim
  | succ m =>
    refine ⟨Ht', ρ', w', fp', e', r', sB.bind ha fun k b H3 Ht3 ρ3 w3 fp3 e3 s3 o3 r3 q3 h3 => ?_⟩
    have q : k = b := q3
    subst q
    cases k with
    | false =>
      rw [if_neg Bool.false_ne_true] at h3 ⊢
      exact SAt.here h3 e3 r3
    | true =>
      rw [if_pos rfl] at h3 ⊢
      refine ⟨fun σ5 H5 => ∃ Ht5 ρ5 w5 fp5, EnvO C W Ht5 H5 ρ5 σ5 fp5 ∧ W.rel H5 w5 ∧ SAt C W E (sWh mc mb m ρ5 w5) Ht5 H5 fp5 Dn, fun σ5 H5 h => ⟨m, Nat.lt_succ_self m, h⟩, Ht3, ρ3, w3, fp3, e3, r3, ?_⟩
      cases q : mb ρ3 w3 with
      | none =>
        rw [q] at h3
        exact h3.elim
      | some rr =>
        rw [q] at h3
        cases rr with
        | nx ρ5 w5 => exact fun σ5 H5 Ht5 fp5 e5 s5 o5 r5 => ⟨Ht5, ρ5, w5, fp5, e5, r5, SAt.shift s5 o5 h3⟩
        | ct ρ5 w5 => exact fun σ5 H5 Ht5 fp5 e5 s5 o5 r5 => ⟨Ht5, ρ5, w5, fp5, e5, r5, SAt.shift s5 o5 h3⟩
        | bk ρ5 w5 => exact fun σ5 H5 Ht5 fp5 e5 s5 o5 r5 => h3 σ5 H5 Ht5 fp5 e5 s5 o5 r5
        | rt d5 w5 => exact fun v H5 Ht5 s5 r5 q5 => h3 v H5 Ht5 s5 r5 q5
        | er e5 w5 => exact fun cls dx H5 Ht5 s5 r5 q5 => h3 cls dx H5 Ht5 s5 r5 q5
        | rn d5 w5 => exact fun a vs H5 Ht5 s5 r5 q1 q2 q3 q4 q5 => h3 a vs H5 Ht5 s5 r5 q1 q2 q3 q4 q5
end
end FL
set_option maxRecDepth 100000
set_option maxHeartbeats 4000000
namespace FL
open PySem PySem.Spec PyProof.Rows L2

/-! ### methods of a slot's own list -/
def lsOf : Option (Option O) → Option (List D)
  | some (some (.lst ds)) => some ds
  | _ => none
section
variable {ω : Type}
/-- the slot's list, the arguments; what comes, and the list behind -/
def mSM (i : Nat) (f : List D → List D → Option (D × List D)) (ma : M ω (List D)) : M ω D := fun ρ w => match lsOf (ρ[i]?) with
  | none => none
  | some _ => bnd (ma ρ w) fun args ρ w => match lsOf (ρ[i]?) with
    | none => none
    | some ds => match f ds args with
      | some (d, ds') => some (.ok d (ρ.set i (some (.lst ds'))) w)
      | none => none
end
section
variable {ω : Type} {X : Cx} {C : Cc} {W : Wd ω} {E : XK}
theorem lsOf_some {o : Option (Option O)} {ds : List D} (h : lsOf o = some ds) : o = some (some (.lst ds)) := by
  unfold lsOf at h
  split at h
  · cases h
    rfl
  · cases h
/-- the list of a slot is changed -/
theorem EnvO.lset {Ht H : Hp} {fp : Fp} {ρ : Ev} {σ : L2.St} {w : ω} {i : Nat} {ds ds' : List D} {vs' : List V} {a : Addr} {vs : List V} (e : EnvO C W Ht H ρ σ fp) (r : W.rel H w) (hi : ρ[i]? = some (some (.lst ds))) (ha : H a = some (.lst vs)) (hf : fp i = [a]) (hs : σ[i]? = some (some (.ref a))) (h' : RzL C Ht ds' vs') :
    EnvO C W Ht (upd H a (.lst vs')) (ρ.set i (some (.lst ds'))) σ fp ∧ Stp W Ht H fp Ht (upd H a (.lst vs')) ∧ W.rel (upd H a (.lst vs')) w := by
  have hai : a ∈ fp i := by rw [hf]; exact List.mem_singleton.mpr rfl
  obtain ⟨n1, n2, n3⟩ := e.out i a hai
  have sub : Same Ht (upd H a (.lst vs')) := fun b x z => by
    rw [upd_ne fun y => by subst y; rw [n1] at z; cases z]
    exact e.sub b x z
  have keep : ∀ b, upd H a (.lst vs') b = none → H b = none := fun b h => upd_none h
  refine ⟨⟨sub, by rw [List.length_set]; exact e.len, fun j o hj => ?_, fun j b hb => ?_, e.one, e.wout⟩, ⟨fun b x h1 h2 h3 => ?_, Same.refl _, sub, fun b h => .inl h, keep⟩, W.put n2 (fun φ z => by rw [ha] at z; cases z) r⟩
  · by_cases hji : j = i
    · subst hji
      have hlt : j < ρ.length := (List.getElem?_eq_some_iff.mp hi).1
      rw [List.getElem?_set_self hlt] at hj
      cases hj
      exact ⟨.ref a, hs, a, vs', rfl, upd_same, h', hf⟩
    · rw [List.getElem?_set_ne (Ne.symm hji)] at hj
      obtain ⟨u, h1, h2⟩ := e.slot j o hj
      exact ⟨u, h1, Ow.imp (Same.refl _) (fun b x hb q => by rw [upd_ne fun y => hji (e.one j i a (by rw [← y]; exact hb) hai)]; exact q) h2⟩
  · obtain ⟨h1, h2, h3⟩ := e.out j b hb
    exact ⟨h1, h2, fun z => h3 (keep b z)⟩
  · rw [upd_ne fun y => h2 i (by rw [y]; exact hai)]
    exact h3
def MS (C : Cc) (r : V → List V → Hp → VK → Prop) (f : List D → List D → Option (D × List D)) : Prop :=
  ∀ ds args d ds' a vs us Ht H Q, H a = some (.lst vs) → RzL C Ht ds vs → Same Ht H → RzL C Ht args us → f ds args = some (d, ds') → (∀ v vs', Rz C Ht d v → RzL C Ht ds' vs' → Q v (upd H a (.lst vs'))) → r (.ref a) us H Q
theorem slot_lst {Ht H : Hp} {fp : Fp} {ρ : Ev} {σ : L2.St} {i : Nat} {ds : List D} (e : EnvO C W Ht H ρ σ fp) (h : ρ[i]? = some (some (.lst ds))) : ∃ a vs, σ[i]? = some (some (.ref a)) ∧ H a = some (.lst vs) ∧ RzL C Ht ds vs ∧ fp i = [a] := by
  obtain ⟨v, h1, a, vs, rfl, h2, h3, h4⟩ := e.slot i _ h
  exact ⟨a, vs, h1, h2, h3, h4⟩
theorem tBM_of {K : PySem.W.Frag} {i : Nat} {r : V → List V → Hp → VK → Prop} {f : List D → List D → Option (D × List D)} (hr : MS C r f) {ma : M ω (List D)} (σ : L2.St) (H : Hp) (Q : VK) (h : gOf C W E (rD C) (mSM i f ma) σ H Q) : tBM K "list" r (tVar i) (gOf C W E (rL C) ma) σ H Q := by
  obtain ⟨Ht, ρ, w, fp, e, rl, h⟩ := h
  unfold mSM at h
  split at h
  · exact h.elim
  · rename_i ds0 q0
    obtain ⟨a, vs, h1, h2, h3, h4⟩ := slot_lst e (lsOf_some q0)
    refine ⟨.ref a, h1, .inl ⟨rfl, vs, SqL.of h2⟩, Ht, ρ, w, fp, e, rl, At.bind h fun args us H1 Ht1 ρ1 w1 fp1 e1 s1 o1 r1 q1 hh => ?_⟩
    split at hh
    · exact hh.elim
    · rename_i ds q
      have q := lsOf_some q
      obtain ⟨a', vs', g1, g2, g3, g4⟩ := slot_lst e1 q
      rw [h1] at g1
      cases g1
      split at hh
      · rename_i d ds' hf
        refine hr ds args d ds' a vs' us Ht1 H1 Q g2 g3 e1.sub q1 hf fun v vs2 hv hl => ?_
        obtain ⟨e2, s2, r2⟩ := e1.lset r1 q g2 g4 h1 hl
        exact hh v _ Ht1 fp1 e2 s2 OwnS.refl r2 hv
      · exact hh.elim
theorem tBM0_of {K : PySem.W.Frag} {i : Nat} {r : V → List V → Hp → VK → Prop} {f : List D → List D → Option (D × List D)} (hr : MS C r f) (σ : L2.St) (H : Hp) (Q : VK) (h : gOf C W E (rD C) (mSM i f mNil) σ H Q) : tBM0 K "list" r (tVar i) σ H Q := by
  obtain ⟨Ht, ρ, w, fp, e, rl, h⟩ := h
  unfold mSM at h
  split at h
  · exact h.elim
  · rename_i ds0 q0
    have q := lsOf_some q0
    obtain ⟨a, vs, h1, h2, h3, h4⟩ := slot_lst e q
    refine ⟨.ref a, h1, .inl ⟨rfl, vs, SqL.of h2⟩, ?_⟩
    have hh : At C W E (rD C) (match lsOf (ρ[i]?) with
      | none => none
      | some ds => match f ds [] with
        | some (d, ds') => some (.ok d (ρ.set i (some (.lst ds'))) w)
        | none => none) Ht H fp σ Q := h
    rw [q0] at hh
    have hh' : At C W E (rD C) (match f ds0 [] with
        | some (d, ds') => some (.ok d (ρ.set i (some (.lst ds'))) w)
        | none => none) Ht H fp σ Q := hh
    split at hh'
    · rename_i d ds' hf
      refine hr ds0 [] d ds' a vs [] Ht H Q h2 h3 e.sub rfl hf fun v vs2 hv hl => ?_
      obtain ⟨e2, s2, r2⟩ := e.lset rl q h2 h4 h1 hl
      exact hh' v _ Ht fp e2 s2 OwnS.refl r2 hv
    · exact hh'.elim
def fApp : List D → List D → Option (D × List D)
  | ds, [d] => if ds.length < 16777216 then some (.non, ds ++ [d]) else none
  | _, _ => none
def fExt : List D → List D → Option (D × List D)
  | ds, [.lst es] => if ds.length + es.length ≤ 16777216 then some (.non, ds ++ es) else none
  | _, _ => none
def fPop : List D → List D → Option (D × List D)
  | ds, [] => match ds[ds.length - 1]? with
    | some d => some (d, ds.dropLast)
    | none => none
  | _, _ => none
def fPopA : List D → List D → Option (D × List D)
  | ds, [.int i] => if -(2 ^ 63) ≤ i ∧ i < 2 ^ 63 then (match seqIndex? i ds.length with
    | some k => match ds[k]? with
      | some d => some (d, ds.eraseIdx k)
      | none => none
    | none => none) else none
  | _, _ => none
theorem ms_app : MS C rAppend fApp := fun ds args d ds' a vs us Ht H Q ha hl s hu q k => by
  unfold fApp at q
  split at q
  · rename_i d0
    split at q
    · rename_i c
      cases q
      obtain ⟨v, rfl, hv⟩ := rzl1 hu
      exact ⟨a, vs, v, rfl, rfl, ha, by rw [sizeLine24, ← hl.len]; exact c, k _ _ rfl (hl.app ⟨v, [], rfl, hv, rfl⟩)⟩
    · cases q
  · cases q
theorem ms_ext : MS C rExtend fExt := fun ds args d ds' a vs us Ht H Q ha hl s hu q k => by
  unfold fExt at q
  split at q
  · rename_i es
    split at q
    · rename_i c
      cases q
      obtain ⟨v, rfl, b, zs, rfl, hb, lb⟩ := rzl1 hu
      exact ⟨a, b, vs, zs, rfl, rfl, ha, s _ _ hb, by rw [sizeLine24, ← hl.len, ← lb.len]; exact c, k _ _ rfl (hl.app lb)⟩
    · cases q
  · cases q
theorem RzL.dropLast {H : Hp} {ds : List D} {vs : List V} (h : RzL C H ds vs) : RzL C H ds.dropLast vs.dropLast := by
  rw [List.dropLast_eq_take, List.dropLast_eq_take, h.len]
  exact h.take _
theorem RzL.erase {H : Hp} {ds : List D} {vs : List V} (h : RzL C H ds vs) (k : Nat) : RzL C H (ds.eraseIdx k) (vs.eraseIdx k) := by
  rw [List.eraseIdx_eq_take_drop_succ, List.eraseIdx_eq_take_drop_succ]
  exact (h.take _).app (h.drop _)
theorem ms_pop : MS C rPop fPop := fun ds args d ds' a vs us Ht H Q ha hl s hu q k => by
  unfold fPop at q
  split at q
  · split at q
    · rename_i d0 hd
      cases q
      have hu' : us = [] := hu
      subst hu'
      obtain ⟨v, h1, h2⟩ := hl.get hd
      rw [hl.len] at h1
      exact ⟨a, vs, v, rfl, rfl, ha, h1, k _ _ h2 hl.dropLast⟩
    · cases q
  · cases q
theorem ms_popA : MS C rPopAt fPopA := fun ds args d ds' a vs us Ht H Q ha hl s hu q k => by
  unfold fPopA at q
  split at q
  · rename_i i
    split at q
    · rename_i c
      split at q
      · rename_i j hj
        split at q
        · rename_i d0 hd
          cases q
          obtain ⟨v, rfl, hv⟩ := rzl1 hu
          have hv' : v = .int i := hv
          subst hv'
          obtain ⟨u, h1, h2⟩ := hl.get hd
          rw [hl.len] at hj
          exact ⟨a, vs, i, j, u, rfl, rfl, ha, c.1, c.2, hj, h1, k _ _ h2 (hl.erase j)⟩
        · cases q
      · cases q
    · cases q
  · cases q
/-! x[i] = e on a slot's list -/
def mSt (i : Nat) (mv mi : M ω D) : SM ω := fun ρ w => sB (mv ρ w) fun v ρ w => match lsOf (ρ[i]?) with
  | none => none
  | some _ => sB (mi ρ w) fun k ρ w => match lsOf (ρ[i]?), k with
    | some ds, .int k => match ixN ds.length k with
      | some j => some (.nx (ρ.set i (some (.lst (ds.set j v)))) w)
      | none => none
    | _, _ => none
theorem s_setL {i : Nat} {o ix e : Expr} {p2 pos : Pos} {mv mi : M ω D} (ho : PE X o (tVar i)) (hi : PE X ix (gOf C W E (rD C) mi)) (hv : PE X e (gOf C W E (rD C) mv))
    (ha : ∀ v, assign (.Subscript o ix p2) X.env v = (do
      let ov ← holding [v] (eval o X.env)
      let iv ← holding [v, ov] (eval ix X.env)
      standAt p2
      holding [v, ov, iv] (setItem ov iv v)
      release [v, ov, iv] []) := by intro _; rfl) (hs : swapsWithSole [.Subscript o ix p2] e pos.line X.env = pure false := by rfl) (hw : swappedStores [.Subscript o ix p2] e X.env = pure none := by rfl)
    (h1 : (assignEach [.Subscript o ix p2] X.env).map (·.2) = [assign (.Subscript o ix p2) X.env] := by rfl) : PS X (.Assign [.Subscript o ix p2] e pos) (sOf C W E (mSt i mv mi)) :=
  PS.imp (ps_asg hv (pg_sub ho hi set_list ha) hs hw h1) fun Dn σ H ⟨Ht, ρ, w, fp, e0, r0, h0⟩ => by
    refine ⟨Ht, ρ, w, fp, e0, r0, sB.bind h0 fun d v H1 Ht1 ρ1 w1 fp1 e1 s1 o1 r1 q1 h1 => ?_⟩
    split at h1
    · exact h1.elim
    · rename_i ds0 z0
      obtain ⟨a, vs, g1, g2, g3, g4⟩ := slot_lst e1 (lsOf_some z0)
      refine ⟨.ref a, g1, Ht1, ρ1, w1, fp1, e1, r1, sB.bind h1 fun k kv H2 Ht2 ρ2 w2 fp2 e2 s2 o2 r2 q2 h2 => ?_⟩
      split at h2
      · rename_i ds k z
        have z := lsOf_some z
        obtain ⟨a', vs', f1, f2, f3, f4⟩ := slot_lst e2 z
        rw [g1] at f1
        cases f1
        split at h2
        · rename_i j hj
          have q2' : kv = .int k := q2
          subst q2'
          refine ⟨a, vs', k, j, rfl, rfl, f2, by rw [← f3.len]; exact hj, ?_⟩
          obtain ⟨e3, s3, r3⟩ := e2.lset r2 z f2 f4 g1 (RzL.set (Rz.mono s2.th q1) j f3)
          exact h2 σ _ Ht2 fp2 e3 s3 OwnS.refl r3
        · exact h2.elim
      · exact h2.elim
/-! a, b = e1, e2 to two plain names -/
def sPar (i j : Nat) (ma : M ω (List D)) : SM ω := fun ρ w => sB (ma ρ w) fun ds ρ w => match ds with
  | [a, b] => some (.nx ((ρ.set i (some (.frz a))).set j (some (.frz b))) w)
  | _ => none
theorem s_par {i j : Nat} {x y : Str} {a b : Expr} {px py pt pos : Pos} {kt k2 pt2} {ma : M ω (List D)} (hc : X.calm = true) (hN : X.N.Nodup) (hi : X.N[i]? = some x) (hj : X.N[j]? = some y) (hij : i ≠ j) (hx : X.env.scope.names.lookup x = some .local) (hy : X.env.scope.names.lookup y = some .local)
    (ha : PA X [a, b] (gOf C W E (rL C) ma)) (hw : swappedStores [.Tuple [.Name x px, .Name y py] kt pt] (.Tuple [a, b] k2 pt2) X.env = pure (some [x, y]))
    (hs : swapsWithSole [.Tuple [.Name x px, .Name y py] kt pt] (.Tuple [a, b] k2 pt2) pos.line X.env = pure false := by rfl) :
    PS X (.Assign [.Tuple [.Name x px, .Name y py] kt pt] (.Tuple [a, b] k2 pt2) pos) (sOf C W E (sPar i j ma)) := PS.imp (ps_par hc hN hi hj hij hx hy ha hw hs) fun Dn σ H ⟨Ht, ρ, w, fp, e, r, h⟩ =>
  ⟨Ht, ρ, w, fp, e, r, sB.bind h fun ds vs H1 Ht1 ρ1 w1 fp1 e1 s1 o1 r1 q1 h1 => by
    split at h1
    · obtain ⟨v, u, rfl, g1, g2⟩ := rzl2 q1
      exact ⟨v, u, rfl, h1 _ H1 Ht1 _ ((e1.set g1).set g2) (Stp.refl e1.sub) (own_set.tr own_set) r1⟩
    · exact h1.elim⟩
/-! x += e -/
def sAug (i : Nat) (g : D → D → Option D) (ma : M ω D) : SM ω := fun ρ w => match ρ[i]? with
  | some (some (.frz a)) => sB (ma ρ w) fun b ρ w => match g a b with
    | some d => some (.nx (ρ.set i (some (.frz d))) w)
    | none => none
  | _ => none
theorem s_augI {i : Nat} {x : Str} {e : Expr} {op : Operator} {f : Int → Int → Int} {g : D → D → Option D} {pos pos' : Pos} {ma : M ω D} (hN : X.N.Nodup) (hi : X.N[i]? = some x) (hx : Loc X.env.scope x) (he : PE X e (gOf C W E (rD C) ma)) (ho : PIp X op (ipI f))
    (hg : ∀ a b d, g a b = some d → ∃ i j, a = .int i ∧ b = .int j ∧ d = .int (f i j)) (hf : X.fn x = true ∨ X.env.scope.names.lookup x = some .local := by first | exact .inl rfl | exact .inr rfl | assumption) :
    PS X (.AugAssign (.Name x pos') op e pos) (sOf C W E (sAug i g ma)) := PS.imp (ps_aug hN hi hx he ho hf) fun Dn σ H ⟨Ht, ρ, w, fp, e, r, h⟩ => by
  unfold sAug at h
  split at h
  · rename_i a qa
    obtain ⟨v, h1, h2⟩ := e.slot i _ qa
    refine ⟨v, h1, Ht, ρ, w, fp, e, r, sB.bind h fun d u H1 Ht1 ρ1 w1 fp1 e1 s1 o1 r1 q1 hh => ?_⟩
    split at hh
    · rename_i d' hd
      obtain ⟨m, n, rfl, rfl, rfl⟩ := hg a d d' hd
      have h2' : v = .int m := h2.1
      have q1' : u = .int n := q1
      subst h2' q1'
      exact ⟨m, n, rfl, rfl, hh _ H1 Ht1 _ (e1.set rfl) (Stp.refl e1.sub) own_set r1⟩
    · exact hh.elim
  · exact h.elim

/-! ### a def -/
def startE (n : Nat) (ds : List D) : Ev := ds.map (fun d => some (.frz d)) ++ List.replicate (n - ds.length) none
theorem start_env {Ht H : Hp} {N : List Str} {ds : List D} {vs : List V} (s : Same Ht H) (wo : ∀ a, W.fp a → Ht a = none) (h : RzL C Ht ds vs) : EnvO C W Ht H (startE N.length ds) (L2.start N vs) noF := by
  refine ⟨s, ?_, fun i o hi => ?_, fun i a h => (by cases h), fun i j a h => (by cases h), wo⟩
  · unfold startE L2.start
    rw [List.length_append, List.length_append, List.length_map, List.length_map, List.length_replicate, List.length_replicate, h.len]
  · unfold startE at hi
    unfold L2.start
    by_cases c : i < ds.length
    · rw [List.getElem?_append_left (by rw [List.length_map]; exact c), List.getElem?_map] at hi
      rw [List.getElem?_eq_getElem c] at hi
      cases hi
      obtain ⟨v, h1, h2⟩ := h.get (List.getElem?_eq_getElem c)
      refine ⟨v, ?_, h2, rfl⟩
      rw [List.getElem?_append_left (by rw [List.length_map, ← h.len]; exact c), List.getElem?_map, h1]
      rfl
    · rw [List.getElem?_append_right (by rw [List.length_map]; omega), List.getElem?_replicate] at hi
      split at hi
      · cases hi
      · cases hi
def outF (r : Option (Fl ω)) : Option (Rs ω) := match r with
  | some (.rt d w) => some (.ok d w)
  | some (.nx _ w) => some (.ok .non w)
  | some (.er e w) => some (.er e w)
  | some (.rn ds w) => some (.ok (.lst ds) w)
  | _ => none
/-- g is borne by the body's meaning -/
def Bears (n : Nat) (m : SM ω) (g : List D → ω → Option (Rs ω)) (k : Nat) : Prop := ∀ ds w r, ds.length = k → g ds w = some r → outF (m (startE n ds) w) = some r
theorem fn_def {dvs : List V} {P : Program} {w : World} {K : PySem.W.Frag} {mg : Str → Option Value} {base : Heap} {x qual : Str} {st : Stmt} {f : Addr} {fd : FuncData} {N ps : List Str} {k n : Nat} {m : SM ω} {g : List D → ω → Option (Rs ω)} (F : FunD K x qual (defArgs st) (defBody st) (defScope st) dvs [] f fd) (S : FnScope N ps (defScope st)) (hn : n = ps.length)
    (hg : Bears N.length m g n)
    (hb : ∀ (cdv : Value) (A : Around) (outer : List Env) (s : Shared) (H : Hp) (E : XK), Room k (A.deeper (envOfC qual (defScope st) s.heap.objs.size f cdv)) → PSs (cxOf (L2.CX P w) P w K mg base N qual (defScope st) f cdv A outer s H E) (defBody st) (sOf C W E m)) :
    FnOk P w K mg base (L2.CX P w) (k + 1) f fd ps (spF C W n g) :=
  F.ok S (fun vs H Q E h => by rw [← hn]; exact h.1) fun cdv A outer s H vs Q E hr ⟨hl, Ht, ww, ds, sb, wo, rl, hv, h⟩ => by
    refine ⟨_, hb cdv A outer s H E hr, Ht, startE N.length ds, ww, noF, start_env sb wo hv, rl, ?_⟩
    cases q : g ds ww with
    | none =>
      rw [q] at h
      exact h.elim
    | some r =>
      rw [q] at h
      have o := hg ds ww r (by rw [hv.len]; exact hl) q
      cases z : m (startE N.length ds) ww with
      | none =>
        rw [z] at o
        cases o
      | some fl =>
        rw [z] at o
        cases fl with
        | rt d w' =>
          cases o
          exact fun v H' Ht' s' r' q' => h v H' Ht' s' r' q'
        | nx ρ' w' =>
          cases o
          exact fun σ' H' Ht' fp' e' s' o' r' => h .non H' Ht' s' r' rfl
        | er e w' =>
          cases o
          exact fun cls dx H' Ht' s' r' q' => h cls dx H' Ht' s' r' q'
        | bk _ _ => cases o
        | ct _ _ => cases o
        | rn ds' w' =>
          cases o
          intro a vs' H' Ht' s' r' q1 q2 q3 q4 q5
          obtain ⟨e2, s2, st⟩ := fz_env (C := C) (ρ := []) (σ := []) (fp := noF) ⟨s'.sub, rfl, fun i o h => by simp at h, fun i a h => (by cases h), fun i j a h => (by cases h), fun b hb => by
            cases z : Ht' b with
            | none => rfl
            | some x =>
              rcases s'.new b (by rw [z]; simp) with z' | ⟨i, z'⟩ | z'
              · exact absurd (wo b hb) z'
              · cases z'
              · exact absurd z' (W.dom rl b hb)⟩ s' q1 q3 (q4.elim id fun ⟨i, z⟩ => by cases z) q5 (fun i z => by cases z)
          exact h (.ref a) H' _ s2 r' ⟨a, vs', rfl, upd_same, RzL.mono st q2⟩
end
end FL
set_option maxRecDepth 100000
set_option maxHeartbeats 4000000
namespace FL
open PySem PySem.Spec PyProof.Rows L2

/-! ### a tuple times a number -/
theorem tmul_same (l : Addr) (items : Array Value) (n : Nat) (dd : Option Addr) (sl : Array (Option Value)) (x : Int) (u : Tok) (c0 : (decide (x < -(2 ^ 63)) || decide (x ≥ 2 ^ 63)) = false) (c1 : (items.isEmpty || x == 1) = true) :
    Meets (Builtin.«tuple.__mul__» ⟨[.ref l, .int x u], []⟩) (fun _ R s => s.heap.get? l = some { cls := .type "tuple", dict := dd, data := .seq items n, slots := sl } ∧ R (.ok (.ret (Value.ref l))) s) :=
  .of_wp fun prog w A R s h => by
    obtain ⟨hp, g, d, tk, os⟩ := s
    obtain ⟨hl, h⟩ := h
    have f1 := AutoSeq1.idx_int
    wp_walk using wpAny_loadPart' hl
    repeat (first
      | (refine wpAny_ite_false (decide_eq_false (by rw [c0]; exact Bool.false_ne_true)) ?_; wp_walk using wpAny_loadPart' hl)
      | (refine wpAny_ite_true (decide_eq_true c1) ?_; wp_walk using wpAny_loadPart' hl))
    all_goals exact ⟨_, rfl, h⟩
theorem tmul_none (l : Addr) (items : Array Value) (n : Nat) (dd : Option Addr) (sl : Array (Option Value)) (x : Int) (u : Tok) (c0 : (decide (x < -(2 ^ 63)) || decide (x ≥ 2 ^ 63)) = false) (c1 : (items.isEmpty || x == 1) = false) (c2 : (decide (x ≤ 0) || items.isEmpty) = true) :
    Meets (Builtin.«tuple.__mul__» ⟨[.ref l, .int x u], []⟩) (fun _ R s => s.heap.get? l = some { cls := .type "tuple", dict := dd, data := .seq items n, slots := sl } ∧
      R (.ok (.ret (Value.ref s.heap.objs.size))) { s with heap := s.heap.push { cls := Value.type "tuple", data := Data.seq #[] }, toks := s.toks }) :=
  .of_wp fun prog w A R s h => by
    obtain ⟨hp, g, d, tk, os⟩ := s
    obtain ⟨hl, h⟩ := h
    have f1 := AutoSeq1.idx_int
    wp_walk using wpAny_loadPart' hl
    repeat (first
      | (refine wpAny_ite_false (decide_eq_false (by rw [c0]; exact Bool.false_ne_true)) ?_; wp_walk using wpAny_loadPart' hl)
      | (refine wpAny_ite_false (decide_eq_false (by rw [c1]; exact Bool.false_ne_true)) ?_; wp_walk using wpAny_loadPart' hl)
      | (refine wpAny_ite_true (decide_eq_true c2) ?_; wp_walk using wpAny_loadPart' hl))
    all_goals exact ⟨_, rfl, h⟩
def repV {α : Type} (xs : List α) (k : Int) : List α := (List.replicate k.toNat xs).flatten
def rRepA (K : PySem.W.Frag) : R2 := fun x y H Q => ∃ l k xs, x = .ref l ∧ y = .int k ∧ SqT K H l xs ∧ -(2 ^ 62) ≤ k ∧ k < 2 ^ 62 ∧ (xs.length : Int) * k ≤ 16777216 ∧
  (xs = [] ∨ k = 1 → Q (.ref l) H) ∧ (¬ (xs = [] ∨ k = 1) → ∀ p, H p = none → Q (.ref p) (upd H p (.tup (repV xs k))))
theorem op_repA {X : Cx} : OpR X (binaryOp .Mult) (rRepA X.K) := by
  intro pins s σ H x y v u Q I rx ry h
  obtain ⟨l, k, xs, rfl, rfl, hT, h1, h2, hz, q1, q2⟩ := h
  cases rx
  obtain ⟨t, rfl⟩ := ry
  obtain ⟨its, r, ⟨⟨cls, dd, data, sl⟩, ho, hc, n, hd⟩, hs⟩ := I.tuple hT
  simp only at hc hd
  subst hc hd
  have hle : its.length = xs.length := r.length.symm
  have hemp : its.toArray.isEmpty = xs.isEmpty := by
    cases its with
    | nil =>
      cases xs with
      | nil => rfl
      | cons a b => cases hle
    | cons a b =>
      cases xs with
      | nil => cases hle
      | cons a b => rfl
  have hsz0 : its.toArray.size = xs.length := by rw [List.size_toArray, hle]
  have c0 : (decide (k < -(2 ^ 63)) || decide (k ≥ 2 ^ 63)) = false := by
    rw [decide_eq_false (by omega), decide_eq_false (by omega)] <;> rfl
  have go : ∀ {Q' : Value → Shared → Prop}, (codeAny (model X.prog X.w) X.A.in1 (.call (.builtin "tuple.__mul__") ⟨[.ref l, .int k t], []⟩) (fun r s' => True) s → True) → True := fun _ => trivial
  refine wpAny_binaryOp_repeat_ref (T := "tuple") (U := "int") (by decide) ⟨_, ho, rfl⟩ (fun s' => typeIs_int s' k t) noFill_tuple_mul F.fills_int_mul F.slot_int_rmul repeat_tuple F.slot_int_index.lookup
    (call_meets F.slot_int_rmul (typeIs_int s k t) F.entry_int_rmul (F.args_int_rmul_2 _ _) (int_rmul_tuple k t l its.toArray n dd sl) ⟨ho, rfl, ⟨_, ho, rfl⟩, ?_⟩)
  by_cases e : xs = [] ∨ k = 1
  · have c1 : (its.toArray.isEmpty || k == 1) = true := by
      rw [hemp]
      rcases e with e | e
      · rw [e]
        rfl
      · rw [e, Bool.or_eq_true]
        exact .inr rfl
    exact call_meets F.slot_tuple_mul ⟨_, ho, rfl⟩ F.entry_tuple_mul (F.args_tuple_mul_2 _ _) (tmul_same l its.toArray n dd sl k t c0 c1) ⟨ho, .ref l, H, I, rfl, q1 e⟩
  · have hne : xs ≠ [] := fun z => e (.inl z)
    have hk1 : k ≠ 1 := fun z => e (.inr z)
    have hi : its.toArray.isEmpty = false := by
      rw [hemp]
      cases xs with
      | nil => exact absurd rfl hne
      | cons a b => rfl
    have c1 : (its.toArray.isEmpty || k == 1) = false := by
      rw [hi, Bool.false_or]
      exact beq_eq_false_iff_ne.mpr hk1
    have hlen : 0 < xs.length := List.length_pos_iff.mpr hne
    by_cases hk : k ≤ 0
    · have c2 : (decide (k ≤ 0) || its.toArray.isEmpty) = true := by
        rw [decide_eq_true hk, Bool.true_or]
      refine call_meets F.slot_tuple_mul ⟨_, ho, rfl⟩ F.entry_tuple_mul (F.args_tuple_mul_2 _ _) (tmul_none l its.toArray n dd sl k t c0 c1 c2) ⟨ho, ?_⟩
      have e0 : repV xs k = [] := by
        unfold repV
        rw [show k.toNat = 0 by omega]
        rfl
      have q3 := q2 e _ (I.hok.fresh (Nat.le_refl _))
      rw [e0] at q3
      refine ⟨.ref s.heap.objs.size, _, I.laid (t' := s.toks) (o := .tup []) (fun b ob q => Heap.get?_push_of_some _ q) (Nat.le_refl _) ?_, rfl, q3⟩
      exact ⟨Nat.zero_le _, [], .nil, IsTup.new _ _⟩
    · have c2 : (decide (k ≤ 0) || its.toArray.isEmpty) = false := by
        rw [hi, Bool.or_false]
        exact decide_eq_false hk
      have hm : ((its.toArray.size : Nat) : Int) * k ≤ 16777216 := by
        rw [hsz0]
        exact hz
      have flen : (List.replicate k.toNat its).flatten.length ≤ sizeLine := by
        rw [PyProof.Rows.lm_len_rep_flat, hle, sizeLine_eq]
        have : ((k.toNat * xs.length : Nat) : Int) ≤ 16777216 := by
          rw [Int.natCast_mul, Int.mul_comm, Int.toNat_of_nonneg (by omega)]
          exact hz
        omega
      have c4 : Builtin.Tuple.tupleTooMany (((its.toArray.size : Nat) : Int) * k) = false := by
        unfold Builtin.Tuple.tupleTooMany
        rw [sizeLine_eq]
        exact decide_eq_false (by omega)
      refine call_meets F.slot_tuple_mul ⟨_, ho, rfl⟩ F.entry_tuple_mul (F.args_tuple_mul_2 _ _) (tuple_mulW l its.toArray n dd sl k t c0 c1 c2 (by omega) c4 (by rw [size_rep, List.size_toArray]; exact flen)) ⟨ho, ?_⟩
      rw [size_rep]
      refine ⟨.ref s.heap.objs.size, _, I.laid (t' := s.toks) (o := .tup (repV xs k)) (fun b ob q => Heap.get?_push_of_some _ q) (Nat.le_refl _) ?_, rfl, q2 e _ (I.hok.fresh (Nat.le_refl _))⟩
      exact ⟨by have := flen; rw [PyProof.Rows.lm_len_rep_flat, hle] at this; unfold repV; rw [PyProof.Rows.lm_len_rep_flat]; exact this, _, r.rep k.toNat, IsTup.new _ _⟩
end FL
set_option maxRecDepth 100000
set_option maxHeartbeats 4000000
namespace FL
open PySem PySem.Spec PyProof.Rows L2

/-! ### x[::-1] of a tuple, a list -/
section
variable {prog : Program} {w : World} {A : Around} {E : Value → Shared → Prop} {s : Shared}
theorem adj_rev (n : Nat) : Builtin.Slice.sliceAdjust none none (-1) (n : Int) = ((n : Int) - 1, -1) := by
  unfold Builtin.Slice.sliceAdjust
  simp
theorem plc_rev (n : Nat) : Builtin.Slice.slicePlaces ((n : Int) - 1) (-1) (-1) = n := by
  unfold Builtin.Slice.slicePlaces
  cases n with
  | zero => rfl
  | succ n =>
    simp
    rw [if_pos (by omega)]
    omega
theorem fm_congr {α β : Type} {f g : α → Option β} : ∀ {l : List α}, (∀ a ∈ l, f a = g a) → l.filterMap f = l.filterMap g
  | [], _ => rfl
  | a :: l, h => by
    rw [List.filterMap_cons, List.filterMap_cons, h a List.mem_cons_self, fm_congr fun b hb => h b (List.mem_cons_of_mem _ hb)]
theorem pick_rev (xs : Array Value) : ((List.range xs.size).filterMap fun (m : Nat) => xs[((xs.size : Int) - 1 + (m : Int) * (-1)).toNat]?).toArray = xs.toList.reverse.toArray := by
  congr 1
  have e : ∀ m ∈ List.range xs.size, xs[((xs.size : Int) - 1 + (m : Int) * (-1)).toNat]? = (xs[·]?) (xs.size - 1 - m) := fun m hm => by
    have := List.mem_range.mp hm
    rw [show ((xs.size : Int) - 1 + (m : Int) * (-1)).toNat = xs.size - 1 - m by omega]
  rw [fm_congr e, show (fun (m : Nat) => xs[xs.size - 1 - m]?) = (fun k => xs[k]?) ∘ (fun m => xs.size - 1 - m) from rfl, ← List.filterMap_map, PySem.W.krv_range, List.filterMap_reverse, PySem.W.krv_all]
theorem slap_rev {sl : Addr} {vl vu vs : Value} {n : Nat} {Q : Int × Int × Nat → Shared → Prop} (hs : s.heap.IsSliceOf sl vl vu vs) (pl : IsPart vl none) (pu : IsPart vu none) (ps : IsPart vs (some (-1)))
    (h : Q ((n : Int) - 1, -1, n) s) : wpAny (model prog w) A (Builtin.Slice.sliceApplied (.ref sl) (pure (n : Int))) Q E s := by
  obtain ⟨os, hos, hcs, hds⟩ := id hs
  unfold Builtin.Slice.sliceApplied Builtin.Slice.sliceFields
  refine wpAny_bind (wpAny_bind (wpAny_field hos hds (x := vl) rfl (wpAny_bind (wpAny_field hos hds (x := vu) rfl (wpAny_bind (wpAny_field hos hds (x := vs) rfl (wpAny_pure ?_)))))))
  refine wpAny_bind (HT.slicePart_ ps ?_)
  show wpAny _ _ (if ((-1 : Int) == 0) = true then _ else _) _ _ s
  rw [if_neg (by decide)]
  refine wpAny_bind (HT.slicePart_ pl (wpAny_bind (HT.slicePart_ pu (wpAny_bind (wpAny_pure ?_)))))
  show wpAny _ _ (match Builtin.Slice.sliceAdjust none none (-1) (n : Int) with | (lo, hi) => pure (lo, (-1 : Int), Builtin.Slice.slicePlaces lo hi (-1))) _ _ s
  rw [adj_rev n]
  show wpAny _ _ (pure ((n : Int) - 1, (-1 : Int), Builtin.Slice.slicePlaces ((n : Int) - 1) (-1) (-1))) _ _ s
  rw [plc_rev]
  exact wpAny_pure h
theorem gi_rev {t sl : Addr} {items : Array Value} {vl vu vs : Value} {Q : Value → Shared → Prop} (ht : IsTup s.heap t items) (hs : s.heap.IsSliceOf sl vl vu vs) (pl : IsPart vl none) (pu : IsPart vu none) (ps : IsPart vs (some (-1)))
    (h : Q (.ref s.heap.objs.size) { s with heap := s.heap.push { cls := .type "tuple", data := .seq items.toList.reverse.toArray } }) (hsz : items.size ≤ sizeLine) : wpAny (model prog w) A (getItem (.ref t) (.ref sl)) Q E s := by
  have hok : sizeOk (.seq items.toList.reverse.toArray) := by
    show items.toList.reverse.toArray.size ≤ sizeLine
    rw [List.size_toArray, List.length_reverse, Array.length_toList]
    exact hsz
  obtain ⟨os, hos, hcs, hds⟩ := id hs
  have hTs : s.TypeIs (.ref sl) "slice" := ⟨os, hos, hcs⟩
  unfold getItem
  try with_reducible refine wpAny_holding ?_
  first | refine wpAny_bind (wpAny_pure ?_) | skip
  refine wpAny_bind (wpAny_sequenceKey ht.typeIs (by decide) ?_)
  refine wpAny_bind (wpAny_callSpecial?_slot (name := Str.ofString "__getitem__") ht.typeIs PyProof.Rows.slot_tuple_getitem
    (wpAny_call_entry PyProof.Rows.slot_tuple_getitem ht.typeIs entry_tuple_getitem ?_ (args_tuple_getitem _ _)))
  show wpAny _ _ (Builtin.Tuple.tupleItemsOf (.ref t) >>= _) _ _ s
  refine wpAny_bind (tupleItemsOf_ ht ?_)
  refine wpAny_bind (wpAny_typeOf hTs ?_)
  rw [if_pos (by decide)]
  refine wpAny_bind (slap_rev (n := items.size) hs pl pu ps ?_)
  show wpAny _ _ (if (((items.size : Int) - 1) == 0 && (-1 : Int) == 1 && items.size == items.size) = true then _ else _) _ _ s
  rw [if_neg (by simp), pick_rev]
  first
    | exact wpAny_bind (m := Builtin.Tuple.tupleExact _) (wpAny_newObj_type (wpAny_pure ⟨_, rfl, wpAny_pure h⟩) hok)
    | exact wpAny_bind (m := Builtin.Tuple.tupleExact _) (wpAny_newObj_type (wpAny_bind (wpAny_pure (wpAny_pure ⟨_, rfl, wpAny_pure h⟩))) hok)
    | exact wpAny_bind (wpAny_bind (m := Builtin.Tuple.tupleExact _) (wpAny_newObj_type (wpAny_pure (wpAny_pure ⟨_, rfl, wpAny_pure h⟩)) hok))
    | exact wpAny_bind (wpAny_bind (m := Builtin.Tuple.tupleExact _) (wpAny_newObj_type (wpAny_pure ⟨_, rfl, wpAny_pure h⟩) hok))
end
def tRevT (K : PySem.W.Frag) (te : TE) : TE := fun σ H Q => te σ H fun x H1 => ∃ a xs, x = .ref a ∧ ((SqL K H1 a xs ∧ ∀ p, H1 p = none → Q (.ref p) (upd H1 p (.lst xs.reverse))) ∨ (SqT K H1 a xs ∧ ∀ p, H1 p = none → Q (.ref p) (upd H1 p (.tup xs.reverse))))
theorem pe_revT {X : Cx} {e : Expr} {te : TE} {k : Nat} {p1 p2 p3 pos : Pos} (he : PE X e te) : PE X (.Subscript e (.Slice none none (some (.UnaryOp .USub (.Constant (.int 1) k p1) p2)) p3) pos) (tRevT X.K te) := by
  refine ⟨fun pins s σ H Q I h => ?_⟩
  refine Subscript_ (thn (he.run pins s σ H _ I h) fun v s1 ⟨x, H1, I1, r1, q1⟩ => ?_)
  obtain ⟨a, xs, ex, q⟩ := q1
  subst ex
  cases r1
  have hst : PO X (some (.UnaryOp .USub (.Constant (.int 1) k p1) p2)) (tPart (tUn (rU fun i => .int (-i)) (tC (.int 1)))) := po_some (pe_un un_neg pe_int)
  refine wpAny_Slice (thn (po_none.run pins s1 σ H1 (fun o H2 => o = none ∧ H2 = H1) I1 ⟨rfl, rfl⟩) fun vl s2 ⟨l, H2, I2, pl, el, e2⟩ => ?_)
  subst el e2
  refine thn (po_none.run pins s2 σ H2 (fun o H3 => o = none ∧ H3 = H2) I2 ⟨rfl, rfl⟩) fun vu s3 ⟨u, H3, I3, pu, eu, e3⟩ => ?_
  subst eu e3
  refine thn (hst.run pins s3 σ H3 (fun o H4 => o = some (-1) ∧ H4 = H3) I3 ⟨1, rfl, -1, rfl, rfl, rfl⟩) fun vs s4 ⟨o, H4, I4, ps, eo, e4⟩ => ?_
  subst eo e4
  have I5 : Inv X pins σ H4 { s4 with heap := s4.heap.push { cls := .type "slice", data := .fields #[vl, vu, vs] } } := I4.kept (t' := s4.toks) fun b ob q => Heap.get?_push_of_some _ q
  show wpAny (model X.prog X.w) X.A (subscriptTail e (.Slice none none (some (.UnaryOp .USub (.Constant (.int 1) k p1) p2)) p3) (.ref a) (.ref s4.heap.objs.size)) (EP X pins σ Q) X.xe { s4 with heap := s4.heap.push { cls := .type "slice", data := .fields #[vl, vu, vs] } }
  rcases q with ⟨hx, q⟩ | ⟨hx, q⟩
  · obtain ⟨its, r, ht, hz⟩ := I5.list hx
    have hlen := r.length
    refine tail_any (ops := [.ref a, .ref s4.heap.objs.size]) ht.isList.typeIs (PySem.slot_list_getitem.lookup) ?_ (by with_unfolding_all rfl)
    refine wpAny_getItem_list_slice ht.isList (Heap.IsSliceOf.new _ vl vu vs) pl pu ps (by decide) ?_ (by rw [List.size_toArray]; omega)
    rw [PySem.W.krv_pick]
    refine ⟨.ref _, _, I5.laid (t' := s4.toks) (o := .lst xs.reverse) (fun b ob q => Heap.get?_push_of_some _ q) (Nat.le_refl _) ?_, rfl, q _ (I5.hok.fresh (Nat.le_refl _))⟩
    exact ⟨by rw [List.length_reverse]; exact hz, _, 0, r.reverse, Heap.get?_push_size _ rfl⟩
  · obtain ⟨its, r, ht, hz⟩ := I5.tuple hx
    have hlen := r.length
    refine tail_any (ops := [.ref a, .ref s4.heap.objs.size]) ht.typeIs (PyProof.Rows.slot_tuple_getitem.lookup) ?_ (by with_unfolding_all rfl)
    refine gi_rev ht (Heap.IsSliceOf.new _ vl vu vs) pl pu ps ?_ (by rw [List.size_toArray]; omega)
    refine ⟨.ref _, _, I5.laid (t' := s4.toks) (o := .tup xs.reverse) (fun b ob q => Heap.get?_push_of_some _ q) (Nat.le_refl _) ?_, rfl, q _ (I5.hok.fresh (Nat.le_refl _))⟩
    exact ⟨by rw [List.length_reverse]; exact hz, its.reverse, r.reverse, IsTup.new _ _⟩
end FL
set_option maxRecDepth 100000
set_option maxHeartbeats 4000000
namespace FL
open PySem PySem.Spec PyProof.Rows L2
open AutoSeq1 (wpAny_loadPart')

/-! ### enumerate(a tuple) -/
theorem enum_newT (t : Addr) (items : Array Value) :
    Meets (Builtin.«enumerate.__new__» ⟨[.type "enumerate", .ref t], []⟩) (fun _ R s => s.heap.IsTuple t items ∧
      R (.ok (.ret (.ref (s.heap.push { cls := .type "tuple_iterator", data := .fields #[.ref t, .int 0 0] }).objs.size)))
        { s with heap := (s.heap.push { cls := .type "tuple_iterator", data := .fields #[.ref t, .int 0 0] }).push { cls := .type "enumerate", data := .fields #[.none, .bool false, .ref s.heap.objs.size, rawInt 0, .none, .none] } }) :=
  .of_wp fun prog w A R s h => by
    obtain ⟨hp, g, d, tk, os⟩ := s
    obtain ⟨ht, h⟩ := h
    have hsub := sub_enumerate
    have q1 : ∀ {A' : Around} {E : Value → Shared → Prop} {Q : Value → Shared → Prop}, Q (.ref hp.objs.size) ⟨hp.push { cls := .type "tuple_iterator", data := .fields #[.ref t, .int 0 0] }, g, d, tk, os⟩ → wpAny (model prog w) A' (pyIter (.ref t)) Q E ⟨hp, g, d, tk, os⟩ :=
      fun q => wpAny_pyIter_tuple ht q
    wp_walk using q1
    refine wpAny_stack_any fun st => wpAny_pure ?_
    split
    · rename_i c _ _ _ _ _
      cases (c == Value.type "enumerate")
      · wp_walk using q1
        exact ⟨_, rfl, h⟩
      · wp_walk using q1
        exact ⟨_, rfl, h⟩
    · wp_walk using q1
      exact ⟨_, rfl, h⟩
section
variable {prog : Program} {w : World} {A : Around} {E : Value → Shared → Prop} {s : Shared}
theorem call_enumT {t : Addr} {items : Array Value} {Q : Value → Shared → Prop} (ht : s.heap.IsTuple t items)
    (h : ∀ h', IsEnum h' (s.heap.objs.size + 1) s.heap.objs.size 0 .none → h'.IsTupleIter s.heap.objs.size t 0 → h'.objs.size = s.heap.objs.size + 2 →
      (∀ b o, s.heap.get? b = some o → h'.get? b = some o) → Q (.ref (s.heap.objs.size + 1)) { s with heap := h' }) : wpAny (model prog w) A (call (.type "enumerate") [.ref t]) Q E s := by
  refine callType_new F.called_enumerate (by decide) (F.typeCall_enumerate_1 _) (F.newCall_enumerate_1 _) (fun obj => F.args_object_init_2 obj _) F.entry_enumerate_new (enum_newT t items) ⟨ht, ?_⟩
  have hz : (s.heap.push { cls := .type "tuple_iterator", data := .fields #[.ref t, .int 0 0] }).objs.size = s.heap.objs.size + 1 := Heap.size_push ..
  show _ ∧ _
  rw [hz]
  have he : IsEnum ((s.heap.push { cls := .type "tuple_iterator", data := .fields #[.ref t, .int 0 0] }).push
      { cls := .type "enumerate", data := .fields #[.none, .bool false, .ref s.heap.objs.size, rawInt 0, .none, .none] }) (s.heap.objs.size + 1) s.heap.objs.size 0 .none := by
    have := Heap.get?_push_size (s.heap.push { cls := .type "tuple_iterator", data := .fields #[.ref t, .int 0 0] })
      (o := { cls := .type "enumerate", data := .fields #[.none, .bool false, .ref s.heap.objs.size, rawInt 0, .none, .none] }) rfl
    rw [hz] at this
    exact this
  refine ⟨⟨_, he, rfl⟩, h _ he ⟨_, Heap.get?_push_of_some _ (Heap.get?_push_size _ rfl), rfl, rfl⟩ (by rw [Heap.size_push, hz]) fun b o x => Heap.get?_push_of_some _ (Heap.get?_push_of_some _ x)⟩
end
theorem enum_endT {prog : Program} {w : World} {A : Around} {E : Value → Shared → Prop} {s : Shared} {e it t : Addr} {i : Nat} {items : Array Value} {old : Value} {Q : Option Value → Shared → Prop} (hh : A.handled = none)
    (he : IsEnum s.heap e it i old) (hit : s.heap.IsTupleIter it t i) (ht : s.heap.IsTuple t items) (hx : items[i]? = none) (hQ : ∀ h', Heap.ExtBut it s.heap h' → Q none { s with heap := h' }) : wpAny (model prog w) A (pyNext (.ref e)) Q E s := by
  have hT : s.TypeIs (.ref e) "enumerate" := ⟨_, he, rfl⟩
  unfold pyNext
  refine wpAny_bind (wpAny_attempt (wpAny_callSpecial?_slot (name := Str.ofString "__next__") hT F.slot_enumerate_next
    (wpAny_call_entry F.slot_enumerate_next hT F.entry_enumerate_next ?_ (F.args_enumerate_next_1 _))))
  show wpAny _ _ (field (.ref e) 2 >>= _) _ _ _
  refine wpAny_bind (wpAny_field he rfl (x := .ref it) rfl ?_)
  refine wpAny_bind (wpAny_nextOf_tuple_end hh hit ht hx fun h' x he' hx' => ?_)
  obtain ⟨o, ho, hc⟩ := hx'
  refine wpAny_bind (wpAny_isInstance (T := "StopIteration") (b := true) ⟨o, ho, hc⟩ isSubtype_stop ?_)
  exact wpAny_pure (hQ _ he')
def IteT (K : PySem.W.Frag) (a : Addr) : It :=
  ⟨fun i H => ∃ xs x, SqT K H a xs ∧ xs[i]? = some x, fun i H v H' => ∃ T x, v = .ref T ∧ H T = none ∧ H' = upd H T (.tup [.int (i : Nat), x]) ∧ ∀ xs, SqT K H a xs → xs[i]? = some x, fun i H => ∃ xs, SqT K H a xs ∧ xs.length ≤ i⟩
theorem turn_enumT {P : Program} {w : World} {K : PySem.W.Frag} {elts : List Expr} {kk : Nat} {tpos : Pos} (a e it : Addr) (hai : a ≠ it) :
    Turn P w K (.Tuple elts kk tpos) (IteT K a) [e, it] e (fun i h => (∃ old, IsEnum h e it ((i : Nat) : Int) old) ∧ h.IsTupleIter it a i ∧ e ≠ it ∧ a ≠ e) where
  mem := by simp
  obj := fun i h st b hb => by
    obtain ⟨⟨old, he⟩, ⟨o, ho, hc, hd⟩, _⟩ := st
    have e' : b = e ∨ b = it := by simpa using hb
    rcases e' with z | z
    · rw [z]
      exact ⟨_, he, fun v q => nomatch q⟩
    · rw [z]
      exact ⟨o, ho, fun v q => by rw [hd] at q; cases q⟩
  keep := fun i h h' st k => let ⟨⟨old, he⟩, hi, hne⟩ := st; ⟨⟨old, k e (by simp) _ he⟩, hi.at fun o q => k it (by simp) o q, hne⟩
  item := by
    intro X hP hw hK hc i pins s σ H E I hf st hg
    subst hP hw hK
    obtain ⟨⟨old, he⟩, hit, hne, hae⟩ := st
    obtain ⟨xs, x, hq, hx⟩ := hg
    obtain ⟨its, rv, p, hz⟩ := I.tuple hq
    obtain ⟨u, hu, ru⟩ := rv.get hx
    have hel : e < s.heap.objs.size := Heap.lt_size he
    have hil : it < s.heap.objs.size := by
      obtain ⟨_, q, _⟩ := hit
      exact Heap.lt_size q
    have pt : s.heap.IsTuple a its.toArray := p
    have hsz : i < its.toArray.size := by
      rw [List.size_toArray]
      exact (List.getElem?_eq_some_iff.mp hu).1
    refine wpAny_pyNext_enum_itemD (Draws.tuple (show X.A.in1.handled = none from I.ok.hd hc) it a hai its.toArray) he ⟨hit, pt⟩ hsz hne (by simp [hne, Ne.symm hae]) fun u' h' tk hP ho st' hT hsz' hk => ?_
    have hu' : u' = u := by
      rw [List.getElem?_toArray, hu] at hP
      exact (Option.some.inj hP).symm
    subst hu'
    refine ⟨_, rfl, wpAny_letOwnedTupleGo_enum (s := { s with heap := h', toks := tk + 1 }) ho fun h'' he' sb => ?_⟩
    have hT2 : h''.get? s.heap.objs.size = some { cls := .type "tuple", data := .seq #[.int i tk, u'] } := (sb.2 _ (Nat.ne_of_gt hel)).trans hT
    have new : ObjOk X.prog X.w (upd H s.heap.objs.size (.tup [.int (i : Nat), x])) h'' s.heap.objs.size (.tup [.int (i : Nat), x]) :=
      ⟨by show 2 ≤ sizeLine; decide, [.int i tk, u'], .cons ⟨_, rfl⟩ (.cons ru .nil), ⟨_, hT2, rfl, _, rfl⟩⟩
    have I1 : Inv X pins σ (upd H s.heap.objs.size (.tup [.int (i : Nat), x])) { s with heap := h'', toks := tk + 1 } :=
      I.turnedNew (ch := [e, it]) (fun b ob hb q => (sb.2 b (fun z => hb (by simp [z]))).trans (hk b ob (fun z => hb (by simp [z])) (fun z => hb (by simp [z])) q)) hf (Nat.le_refl _) new
    refine ⟨.ref s.heap.objs.size, _, I1, rfl, ⟨_, x, rfl, I.hok.fresh (Nat.le_refl _), rfl, fun ys hy => by rw [I.tuple_inj hy hq]; exact hx⟩, ⟨⟨u', ?_⟩, st'.1.at fun o q => (sb.2 it (Ne.symm hne)).trans q, hne, hae⟩, fun b hb => ?_⟩
    · have e1 : ((i + 1 : Nat) : Int) = (i : Int) + 1 := by omega
      rw [e1]
      exact he'
    · have hb' : b < s.heap.objs.size := by
        have e' : b = e ∨ b = it := by simpa using hb
        rcases e' with z | z
        · rw [z]
          exact hel
        · rw [z]
          exact hil
      rw [upd_ne (Nat.ne_of_lt hb')]
      exact (hf b hb).1
  done := by
    intro X hP hw hK hc i pins s σ H E I hf st hg
    subst hP hw hK
    obtain ⟨⟨old, he⟩, hit, hne, hae⟩ := st
    obtain ⟨xs, hq, hx⟩ := hg
    obtain ⟨its, rv, p, hz⟩ := I.tuple hq
    obtain ⟨f0, f1, f2, f3, f4, f5⟩ := hf it (by simp)
    have hl := rv.length
    have pt : s.heap.IsTuple a its.toArray := p
    exact enum_endT (I.ok.hd hc) he hit pt (by simp; omega) fun h' eb => ⟨rfl, I.turned (t' := s.toks) (fun b o hb q => eb b o hb q) f0 f1 f3 f4 f5⟩
  self := fun A i s Q E st h => let ⟨⟨_, he⟩, _⟩ := st; wpAny_pyIter_enum he h
def iEnumA (K : PySem.W.Frag) (ta : TA) : TI := fun σ H R => ta σ H fun vs H1 => ∃ a xs, vs = [.ref a] ∧ ((SqL K H1 a xs ∧ R (Ite K a) H1) ∨ (SqT K H1 a xs ∧ R (IteT K a) H1))
theorem pi_enumA {X : Cx} {e : Expr} {ta : TA} {p pos tpos : Pos} {elts : List Expr} {kk : Nat} (hg : Gl X "enumerate") (hm : X.mg "enumerate" = none) (ha : PA X [e] ta) (hs : starEach [e] X.env = [(false, eval e X.env)] := by rfl) :
    PI X (.Tuple elts kk tpos) (.Call (.Name "enumerate" p) [e] [] pos) (iEnumA X.K ta) := by
  refine ⟨fun pins s σ H R I h => ?_⟩
  refine Call_ (ld_blt I hg hm boot_enumerate (PyProof.Rows.callWith_type1 (thn (ha.run pos pins s σ H _ I h) fun us s1 ⟨vs, H1, I1, r1, q1⟩ => ?_) hs rfl))
  obtain ⟨a, xs, ex, q⟩ := q1
  subst ex
  cases r1 with
  | cons r rr =>
    cases rr
    cases r
    have fin : ∀ {h' : Heap} {b : Addr}, Inv X pins σ H1 { s1 with heap := h' } → s1.heap.objs.size ≤ b → FpOk X pins H1 b := fun I2 hle => I1.fpOk hle (I1.hok.fresh hle)
    rcases q with ⟨hq, q⟩ | ⟨hq, q⟩
    · obtain ⟨its, rv, p', hz⟩ := I1.list hq
      refine call_enumerate_list p'.isList fun h' he hit hsz hk => wpAny_pyIter_enum he ?_
      have I2 : Inv X pins σ H1 { s1 with heap := h' } := I1.kept (t' := s1.toks) hk
      refine ⟨s1.heap.objs.size + 1, [s1.heap.objs.size + 1, s1.heap.objs.size], _, _, H1, rfl, I2, turn_enum a (s1.heap.objs.size + 1) s1.heap.objs.size, ⟨⟨.none, he⟩, hit, Nat.succ_ne_self _⟩, fun b hb => ?_, q⟩
      have e' : b = s1.heap.objs.size + 1 ∨ b = s1.heap.objs.size := by simpa using hb
      exact fin I2 (e'.elim (fun z => by rw [z]; exact Nat.le_succ _) fun z => by rw [z]; exact Nat.le_refl _)
    · obtain ⟨its, rv, p', hz⟩ := I1.tuple hq
      have hlt : a < s1.heap.objs.size := p'.lt
      refine call_enumT (show s1.heap.IsTuple a its.toArray from p') fun h' he hit hsz hk => wpAny_pyIter_enum he ?_
      have I2 : Inv X pins σ H1 { s1 with heap := h' } := I1.kept (t' := s1.toks) hk
      refine ⟨s1.heap.objs.size + 1, [s1.heap.objs.size + 1, s1.heap.objs.size], _, _, H1, rfl, I2, turn_enumT a (s1.heap.objs.size + 1) s1.heap.objs.size (Nat.ne_of_lt hlt), ⟨⟨.none, he⟩, hit, Nat.succ_ne_self _, Nat.ne_of_lt (Nat.lt_succ_of_lt hlt)⟩, fun b hb => ?_, q⟩
      have e' : b = s1.heap.objs.size + 1 ∨ b = s1.heap.objs.size := by simpa using hb
      exact fin I2 (e'.elim (fun z => by rw [z]; exact Nat.le_succ _) fun z => by rw [z]; exact Nat.le_refl _)
theorem walk_enumT {K : PySem.W.Frag} {a : Addr} {xs : List V} : Walk (IteT K a) xs.length (fun H => SqT K H a xs) (YPair (fun i => some (.int (i : Nat))) (fun i => xs[i]?)) := by
  refine ⟨fun i _ hi q => ⟨xs, xs[i], q, by simp [hi]⟩, fun _ q => ⟨xs, q, Nat.le_refl _⟩, fun i H v H' _ q y => ?_⟩
  obtain ⟨T, x, h1, h2, h3, h4⟩ := y
  exact ⟨T, .int (i : Nat), x, h1, h2, h3, rfl, h4 xs q⟩
section
variable {ω : Type} {X : Cx} {C : Cc} {W : Wd ω} {E : XK}
theorem wk_enumT {Ht : Hp} {ds : List D} {vs : List V} {a : Addr} (ha : SqT C.K Ht a vs) (la : RzL C Ht ds vs) : WkD C W (IteT C.K a) Ht (enumD ds) :=
  ⟨_, _, by rw [enumD_len, la.len]; exact walk_enumT, fun H' _ s _ => Same.sqT s ha, fun i H' Ht' x H'' _ s _ _ hi y => by
    obtain ⟨T, x1, x2, rfl, n, rfl, h1, h2⟩ := y
    cases h1
    obtain ⟨d, h3, h4⟩ := la.getV h2
    exact ⟨.tup [.int i, d], by rw [enumD_at, h3]; rfl, .inr ⟨T, _, x2, .int i, d, rfl, rfl, n, rfl, rfl, Rz.mono s h4⟩⟩⟩
def D.enumA : List D → Option (List D)
  | [d] => d.its.map enumD
  | _ => none
theorem fi_enumA {e : Expr} {p pos tpos : Pos} {elts : List Expr} {kk : Nat} {ma : M ω (List D)} (hK : X.K = C.K) (hg : Gl X "enumerate") (hm : X.mg "enumerate" = none) (ha : PA X [e] (gOf C W E (rL C) ma)) (hs : starEach [e] X.env = [(false, eval e X.env)] := by rfl) :
    PI X (.Tuple elts kk tpos) (.Call (.Name "enumerate" p) [e] [] pos) (gOf C W E (rI C W) (m1 (fun ds => pu (D.enumA ds)) ma)) := PI.imp (pi_enumA hg hm ha hs) fun σ H R h => gOf.bind h fun d v Ht H1 Ht1 fp ρ1 w1 fp1 e1 s1 o1 r1 q1 h1 => by
  unfold pu at h1
  split at h1
  · rename_i l hl
    unfold D.enumA at hl
    split at hl
    · rename_i d0
      cases z : d0.its with
      | none =>
        rw [z] at hl
        cases hl
      | some xs =>
        rw [z] at hl
        cases hl
        obtain ⟨u, rfl, hu⟩ := rzl1 q1
        obtain ⟨a, vs, rfl, sq, la⟩ := hu.its z
        refine ⟨a, vs, rfl, ?_⟩
        rw [hK]
        rcases sq with sq | sq
        · exact .inl ⟨e1.sub.seq sq, At.here (RR := rI C W) h1 e1 r1 (wk_enum sq la)⟩
        · exact .inr ⟨Same.sqT e1.sub sq, At.here (RR := rI C W) h1 e1 r1 (wk_enumT sq la)⟩
    · cases hl
  · exact h1.elim
end
end FL
set_option maxRecDepth 100000
set_option maxHeartbeats 4000000
namespace FL
open PySem PySem.Spec PyProof.Rows L2
section
variable {ω : Type}
def D.mulA : D → D → Option D
  | .int i, .int j => if (-(2 ^ 64) < i ∧ i < 2 ^ 64) ∨ (-(2 ^ 64) < j ∧ j < 2 ^ 64) then some (.int (i * j)) else none
  | .tup xs, .int k => if -(2 ^ 62) ≤ k ∧ k < 2 ^ 62 ∧ (xs.length : Int) * k ≤ 16777216 then some (.tup (repV xs k)) else none
  | .lst xs, .int k => if -(2 ^ 62) ≤ k ∧ k < 2 ^ 62 ∧ xs.length * k.toNat ≤ 16777216 then some (.lst (repV xs k)) else none
  | _, _ => none
def D.revA : D → Option D
  | .tup xs => some (.tup xs.reverse)
  | .lst xs => some (.lst xs.reverse)
  | _ => none
def D.isiC (c : Str) : List D → Option D
  | [d, .gl x] => if x = c then (match d with
    | .ins c' _ _ => if c' = c then some (.bl true) else none
    | d => match d.tyN with
      | some _ => some (.bl false)
      | none => none) else none
  | _ => none
def fExtA : List D → List D → Option (D × List D)
  | ds, [.lst es] => if ds.length + es.length ≤ 16777216 then some (.non, ds ++ es) else none
  | ds, [.tup es] => if ds.length + es.length ≤ 16777216 then some (.non, ds ++ es) else none
  | _, _ => none
def D.zipA : List D → Option (List D)
  | [.lst xs, .lst ys] => some (zipD xs ys)
  | [.tup xs, .tup ys] => some (zipD xs ys)
  | _ => none
def D.addI : D → D → Option D
  | .int i, .int j => some (.int (i + j))
  | _, _ => none
theorem addI_ok (a b d : D) (h : D.addI a b = some d) : ∃ i j, a = .int i ∧ b = .int j ∧ d = .int (i + j) := by
  cases a <;> cases b <;> simp only [D.addI, reduceCtorEq, Option.some.injEq] at h
  exact ⟨_, _, rfl, rfl, h.symm⟩
theorem subI_ok (a b d : D) (h : D.sub a b = some d) : ∃ i j, a = .int i ∧ b = .int j ∧ d = .int (i - j) := by
  cases a <;> cases b <;> simp only [D.sub, reduceCtorEq, Option.some.injEq] at h
  exact ⟨_, _, rfl, rfl, h.symm⟩
end
section
variable {ω : Type} {X : Cx} {C : Cc} {W : Wd ω} {E : XK}
theorem RzL.rep {H : Hp} {xs : List D} {vs : List V} (h : RzL C H xs vs) (k : Int) : RzL C H (repV xs k) (repV vs k) := by
  unfold repV
  induction k.toNat with
  | zero => exact rfl
  | succ n ih =>
    rw [List.replicate_succ, List.replicate_succ, List.flatten_cons, List.flatten_cons]
    exact h.app ih
def rMulA (K : PySem.W.Frag) : R2 := fun x y H Q => L2.rI CMul (fun i j => V.int (i * j)) x y H Q ∨ rRepA K x y H Q ∨ rRep x y H Q
theorem op_mulA : OpR X (binaryOp .Mult) (rMulA X.K) := op_mul.or (op_repA.or op_rep)
theorem os_mulA (hK : X.K = C.K) : OpS C W E (rMulA X.K) (pu2 D.mulA) := by
  intro da db x y Ht H fp ρ σ w Q e rl ra rb h0
  unfold pu2 pu at h0
  cases da <;> cases db <;> simp only [D.mulA] at h0 <;> try exact h0.elim
  case int.int i j =>
    have ra' : x = .int i := ra
    have rb' : y = .int j := rb
    subst ra' rb'
    split at h0
    · rename_i d c
      split at c
      · rename_i le
        cases c
        exact .inl ⟨i, j, rfl, rfl, le, At.here h0 e rl rfl⟩
      · cases c
    · exact h0.elim
  case tup.int xs k =>
    obtain ⟨a, vs, rfl, sa, la⟩ := ra
    have rb' : y = .int k := rb
    subst rb'
    split at h0
    · rename_i d c
      split at c
      · rename_i le
        cases c
        refine .inr (.inl ⟨a, k, vs, rfl, rfl, .of (e.sub _ _ sa), le.1, le.2.1, by rw [← la.len]; exact le.2.2, fun z => ?_, fun _ p np => ?_⟩)
        · have e0 : repV xs k = xs := by
            rcases z with z | z
            · subst z
              rw [la.nilv]
              unfold repV
              induction k.toNat with
              | zero => rfl
              | succ n ih => rw [List.replicate_succ, List.flatten_cons, ih]; rfl
            · subst z
              unfold repV
              simp
          rw [e0] at h0
          exact At.here h0 e rl ⟨a, vs, rfl, sa, la⟩
        · exact At.alloc (α := D) h0 e rl np ⟨p, _, rfl, upd_same, RzL.mono (same_upd (none_of_sub e.sub np)) (la.rep k)⟩
      · cases c
    · exact h0.elim
  case lst.int xs k =>
    obtain ⟨a, vs, rfl, sa, la⟩ := ra
    have rb' : y = .int k := rb
    subst rb'
    split at h0
    · rename_i d c
      split at c
      · rename_i le
        cases c
        refine .inr (.inr ⟨a, k, vs, rfl, rfl, e.sub _ _ sa, by omega, by omega, by rw [← la.len, sizeLine24]; exact le.2.2, fun p np => ?_⟩)
        exact At.alloc (α := D) h0 e rl np ⟨p, _, rfl, upd_same, RzL.mono (same_upd (none_of_sub e.sub np)) (la.rep k)⟩
      · cases c
    · exact h0.elim
theorem fe_revA {e : Expr} {k : Nat} {p1 p2 p3 pos : Pos} {ma : M ω D} (hK : X.K = C.K) (he : PE X e (gOf C W E (rD C) ma)) : PE X (.Subscript e (.Slice none none (some (.UnaryOp .USub (.Constant (.int 1) k p1) p2)) p3) pos) (gOf C W E (rD C) (m1 (fun d => pu d.revA) ma)) :=
  PE.imp (pe_revT he) fun σ H Q h => gOf.bind h fun d v Ht H1 Ht1 fp ρ1 w1 fp1 e1 s1 o1 r1 q1 h1 => by
    cases d with
    | tup xs =>
      obtain ⟨a, vs, rfl, ha, la⟩ := q1
      exact ⟨a, vs, rfl, .inr ⟨.of (e1.sub _ _ ha), fun p np => At.alloc (α := D) h1 e1 r1 np ⟨p, _, rfl, upd_same, RzL.mono (same_upd (none_of_sub e1.sub np)) la.rev⟩⟩⟩
    | lst xs =>
      obtain ⟨a, vs, rfl, ha, la⟩ := q1
      exact ⟨a, vs, rfl, .inl ⟨.of (e1.sub _ _ ha), fun p np => At.alloc (α := D) h1 e1 r1 np ⟨p, _, rfl, upd_same, RzL.mono (same_upd (none_of_sub e1.sub np)) la.rev⟩⟩⟩
    | _ => exact h1.elim
theorem fe_dnewK {pos : Pos} : PE X (.Dict [] [] pos) (gOf C W E (rD C) (mC (.dK [] []))) := PE.imp pe_dnewK fun σ H Q ⟨_, _, _, _, e, r, h⟩ p np => At.alloc (α := D) h e r np ⟨p, [], rfl, .inl upd_same, rfl, List.nodup_nil, rfl⟩
theorem fe_dnewT {pos : Pos} : PE X (.Dict [] [] pos) (gOf C W E (rD C) (mC (.dT [] []))) := PE.imp pe_dnewT fun σ H Q ⟨_, _, _, _, e, r, h⟩ p np => At.alloc (α := D) h e r np ⟨p, [], rfl, .inl upd_same, rfl, List.nodup_nil, rfl⟩
theorem fts_one {c : Expr} {mc : M ω Bool} (h : PT X c (gOf C W E rB mc)) : PTs X [c] (gOf C W E rB mc) := pts_one h
/-! a class's own facts for isinstance -/
structure ClsK (C : Cc) (c : Str) : Prop where
  ex : ∃ Ca, C.mg c = some (.ref Ca) ∧ Cls C.K Ca ∧ PySem.W.findIn C.K (.ref Ca) "__class__" = some (some (.builtin "object.__class__")) ∧ PySem.W.specialIn C.K (.builtin "object.__class__") "__get__" = some (some (.builtin "getset_descriptor.__get__")) ∧
    PySem.W.takesIn C.K (.builtin "object.__class__") = some true ∧ PySem.W.mroIn C.K Ca (.type "object") = some true ∧ ∀ t ∈ (["NoneType", "bool", "int", "str", "tuple", "list", "dict"] : List String), PySem.W.kitOne C.K (.type t) (.ref Ca) = some false
theorem tyN_mem {d : D} {t : String} (h : d.tyN = some t) : t ∈ (["NoneType", "bool", "int", "str", "tuple", "list", "dict"] : List String) := by
  cases d <;> simp only [D.tyN, reduceCtorEq] at h <;> cases h <;> decide
theorem cs_isiC {c : Str} (T : ClsK C c) (hK : X.K = C.K) : CallS C W E (rIsi X.K) (pu1 (D.isiC c)) := cs_pu fun ds d vs Ht H Q s ra q k => by
  obtain ⟨Ca, hm, cl, f1, f2, f3, f4, f5⟩ := T.ex
  unfold D.isiC at q
  split at q
  · rename_i d0 x
    split at q
    · rename_i hx
      subst hx
      obtain ⟨v, u, rfl, h1, f, rfl, hf⟩ := rzl2 ra
      rw [hm] at hf
      cases hf
      split at q
      · rename_i c' ns es
        split at q
        · rename_i hc
          subst hc
          cases q
          obtain ⟨a, Cb, dx, us, rfl, hb, ha, _, _⟩ := h1
          rw [hm] at hb
          cases hb
          refine ⟨.ref a, .ref Ca, .ref Ca, .ref Ca, true, rfl, .own Ca, by rw [hK]; exact .base (.ins (s _ _ ha) cl f1 f2 f3 f4), ?_, k _ rfl⟩
          unfold PySem.W.kitOne
          simp
        · cases q
      · split at q
        · rename_i t ht
          cases q
          exact ⟨v, .ref Ca, .type t, .ref Ca, false, rfl, .own Ca, by rw [hK]; exact Rz.tyX (Rz.mono s h1) ht, by rw [hK]; exact f5 t (tyN_mem ht), k _ rfl⟩
        · cases q
    · cases q
  · cases q
/-! ### methods of a slot's list, by rules -/
theorem fe_sm {nm : Str} {id : String} {r : V → List V → Hp → VK → Prop} {f : List D → List D → Option (D × List D)} {i : Nat} {o e : Expr} {es : List Expr} {apos cpos : Pos} {ma : M ω (List D)} (slot : Slot "list" nm id) (hty : typeOf (.builtin id) = pure (.type "method_descriptor")) (hm : MtR X id r) (hr : MS C r f)
    (ho : PE X o (tVar i)) (ha : PA X (e :: es) (gOf C W E (rL C) ma)) (hbase : attributeBase o nm X.env (eval o X.env) = eval o X.env := by rfl)
    (hfew : ((backTo cpos (starEach (e :: es) X.env)).all (fun x => !x.1) && (backToKw cpos (keywordEach [] X.env)).all (fun x => x.1.isSome)
      && decide ((e :: es).length + ([] : List Keyword).length + (if ([] : List Keyword).isEmpty then 0 else 1) < 30)) = true := by rfl)
    (hline : (apos.endLine == cpos.line) = true := by rfl) (hs : starEach (e :: es) X.env = (false, eval e X.env) :: starEach es X.env := by rfl) (hplain : (backTo cpos (starEach es X.env)).any (·.1) = false := by rfl) :
    PE X (.Call (.Attribute o nm apos) (e :: es) [] cpos) (gOf C W E (rD C) (mSM i f ma)) :=
  PE.imp (pe_bm PySem.F.plainAttrs_list slot hty hm ho ha hbase hfew hline hs hplain) (tBM_of hr)
theorem fe_sm0 {nm : Str} {id : String} {r : V → List V → Hp → VK → Prop} {f : List D → List D → Option (D × List D)} {i : Nat} {o : Expr} {apos cpos : Pos} (slot : Slot "list" nm id) (hty : typeOf (.builtin id) = pure (.type "method_descriptor")) (hm : MtR X id r) (hr : MS C r f)
    (ho : PE X o (tVar i)) (hbase : attributeBase o nm X.env (eval o X.env) = eval o X.env := by rfl) (hline : (apos.endLine == cpos.line) = true := by rfl) :
    PE X (.Call (.Attribute o nm apos) [] [] cpos) (gOf C W E (rD C) (mSM i f mNil)) := PE.imp (pe_bm0 PySem.F.plainAttrs_list slot hty hm ho hbase hline) (tBM0_of hr)
/-- extend by a list or a tuple -/
def rExtA (K : PySem.W.Frag) : V → List V → Hp → VK → Prop := fun x vs H Q => rExtend x vs H Q ∨ ∃ l b xs zs, x = .ref l ∧ vs = [.ref b] ∧ H l = some (.lst xs) ∧ SqT K H b zs ∧ xs.length + zs.length ≤ sizeLine ∧ Q .non (upd H l (.lst (xs ++ zs)))
theorem ext_tup (l : Addr) (items : Array Value) (n : Nat) (b : Addr) (items2 : Array Value) (n2 : Nat) (dd : Option Addr) (sl : Array (Option Value)) (hs0 : ¬(!items.isEmpty && Builtin.List.listTooLong (items.size + items2.size)) = true) (hs1 : items.size ≤ sizeLine) (hs2 : items.size + items2.size ≤ sizeLine + 1) :
    Meets (Builtin.«list.extend» ⟨[.ref l, .ref b], []⟩) (fun _ R s => s.heap.get? l = some { cls := .type "list", dict := none, data := .seq items n, slots := #[] } ∧ s.heap.get? b = some { cls := .type "tuple", dict := dd, data := .seq items2 n2, slots := sl } ∧
      R (.ok (.ret Value.none)) { s with heap := s.heap.update l (Obj.mapSeq fun x => x ++ items2), toks := s.toks }) :=
  .of_wp fun prog w A R s h => by
    obtain ⟨hp, g, d, tk, os⟩ := s
    obtain ⟨hl, hb, h⟩ := h
    have f1 := AutoSeq1.idx_int
    have f2 := AutoSeq1.sub_tuple_tuple
    have f3 := AutoSeq1.sub_list_list
    have f4 := AutoSeq1.sub_tuple_list
    have f5 := AutoSeq1.sub_list_tuple
    have hz' : (items ++ items2).size ≤ sizeLine + 1 := by
      rw [Array.size_append]
      exact hs2
    wp_walk using (wpAny_updateSeq hl rfl (hz := hs1) (_hz' := hz')), AutoSeq1.wpAny_loadPart' hl, AutoSeq1.wpAny_loadPart' hb
    exact ⟨_, rfl, h⟩
theorem mt_extT : MtR X "list.extend" (fun x vs H Q => ∃ l b xs zs, x = .ref l ∧ vs = [.ref b] ∧ H l = some (.lst xs) ∧ SqT X.K H b zs ∧ xs.length + zs.length ≤ sizeLine ∧ Q .non (upd H l (.lst (xs ++ zs)))) := by
  intro pins s σ H x vs v us Q I rx rv h
  obtain ⟨l, b, xs, zs, rfl, rfl, hH, hB, hz, q⟩ := h
  cases rx
  obtain ⟨u, rfl, ru⟩ := rv.one
  cases ru
  obtain ⟨z, its, n, r, hl, e⟩ := I.lstM hH
  obtain ⟨its2, r2, ⟨⟨cls, dd, data, sl⟩, ho, hc, n2, hd⟩, hs2⟩ := I.tuple hB
  simp only at hc hd
  subst hc hd
  have hl2 := r2.length
  have hsz : its.toArray.size + its2.toArray.size ≤ sizeLine := by
    rw [List.size_toArray, List.size_toArray]
    omega
  have hlong : ¬ (!its.toArray.isEmpty && Builtin.List.listTooLong (its.toArray.size + its2.toArray.size)) = true := by
    rw [notLongL hsz, Bool.and_false]
    exact Bool.false_ne_true
  refine call_meets F.slot_list_extend ⟨_, e, rfl⟩ F.entry_list_extend (F.args_list_extend_2 _ _) (ext_tup l its.toArray n b its2.toArray n2 dd sl hlong (by rw [List.size_toArray]; omega) (by omega)) ⟨e, ho, ?_⟩
  refine ⟨.non, _, I.lset (its' := its ++ its2) hH e (by simp) (r.append r2) ?_, rfl, q⟩
  rw [List.length_append]
  omega
theorem mt_extendA : MtR X "list.extend" (rExtA X.K) := MtR.or (show MtR X "list.extend" rExtend from mt_extend) mt_extT
theorem ms_extA (hK : X.K = C.K) : MS C (rExtA X.K) fExtA := fun ds args d ds' a vs us Ht H Q ha hl s hu q k => by
  unfold fExtA at q
  split at q
  · split at q
    · rename_i c
      cases q
      obtain ⟨v, rfl, b, zs, rfl, hb, lb⟩ := rzl1 hu
      exact .inl ⟨a, b, vs, zs, rfl, rfl, ha, s _ _ hb, by rw [sizeLine24, ← hl.len, ← lb.len]; exact c, k _ _ rfl (hl.app lb)⟩
    · cases q
  · split at q
    · rename_i c
      cases q
      obtain ⟨v, rfl, b, zs, rfl, hb, lb⟩ := rzl1 hu
      exact .inr ⟨a, b, vs, zs, rfl, rfl, ha, .of (s _ _ hb), by rw [sizeLine24, ← hl.len, ← lb.len]; exact c, k _ _ rfl (hl.app lb)⟩
    · cases q
  · cases q
end
end FL
set_option maxRecDepth 100000
set_option maxHeartbeats 4000000
namespace FL
open PySem PySem.Spec PyProof.Rows L2
section
variable {ω : Type} {X : Cx} {C : Cc} {W : Wd ω} {E : XK}
/-! ### zip -/
theorem wk_zipL {Ht : Hp} {ds es : List D} {vs us : List V} {a b : Addr} (ha : Ht a = some (.lst vs)) (la : RzL C Ht ds vs) (hb : Ht b = some (.lst us)) (lb : RzL C Ht es us) : WkD C W (Itz C.K a b) Ht (zipD ds es) :=
  ⟨fun H => SqL C.K H a vs ∧ SqL C.K H b us, _, by rw [zipD_len, la.len, lb.len]; exact walk_zip rfl, fun H' _ s _ => ⟨SqL.of (s _ _ ha), SqL.of (s _ _ hb)⟩, fun i H' Ht' x H'' _ s _ _ hi y => by
    obtain ⟨T, x1, x2, rfl, n, rfl, h1, h2⟩ := y
    obtain ⟨d, h3, h4⟩ := la.getV h1
    obtain ⟨e, h5, h6⟩ := lb.getV h2
    exact ⟨.tup [d, e], zipD_at h3 h5, .inr ⟨T, x1, x2, d, e, rfl, rfl, n, rfl, Rz.mono s h4, Rz.mono s h6⟩⟩⟩
theorem walk_zipT {K : PySem.W.Frag} {a b : Addr} {xs ys : List V} : Walk (RZ.ItzT K a b) (min xs.length ys.length) (fun H => SqT K H a xs ∧ SqT K H b ys) (YPair (fun i => xs[i]?) (fun i => ys[i]?)) := by
  refine ⟨fun i _ hi q => ?_, fun _ q => ⟨xs, ys, q.1, q.2, by omega⟩, fun i H v H' _ q y => ?_⟩
  · have h1 : i < xs.length := by omega
    have h2 : i < ys.length := by omega
    exact ⟨xs, ys, xs[i], ys[i], q.1, q.2, by simp [h1], by simp [h2]⟩
  · obtain ⟨T, x, z, h1, h2, h3, h4, h5⟩ := y
    exact ⟨T, x, z, h1, h2, h3, h4 xs q.1, h5 ys q.2⟩
theorem wk_zipT {Ht : Hp} {ds es : List D} {vs us : List V} {a b : Addr} (ha : Ht a = some (.tup vs)) (la : RzL C Ht ds vs) (hb : Ht b = some (.tup us)) (lb : RzL C Ht es us) : WkD C W (RZ.ItzT C.K a b) Ht (zipD ds es) :=
  ⟨fun H => SqT C.K H a vs ∧ SqT C.K H b us, _, by rw [zipD_len, la.len, lb.len]; exact walk_zipT, fun H' _ s _ => ⟨SqT.of (s _ _ ha), SqT.of (s _ _ hb)⟩, fun i H' Ht' x H'' _ s _ _ hi y => by
    obtain ⟨T, x1, x2, rfl, n, rfl, h1, h2⟩ := y
    obtain ⟨d, h3, h4⟩ := la.getV h1
    obtain ⟨e, h5, h6⟩ := lb.getV h2
    exact ⟨.tup [d, e], zipD_at h3 h5, .inr ⟨T, x1, x2, d, e, rfl, rfl, n, rfl, Rz.mono s h4, Rz.mono s h6⟩⟩⟩
theorem fi_zipA {e e2 : Expr} {p pos tpos : Pos} {elts : List Expr} {kk : Nat} {ma : M ω (List D)} (hK : X.K = C.K) (hg : Gl X "zip") (hm : X.mg "zip" = none) (ha : PA X [e, e2] (gOf C W E (rL C) ma))
    (hs : starEach [e, e2] X.env = (false, eval e X.env) :: starEach [e2] X.env := by rfl) (hpl : (backTo pos (starEach [e2] X.env)).any (·.1) = false := by rfl) :
    PI X (.Tuple elts kk tpos) (.Call (.Name "zip" p) [e, e2] [] pos) (gOf C W E (rI C W) (m1 (fun ds => pu (D.zipA ds)) ma)) := PI.imp (RZ.pi_zipA hg hm ha hs hpl) fun σ H R h => gOf.bind h fun d v Ht H1 Ht1 fp ρ1 w1 fp1 e1 s1 o1 r1 q1 h1 => by
  unfold pu at h1
  split at h1
  · rename_i l hl
    unfold D.zipA at hl
    split at hl
    · cases hl
      obtain ⟨u, u2, rfl, ⟨a, vs, rfl, ha, la⟩, b, us, rfl, hb, lb⟩ := rzl2 q1
      refine ⟨a, b, vs, us, rfl, .inl ⟨.of (e1.sub _ _ ha), .of (e1.sub _ _ hb), ?_⟩⟩
      rw [hK]
      exact At.here (RR := rI C W) h1 e1 r1 (wk_zipL ha la hb lb)
    · cases hl
      obtain ⟨u, u2, rfl, ⟨a, vs, rfl, ha, la⟩, b, us, rfl, hb, lb⟩ := rzl2 q1
      refine ⟨a, b, vs, us, rfl, .inr ⟨.of (e1.sub _ _ ha), .of (e1.sub _ _ hb), ?_⟩⟩
      rw [hK]
      exact At.here (RR := rI C W) h1 e1 r1 (wk_zipT ha la hb lb)
    · cases hl
  · exact h1.elim
/-! ### y = [e for ..] -/
theorem s_setLcO {i : Nat} {y : Str} {py : Pos} {elt tg iter : Expr} {ifs : List Expr} {scope : Scope} {own : List (Str × Nat)} {pos spos : Pos} {src : M ω (List D)} {g : TG} {bd : Bd} {js : List Nat} {mc : M ω Bool} {me : M ω D} (hc : X.calm = true) (hN : X.N.Nodup) (hy : X.N[i]? = some y) (hyl : X.env.scope.names.lookup y = some .local)
    (hsw : swapsWith (.ListComp elt [⟨tg, iter, ifs, 0⟩] scope pos) (some (.Name y py)) spos.line X.env = pure true) (hi : PI X tg iter (gOf C W E (rI C W) src)) (ok : BlkOk X.N X.env.scope scope own)
    (hg : ∀ (s : Shared) (H : Hp) (Cd : Addr) (cl : List (Str × Addr)) (fp : List Addr), PG (X.blk s H scope (compEnvC scope cl Cd X.env) fp) tg g) (hb : TgS C W js g bd) (hj : js.all (fun j => (own.map (·.2)).contains j) = true)
    (ht : ∀ (s : Shared) (H : Hp) (Cd : Addr) (cl : List (Str × Addr)) (fp : List Addr), PTs (X.blk s H scope (compEnvC scope cl Cd X.env) fp) ifs (gOf C W E0x rB mc))
    (he : ∀ (s : Shared) (H : Hp) (Cd : Addr) (cl : List (Str × Addr)) (fp : List Addr), PE (X.blk s H scope (compEnvC scope cl Cd X.env) fp) elt (gOf C W E0x (rD C) me)) (hs : ∀ x, foldedSetIterable iter X.env x = pure x := by intro _; rfl) :
    PS X (.Assign [.Name y py] (.ListComp elt [⟨tg, iter, ifs, 0⟩] scope pos) spos) (sOf C W E (sOwn i (mLc src (own.map (·.2)) bd mc me))) := s_ownT (ps_setLc hc hN hy hyl hsw hi ok hg ht he hs) (tLc_of hb hj)
theorem fz_imp {te : TE} {ml : M ω (List D)} (h : ∀ σ H Q, gOf C W E (rF C W) ml σ H Q → te σ H Q) (σ : L2.St) (H : Hp) (Q : VK) (q : gOf C W E (rD C) (mFz ml) σ H Q) : te σ H Q := by
  refine h σ H Q ?_
  obtain ⟨Ht, ρ, w, fp, e, r, h⟩ := q
  refine ⟨Ht, ρ, w, fp, e, r, ?_⟩
  unfold mFz m1 bnd at h
  cases q : ml ρ w with
  | none =>
    rw [q] at h
    exact h.elim
  | some rr =>
    rw [q] at h
    cases rr with
    | er e' w' => exact h
    | ok ds ρ1 w1 =>
      intro v H1 Ht1 fp1 e1 s1 o1 r1 q1
      obtain ⟨a, vs, rfl, ha, hl, hn, h0, hw, hf⟩ := q1
      obtain ⟨e2, s2, st⟩ := fz_env e1 s1 ha hn h0 hw hf
      exact h (.ref a) H1 _ fp1 e2 s2 o1 r1 ⟨a, vs, rfl, upd_same, RzL.mono st hl⟩
theorem s_setLcD {i : Nat} {y : Str} {py : Pos} {elt tg iter : Expr} {ifs : List Expr} {scope : Scope} {own : List (Str × Nat)} {pos spos : Pos} {src : M ω (List D)} {g : TG} {bd : Bd} {js : List Nat} {mc : M ω Bool} {me : M ω D} (hc : X.calm = true) (hN : X.N.Nodup) (hy : X.N[i]? = some y) (hyl : X.env.scope.names.lookup y = some .local)
    (hsw : swapsWith (.ListComp elt [⟨tg, iter, ifs, 0⟩] scope pos) (some (.Name y py)) spos.line X.env = pure true) (hi : PI X tg iter (gOf C W E (rI C W) src)) (ok : BlkOk X.N X.env.scope scope own)
    (hg : ∀ (s : Shared) (H : Hp) (Cd : Addr) (cl : List (Str × Addr)) (fp : List Addr), PG (X.blk s H scope (compEnvC scope cl Cd X.env) fp) tg g) (hb : TgS C W js g bd) (hj : js.all (fun j => (own.map (·.2)).contains j) = true)
    (ht : ∀ (s : Shared) (H : Hp) (Cd : Addr) (cl : List (Str × Addr)) (fp : List Addr), PTs (X.blk s H scope (compEnvC scope cl Cd X.env) fp) ifs (gOf C W E0x rB mc))
    (he : ∀ (s : Shared) (H : Hp) (Cd : Addr) (cl : List (Str × Addr)) (fp : List Addr), PE (X.blk s H scope (compEnvC scope cl Cd X.env) fp) elt (gOf C W E0x (rD C) me)) (hs : ∀ x, foldedSetIterable iter X.env x = pure x := by intro _; rfl) :
    PS X (.Assign [.Name y py] (.ListComp elt [⟨tg, iter, ifs, 0⟩] scope pos) spos) (sOf C W E (sAsg (mFz (mLc src (own.map (·.2)) bd mc me)) (bdN i))) := s_asgT (ps_setLc hc hN hy hyl hsw hi ok hg ht he hs) (fz_imp (tLc_of hb hj)) ts_name
/-! ### defs with their names -/
structure FnC (P : Program) (pw : World) (base : Heap) (C : Cc) (W : Wd ω) (x : Str) (dds : List D) (n : Nat) (g : List D → ω → Option (Rs ω)) (k : Nat) : Prop where
  ex : ∃ f fd ps ds dvs, C.mg x = some (.ref f) ∧ PySem.W.keepIn C.K (.ref f) = true ∧ Binds C.K fd ps ds ∧ Vals dvs ds ∧ (∀ H, RzL C H dds dvs) ∧ FnOk P pw C.K C.mg base (L2.CX P pw) k f fd ps (spF C W n g)
theorem fe_callC {root : Addr} {k n : Nat} {x : Str} {p pos : Pos} {e : Expr} {es : List Expr} {g : List D → ω → Option (Rs ω)} {dds : List D} {ma : M ω (List D)} (F : FnC X.prog X.w X.base ⟨X.K, X.mg, root⟩ W x dds n g k) (hr : Room k X.A) (hg : Gl X x) (hx : Passes (L2.CX X.prog X.w) X E)
    (ha : PA X (e :: es) (gOf ⟨X.K, X.mg, root⟩ W E (rL ⟨X.K, X.mg, root⟩) ma)) (hdb : (x == ("__debug__" : Str)) = false := by decide) (he : starEach (e :: es) X.env = (false, eval e X.env) :: starEach es X.env := by rfl) (hpl : (backTo pos (starEach es X.env)).any (·.1) = false := by rfl) :
    PE X (.Call (.Name x p) (e :: es) [] pos) (gOf ⟨X.K, X.mg, root⟩ W E (rD ⟨X.K, X.mg, root⟩) (mCall n g dds ma)) := by
  obtain ⟨f, fd, ps, ds, dvs, h1, h2, h3, h4, h5, h6⟩ := F.ex
  exact fe_call h6 hr hg h1 h2 h3 h4 h5 hx ha hdb he hpl
end
end FL
set_option maxRecDepth 100000
set_option maxHeartbeats 4000000
namespace FL
open PySem PySem.Spec PyProof.Rows L2
/-! ### dict comprehensions whose keys are new -/
section
variable {ω : Type}
def dcGo (bd : Bd) (c : M ω Bool) (mk e : M ω D) (ρ ρh : Ev) : List D → List Key → List D → ω → Option (R ω D)
  | [], ks, acc, w => some (.ok (.dK ks acc) ρ w)
  | d :: ds, ks, acc, w => match bd d ρh with
    | none => none
    | some ρ1 => match c ρ1 w with
      | some (.ok true ρ2 w1) => match mk ρ2 w1 with
        | some (.ok y ρ3 w2) => match e ρ3 w2 with
          | some (.ok x _ w3) => match y.key with
            | some k => if (ks.any fun j => decide (j = k)) = true then none else dcGo bd c mk e ρ ρh ds (ks ++ [k]) (acc ++ [x]) w3
            | none => none
          | _ => none
        | _ => none
      | some (.ok false _ w1) => dcGo bd c mk e ρ ρh ds ks acc w1
      | _ => none
def mDc (src : M ω (List D)) (vs : List Nat) (bd : Bd) (c : M ω Bool) (mk e : M ω D) : M ω D := fun ρ w => bnd (src ρ w) fun ds ρ w => if ds.length ≤ 16777216 then dcGo bd c mk e ρ (hidE vs 0 ρ) ds [] [] w else none
end
theorem valV_absent {κ : Type} [DecidableEq κ] {k : κ} : ∀ {ks : List κ} {vs : List V}, k ∉ ks → valV (ks.zip vs) k = none
  | [], _, _ => rfl
  | _ :: _, [], _ => rfl
  | a :: ks, v :: vs, h => by
    rw [List.zip_cons_cons, valV_neg fun z => h (by rw [← z]; exact List.mem_cons_self)]
    exact valV_absent fun z => h (List.mem_cons_of_mem _ z)
theorem zip_snoc {κ : Type} {ks : List κ} {vs : List V} {k : κ} {v : V} (h : ks.length = vs.length) : ks.zip vs ++ [(k, v)] = (ks ++ [k]).zip (vs ++ [v]) := by
  rw [List.zip_append h]
  rfl
section
variable {ω : Type} {X : Cx} {C : Cc} {W : Wd ω} {E : XK}
theorem dc_it {J : It} {n : Nat} {G : Hp → Prop} {Y : Nat → Hp → V → Hp → Prop} (w : Walk J n G Y) {g : TG} {tt : TT} {tk tv : TE} {vs : List Nat} {σ : L2.St} {H1 : Hp} {D : Addr} {Qd : Hp → Prop} (Pv : Nat → Hp → Prop) (h0 : Pv 0 (upd H1 D (.dK []))) (hG : ∀ i H, i ≤ n → Pv i H → G H)
    (hs : ∀ i x H H', i < n → Pv i H → Y i H x H' → g x (wipe σ vs) H' fun σ2 H2 => wipe σ2 vs = wipe σ vs ∧ tt σ2 H2 fun b H3 =>
      if b = true then tk σ2 H3 fun y H4 => tv σ2 H4 fun z H5 => ∃ kvs k, y = kV k ∧ H5 D = some (.dK kvs) ∧ kvs.length < sizeLine ∧ Pv (i + 1) (upd H5 D (.dK (putK kvs k z))) else Pv (i + 1) H3) (hd : ∀ H, Pv n H → Qd H) :
    ∃ W : Nat → Nat → Hp → Prop, (∃ m, W 0 m (upd H1 D (.dK []))) ∧ ∀ i m H, W i m H →
      (J.stop i H ∧ Qd H) ∨ (J.go i H ∧ ∃ Nx : Hp → Prop, (∀ H', Nx H' → ∃ m', m' < m ∧ W (i + 1) m' H') ∧ ∀ x H', J.yld i H x H' → g x (wipe σ vs) H' fun σ2 H2 => wipe σ2 vs = wipe σ vs ∧ tt σ2 H2 fun b H3 =>
        if b = true then tk σ2 H3 fun y H4 => tv σ2 H4 fun z H5 => ∃ kvs k, y = kV k ∧ H5 D = some (.dK kvs) ∧ kvs.length < sizeLine ∧ Nx (upd H5 D (.dK (putK kvs k z))) else Nx H3) := by
  refine ⟨fun i m H => m = n - i ∧ i ≤ n ∧ Pv i H, ⟨n, by simp, Nat.zero_le _, h0⟩, ?_⟩
  rintro i m H ⟨rfl, hi, p⟩
  have q := hG i H hi p
  by_cases hlt : i < n
  · exact .inr ⟨w.goes i H hlt q, Pv (i + 1), fun H' p' => ⟨n - (i + 1), by omega, rfl, hlt, p'⟩, fun x H' y => hs i x H H' hlt p (w.yields i H x H' hlt q y)⟩
  · have e : i = n := by omega
    subst e
    exact .inl ⟨w.stops H q, hd H p⟩
theorem key_v {Ht : Hp} {d : D} {k : Key} {v : V} (h : d.key = some k) (q : Rz C Ht d v) : v = kV k := by
  cases d <;> cases h <;> exact q
/-- what stands between two turns of a comprehension whose new list is at D -/
structure DcP (C : Cc) (W : Wd ω) (Ht0 H0 : Hp) (fp0 : Fp) (ρ : Ev) (σ : L2.St) (fp : Fp) (Da : Addr) (ks : List Key) (acc : List D) (w : ω) (Ht H : Hp) (vs : List V) : Prop where
  env : EnvO C W Ht H ρ σ fp
  stp : Stp W Ht0 H0 fp0 Ht H
  rel : W.rel H w
  at_ : H Da = some (.dK (ks.zip vs))
  lis : RzL C Ht acc vs
  lk : ks.length = vs.length
  nd : ks.Nodup
  hid : Ht Da = none
  new : H0 Da = none
  nw : ¬ W.fp Da
  nf : ∀ i, Da ∉ fp i
theorem DcP.step {Ht0 H0 : Hp} {fp0 : Fp} {ρ : Ev} {σ : L2.St} {fp : Fp} {Da : Addr} {ks : List Key} {acc : List D} {w w' : ω} {Ht H Ht' H' : Hp} {vs : List V} (o : OwnS H0 fp0 fp) (p : DcP C W Ht0 H0 fp0 ρ σ fp Da ks acc w Ht H vs) (s : Stp W Ht H noF Ht' H') (r : W.rel H' w') : DcP C W Ht0 H0 fp0 ρ σ fp Da ks acc w' Ht' H' vs := by
  obtain ⟨e', s'⟩ := p.env.pure p.rel s
  refine ⟨e', p.stp.trans o s', r, s.ch Da _ p.nw (fun i z => by cases z) p.at_, RzL.mono s.th p.lis, p.lk, p.nd, ?_, p.new, p.nw, p.nf⟩
  cases q : Ht' Da with
  | none => rfl
  | some x =>
    rcases s.new Da (by rw [q]; simp) with z | ⟨i, z⟩ | z
    · exact absurd p.hid z
    · cases z
    · rw [p.at_] at z
      cases z
theorem DcP.push {Ht0 H0 : Hp} {fp0 : Fp} {ρ : Ev} {σ : L2.St} {fp : Fp} {Da : Addr} {ks : List Key} {acc : List D} {w : ω} {Ht H : Hp} {vs : List V} {k : Key} {d : D} {v : V} (p : DcP C W Ht0 H0 fp0 ρ σ fp Da ks acc w Ht H vs) (hk : k ∉ ks) (h : Rz C Ht d v) :
    DcP C W Ht0 H0 fp0 ρ σ fp Da (ks ++ [k]) (acc ++ [d]) w Ht (upd H Da (.dK (putK (ks.zip vs) k v))) (vs ++ [v]) := by
  have hz : putK (ks.zip vs) k v = (ks ++ [k]).zip (vs ++ [v]) := by
    rw [putK_new v (valV_absent hk), zip_snoc p.lk]
  obtain ⟨e, r, s⟩ := upd_env (u := .dK (putK (ks.zip vs) k v)) p.env p.rel p.at_ p.hid p.nw p.nf
  refine ⟨e, s _ _ _ p.stp p.new, r, by rw [upd_same, hz], p.lis.app ⟨v, [], rfl, h, rfl⟩, by rw [List.length_append, List.length_append, p.lk]; rfl, ?_, p.hid, p.new, p.nw, p.nf⟩
  rw [List.nodup_append]
  exact ⟨p.nd, by simp, fun a ha b hb => by
    have : b = k := by simpa using hb
    subst this
    exact fun z => hk (z ▸ ha)⟩
theorem tDc_of {own : List (Str × Nat)} {src : M ω (List D)} {g : TG} {bd : Bd} {js : List Nat} {mc : M ω Bool} {mk me : M ω D} (hb : TgS C W js g bd) (hj : js.all (fun j => (own.map (·.2)).contains j) = true) (σ : L2.St) (H : Hp) (Q : VK)
    (h : gOf C W E (rD C) (mDc src (own.map (·.2)) bd mc mk me) σ H Q) : tDc (gOf C W E (rI C W) src) g (gOf C W E0x rB mc) (gOf C W E0x (rD C) mk) (gOf C W E0x (rD C) me) (own.map (·.2)) σ H Q := by
  refine gOf.bind h fun ds J Ht H1 Ht1 fp0 ρ w1 fp e1 s1 o1 r1 q1 h1 => ?_
  intro Da nD
  have hz : ds.length ≤ 16777216 := Decidable.byContradiction fun c => by
    rw [if_neg c] at h1
    exact h1.elim
  rw [if_pos hz] at h1
  obtain ⟨G, Y, wk, hG, hY⟩ := q1
  have a0 := alloc_own (o := .dK []) e1 r1 nD
  have p0 : DcP C W Ht1 H1 fp ρ σ fp Da [] [] w1 Ht1 (upd H1 Da (.dK [])) [] := ⟨a0.1, a0.2.1, rel_upd r1 nD, upd_same, rfl, rfl, List.nodup_nil, a0.2.2.1, nD, a0.2.2.2.1, a0.2.2.2.2⟩
  have hjs : ∀ j ∈ js, (own.map (·.2)).contains j = true := fun j hm => List.all_eq_true.mp hj j hm
  refine dc_it wk (fun i H => ∃ Ht' w' ks acc vs, DcP C W Ht1 H1 fp ρ σ fp Da ks acc w' Ht' H vs ∧ Same Ht1 Ht' ∧ acc.length ≤ i ∧ At C W E (rD C) (dcGo bd mc mk me ρ (hidE (own.map (·.2)) 0 ρ) (ds.drop i) ks acc w') Ht1 H1 fp σ Q) ⟨Ht1, w1, [], [], [], p0, Same.refl _, Nat.le_refl _, h1⟩ (fun i H hi ⟨Ht', w', ks, acc, vs, p, st, _, _⟩ => hG H w' (st.trans p.env.sub) p.rel) ?_ ?_
  · rintro i x H2 H3 hi ⟨Ht', w', ks, acc, vs, p, st, la, ha⟩ y
    obtain ⟨d, hd, hx⟩ := hY i H2 Ht' x H3 w' st p.env.sub p.rel hi y
    have hdr : ds.drop i = d :: ds.drop (i + 1) := by
      rw [List.drop_eq_getElem_cons hi]
      have := List.getElem?_eq_getElem hi
      rw [this] at hd
      cases hd
      rfl
    rw [hdr] at ha
    -- the item stands in the heap
    have item : ∃ Ht3, DcP C W Ht1 H1 fp ρ σ fp Da ks acc w' Ht3 H3 vs ∧ Same Ht1 Ht3 ∧ Rz C Ht3 d x := by
      rcases hx with ⟨rfl, hx⟩ | ⟨T, x1, x2, d1, d2, rfl, rfl, nT, rfl, h1, h2⟩
      · exact ⟨Ht', p, st, hx⟩
      · have nt := none_of_sub p.env.sub nT
        have al := alloc_env (fp := noF) (ρ := []) (σ := []) (o := .tup [x1, x2]) (C := C) (W := W) (w := w') ⟨p.env.sub, rfl, fun i o h => by simp at h, fun i a h => (by cases h), fun i j a h => (by cases h), p.env.wout⟩ p.rel nT
        exact ⟨_, p.step OwnS.refl al.2 (rel_upd p.rel nT), st.trans (same_upd nt), T, _, rfl, upd_same, _, _, rfl, Rz.mono (same_upd nt) h1, _, _, rfl, Rz.mono (same_upd nt) h2, rfl⟩
    obtain ⟨Ht3, p3, st3, hx3⟩ := item
    have hid := p3.env.hide (own.map (·.2))
    unfold dcGo at ha
    split at ha
    · exact ha.elim
    · rename_i ρ1 hb1
      refine hb d x _ H3 Ht3 _ noF ρ1 _ hid hx3 hb1 fun σ2 fp2 e2 o2 l2 n2 => ⟨wipe_eq (l2.trans (wipe_length ..)) hjs n2, ?_⟩
      have fresh : ∀ i a, a ∉ fp2 i → True := fun _ _ _ => trivial
      have nofp : ∀ {fp3 : Fp}, OwnS H3 noF fp3 → (∀ i a, a ∈ fp3 i → H3 a ≠ none) → ∀ i a, a ∉ fp3 i := fun o z i a h => by
        rcases o i a h with ⟨j, hj⟩ | hn
        · cases hj
        · exact z i a h hn
      refine ⟨Ht3, ρ1, w', fp2, e2, p3.rel, ?_⟩
      have emp : ∀ i a, a ∉ fp2 i := nofp o2 fun i a h => (e2.out i a h).2.2
      -- the test
      cases qc : mc ρ1 w' with
      | none =>
        rw [qc] at ha
        exact ha.elim
      | some rc =>
        rw [qc] at ha
        cases rc with
        | er er w4 => exact ha.elim
        | ok k ρ4 w4 =>
          intro b H4 Ht4 fp4 e4 s4 o4 r4 q4
          have q4' : k = b := q4
          subst q4'
          have s4' : Stp W Ht3 H3 noF Ht4 H4 := ⟨fun a x h1 _ h3 => s4.ch a x h1 (emp · a) h3, s4.th, s4.sub, fun a h => by
            rcases s4.new a h with z | ⟨i, z⟩ | z
            · exact .inl z
            · exact absurd z (emp i a)
            · exact .inr (.inr z), s4.keep⟩
          have p4 := p3.step (w' := w4) OwnS.refl s4' r4
          cases k with
          | false =>
            rw [if_neg Bool.false_ne_true]
            exact ⟨Ht4, w4, ks, acc, vs, p4, st3.trans s4.th, Nat.le_succ_of_le la, ha⟩
          | true =>
            rw [if_pos rfl]
            refine ⟨Ht4, ρ4, w4, fp4, e4, r4, ?_⟩
            have ha' : At C W E (rD C) (match mk ρ4 w4 with
              | some (.ok y ρ3 w2) => match me ρ3 w2 with
                | some (.ok x _ w3) => match y.key with
                  | some k => if (ks.any fun j => decide (j = k)) = true then none else dcGo bd mc mk me ρ (hidE (own.map (·.2)) 0 ρ) (ds.drop (i + 1)) (ks ++ [k]) (acc ++ [x]) w3
                  | none => none
                | _ => none
              | _ => none) Ht1 H1 fp σ Q := ha
            have own4 : ∀ i a, a ∈ fp4 i → H3 a = none := fun i a h => by
              rcases o4 i a h with ⟨j, hj⟩ | hn
              · exact absurd hj (emp j a)
              · exact hn
            cases qk : mk ρ4 w4 with
            | none =>
              rw [qk] at ha'
              exact ha'.elim
            | some rk =>
              rw [qk] at ha'
              cases rk with
              | er er w5 => exact ha'.elim
              | ok y5 ρ5 w5 =>
                intro yv H5 Ht5 fp5 e5 s5 o5 r5 q5
                have s5' : Stp W Ht3 H3 noF Ht5 H5 := ⟨fun a x h1 _ h3 => s5.ch a x h1 (fun i z => by rw [own4 i a z] at h3; cases h3) (s4'.ch a x h1 (fun i z => by cases z) h3), s4.th.trans s5.th, s5.sub, fun a h => by
                  rcases s5.new a h with z | ⟨i, z⟩ | z
                  · exact s4'.new a z
                  · exact .inr (.inr (own4 i a z))
                  · exact .inr (.inr (s4.keep a z)), fun a h => s4.keep a (s5.keep a h)⟩
                have own5 : ∀ i a, a ∈ fp5 i → H3 a = none := fun i a h => by
                  rcases o5 i a h with ⟨j, hj⟩ | hn
                  · exact own4 j a hj
                  · exact s4.keep a hn
                refine ⟨Ht5, ρ5, w5, fp5, e5, r5, ?_⟩
                have ha2 : At C W E (rD C) (match me ρ5 w5 with
                  | some (.ok x _ w3) => match y5.key with
                    | some k => if (ks.any fun j => decide (j = k)) = true then none else dcGo bd mc mk me ρ (hidE (own.map (·.2)) 0 ρ) (ds.drop (i + 1)) (ks ++ [k]) (acc ++ [x]) w3
                    | none => none
                  | _ => none) Ht1 H1 fp σ Q := ha'
                cases qe : me ρ5 w5 with
                | none =>
                  rw [qe] at ha2
                  exact ha2.elim
                | some re =>
                  rw [qe] at ha2
                  cases re with
                  | er er w6 => exact ha2.elim
                  | ok d6 ρ6 w6 =>
                    intro v H6 Ht6 fp6 e6 s6 o6 r6 q6
                    have ha3 : At C W E (rD C) (match y5.key with
                      | some k => if (ks.any fun j => decide (j = k)) = true then none else dcGo bd mc mk me ρ (hidE (own.map (·.2)) 0 ρ) (ds.drop (i + 1)) (ks ++ [k]) (acc ++ [d6]) w6
                      | none => none) Ht1 H1 fp σ Q := ha2
                    have s6' : Stp W Ht3 H3 noF Ht6 H6 := ⟨fun a x h1 _ h3 => s6.ch a x h1 (fun i z => by rw [own5 i a z] at h3; cases h3) (s5'.ch a x h1 (fun i z => by cases z) h3), s5'.th.trans s6.th, s6.sub, fun a h => by
                      rcases s6.new a h with z | ⟨i, z⟩ | z
                      · exact s5'.new a z
                      · exact .inr (.inr (own5 i a z))
                      · exact .inr (.inr (s5'.keep a z)), fun a h => s5'.keep a (s6.keep a h)⟩
                    have p6 := p3.step (w' := w6) OwnS.refl s6' r6
                    split at ha3
                    · rename_i k hk
                      by_cases hm : (ks.any fun j => decide (j = k)) = true
                      · rw [if_pos hm] at ha3
                        exact ha3.elim
                      · rw [if_neg hm] at ha3
                        refine ⟨_, k, key_v hk q5, p6.at_, ?_, Ht6, w6, ks ++ [k], acc ++ [d6], vs ++ [v], p6.push (fun z => hm (List.any_eq_true.mpr ⟨k, z, by simp⟩)) q6, st3.trans s6'.th, by rw [List.length_append]; exact Nat.succ_le_succ la, ha3⟩
                        rw [List.length_zip, p6.lk, Nat.min_self, ← p6.lis.len, sizeLine24]
                        omega
                    · exact ha3.elim
  · rintro H2 ⟨Ht', w', ks, acc, vs, p, st, la, ha⟩
    rw [List.drop_length] at ha
    obtain ⟨e3, s3, st3⟩ := fz_env p.env p.stp p.at_ p.hid p.new p.nw p.nf
    exact ha (.ref Da) H2 _ fp e3 s3 OwnS.refl p.rel ⟨Da, vs, rfl, .inl upd_same, p.lk, p.nd, RzL.mono st3 p.lis⟩
theorem fe_dc {kx elt tg iter : Expr} {ifs : List Expr} {scope : Scope} {own : List (Str × Nat)} {pos : Pos} {src : M ω (List D)} {g : TG} {bd : Bd} {js : List Nat} {mc : M ω Bool} {mk me : M ω D} (hc : X.calm = true) (hN : X.N.Nodup) (hi : PI X tg iter (gOf C W E (rI C W) src)) (ok : BlkOk X.N X.env.scope scope own)
    (hg : ∀ (s : Shared) (H : Hp) (Cd : Addr) (cl : List (Str × Addr)) (fp : List Addr), PG (X.blk s H scope (compEnvC scope cl Cd X.env) fp) tg g) (hb : TgS C W js g bd) (hj : js.all (fun j => (own.map (·.2)).contains j) = true)
    (ht : ∀ (s : Shared) (H : Hp) (Cd : Addr) (cl : List (Str × Addr)) (fp : List Addr), PTs (X.blk s H scope (compEnvC scope cl Cd X.env) fp) ifs (gOf C W E0x rB mc))
    (hk : ∀ (s : Shared) (H : Hp) (Cd : Addr) (cl : List (Str × Addr)) (fp : List Addr), PE (X.blk s H scope (compEnvC scope cl Cd X.env) fp) kx (gOf C W E0x (rD C) mk))
    (he : ∀ (s : Shared) (H : Hp) (Cd : Addr) (cl : List (Str × Addr)) (fp : List Addr), PE (X.blk s H scope (compEnvC scope cl Cd X.env) fp) elt (gOf C W E0x (rD C) me)) (hs : ∀ x, foldedSetIterable iter X.env x = pure x := by intro _; rfl) :
    PE X (.DictComp kx elt [⟨tg, iter, ifs, 0⟩] scope pos) (gOf C W E (rD C) (mDc src (own.map (·.2)) bd mc mk me)) := PE.imp (pe_dc hc hN hi ok hg ht hk he hs) (tDc_of hb hj)
end
end FL
set_option maxRecDepth 100000
set_option maxHeartbeats 4000000
namespace FL
open PySem PySem.Spec PyProof.Rows L2
/-! ### instances: fields, properties, making -/
theorem asc_lookup {Ht : Hp} {C : Cc} : ∀ {ns : List Str} {ds : List D} {vs : List V} {f : Str} {d : D}, RzL C Ht ds vs → ns.length = vs.length → asc ns ds f = some d → ∃ v, (ns.zip vs).lookup f = some v ∧ Rz C Ht d v
  | [], _, _, _, _, _, _, h => by cases h
  | _ :: _, [], _, _, _, _, _, h => by cases h
  | k :: ns, d0 :: ds, vs, f, d, ⟨v, r, q, h1, h2⟩, hl, h => by
    subst q
    unfold asc at h
    rw [List.zip_cons_cons, List.lookup_cons]
    by_cases e : k = f
    · subst e
      rw [if_pos rfl] at h
      cases h
      refine ⟨v, ?_, h1⟩
      simp
    · rw [if_neg e] at h
      have ne : (f == k) = false := beq_eq_false_iff_ne.mpr (Ne.symm e)
      rw [ne]
      exact asc_lookup h2 (by simpa using hl) h
def D.fldS (c f : Str) : D → Option D
  | .ins c' ns ds => if c' = c then asc ns ds f else none
  | _ => none
structure PropK (P : Program) (pw : World) (base : Heap) (C : Cc) (c attr fld : Str) (k : Nat) : Prop where
  ex : ∃ Ca p g fd, C.mg c = some (.ref Ca) ∧ Cls C.K Ca ∧ PropOf C.K Ca attr p g ∧ Binds C.K fd ["self"] [] ∧ FnOk P pw C.K C.mg base (L2.CX P pw) k g fd ["self"] (getSp Ca fld)
structure FldK (C : Cc) (c f : Str) : Prop where
  ex : ∃ Ca, C.mg c = some (.ref Ca) ∧ Cls C.K Ca ∧ NoAttr C.K Ca f
section
variable {ω : Type} {X : Cx} {C : Cc} {W : Wd ω} {E : XK}
theorem fe_prop {root : Addr} {c attr fld : Str} {k : Nat} {e : Expr} {pos : Pos} {ma : M ω D} (T : PropK X.prog X.w X.base ⟨X.K, X.mg, root⟩ c attr fld k) (hr : Room (k + 1) X.A) (he : PE X e (gOf ⟨X.K, X.mg, root⟩ W E (rD ⟨X.K, X.mg, root⟩) ma))
    (hab : attributeBase e attr X.env (eval e X.env) = eval e X.env) : PE X (.Attribute e attr pos) (gOf ⟨X.K, X.mg, root⟩ W E (rD ⟨X.K, X.mg, root⟩) (m1 (fun d => pu (d.fldS c fld)) ma)) := by
  obtain ⟨Ca, p, g, fd, h1, h2, h3, h4, h5⟩ := T.ex
  refine PE.imp (pe_prop (dvs := []) (ds := []) he h2 h3 h5 hr h4 .nil (passL (X := X.nox)) hab) fun σ H Q h => gOf.bind h fun d v Ht H1 Ht1 fp ρ1 w1 fp1 e1 s1 o1 r1 q1 hh => ?_
  unfold pu at hh
  split at hh
  · rename_i d' hd
    unfold D.fldS at hd
    split at hd
    · rename_i c' ns ds
      split at hd
      · rename_i hc
        subst hc
        obtain ⟨a, Ca', dx, vs, rfl, m, ha, hl, hv⟩ := q1
        rw [h1] at m
        cases m
        obtain ⟨u, l1, l2⟩ := asc_lookup hv hl hd
        exact ⟨a, dx, _, rfl, e1.sub _ _ ha, a, dx, _, u, rfl, e1.sub _ _ ha, l1, At.here (RR := rD _) hh e1 r1 l2⟩
      · cases hd
    · cases hd
  · exact hh.elim
theorem fe_fld {c f : Str} {e : Expr} {pos : Pos} {ma : M ω D} (T : FldK C c f) (hK : X.K = C.K) (he : PE X e (gOf C W E (rD C) ma)) (hab : attributeBase e f X.env (eval e X.env) = eval e X.env) : PE X (.Attribute e f pos) (gOf C W E (rD C) (m1 (fun d => pu (d.fldS c f)) ma)) := by
  obtain ⟨Ca, h1, h2, h3⟩ := T.ex
  refine PE.imp (pe_fld he hab) fun σ H Q h => gOf.bind h fun d v Ht H1 Ht1 fp ρ1 w1 fp1 e1 s1 o1 r1 q1 hh => ?_
  unfold pu at hh
  split at hh
  · rename_i d' hd
    unfold D.fldS at hd
    split at hd
    · rename_i c' ns ds
      split at hd
      · rename_i hc
        subst hc
        obtain ⟨a, Ca', dx, vs, rfl, m, ha, hl, hv⟩ := q1
        rw [h1] at m
        cases m
        obtain ⟨u, l1, l2⟩ := asc_lookup hv hl hd
        exact ⟨a, _, dx, _, u, rfl, e1.sub _ _ ha, hK ▸ h2, hK ▸ h3, l1, At.here (RR := rD _) hh e1 r1 l2⟩
      · cases hd
    · cases hd
  · exact hh.elim
/-! self.f = e while it is made -/
def sFldI (i : Nat) (c f : Str) (me : M ω D) : SM ω := fun ρ w => sB (me ρ w) fun d ρ w => match ρ[i]? with
  | some (some (.ins p c' ns ds)) => if c' = c ∧ ns.contains f = false ∧ ns.length < 900 then some (.nx (ρ.set i (some (.ins p c' (ns ++ [f]) (ds ++ [d])))) w) else none
  | _ => none
theorem EnvO.iset {Ht H : Hp} {fp : Fp} {ρ : Ev} {σ : L2.St} {w : ω} {i : Nat} {p : Addr} {c : Str} {ns ns' : List Str} {ds ds' : List D} {vs' : List V} {a Ca dx : Addr} {vs : List V} (e : EnvO C W Ht H ρ σ fp) (r : W.rel H w) (hi : ρ[i]? = some (some (.ins p c ns ds))) (hm : C.mg c = some (.ref Ca))
    (ha : H a = some (.ins Ca dx (ns.zip vs))) (hf : fp i = [a]) (hp : a = p) (hs : σ[i]? = some (some (.ref a))) (hl : ns'.length = vs'.length) (h' : RzL C Ht ds' vs') :
    EnvO C W Ht (upd H a (.ins Ca dx (ns'.zip vs'))) (ρ.set i (some (.ins p c ns' ds'))) σ fp ∧ Stp W Ht H fp Ht (upd H a (.ins Ca dx (ns'.zip vs'))) ∧ W.rel (upd H a (.ins Ca dx (ns'.zip vs'))) w := by
  have hai : a ∈ fp i := by rw [hf]; exact List.mem_singleton.mpr rfl
  obtain ⟨n1, n2, n3⟩ := e.out i a hai
  have sub : Same Ht (upd H a (.ins Ca dx (ns'.zip vs'))) := fun b x z => by
    rw [upd_ne fun y => by subst y; rw [n1] at z; cases z]
    exact e.sub b x z
  have keep : ∀ b, upd H a (.ins Ca dx (ns'.zip vs')) b = none → H b = none := fun b h => upd_none h
  refine ⟨⟨sub, by rw [List.length_set]; exact e.len, fun j o hj => ?_, fun j b hb => ?_, e.one, e.wout⟩, ⟨fun b x h1 h2 h3 => ?_, Same.refl _, sub, fun b h => .inl h, keep⟩, W.put n2 (fun φ z => by rw [ha] at z; cases z) r⟩
  · by_cases hji : j = i
    · subst hji
      have hlt : j < ρ.length := (List.getElem?_eq_some_iff.mp hi).1
      rw [List.getElem?_set_self hlt] at hj
      cases hj
      exact ⟨.ref a, hs, a, Ca, dx, vs', rfl, hm, upd_same, hl, h', hf, hp⟩
    · rw [List.getElem?_set_ne (Ne.symm hji)] at hj
      obtain ⟨u, h1, h2⟩ := e.slot j o hj
      exact ⟨u, h1, Ow.imp (Same.refl _) (fun b x hb q => by rw [upd_ne fun y => hji (e.one j i a (by rw [← y]; exact hb) hai)]; exact q) h2⟩
  · obtain ⟨h1, h2, h3⟩ := e.out j b hb
    exact ⟨h1, h2, fun z => h3 (keep b z)⟩
  · rw [upd_ne fun y => h2 i (by rw [y]; exact hai)]
    exact h3
theorem putF_new {f : Str} {v : V} : ∀ {fs : List (Str × V)}, (∀ p ∈ fs, p.1 ≠ f) → putF f v fs = fs ++ [(f, v)]
  | [], _ => rfl
  | (g, x) :: r, h => by
    unfold putF
    rw [if_neg (h (g, x) List.mem_cons_self), putF_new fun p hp => h p (List.mem_cons_of_mem _ hp)]
    rfl
theorem zip_snocS {ns : List Str} {vs : List V} {f : Str} {v : V} (h : ns.length = vs.length) : ns.zip vs ++ [(f, v)] = (ns ++ [f]).zip (vs ++ [v]) := by
  rw [List.zip_append h]
  rfl
theorem s_fldI {i : Nat} {y c f : Str} {e : Expr} {p1 p2 pos : Pos} {me : M ω D} (T : FldK C c f) (hK : X.K = C.K) (hy : PE X (.Name y p1) (tVar i)) (hv : PE X e (gOf C W E (rD C) me)) (hs : swapsWith e (some (.Attribute (.Name y p1) f p2)) pos.line X.env = pure false) :
    PS X (.Assign [.Attribute (.Name y p1) f p2] e pos) (sOf C W E (sFldI i c f me)) := by
  obtain ⟨Ca, k1, k2, k3⟩ := T.ex
  refine PS.imp (ps_fld hy hv hs) fun Dn σ H ⟨Ht, ρ, w, fp, e0, r0, h0⟩ => ?_
  refine ⟨Ht, ρ, w, fp, e0, r0, sB.bind h0 fun d v H1 Ht1 ρ1 w1 fp1 e1 s1 o1 r1 q1 h1 => ?_⟩
  split at h1
  · rename_i p c' ns ds hi
    split at h1
    · rename_i hc
      obtain ⟨hc1, hc2, hc3⟩ := hc
      subst hc1
      obtain ⟨u, g1, a, Ca', dx, vs, rfl, g2, g3, g4, g5, g6, g7⟩ := e1.slot i _ hi
      have g2' := g2
      rw [k1] at g2'
      cases g2'
      refine ⟨.ref a, g1, a, Ca, dx, _, rfl, g3, hK ▸ k2, hK ▸ k3, by rw [List.length_zip]; omega, ?_⟩
      have hn : ∀ q ∈ ns.zip vs, q.1 ≠ f := fun q hq z => by
        have := (List.of_mem_zip hq).1
        rw [z] at this
        rw [List.contains_iff_mem.mpr this] at hc2
        cases hc2
      rw [putF_new hn, zip_snocS g4]
      have hl : (ns ++ [f]).length = (vs ++ [v]).length := by rw [List.length_append, List.length_append, g4]; rfl
      obtain ⟨e3, s3, r3⟩ := e1.iset (ns' := ns ++ [f]) (ds' := ds ++ [d]) r1 hi k1 g3 g6 g7 g1 hl (g5.app ⟨v, [], rfl, q1, rfl⟩)
      exact h1 σ _ Ht1 fp1 e3 s3 OwnS.refl r3
    · exact h1.elim
  · exact h1.elim
/-! C(e, ..) -/
def mMake (n : Nat) (g : List D → ω → Option (Rs ω)) (ma : M ω (List D)) : M ω D := m1 (fun ds ρ w => if ds.length = n then (match g ds w with
  | some (.ok d w') => some (.ok d ρ w')
  | some (.er e w') => some (.er e w')
  | none => none) else none) ma
def ITail (C : Cc) (W : Wd ω) (E : XK) (r : Option (Rs ω)) (Ht H0 : Hp) (a : Addr) (Q : VK) : Prop := match r with
  | some (.ok d w') => ∀ H' Ht', Stp W Ht H0 noF Ht' H' → W.rel H' w' → Rz C Ht' d (.ref a) → Q .non H'
  | some (.er e w') => ∀ cls dx H' Ht', Stp W Ht H0 noF Ht' H' → W.rel H' w' → ErOk C Ht' H' e cls dx → E cls dx H'
  | none => False
def spI (C : Cc) (W : Wd ω) (c : Str) (n : Nat) (g : List D → ω → Option (Rs ω)) : Sp := fun vs H Q E => ∃ a us, vs = .ref a :: us ∧ us.length = n ∧ ∃ Ht H0 w ds Ca dx, C.mg c = some (.ref Ca) ∧ H = upd H0 a (.ins Ca dx []) ∧ H0 a = none ∧ Same Ht H0 ∧ (∀ b, W.fp b → Ht b = none) ∧ W.rel H0 w ∧ RzL C Ht ds us ∧
  ITail C W E (g ds w) Ht H0 a Q
structure MkC (P : Program) (pw : World) (base : Heap) (C : Cc) (W : Wd ω) (c : Str) (n : Nat) (g : List D → ω → Option (Rs ω)) (k : Nat) : Prop where
  ex : ∃ Ca f fd ps, C.mg c = some (.ref Ca) ∧ Mk C.K Ca f ∧ Binds C.K fd ps [] ∧ FnOk P pw C.K C.mg base (L2.CX P pw) k f fd ps (spI C W c n g)
theorem fe_makeC {root : Addr} {k n : Nat} {x : Str} {p pos : Pos} {e : Expr} {es : List Expr} {g : List D → ω → Option (Rs ω)} {ma : M ω (List D)} (F : MkC X.prog X.w X.base ⟨X.K, X.mg, root⟩ W x n g k) (hr : Room (k + 1) X.A) (hg : Gl X x) (hx : Passes (L2.CX X.prog X.w) X E)
    (ha : PA X (e :: es) (gOf ⟨X.K, X.mg, root⟩ W E (rL ⟨X.K, X.mg, root⟩) ma)) (hdb : (x == ("__debug__" : Str)) = false := by decide) (he : starEach (e :: es) X.env = (false, eval e X.env) :: starEach es X.env := by rfl) (hpl : (backTo pos (starEach es X.env)).any (·.1) = false := by rfl) :
    PE X (.Call (.Name x p) (e :: es) [] pos) (gOf ⟨X.K, X.mg, root⟩ W E (rD ⟨X.K, X.mg, root⟩) (mMake n g ma)) := by
  obtain ⟨Ca, f, fd, ps, h1, h2, h3, h4⟩ := F.ex
  refine PE.imp (pe_make h2 h4 hr hg h1 h3 .nil hx ha hdb he hpl) fun σ H Q h => gOf.bind h fun ds us Ht H1 Ht1 fp ρ1 w1 fp1 e1 s1 o1 r1 q1 hh => ?_
  intro a dx na nd hne
  have n0 : upd H1 dx (.own a) a = none := by rw [upd_ne (Ne.symm hne)]; exact na
  have al := alloc_env (o := .own a) e1 r1 nd
  have hs : Same Ht1 (upd H1 dx (.own a)) := e1.sub.trans (same_upd nd)
  by_cases c : ds.length = n
  · rw [if_pos c] at hh
    refine ⟨a, us, by rw [List.append_nil], by rw [← q1.len]; exact c, Ht1, upd H1 dx (.own a), w1, ds, Ca, dx, h1, rfl, n0, hs, e1.wout, rel_upd r1 nd, q1, ?_⟩
    have st0 : Stp W Ht1 H1 fp1 Ht1 (upd H1 dx (.own a)) := ⟨fun b x _ _ z => by rw [upd_ne (ne_of_none z nd)]; exact z, Same.refl _, hs, fun b z => .inl z, fun b z => upd_none z⟩
    have ev0 : EnvO ⟨X.K, X.mg, root⟩ W Ht1 (upd H1 dx (.own a)) ρ1 σ fp1 := ⟨hs, e1.len, fun i o z => by
      obtain ⟨v, z1, z2⟩ := e1.slot i o z
      exact ⟨v, z1, Ow.imp (Same.refl _) (fun b x _ q => same_upd nd b x q) z2⟩, fun i b z => by
      obtain ⟨z1, z2, z3⟩ := e1.out i b z
      exact ⟨z1, z2, fun y => z3 (upd_none y)⟩, e1.one, e1.wout⟩
    cases z : g ds w1 with
    | none =>
      rw [z] at hh
      exact hh.elim
    | some rr =>
      rw [z] at hh
      cases rr with
      | ok d w' =>
        intro H' Ht' s r' hv
        obtain ⟨e', s'⟩ := ev0.pure (rel_upd r1 nd) s
        exact ⟨rfl, hh (.ref a) H' Ht' fp1 e' (st0.trans OwnS.refl s') OwnS.refl r' hv⟩
      | er er w' =>
        intro cls dx' H' Ht' s r' hv
        obtain ⟨e', s'⟩ := ev0.pure (rel_upd r1 nd) s
        exact hh cls dx' H' Ht' (st0.trans OwnS.refl s') r' hv
  · rw [if_neg c] at hh
    exact hh.elim
/-! a constructor's def -/
def startI (n : Nat) (c : Str) (a : Addr) (ds : List D) : Ev := some (.ins a c [] []) :: (ds.map (fun d => some (.frz d)) ++ List.replicate (n - (ds.length + 1)) none)
def outI (r : Option (Fl ω)) : Option (Rs ω) := match r with
  | some (.nx ρ w) => match ρ[0]? with
    | some (some (O.ins _ c ns ds)) => some (.ok (D.ins c ns ds) w)
    | _ => none
  | some (.er e w) => some (.er e w)
  | _ => none
def selfAt (a : Addr) (r : Option (Fl ω)) : Prop := match r with
  | some (.nx ρ _) => ∀ p c ns ds, ρ[0]? = some (some (.ins p c ns ds)) → p = a
  | _ => True
def BearsI (n : Nat) (c : Str) (m : SM ω) (g : List D → ω → Option (Rs ω)) (k : Nat) : Prop := ∀ a ds w r, ds.length = k → g ds w = some r → outI (m (startI n c a ds) w) = some r ∧ selfAt a (m (startI n c a ds) w)
theorem fn_init {dvs : List V} {P : Program} {w : World} {K : PySem.W.Frag} {mg : Str → Option Value} {base : Heap} {x qual c : Str} {st : Stmt} {f : Addr} {fd : FuncData} {N ps : List Str} {k n : Nat} {m : SM ω} {g : List D → ω → Option (Rs ω)} (F : FunD K x qual (defArgs st) (defBody st) (defScope st) dvs [] f fd) (S : FnScope N ps (defScope st)) (hn : n + 1 = ps.length)
    (hg : BearsI N.length c m g n)
    (hb : ∀ (cdv : Value) (A : Around) (outer : List Env) (s : Shared) (H : Hp) (E : XK), Room k (A.deeper (envOfC qual (defScope st) s.heap.objs.size f cdv)) → PSs (cxOf (L2.CX P w) P w K mg base N qual (defScope st) f cdv A outer s H E) (defBody st) (sOf C W E m)) :
    FnOk P w K mg base (L2.CX P w) (k + 1) f fd ps (spI C W c n g) :=
  F.ok S (fun vs H Q E h => by obtain ⟨a, us, rfl, h, _⟩ := h; rw [← hn, List.length_cons, h]) fun cdv A outer s H vs Q E hr h => by
    obtain ⟨a, us, rfl, hl, Ht, H0, ww, ds, Ca, dx, hm, hH, na, sb, wo, rl, hv, h⟩ := h
    have nt : Ht a = none := none_of_sub sb na
    have nw : ¬ W.fp a := fun z => W.dom rl a z na
    have sH : Same Ht H := fun b y z => by
      rw [hH, upd_ne fun e => by subst e; rw [nt] at z; cases z]
      exact sb b y z
    have en : EnvO C W Ht H (startI N.length c a ds) (L2.start N (.ref a :: us)) (fun i => if i = 0 then [a] else []) := by
      have se := start_env (C := C) (W := W) (N := N) (ds := .non :: ds) (vs := .non :: us) sH wo ⟨.non, us, rfl, rfl, hv⟩
      refine ⟨sH, ?_, fun i o hi => ?_, fun i b hb => ?_, fun i j b h1 h2 => ?_, wo⟩
      · have := se.len
        unfold startE L2.start at this
        unfold startI L2.start
        simp only [List.length_append, List.length_map, List.length_replicate, List.length_cons] at this ⊢
        omega
      · cases i with
        | zero =>
          cases hi
          exact ⟨.ref a, rfl, a, Ca, dx, [], rfl, hm, by rw [hH, upd_same]; rfl, rfl, rfl, rfl, rfl⟩
        | succ i =>
          have hi' : (startE N.length (.non :: ds))[i + 1]? = some (some o) := hi
          obtain ⟨v, h1, h2⟩ := se.slot (i + 1) o hi'
          exact ⟨v, h1, by rw [if_neg (Nat.succ_ne_zero i)]; exact h2⟩
      · by_cases z : i = 0
        · have hb' : b ∈ (if i = 0 then [a] else []) := hb
          rw [if_pos z] at hb'
          have : b = a := by simpa using hb'
          subst this
          exact ⟨nt, nw, by rw [hH, upd_same]; simp⟩
        · have hb' : b ∈ (if i = 0 then [a] else []) := hb
          rw [if_neg z] at hb'
          cases hb'
      · by_cases z : i = 0
        · by_cases y : j = 0
          · rw [z, y]
          · have h2' : b ∈ (if j = 0 then [a] else []) := h2
            rw [if_neg y] at h2'
            cases h2'
        · have h1' : b ∈ (if i = 0 then [a] else []) := h1
          rw [if_neg z] at h1'
          cases h1'
    have own1 : ∀ {Ht' H' : Hp}, Stp W Ht H (fun i => if i = 0 then [a] else []) Ht' H' → Stp W Ht H0 noF Ht' H' := fun {Ht' H'} s => by
      have hna : ∀ i b, b ∈ (if i = 0 then [a] else []) → b = a := fun i b z => by
        by_cases y : i = 0
        · rw [if_pos y] at z
          simpa using z
        · rw [if_neg y] at z
          cases z
      refine ⟨fun b y h1 _ h3 => ?_, s.th, s.sub, fun b z => ?_, fun b z => ?_⟩
      · have hba : b ≠ a := fun e => by rw [e, na] at h3; cases h3
        exact s.ch b y h1 (fun i z => hba (hna i b z)) (by rw [hH, upd_ne hba]; exact h3)
      · rcases s.new b z with z | ⟨i, z⟩ | z
        · exact .inl z
        · exact .inr (.inr (by rw [hna i b z]; exact na))
        · exact .inr (.inr (upd_none (by rw [hH] at z; exact z)))
      · have := s.keep b z
        rw [hH] at this
        exact upd_none this
    have rH : W.rel H ww := by
      rw [hH]
      exact W.put nw (fun φ z => by rw [na] at z; cases z) rl
    refine ⟨_, hb cdv A outer s H E hr, Ht, startI N.length c a ds, ww, _, en, rH, ?_⟩
    cases q : g ds ww with
    | none =>
      rw [q] at h
      exact h.elim
    | some r =>
      rw [q] at h
      have o := hg a ds ww r (by rw [hv.len]; exact hl) q
      cases z : m (startI N.length c a ds) ww with
      | none =>
        rw [z] at o
        cases o.1
      | some fl =>
        rw [z] at o
        cases fl with
        | rt d w' => cases o.1
        | nx ρ' w' =>
          obtain ⟨o1, o2⟩ := o
          intro σ' H' Ht' fp' e' s' o' r'
          have o1' : (match ρ'[0]? with
            | some (some (O.ins _ c ns ds)) => some (Rs.ok (D.ins c ns ds) w')
            | _ => none) = some r := o1
          split at o1'
          · rename_i p c' ns ds' hi
            cases o1'
            have pa : p = a := o2 p c' ns ds' hi
            obtain ⟨Ht2, fp2, v, e2, s2, ow2, h1, h2⟩ := freeze e' hi
            obtain ⟨v', g1, a', _, _, _, rfl, _, _, _, _, _, ga⟩ := e'.slot 0 _ hi
            rw [h1] at g1
            cases g1
            rw [ga, pa] at h2
            exact h H' Ht2 (own1 (s'.trans o' s2)) r' h2
          · cases o1'
        | er e w' =>
          cases o.1
          exact fun cls dx H' Ht' s' r' q' => h cls dx H' Ht' (own1 s') r' q'
        | bk _ _ => cases o.1
        | ct _ _ => cases o.1
        | rn _ _ => cases o.1
end
end FL
set_option maxRecDepth 100000
set_option maxHeartbeats 4000000
namespace FL
open PySem PySem.Spec PyProof.Rows L2
/-! ### the world of a law's draws -/
structure DS where
  great : List Int
  cells : List Int
  rest : Int
  turn : Int
structure DP where
  root : Addr
  ga : Addr
  ca : Addr
  cells : List Int
  b : Bool
  T : List (Addr × Str) := []
def DP.gn (p : DP) : Str := if p.b then "large" else "great"
def DP.kvs (p : DP) (w : DS) : List (Key × V) := if p.b then [(.inr "large", .ref p.ga), (.inr "rest", .int w.rest), (.inr "cells", .ref p.ca), (.inr "turn", .int w.turn)] else [(.inr "great", .ref p.ga), (.inr "cells", .ref p.ca), (.inr "rest", .int w.rest), (.inr "turn", .int w.turn)]
def DW (p : DP) : Wd DS where
  fp := fun a => a = p.root ∨ a = p.ga ∨ a = p.ca ∨ a ∈ p.T.map (·.1)
  rel := fun H w => H p.root = some (.dK (p.kvs w)) ∧ H p.ga = some (.lst (w.great.map V.int)) ∧ H p.ca = some (.lst (p.cells.map V.int)) ∧ p.root ≠ p.ga ∧ p.root ≠ p.ca ∧ p.ga ≠ p.ca ∧ w.cells = p.cells ∧ LamX.Tabs p.T H
  loc := fun {H H' w} k kx ⟨h1, h2, h3, h4, h5, h6, h7, h8⟩ => ⟨by rw [k _ (.inl rfl)]; exact h1, by rw [k _ (.inr (.inl rfl))]; exact h2, by rw [k _ (.inr (.inr (.inl rfl)))]; exact h3, h4, h5, h6, h7, fun q hq => by
    obtain ⟨ps, z1, z2, z3⟩ := h8 q hq
    refine ⟨ps, by rw [k _ (.inr (.inr (.inr (List.mem_map.mpr ⟨q, hq, rfl⟩))))]; exact z1, z2, fun pos cv hc => ?_⟩
    obtain ⟨c, e1, e2⟩ := z3 pos cv hc
    exact ⟨c, e1, kx c _ e2⟩⟩
  dom := fun {H w} ⟨h1, h2, h3, _, _, _, _, h8⟩ a ha => by
    rcases ha with rfl | rfl | rfl | ha
    · rw [h1]; simp
    · rw [h2]; simp
    · rw [h3]; simp
    · obtain ⟨q, hq, rfl⟩ := List.mem_map.mp ha
      obtain ⟨ps, z1, _⟩ := h8 q hq
      rw [z1]; simp
theorem tabs_put {T : List (Addr × Str)} {H : Hp} {a : Addr} {o u : HO} (h : LamX.Tabs T H) (ha : H a = some u) (h1 : ∀ ps, u ≠ .tbl ps) (h2 : ∀ φ, u ≠ .ext φ) : LamX.Tabs T (upd H a o) := fun q hq => by
  obtain ⟨ps, z1, z2, z3⟩ := h q hq
  refine ⟨ps, by rw [upd_ne fun y => by rw [y, ha] at z1; exact h1 ps (Option.some.inj z1)]; exact z1, z2, fun pos cv hc => ?_⟩
  obtain ⟨c, e1, e2⟩ := z3 pos cv hc
  exact ⟨c, e1, by rw [upd_ne fun y => by rw [y, ha] at e2; exact h2 _ (Option.some.inj e2)]; exact e2⟩
inductive WF where
  | rest | turn
def WF.nm : WF → Str
  | .rest => "rest"
  | .turn => "turn"
def WF.get : WF → DS → Int
  | .rest, w => w.rest
  | .turn, w => w.turn
def WF.set : WF → DS → Int → DS
  | .rest, w, x => { w with rest := x }
  | .turn, w, x => { w with turn := x }
theorem kvs_get (p : DP) (w : DS) (f : WF) : valV (p.kvs w) (.inr f.nm) = some (.int (f.get w)) := by
  obtain ⟨_, _, _, _, b, _⟩ := p
  cases b <;> cases f <;> rfl
theorem kvs_set (p : DP) (w : DS) (f : WF) (x : Int) : putK (p.kvs w) (.inr f.nm) (.int x) = p.kvs (f.set w x) := by
  obtain ⟨_, _, _, _, b, _⟩ := p
  cases b <;> cases f <;> rfl
theorem kvs_g (p : DP) (w : DS) : valV (p.kvs w) (.inr p.gn) = some (.ref p.ga) := by
  obtain ⟨_, _, _, _, b, _⟩ := p
  cases b <;> rfl
theorem kvs_c (p : DP) (w : DS) : valV (p.kvs w) (.inr "cells") = some (.ref p.ca) := by
  obtain ⟨_, _, _, _, b, _⟩ := p
  cases b <;> rfl
theorem kvs_len (p : DP) (w : DS) : (p.kvs w).length = 4 := by
  obtain ⟨_, _, _, _, b, _⟩ := p
  cases b <;> rfl
theorem RzInts {C : Cc} {H : Hp} : ∀ {ns : List Int}, RzL C H (ns.map D.int) (ns.map V.int)
  | [] => rfl
  | _ :: _ => ⟨_, _, rfl, rfl, RzInts⟩
def mWi (i : Nat) (f : WF) : M DS D := fun ρ w => match ρ[i]? with
  | some (some (.frz .wld)) => some (.ok (.int (f.get w)) ρ w)
  | _ => none
def mWne (i : Nat) : M DS D := fun ρ w => match ρ[i]? with
  | some (some (.frz .wld)) => (D.neD (.lst (w.great.map .int)) (.lst [])).map fun d => .ok d ρ w
  | _ => none
def mWpop (i : Nat) : M DS D := fun ρ w => match ρ[i]? with
  | some (some (.frz .wld)) => match w.great with
    | x :: r => some (.ok (.int x) ρ { w with great := r })
    | [] => none
  | _ => none
def mWcells (i : Nat) : M DS (List D) := fun ρ w => match ρ[i]? with
  | some (some (.frz .wld)) => some (.ok (w.cells.map .int) ρ w)
  | _ => none
def sWi (i : Nat) (f : WF) (me : M DS D) : SM DS := fun ρ w => sB (me ρ w) fun d ρ w => match d, ρ[i]? with
  | .int x, some (some (.frz .wld)) => some (.nx ρ (f.set w x))
  | _, _ => none
theorem EnvO.wupd {ω : Type} {C : Cc} {W : Wd ω} {Ht H : Hp} {fp : Fp} {ρ : Ev} {σ : L2.St} {b : Addr} {o x : HO} (e : EnvO C W Ht H ρ σ fp) (hb : W.fp b) (hx : H b = some x) : EnvO C W Ht (upd H b o) ρ σ fp ∧ Stp W Ht H fp Ht (upd H b o) := by
  have nb : Ht b = none := e.wout b hb
  have sub : Same Ht (upd H b o) := fun c y z => by
    rw [upd_ne fun q => by subst q; rw [nb] at z; cases z]
    exact e.sub c y z
  refine ⟨⟨sub, e.len, fun i o' h => ?_, fun i a h => ?_, e.one, e.wout⟩, ⟨fun c y h1 _ h3 => ?_, Same.refl _, sub, fun c h => .inl h, fun c h => upd_none h⟩⟩
  · obtain ⟨v, h1, h2⟩ := e.slot i o' h
    exact ⟨v, h1, Ow.imp (Same.refl _) (fun a y ha q => by rw [upd_ne fun z => (e.out i a ha).2.1 (by rw [z]; exact hb)]; exact q) h2⟩
  · obtain ⟨h1, h2, h3⟩ := e.out i a h
    exact ⟨h1, h2, fun z => h3 (upd_none z)⟩
  · rw [upd_ne fun q => h1 (by rw [q]; exact hb)]
    exact h3
section
variable {X : Cx} {p : DP} {E : XK} {st : Expr} {i : Nat}
abbrev CD (X : Cx) (p : DP) : Cc := ⟨X.K, X.mg, p.root⟩
theorem slot_wld {Ht H : Hp} {fp : Fp} {ρ : Ev} {σ : L2.St} (e : EnvO (CD X p) (DW p) Ht H ρ σ fp) (h : ρ[i]? = some (some (.frz .wld))) : σ[i]? = some (some (.ref p.root)) := by
  obtain ⟨v, h1, h2, _⟩ := e.slot i _ h
  have h2 : v = .ref p.root := h2
  rw [h1, h2]
theorem fe_wint (f : WF) {p2 : Pos} {k : Nat} {p3 : Pos} (hu : X.A.units + 1 < cLine) (hst : PE X st (tVar i)) : PE X (.Subscript st (.Constant (.str f.nm) k p2) p3) (gOf (CD X p) (DW p) E (rD (CD X p)) (mWi i f)) :=
  PE.imp (pe_ix (ix_all hu) hst pe_str (fun _ _ => rfl)) fun σ H Q ⟨Ht, ρ, w, fp, e, r, h⟩ => by
    unfold mWi at h
    split at h
    · rename_i hi
      refine ⟨.ref p.root, slot_wld e hi, .inr (.inr ⟨p.root, .int (f.get w), rfl, ?_, At.here (RR := rD (CD X p)) h e r rfl⟩)⟩
      rw [← kvs_get p w f]
      exact DGet.k (k := .inr f.nm) r.1
    · exact h.elim
theorem fe_wpop {g : Str} {p2 p3 p4 : Pos} {k k2 : Nat} {apos cpos : Pos} (hb : p.gn = g) (hu : X.A.units + 1 < cLine) (hst : PE X st (tVar i))
    (hbase : attributeBase (.Subscript st (.Constant (.str g) k p2) p3) "pop" X.env (eval (.Subscript st (.Constant (.str g) k p2) p3) X.env) = eval (.Subscript st (.Constant (.str g) k p2) p3) X.env := by rfl) (hline : (apos.endLine == cpos.line) = true := by rfl)
    (hs : starEach [.Constant (.int 0) k2 p4] X.env = [(false, eval (.Constant (.int 0) k2 p4) X.env)] := by rfl)
    (hfew : ((backTo cpos (starEach [.Constant (.int 0) k2 p4] X.env)).all (fun x => !x.1) && (backToKw cpos (keywordEach [] X.env)).all (fun x => x.1.isSome)
      && decide (([.Constant (.int 0) k2 p4] : List Expr).length + ([] : List Keyword).length + (if ([] : List Keyword).isEmpty then 0 else 1) < 30)) = true := by rfl) (hplain : (backTo cpos (starEach [] X.env)).any (·.1) = false := by rfl) :
    PE X (.Call (.Attribute (.Subscript st (.Constant (.str g) k p2) p3) "pop" apos) [.Constant (.int 0) k2 p4] [] cpos) (gOf (CD X p) (DW p) E (rD (CD X p)) (mWpop i)) :=
  PE.imp (pe_bm PySem.F.plainAttrs_list PySem.F.slot_list_pop PySem.F.type_list_pop mt_popAt (pe_ix (ix_all hu) hst pe_str (fun _ _ => rfl)) (pa_cons pe_int pa_nil hs) hbase hfew hline hs hplain) fun σ H Q ⟨Ht, ρ, w, fp, e, r, h⟩ => by
    unfold mWpop at h
    split at h
    · rename_i hi
      split at h
      · rename_i x rr hg
        refine ⟨.ref p.root, slot_wld e hi, .inr (.inr ⟨p.root, .ref p.ga, rfl, ?_, ?_⟩)⟩
        · rw [← kvs_g p w, hb]
          exact DGet.k (k := .inr g) r.1
        · obtain ⟨r1, r2, r3, r4, r5, r6, r7, r8⟩ := r
          rw [hg] at r2
          refine ⟨.inl ⟨rfl, _, SqL.of r2⟩, ?_⟩
          refine ⟨p.ga, _, 0, 0, .int x, rfl, rfl, r2, by decide, by decide, ?_, rfl, ?_⟩
          · rw [List.length_map, List.length_cons]
            unfold seqIndex?
            simp
            try omega
          · obtain ⟨e', s'⟩ := e.wupd (o := .lst ((List.map V.int (x :: rr)).eraseIdx 0)) (W := DW p) (.inr (.inl rfl)) r2
            refine h (.int x) _ Ht fp e' s' OwnS.refl ⟨?_, ?_, ?_, r4, r5, r6, r7, tabs_put r8 r2 (fun _ z => by cases z) (fun _ z => by cases z)⟩ rfl
            · rw [upd_ne r4]
              exact r1
            · rw [upd_same]
              rfl
            · rw [upd_ne (Ne.symm r6)]
              exact r3
      · exact h.elim
    · exact h.elim
theorem wne_of {g : Str} (hb : p.gn = g) (σ : L2.St) (H : Hp) (Q : VK) (h : gOf (CD X p) (DW p) E (rD (CD X p)) (mWne i) σ H Q) : tOp (rNeD X.K) (tOp (rIxA X.K) (tVar i) (tC (.str g))) (tLst tNil) σ H Q := by
  obtain ⟨Ht, ρ, w, fp, e, r, h⟩ := h
  unfold mWne at h
  split at h
  · rename_i hi
    refine ⟨.ref p.root, slot_wld e hi, .inr (.inr ⟨p.root, .ref p.ga, rfl, ?_, ?_⟩)⟩
    · rw [← kvs_g p w, hb]
      exact DGet.k (k := .inr g) r.1
    · refine ⟨Nat.zero_le _, fun o no => ?_⟩
      unfold D.neD at h
      cases z : D.eq (.lst (w.great.map .int)) (.lst []) with
      | none =>
        rw [z] at h
        exact h.elim
      | some b =>
        rw [z] at h
        have n1 : o ≠ p.ga := fun y => by rw [y, r.2.1] at no; cases no
        obtain ⟨p1, q1, h1, h2, h3, h4, h5⟩ := eq_dp (C := CD X p) (Ht := upd H o (.lst [])) (Same.refl _) (x := .ref p.ga) (y := .ref o) (da := .lst (w.great.map .int)) (db := .lst []) ⟨p.ga, _, rfl, by rw [upd_ne (Ne.symm n1)]; exact r.2.1, RzInts⟩ ⟨o, [], rfl, upd_same, rfl⟩ z
        refine ⟨p1, q1, h1, h2, h3, h4, ?_⟩
        rw [h5]
        have al := alloc_env (o := .lst []) e r no
        exact h (.bl (!b)) _ _ fp al.1 al.2 OwnS.refl (rel_upd r no) rfl
  · exact h.elim
theorem fe_wne {g : Str} {p2 p3 p4 p5 : Pos} {k : Nat} (hb : p.gn = g) (hu : X.A.units + 1 < cLine) (hu2 : X.A.units + 64 < cLine) (hst : PE X st (tVar i)) :
    PE X (.Compare (.Subscript st (.Constant (.str g) k p2) p3) [.NotEq] [.List [] p4] p5) (gOf (CD X p) (DW p) E (rD (CD X p)) (mWne i)) :=
  PE.imp (pe_cmpR (op_neD hu2) (pe_ix (ix_all hu) hst pe_str (fun _ _ => rfl)) (pe_lst pa_nil) rfl) (wne_of hb)
theorem ft_wne {g : Str} {p2 p3 p4 p5 : Pos} {k : Nat} (hb : p.gn = g) (hu : X.A.units + 1 < cLine) (hu2 : X.A.units + 64 < cLine) (hst : PE X st (tVar i)) :
    PT X (.Compare (.Subscript st (.Constant (.str g) k p2) p3) [.NotEq] [.List [] p4] p5) (gOf (CD X p) (DW p) E rB (mB (mWne i))) :=
  PT.imp (pt_cmpR (op_neD hu2) (pe_ix (ix_all hu) hst pe_str (fun _ _ => rfl)) (pe_lst pa_nil) rfl) fun σ H Q h => tB_of σ H Q h fun Q' h' => wne_of hb σ H Q' h'
theorem fi_wcells {tg : Expr} {p2 p3 : Pos} {k : Nat} (hu : X.A.units + 1 < cLine) (hst : PE X st (tVar i)) : PI X tg (.Subscript st (.Constant (.str "cells") k p2) p3) (gOf (CD X p) (DW p) E (rI (CD X p) (DW p)) (mWcells i)) :=
  PI.imp (pi_list (pe_ix (ix_all hu) hst pe_str (fun _ _ => rfl))) fun σ H R ⟨Ht, ρ, w, fp, e, r, h⟩ => by
    unfold mWcells at h
    split at h
    · rename_i hi
      refine ⟨.ref p.root, slot_wld e hi, .inr (.inr ⟨p.root, .ref p.ca, rfl, ?_, ?_⟩)⟩
      · rw [← kvs_c p w]
        exact DGet.k (k := .inr "cells") r.1
      · refine ⟨p.ca, rfl, ⟨_, SqL.of r.2.2.1⟩, h (Itl X.K p.ca) H Ht fp e (Stp.refl e.sub) OwnS.refl r ?_⟩
        rw [r.2.2.2.2.2.2.1]
        refine ⟨_, _, by rw [List.length_map, ← List.length_map (f := V.int)]; exact walk_list, fun H' w' s r' => SqL.of r'.2.2.1, fun i H' Ht' x H'' w' s s2 r' hi y => ?_⟩
        have y2 := y.2
        rw [List.getElem?_map] at y2
        rw [List.getElem?_map]
        cases q : p.cells[i]? with
        | none =>
          rw [q] at y2
          cases y2
        | some z =>
          rw [q] at y2
          cases y2
          exact ⟨.int z, rfl, .inl ⟨y.1, rfl⟩⟩
    · exact h.elim
theorem s_wset (f : WF) {p2 p3 p4 : Pos} {k : Nat} {ev : Expr} {me : M DS D} (hu : X.A.units + 1 < cLine) (hst : PE X st (tVar i)) (hv : PE X ev (gOf (CD X p) (DW p) E (rD (CD X p)) me))
    (ha : ∀ v, assign (.Subscript st (.Constant (.str f.nm) k p2) p3) X.env v = (do
      let ov ← holding [v] (eval st X.env)
      let iv ← holding [v, ov] (eval (.Constant (.str f.nm) k p2) X.env)
      standAt p3
      holding [v, ov, iv] (setItem ov iv v)
      release [v, ov, iv] []) := by intro _; rfl) (hs : swapsWithSole [.Subscript st (.Constant (.str f.nm) k p2) p3] ev p4.line X.env = pure false := by rfl) (hw : swappedStores [.Subscript st (.Constant (.str f.nm) k p2) p3] ev X.env = pure none := by rfl)
    (h1 : (assignEach [.Subscript st (.Constant (.str f.nm) k p2) p3] X.env).map (·.2) = [assign (.Subscript st (.Constant (.str f.nm) k p2) p3) X.env] := by rfl) :
    PS X (.Assign [.Subscript st (.Constant (.str f.nm) k p2) p3] ev p4) (sOf (CD X p) (DW p) E (sWi i f me)) :=
  PS.imp (ps_asg hv (pg_sub hst pe_str (set_dict hu) ha) hs hw h1) fun Dn σ H ⟨Ht, ρ, w, fp, e0, r0, h0⟩ => by
    refine ⟨Ht, ρ, w, fp, e0, r0, sB.bind h0 fun d v H1 Ht1 ρ1 w1 fp1 e1 s1 o1 r1 q1 h1 => ?_⟩
    split at h1
    · rename_i x hi
      have q1' : v = .int x := q1
      subst q1'
      refine ⟨.ref p.root, slot_wld e1 hi, p.root, upd H1 p.root (.dK (putK (p.kvs w1) (.inr f.nm) (.int x))), rfl, DPut.k (k := .inr f.nm) r1.1 (by rw [kvs_len]; decide), ?_⟩
      obtain ⟨e', s'⟩ := e1.wupd (o := .dK (putK (p.kvs w1) (.inr f.nm) (.int x))) (W := DW p) (.inl rfl) r1.1
      obtain ⟨r1', r2', r3', r4', r5', r6', r7', r8'⟩ := r1
      refine h1 σ _ Ht1 fp1 e' s' OwnS.refl ⟨?_, ?_, ?_, r4', r5', r6', by cases f <;> exact r7', tabs_put r8' r1' (fun _ z => by cases z) (fun _ z => by cases z)⟩
      · rw [upd_same, kvs_set]
      · rw [upd_ne (Ne.symm r4')]
        cases f <;> exact r2'
      · rw [upd_ne (Ne.symm r5')]
        exact r3'
    · exact h1.elim
end
end FL
set_option maxRecDepth 100000
set_option maxHeartbeats 4000000
namespace FL
open PySem PySem.Spec PyProof.Rows L2
/-! ### the draws begun; a law -/
def W0 : Wd Unit := ⟨fun _ => False, fun _ _ => True, fun _ _ _ => trivial, fun _ _ h => h.elim⟩
def begGreat (ns : List Int) : List Int := (ns.filter fun z => decide ((z.natAbs : Int) ≥ 10 ^ 18)).map fun z => (z.natAbs : Int) - 10 ^ 18
def begCells (ns : List Int) : List Int := ns.map fun z => (z.natAbs : Int)
def spBeg (K : PySem.W.Frag) (b : Bool) : Sp := fun vs H Q E => ∃ a ns, vs = [.ref a] ∧ SqL K H a (ns.map V.int) ∧ ns.length ≤ 1000 ∧
  ∀ (p : DP) H', p.b = b → p.T = [] → p.cells = begCells ns → Same H H' → H p.root = none → H p.ga = none → H p.ca = none → (DW p).rel H' ⟨begGreat ns, begCells ns, 0, 0⟩ → Q (.ref p.root) H'
def begE (n : Nat) (ns : List Int) : Ev := some (.frz (.scr (ns.map .int))) :: List.replicate n none
def begE1 (n : Nat) (ns : List Int) : Ev := some (.frz (.scr (ns.map .int))) :: some (.lst ((begGreat ns).map .int)) :: List.replicate n none
theorem ints_eq {C : Cc} {H : Hp} : ∀ {ns : List Int} {vs : List V}, RzL C H (ns.map D.int) vs → vs = ns.map V.int
  | [], _, h => h
  | _ :: _, _, ⟨_, _, h, h1, h2⟩ => by
    have h1' : _ = V.int _ := h1
    rw [h, h1', ints_eq h2]
    rfl
section
variable {P : Program} {w : World} {K : PySem.W.Frag} {mg : Str → Option Value} {base : Heap}
theorem beg_start {H : Hp} {N : List Str} {n : Nat} {C : Cc} {a : Addr} {ns : List Int} (hN : N.length = n + 1) (hS : SqL C.K H a (ns.map V.int)) : EnvO C W0 H H (begE n ns) (L2.start N [.ref a]) noF := by
  have := start_env (C := C) (W := W0) (N := N) (ds := [.scr (ns.map .int)]) (vs := [.ref a]) (Same.refl H) (fun _ h => h.elim) ⟨.ref a, [], rfl, ⟨a, _, rfl, hS, RzInts⟩, rfl⟩
  unfold startE at this
  rw [hN] at this
  exact this
/-- variant of the order: great, cells, rest, turn -/
theorem fn_begunA {dvs : List V} {x qual : Str} {st : Stmt} {f : Addr} {fd : FuncData} {N : List Str} {n k : Nat} {s1 : Stmt} {e1 e2 e3 e4 : Expr} {kp rp : Pos} {k1 k2 k3 k4 : Nat} {p1 p2 p3 p4 : Pos} {m1 : SM Unit} {m2 : M Unit (List D)} (F : FunD K x qual (defArgs st) (defBody st) (defScope st) dvs [] f fd) (S : FnScope N ["script"] (defScope st)) (hN : N.length = n + 2)
    (hm1 : ∀ ns : List Int, ns.length ≤ 1000 → m1 (begE (n + 1) ns) () = some (.nx (begE1 n ns) ())) (hm2 : ∀ ns : List Int, ns.length ≤ 1000 → m2 (begE1 n ns) () = some (.ok ((begCells ns).map .int) (begE1 n ns) ()))
    (hb : defBody st = [s1, .Return (some (.Dict [some (.Constant (.str "great") k1 p1), some (.Constant (.str "cells") k2 p2), some (.Constant (.str "rest") k3 p3), some (.Constant (.str "turn") k4 p4)] [e1, e2, e3, e4] kp)) rp])
    (h1 : ∀ (cdv : Value) (A : Around) (outer : List Env) (s : Shared) (H : Hp) (E : XK), Room k (A.deeper (envOfC qual (defScope st) s.heap.objs.size f cdv)) → PS (cxOf (L2.CX P w) P w K mg base N qual (defScope st) f cdv A outer s H E) s1 (sOf ⟨K, mg, 0⟩ W0 E m1))
    (h2 : ∀ (cdv : Value) (A : Around) (outer : List Env) (s : Shared) (H : Hp) (E : XK), Room k (A.deeper (envOfC qual (defScope st) s.heap.objs.size f cdv)) → PE (cxOf (L2.CX P w) P w K mg base N qual (defScope st) f cdv A outer s H E) e1 (tVar 1))
    (h3 : ∀ (cdv : Value) (A : Around) (outer : List Env) (s : Shared) (H : Hp) (E : XK), Room k (A.deeper (envOfC qual (defScope st) s.heap.objs.size f cdv)) → PE (cxOf (L2.CX P w) P w K mg base N qual (defScope st) f cdv A outer s H E) e2 (gOf ⟨K, mg, 0⟩ W0 E (rF ⟨K, mg, 0⟩ W0) m2))
    (h4 : ∀ (cdv : Value) (A : Around) (outer : List Env) (s : Shared) (H : Hp) (E : XK), PE (cxOf (L2.CX P w) P w K mg base N qual (defScope st) f cdv A outer s H E) e3 (tC (.int 0)))
    (h5 : ∀ (cdv : Value) (A : Around) (outer : List Env) (s : Shared) (H : Hp) (E : XK), PE (cxOf (L2.CX P w) P w K mg base N qual (defScope st) f cdv A outer s H E) e4 (tC (.int 0))) :
    FnOk P w K mg base (L2.CX P w) (k + 1) f fd ["script"] (spBeg K false) :=
  F.ok S (fun vs H Q E ⟨a, ns, h, _⟩ => by rw [h]; rfl) fun cdv A outer s H vs Q E hr ⟨a, ns, hv, hS, hl, h⟩ => by
    subst hv
    rw [hb]
    refine ⟨_, pss_cons (h1 cdv A outer s H E hr) (pss_one (ps_ret (pe_disp (pps_cons pe_str (h2 cdv A outer s H E hr) (pps_cons pe_str (h3 cdv A outer s H E hr) (pps_cons pe_str (h4 cdv A outer s H E) (pps_cons pe_str (h5 cdv A outer s H E) pps_nil)))) rfl rfl (by simp) (by simp)))), ?_⟩
    refine ⟨H, begE (n + 1) ns, (), noF, beg_start hN hS, trivial, ?_⟩
    rw [hm1 ns hl]
    intro σ1 H1 Ht1 fp1 e1 s1 o1 r1
    -- the dict
    intro p np
    have a0 := alloc_own (o := .dK []) e1 r1 np
    obtain ⟨g, g1, ga, gvs, rfl, g3, g4, g5⟩ := a0.1.slot 1 _ (show (begE1 n ns)[1]? = some (some (.lst ((begGreat ns).map .int))) from rfl)
    refine ⟨.ref ga, g1, Ht1, begE1 n ns, (), fp1, a0.1, r1, ?_⟩
    rw [hm2 ns hl]
    intro v H2 Ht2 fp2 e2 s2 o2 r2 ⟨ca, cvs, hv, c1, c2, c3, c4, c5, c6⟩
    subst hv
    have pg : p ≠ ga := fun z => (a0.2.2.2.2 1) (by rw [g5, z]; exact List.mem_singleton.mpr rfl)
    obtain ⟨g', g1', ga', gvs', hg, g3', g4', g5'⟩ := e2.slot 1 _ (show (begE1 n ns)[1]? = some (some (.lst ((begGreat ns).map .int))) from rfl)
    rw [g1] at g1'
    cases g1'
    cases hg
    have hp2 : H2 p = some (.dK []) := s2.ch p _ (fun z => z.elim) a0.2.2.2.2 upd_same
    have pc : p ≠ ca := fun z => by rw [← z, upd_same] at c4; cases c4
    have gc : ga ≠ ca := fun z => by rw [← z, g3] at c4; cases c4
    have st : Stp W0 H H noF Ht2 H2 := s1.trans o1 (a0.2.1.trans OwnS.refl s2)
    have hn1 : H1 ca = none := upd_none c4
    have new : ∀ {b : Addr}, H1 b = none → H b = none := fun h => s1.keep _ h
    refine ⟨hp2, [(.inr "great", .ref ga), (.inr "cells", .ref ca), (.inr "rest", .int 0), (.inr "turn", .int 0)], rfl, by simp, ?_⟩
    have gn : H ga = none := by
      rcases o1 1 ga (by rw [g5]; exact List.mem_singleton.mpr rfl) with ⟨j, hj⟩ | z
      · cases hj
      · exact z
    have hss : Same H (upd H2 p (.dK (mergeK [] [(.inr "great", .ref ga), (.inr "cells", .ref ca), (.inr "rest", .int 0), (.inr "turn", .int 0)]))) := fun b y z => by
      have nb : b ≠ p := fun q => by rw [q, new np] at z; cases z
      rw [upd_ne nb]
      exact st.ch b y (fun z => z.elim) (fun i z => by cases z) z
    refine h ⟨p, ga, ca, begCells ns, false, []⟩ _ rfl rfl rfl hss (new np) gn (new hn1) ⟨?_, ?_, ?_, pg, pc, gc, rfl, fun q hq => by cases hq⟩
    · show upd H2 p _ p = _
      rw [upd_same]
      rfl
    · show upd H2 p _ ga = _
      rw [upd_ne (Ne.symm pg), g3', ints_eq g4']
    · show upd H2 p _ ca = _
      rw [upd_ne (Ne.symm pc), c1, ints_eq c2]
structure BegC (P : Program) (pw : World) (K : PySem.W.Frag) (mg : Str → Option Value) (base : Heap) (b : Bool) (k : Nat) : Prop where
  ex : ∃ f fd, mg "_law_begun" = some (.ref f) ∧ PySem.W.keepIn K (.ref f) = true ∧ Binds K fd ["script"] [] ∧ FnOk P pw K mg base (L2.CX P pw) k f fd ["script"] (spBeg K b)
theorem PSs.ex {X : Cx} {ι : Type} {ss : List Stmt} {t : ι → TS} (h : ∀ p, PSs X ss (t p)) : PSs X ss (fun Dn σ H => ∃ p, t p Dn σ H) := ⟨fun pins s σ H Dn I ⟨p, q⟩ => (h p).run pins s σ H Dn I q⟩
def spLaw (K : PySem.W.Frag) (T : List (Addr × Str)) : Sp := fun vs H Q _ => ∃ (a : Addr) (ns : List Int), vs = [.ref a] ∧ SqL K H a (ns.map V.int) ∧ ns.length ≤ 1000 ∧ (∀ q ∈ T, H q.1 = some (.tbl #[])) ∧ ∀ H', Q (.bl true) H'
theorem FunD_okC {CX : CXT} {x qual : Str} {params : Arguments} {body : List Stmt} {scope : Scope} {dvs : List V} {kws : List (Str × V)} {f : Addr} {fd : FuncData} {N ps : List Str} {k : Nat} {sp : Sp} (F : FunD K x qual params body scope dvs kws f fd) (S : FnScope N ps scope) (len : ∀ vs H Q E, sp vs H Q E → vs.length = ps.length)
    (hbody : ∀ (cdv : Value), fd.code = cdv → ∀ (A : Around) (outer : List Env) (s : Shared) (H : Hp) (vs : List V) (Q : VK) (E : XK), Room k (A.deeper (envOfC qual scope s.heap.objs.size f cdv)) → sp vs H Q E →
      ∃ t, PSs (cxOf CX P w K mg base N qual scope f cdv A outer s H E) body t ∧ t { nx := fun _ H' => Q .non H', rt := Q } (L2.start N vs) H) : FnOk P w K mg base CX (k + 1) f fd ps sp := by
  obtain ⟨oc, od, dV, kV, doc, pm, an, cdv, ct, osl, rfl, lk, hcd, _, _⟩ := F.ex
  exact fn_of lk hcd S len fun A outer s H vs Q E hr h => hbody cdv rfl A outer s H vs Q E hr h
def noT (T : List (Addr × Str)) (H : Hp) : Hp := fun b => if b ∈ T.map (·.1) then none else H b
theorem noT_same {T : List (Addr × Str)} {H H' : Hp} (s : Same H H') : Same (noT T H) H' := fun b x z => by
  unfold noT at z
  by_cases h : b ∈ T.map (·.1)
  · rw [if_pos h] at z
    cases z
  · rw [if_neg h] at z
    exact s b x z
theorem noT_at {T : List (Addr × Str)} {H : Hp} {a : Addr} {u : HO} (hT : ∀ q ∈ T, H q.1 = some (.tbl #[])) (h : H a = some u) (hu : ∀ ps, u ≠ .tbl ps) : noT T H a = some u := by
  unfold noT
  rw [if_neg fun z => ?_]
  · exact h
  · obtain ⟨q, hq, e⟩ := List.mem_map.mp z
    have z2 := hT q hq
    rw [show q.1 = a from e, h] at z2
    exact hu _ (Option.some.inj z2)
theorem noT_sq {T : List (Addr × Str)} {H : Hp} {a : Addr} {xs : List V} (hT : ∀ q ∈ T, H q.1 = some (.tbl #[])) (h : SqL K H a xs) : SqL K (noT T H) a xs := by
  rcases h with (h | ⟨o, h⟩) | h
  · exact .inl (.inl (noT_at hT h fun ps z => by cases z))
  · exact .inl (.inr ⟨o, noT_at hT h fun ps z => by cases z⟩)
  · exact .inr h
def lawE (n : Nat) (ns : List Int) : Ev := some (.frz (.scr (ns.map .int))) :: some (.frz .wld) :: List.replicate n none
/-- what is known of the draws: how many more may come -/
structure DsOk (n : Nat) (w : DS) : Prop where
  t0 : 0 ≤ w.turn
  t1 : w.turn + n ≤ 2 ^ 40
  r0 : 0 ≤ w.rest
  g0 : ∀ z ∈ w.great, 0 ≤ z
theorem fn_law {dvs : List V} {x qual : Str} {st : Stmt} {f : Addr} {fd : FuncData} {N : List Str} {n k kb : Nat} {y : Str} {p1 p2 p3 p4 p5 : Pos} {rest : List Stmt} {m : SM DS} {b : Bool} {T : List (Addr × Str)} (F : FunD K x qual (defArgs st) (defBody st) (defScope st) dvs [] f fd) (S : FnScope N ["script"] (defScope st)) (hN : N.length = n + 2) (hN1 : N[1]? = some y) (hy : Loc (defScope st) y)
    (B : BegC P w K mg base b kb) (hkb : kb ≤ k)
    (hb : defBody st = .Assign [.Name y p1] (.Call (.Name "_law_begun" p2) [.Name "script" p3] [] p4) p5 :: rest)
    (hg : ∀ (cdv : Value) (A : Around) (outer : List Env) (s : Shared) (H : Hp) (E : XK), Gl (cxOf (L2.CX P w) P w K mg base N qual (defScope st) f cdv A outer s H E) "_law_begun")
    (h0 : ∀ (cdv : Value) (A : Around) (outer : List Env) (s : Shared) (H : Hp) (E : XK), PE (cxOf (L2.CX P w) P w K mg base N qual (defScope st) f cdv A outer s H E) (.Name "script" p3) (tVar 0))
    (hrest : ∀ (p : DP), p.b = b → p.T = T → ∀ (cdv : Value), fd.code = cdv → ∀ (A : Around) (outer : List Env) (s : Shared) (H : Hp) (E : XK), Room k (A.deeper (envOfC qual (defScope st) s.heap.objs.size f cdv)) → PSs (cxOf (L2.CX P w) P w K mg base N qual (defScope st) f cdv A outer s H E) rest (sOf ⟨K, mg, p.root⟩ (DW p) E m))
    (hm : ∀ (ns : List Int), ns.length ≤ 1000 → ∃ w', outF (m (lawE n ns) ⟨begGreat ns, begCells ns, 0, 0⟩) = some (.ok (.bl true) w'))
    (hsw : ∀ (cdv : Value) (A : Around) (outer : List Env) (s : Shared) (H : Hp) (E : XK), swapsWith (.Call (.Name "_law_begun" p2) [.Name "script" p3] [] p4) (some (.Name y p1)) p5.line (cxOf (L2.CX P w) P w K mg base N qual (defScope st) f cdv A outer s H E).env = pure false := by intros; rfl)
    (he : ∀ (cdv : Value) (A : Around) (outer : List Env) (s : Shared) (H : Hp) (E : XK), starEach [.Name "script" p3] (cxOf (L2.CX P w) P w K mg base N qual (defScope st) f cdv A outer s H E).env = (false, eval (.Name "script" p3) (cxOf (L2.CX P w) P w K mg base N qual (defScope st) f cdv A outer s H E).env) :: starEach [] (cxOf (L2.CX P w) P w K mg base N qual (defScope st) f cdv A outer s H E).env := by intros; rfl)
    (hf : ∀ (cdv : Value) (A : Around) (outer : List Env) (s : Shared) (H : Hp) (E : XK), (cxOf (L2.CX P w) P w K mg base N qual (defScope st) f cdv A outer s H E).fn y = true ∨ (cxOf (L2.CX P w) P w K mg base N qual (defScope st) f cdv A outer s H E).env.scope.names.lookup y = some .local) :
    FnOk P w K mg base (L2.CX P w) (k + 1) f fd ["script"] (spLaw K T) :=
  FunD_okC F S (fun vs H Q E ⟨a, ns, h, _⟩ => by rw [h]; rfl) fun cdv hcv A outer s H vs Q E hr ⟨a, ns, hv, hS, hl, hTT, h⟩ => by
    subst hv
    rw [hb]
    obtain ⟨fb, fdb, b1, b2, b3, b4⟩ := B.ex
    refine ⟨_, pss_cons (ps_set (i := 1) S.nd hN1 hy (pe_call (E := E0) b4 (hr.mono hkb) (hg cdv A outer s H E) b1 b2 b3 .nil passL (pa_cons (h0 cdv A outer s H E) pa_nil (he cdv A outer s H E)) (by decide) (he cdv A outer s H E)) (hsw cdv A outer s H E) (hf cdv A outer s H E)) (PSs.ex fun (q : {p : DP // p.b = b ∧ p.T = T}) => hrest q.1 q.2.1 q.2.2 cdv hcv A outer s H E hr), ?_⟩
    refine ⟨.ref a, rfl, a, ns, rfl, hS, hl, fun p0 H' pb pT pc ss n1 n2 n3 rl0 => ?_⟩
    obtain ⟨w', hw⟩ := hm ns hl
    obtain ⟨pr, pg, pc', pcl, pbb, pTT⟩ := p0
    have rl : (DW ⟨pr, pg, pc', pcl, pbb, T⟩).rel H' ⟨begGreat ns, begCells ns, 0, 0⟩ := by
      obtain ⟨z1, z2, z3, z4, z5, z6, z7, _⟩ := rl0
      exact ⟨z1, z2, z3, z4, z5, z6, z7, fun q hq => LamX.TabS.nil (ss _ _ (hTT q hq))⟩
    refine ⟨⟨⟨pr, pg, pc', pcl, pbb, T⟩, pb, rfl⟩, ?_⟩
    have wo : ∀ b, (DW ⟨pr, pg, pc', pcl, pbb, T⟩).fp b → noT T H b = none := fun b z => by
      unfold noT
      by_cases hb : b ∈ T.map (·.1)
      · rw [if_pos hb]
      · rw [if_neg hb]
        rcases z with rfl | rfl | rfl | z
        · exact n1
        · exact n2
        · exact n3
        · exact absurd z hb
    have se := start_env (C := ⟨K, mg, pr⟩) (W := DW ⟨pr, pg, pc', pcl, pbb, T⟩) (N := N) (ds := [.scr (ns.map .int)]) (vs := [.ref a]) (noT_same ss) wo ⟨.ref a, [], rfl, ⟨a, _, rfl, noT_sq hTT hS, RzInts⟩, rfl⟩
    have se2 := se.set (i := 1) (d := .wld) (v := .ref pr) rfl
    have hE : (startE N.length [D.scr (ns.map .int)]).set 1 (some (.frz .wld)) = lawE n ns := by
      unfold startE lawE
      rw [hN]
      rfl
    rw [hE] at se2
    refine ⟨noT T H, lawE n ns, ⟨begGreat ns, begCells ns, 0, 0⟩, _, se2, rl, ?_⟩
    cases z : m (lawE n ns) ⟨begGreat ns, begCells ns, 0, 0⟩ with
    | none =>
      rw [z] at hw
      cases hw
    | some fl =>
      rw [z] at hw
      cases fl with
      | rt d w2 =>
        cases hw
        intro v H2 Ht2 s2 r2 q2
        have q2' : v = .bl true := q2
        subst q2'
        exact h H2
      | nx _ _ => cases hw
      | bk _ _ => cases hw
      | ct _ _ => cases hw
      | rn _ _ => cases hw
      | er _ _ => cases hw
end
end FL
set_option maxRecDepth 100000
set_option maxHeartbeats 4000000
namespace FL
open PySem PySem.Spec PyProof.Rows L2
/-! ### t.index(x) -/
section
variable {X : Cx}
def rIndexT (K : PySem.W.Frag) : V → List V → Hp → VK → Prop := fun x xs H Q => ∃ (a : Addr) (ys : List V) (y : V) (j : Nat) (z : V), x = V.ref a ∧ xs = [y] ∧ SqT K H a ys ∧ flatV y = true ∧ ys.all flatV = true ∧ ys[j]? = some z ∧ eqV z y = true ∧
  (∀ (m : Nat) (z' : V), m < j → ys[m]? = some z' → eqV z' y = false) ∧ Q (.int (j : Nat)) H
theorem mt_indexT : MtR X "tuple.index" (rIndexT X.K) := by
  intro pins s σ H x xs v us Q I rx rxs h
  obtain ⟨a, ys, y, j, z, rfl, rfl, hs, fy, fys, hz, hzj, hno, q⟩ := h
  cases rx
  cases rxs with
  | cons ry rt =>
    rename_i uy ut
    cases rt
    obtain ⟨its, rv, pl, hlen⟩ := I.tuple hs
    obtain ⟨⟨cls, dd, data, sl⟩, ho, hc, n, hd⟩ := pl
    simp only at hc hd
    subst hc hd
    obtain ⟨u, hu, ru⟩ := rv.get hz
    obtain ⟨hjl, hje⟩ := List.getElem?_eq_some_iff.mp hu
    have hvl := rv.length
    have hj : j < its.toArray.size := by simpa using hjl
    have hsl := sizeLine_eq
    refine call_meets PySem.F.slot_tuple_index ⟨_, ho, rfl⟩ PySem.F.entry_tuple_index (PySem.F.args_tuple_index_2 _ _)
      (TI.tuple_indexAt a its.toArray n dd sl uy (eqU y) j hj ?_ ?_) ⟨ho, fun u' hu' => mem_eqAt ry fy rv fys u' (by simpa using hu'), ?_⟩
    · have e1 : its.toArray[j] = u := by simpa using hje
      rw [e1, eqU_of ru (flat_at fys hz)]
      exact hzj
    · intro m hm hmj
      have hml : m < its.length := by simpa using hm
      have hmy : m < ys.length := by omega
      have hy' : ys[m]? = some ys[m] := List.getElem?_eq_getElem hmy
      obtain ⟨u2, hu2, ru2⟩ := rv.get hy'
      obtain ⟨_, hme⟩ := List.getElem?_eq_some_iff.mp hu2
      have e1 : its.toArray[m] = u2 := by simpa using hme
      rw [e1, eqU_of ru2 (flat_at fys hy')]
      exact hno m _ hmj hy'
    · exact ⟨.int (j : Nat), H, I.tok _, ⟨_, rfl⟩, q⟩
end
def rCatX (K : PySem.W.Frag) : R2 := fun x y H Q => ∃ a b xs ys, x = .ref a ∧ y = .ref b ∧ SqT K H a xs ∧ SqT K H b ys ∧ xs ≠ [] ∧ ys ≠ [] ∧ xs.length + ys.length ≤ sizeLine ∧ ∀ p o, H p = none → o.dict = none → Q (.ref p) (upd H p (.frz o (.tup (xs ++ ys))))
theorem op_catX {X : Cx} : OpR X (binaryOp .Add) (rCatX X.K) := by
  intro pins s σ H x y v u Q I rx ry h
  obtain ⟨a, b, xs, ys, rfl, rfl, ha, hb, hx, hy, hz, q2⟩ := h
  cases rx
  cases ry
  obtain ⟨its, r1, p1, _⟩ := I.tuple ha
  obtain ⟨its2, r2, p2, _⟩ := I.tuple hb
  refine HT.cat_tup p1 p2 (fun z => hx (r1.nil_iff.mp z)) (fun z => absurd (r2.nil_iff.mp z) hy) (fun z => ?_) (by rw [← r1.length, ← r2.length]; exact hz)
  refine ⟨.ref s.heap.objs.size, _, I.laid (t' := s.toks) (o := .frz { cls := Value.type "tuple", data := Data.seq (its ++ its2).toArray } (.tup (xs ++ ys))) (fun b ob q => Heap.get?_push_of_some _ q) (Nat.le_refl _) ?_, rfl, q2 _ _ (I.hok.fresh (Nat.le_refl _)) ?_⟩
  · exact ⟨Heap.get?_push_size s.heap rfl, by rw [List.length_append]; exact hz, _, r1.append r2, IsTup.new _ _⟩
  · rfl
def tBMX (r : V → List V → Hp → VK → Prop) (to : TE) (t : TA) : TE := fun σ H Q => to σ H fun x H1 => (∃ p o vs, x = .ref p ∧ H1 p = some (.frz o (.tup vs)) ∧ o.dict = none) ∧ t σ H1 fun xs H2 => r x xs H2 Q
theorem pe_bmX {X : Cx} {o e : Expr} {es : List Expr} {to : TE} {t : TA} {name : Str} {apos cpos : Pos} {id : String} {r : V → List V → Hp → VK → Prop} (pa : PlainAttrs "tuple") (slot : Slot "tuple" name id) (hty : typeOf (.builtin id) = pure (.type "method_descriptor")) (hm : MtR X id r) (ho : PE X o to) (ha : PA X (e :: es) t)
    (hbase : attributeBase o name X.env (eval o X.env) = eval o X.env := by rfl)
    (hfew : ((backTo cpos (starEach (e :: es) X.env)).all (fun x => !x.1) && (backToKw cpos (keywordEach [] X.env)).all (fun x => x.1.isSome)
      && decide ((e :: es).length + ([] : List Keyword).length + (if ([] : List Keyword).isEmpty then 0 else 1) < 30)) = true := by rfl)
    (hline : (apos.endLine == cpos.line) = true := by rfl) (hs : starEach (e :: es) X.env = (false, eval e X.env) :: starEach es X.env := by rfl) (hplain : (backTo cpos (starEach es X.env)).any (·.1) = false := by rfl) :
    PE X (.Call (.Attribute o name apos) (e :: es) [] cpos) (tBMX r to t) := by
  refine ⟨fun pins s σ H Q I h => ?_⟩
  refine wpAny_Call_method_late hbase hfew hline rfl (thn (ho.run pins s σ H _ I h) fun v s1 ⟨x, H1, I1, r1, ⟨p, ob, vs, hx, hp, hd⟩, q1⟩ => ?_)
  subst hx
  cases r1
  obtain ⟨g, _, its, _, it⟩ := I1.hok p _ hp
  refine ⟨"tuple", id, pa, slot, hty, it.typeIs, fun a e => (by cases e; exact ⟨ob, g, hd⟩), ?_⟩
  have hA := ha.run cpos pins s1 σ H1 _ I1 q1
  rw [hs] at hA ⊢
  refine Calls.callWith_builtin (by show (false || (backTo cpos (starEach es X.env)).any (·.1)) = false; rw [hplain] <;> rfl) (Calls.evalArgs_plain ?_)
  exact thn hA fun us s2 ⟨vs, H2, I2, r2, q2⟩ => hm pins s2 σ H2 (.ref p) vs _ us Q I2 rfl r2 q2
def D.indexT (d : D) (ds : List D) : Option D := match d, ds with
  | .tpx xs, [y] => match y.flV, D.flVs xs with
    | some v, some vs => (vs.findIdx? fun z => eqV z v).map fun j => .int (j : Nat)
    | _, _ => none
  | _, _ => none
def D.addX : D → D → Option D
  | .tup xs, .tup ys => if xs.isEmpty = false ∧ ys.isEmpty = false ∧ xs.length + ys.length ≤ 16777216 then some (.tpx (xs ++ ys)) else none
  | _, _ => none
section
variable {ω : Type} {X : Cx} {C : Cc} {W : Wd ω} {E : XK}
theorem os_addX (hK : X.K = C.K) : OpS C W E (rCatX X.K) (pu2 D.addX) := by
  intro da db x y Ht H fp ρ σ w Q e rl ra rb h0
  unfold pu2 pu D.addX at h0
  split at h0
  · rename_i d hd
    split at hd
    · rename_i xs ys
      split at hd
      · rename_i c
        obtain ⟨c1, c2, c3⟩ := c
        cases hd
        obtain ⟨a, vs, rfl, ha, la⟩ := ra
        obtain ⟨b, us, rfl, hb, lb⟩ := rb
        refine ⟨a, b, vs, us, rfl, rfl, SqT.of (e.sub _ _ ha), SqT.of (e.sub _ _ hb), fun z => ?_, fun z => ?_, by rw [← la.len, ← lb.len, sizeLine24]; exact c3, fun p o np no => ?_⟩
        · subst z
          have := la.len
          cases xs with
          | nil => cases c1
          | cons _ _ => cases this
        · subst z
          have := lb.len
          cases ys with
          | nil => cases c2
          | cons _ _ => cases this
        · have nt := none_of_sub e.sub np
          exact At.alloc (α := D) h0 e rl np ⟨p, _, o, rfl, upd_same, no, RzL.mono (same_upd nt) (la.app lb)⟩
      · cases hd
    · cases hd
  · exact h0.elim
def mIdxT (mo : M ω D) (ma : M ω (List D)) : M ω D := fun ρ w => bnd (mo ρ w) fun d ρ w => match d with
  | .tpx xs => bnd (ma ρ w) fun ds => pu (D.indexT (.tpx xs) ds)
  | _ => none
theorem fe_indexT {o e : Expr} {apos cpos : Pos} {mo : M ω D} {ma : M ω (List D)} (hK : X.K = C.K) (ho : PE X o (gOf C W E (rD C) mo)) (ha : PA X [e] (gOf C W E (rL C) ma)) (hbase : attributeBase o "index" X.env (eval o X.env) = eval o X.env := by rfl)
    (hfew : ((backTo cpos (starEach [e] X.env)).all (fun x => !x.1) && (backToKw cpos (keywordEach [] X.env)).all (fun x => x.1.isSome)
      && decide (([e] : List Expr).length + ([] : List Keyword).length + (if ([] : List Keyword).isEmpty then 0 else 1) < 30)) = true := by rfl)
    (hline : (apos.endLine == cpos.line) = true := by rfl) (hs : starEach [e] X.env = (false, eval e X.env) :: starEach [] X.env := by rfl) (hplain : (backTo cpos (starEach [] X.env)).any (·.1) = false := by rfl) :
    PE X (.Call (.Attribute o "index" apos) [e] [] cpos) (gOf C W E (rD C) (mIdxT mo ma)) :=
  PE.imp (pe_bmX PySem.F.plainAttrs_tuple PySem.F.slot_tuple_index PySem.F.type_tuple_index mt_indexT ho ha hbase hfew hline hs hplain) fun σ H Q h => gOf.bind h fun d v Ht H1 Ht1 fp ρ1 w1 fp1 e1 s1 o1 r1 q1 h1 => by
    by_cases hT : ∃ xs, d = .tpx xs
    · obtain ⟨xs, rfl⟩ := hT
      obtain ⟨a, vs, o, rfl, hT, hn, la⟩ := q1
      refine ⟨⟨a, o, vs, rfl, e1.sub _ _ hT, hn⟩, Ht1, ρ1, w1, fp1, e1, r1, At.bind h1 fun ds us H2 Ht2 ρ2 w2 fp2 e2 s2 o2 r2 q2 h2 => ?_⟩
      unfold pu at h2
      split at h2
      · rename_i d' hd
        unfold D.indexT at hd
        split at hd
        · rename_i _ _ xs' y he
          cases he
          split at hd
          · rename_i v' vs' hv hvs
            cases hj : vs'.findIdx? (fun z => eqV z v') with
            | none =>
              rw [hj] at hd
              cases hd
            | some j =>
              rw [hj] at hd
              cases hd
              obtain ⟨u, hu0, hu⟩ := rzl1 q2
              obtain ⟨k1, k2⟩ := flV_ok hu hv
              obtain ⟨k3, k4⟩ := flVs_ok la hvs
              rw [List.findIdx?_eq_some_iff_getElem] at hj
              obtain ⟨hlt, g1, g2⟩ := hj
              rw [hu0, k1]
              refine ⟨a, vs', v', j, vs'[j], rfl, rfl, ?_, k2, k4, List.getElem?_eq_getElem hlt, g1, fun m z' hm hz => ?_, At.here (RR := rD C) h2 e2 r2 rfl⟩
              · rw [hK, ← k3]
                exact .inl (.inr ⟨o, e2.sub _ _ (s2.th _ _ hT)⟩)
              · have hm' : m < vs'.length := (List.getElem?_eq_some_iff.mp hz).1
                rw [List.getElem?_eq_getElem hm'] at hz
                cases hz
                exact Bool.eq_false_iff.mpr (g2 m hm)
          · cases hd
        · cases hd
      · exact h2.elim
    · exfalso
      split at h1
      · exact hT ⟨_, rfl⟩
      · exact h1
end
end FL
set_option maxRecDepth 100000
set_option maxHeartbeats 4000000
namespace FL
open PySem PySem.Spec PyProof.Rows L2
section
variable {ω : Type} {X : Cx} {C : Cc} {W : Wd ω} {E : XK}
theorem fe_glE {x : Str} {pos : Pos} (hg : Gl X x) (hm : ∃ a, X.mg x = some (.ref a)) (hC : C.mg = X.mg) (hd : (x == ("__debug__" : Str)) = false := by decide) : PE X (.Name x pos) (gOf C W E (rD C) (mC (.gl x))) := by
  obtain ⟨a, hm⟩ := hm
  exact fe_gl hg hm hC hd
def tIfT (c a b : TT) : TT := fun σ H Q => c σ H fun k H1 => if k = true then a σ H1 Q else b σ H1 Q
theorem pt_ifExp {c a b : Expr} {pos : Pos} {tc ta tb : TT} (hc : PT X c tc) (ha : PT X a ta) (hb : PT X b tb) : PT X (.IfExp c a b pos) (tIfT tc ta tb) := by
  refine ⟨fun pins s σ H Q I h => ?_⟩
  rw [arm_isTrue_IfExp]
  refine wpAny_bind (wpAny_mono (hc.run pins s σ H _ I h) (fun k s1 ⟨H1, I1, q⟩ => ?_) fun _ _ e => e)
  cases k with
  | true => exact ha.run pins s1 σ H1 Q I1 q
  | false => exact hb.run pins s1 σ H1 Q I1 q
theorem ft_ifExp {c a b : Expr} {pos : Pos} {mc ma mb : M ω Bool} (hc : PT X c (gOf C W E rB mc)) (ha : PT X a (gOf C W E rB ma)) (hb : PT X b (gOf C W E rB mb)) : PT X (.IfExp c a b pos) (gOf C W E rB (mIf mc ma mb)) :=
  PT.imp (pt_ifExp hc ha hb) fun σ H Q h => gOf.bind h fun k v Ht H1 Ht1 fp ρ1 w1 fp1 e1 s1 o1 r1 q1 h1 => by
    have q1' : k = v := q1
    subst q1'
    cases k with
    | true => exact ⟨Ht1, ρ1, w1, fp1, e1, r1, h1⟩
    | false => exact ⟨Ht1, ρ1, w1, fp1, e1, r1, h1⟩
theorem gn_of {p : DP} {b : Bool} (h : p.b = b) : p.gn = (if b then ("large" : Str) else ("great" : Str)) := by
  unfold DP.gn
  rw [h]
/-! ### how comprehensions come out -/
theorem lcGo_pf {bd : Bd} {c : M ω Bool} {e : M ω D} {ρ ρh : Ev} {w : ω} (p : D → Bool) (f : D → D) : ∀ (ds acc : List D), (∀ d ∈ ds, ∃ ρ1 ρ2, bd d ρh = some ρ1 ∧ c ρ1 w = some (.ok (p d) ρ2 w) ∧ (p d = true → ∃ ρ3, e ρ2 w = some (.ok (f d) ρ3 w))) →
    lcGo bd c e ρ ρh ds acc w = some (.ok (acc ++ (ds.filter p).map f) ρ w)
  | [], acc, _ => by
    unfold lcGo
    simp
  | d :: ds, acc, h => by
    obtain ⟨ρ1, ρ2, h1, h2, h3⟩ := h d List.mem_cons_self
    unfold lcGo
    rw [h1]
    simp only [h2]
    cases hp : p d with
    | false =>
      simp only
      rw [lcGo_pf p f ds acc fun x hx => h x (List.mem_cons_of_mem _ hx), List.filter_cons_of_neg (by rw [hp]; simp)]
    | true =>
      obtain ⟨ρ3, h4⟩ := h3 hp
      simp only [h4]
      rw [lcGo_pf p f ds (acc ++ [f d]) fun x hx => h x (List.mem_cons_of_mem _ hx), List.filter_cons_of_pos hp, List.map_cons, List.append_assoc]
      rfl
theorem mLc_pf {src : M ω (List D)} {vs : List Nat} {bd : Bd} {c : M ω Bool} {e : M ω D} {ρ ρ' : Ev} {w : ω} {ds : List D} (p : D → Bool) (f : D → D) (hs : src ρ w = some (.ok ds ρ' w)) (hl : ds.length ≤ 16777216)
    (h : ∀ d ∈ ds, ∃ ρ1 ρ2, bd d (hidE vs 0 ρ') = some ρ1 ∧ c ρ1 w = some (.ok (p d) ρ2 w) ∧ (p d = true → ∃ ρ3, e ρ2 w = some (.ok (f d) ρ3 w))) : mLc src vs bd c e ρ w = some (.ok ((ds.filter p).map f) ρ' w) := by
  unfold mLc
  rw [hs, bnd_ok, if_pos hl, lcGo_pf p f ds [] h]
  rfl
theorem mLc_map {src : M ω (List D)} {vs : List Nat} {bd : Bd} {e : M ω D} {ρ ρ' : Ev} {w : ω} {ds : List D} (f : D → D) (hs : src ρ w = some (.ok ds ρ' w)) (hl : ds.length ≤ 16777216)
    (h : ∀ d ∈ ds, ∃ ρ1, bd d (hidE vs 0 ρ') = some ρ1 ∧ ∃ ρ3, e ρ1 w = some (.ok (f d) ρ3 w)) : mLc src vs bd mTrue e ρ w = some (.ok (ds.map f) ρ' w) := by
  rw [mLc_pf (fun _ => true) f hs hl fun d hd => ?_]
  · rw [List.filter_eq_self.mpr fun _ _ => rfl]
  obtain ⟨ρ1, h1, h2⟩ := h d hd
  exact ⟨ρ1, ρ1, h1, rfl, fun _ => h2⟩
end
/-! ### the draws begun, variant A -/
def begM1 : SM Unit := (sOwn 1 (mLc (mIts (mVar 0)) [2] (bdN 2) (mB (m2 (pu2 D.ge) (m1 (pu1 D.absL) (mCons (mVar 2) mNil)) (m2 (pu2 D.pow) (mC (.int 10)) (mC (.int 18))))) (m2 (pu2 D.sub) (m1 (pu1 D.absL) (mCons (mVar 2) mNil)) (m2 (pu2 D.pow) (mC (.int 10)) (mC (.int 18))))))
def begM2 : M Unit (List D) := (mLc (mIts (mVar 0)) [2] (bdN 2) mTrue (m1 (pu1 D.absL) (mCons (mVar 2) mNil)))
def D.vI : D → Int
  | .int i => i
  | _ => 0
theorem abs_if (z : Int) : (if z < 0 then -z else z) = (z.natAbs : Int) := by
  by_cases h : z < 0
  · rw [if_pos h]
    omega
  · rw [if_neg h]
    omega
theorem beg1A (ns : List Int) (hl : ns.length ≤ 1000) : begM1 (begE (1 + 1) ns) () = some (.nx (begE1 1 ns) ()) := by
  have hlc := mLc_pf (ω := Unit) (src := mIts (mVar 0)) (vs := [2]) (bd := bdN 2) (c := mB (m2 (pu2 D.ge) (m1 (pu1 D.absL) (mCons (mVar 2) mNil)) (m2 (pu2 D.pow) (mC (.int 10)) (mC (.int 18))))) (e := m2 (pu2 D.sub) (m1 (pu1 D.absL) (mCons (mVar 2) mNil)) (m2 (pu2 D.pow) (mC (.int 10)) (mC (.int 18)))) (ρ := begE (1 + 1) ns) (ρ' := begE (1 + 1) ns) (w := ()) (ds := ns.map .int)
    (fun d => decide ((if d.vI < 0 then -d.vI else d.vI) ≥ 10 ^ 18)) (fun d => .int ((if d.vI < 0 then -d.vI else d.vI) - 10 ^ 18)) rfl (by rw [List.length_map]; omega) fun d hd => by
      obtain ⟨z, _, rfl⟩ := List.mem_map.mp hd
      exact ⟨[some (.frz (.scr (ns.map .int))), none, some (.frz (.int z))], [some (.frz (.scr (ns.map .int))), none, some (.frz (.int z))], rfl, rfl, fun _ => ⟨_, rfl⟩⟩
  unfold begM1 sOwn
  rw [hlc]
  have e : ((ns.map D.int).filter (fun d => decide ((if d.vI < 0 then -d.vI else d.vI) ≥ 10 ^ 18))).map (fun d => D.int ((if d.vI < 0 then -d.vI else d.vI) - 10 ^ 18)) = (begGreat ns).map .int := by
    unfold begGreat
    rw [List.filter_map, List.map_map, List.map_map]
    refine congr (congrArg List.map (funext fun z => ?_)) (congrArg (fun f => List.filter f ns) (funext fun z => ?_))
    · show D.int ((if z < 0 then -z else z) - 10 ^ 18) = D.int _
      rw [abs_if]
    · show decide ((if z < 0 then -z else z) ≥ 10 ^ 18) = _
      rw [abs_if]
  rw [e]
  rfl
theorem beg2A (ns : List Int) (hl : ns.length ≤ 1000) : begM2 (begE1 1 ns) () = some (.ok ((begCells ns).map .int) (begE1 1 ns) ()) := by
  unfold begM2
  rw [mLc_map (ρ' := begE1 1 ns) (ds := ns.map .int) (fun d => .int (if d.vI < 0 then -d.vI else d.vI)) rfl (by rw [List.length_map]; omega) fun d hd => ?_]
  · unfold begCells
    rw [List.map_map, List.map_map]
    refine congrArg (fun l => some (R.ok l (begE1 1 ns) ())) (congrArg (fun f => List.map f ns) (funext fun z => ?_))
    show D.int (if z < 0 then -z else z) = D.int _
    rw [abs_if]
  · obtain ⟨z, _, rfl⟩ := List.mem_map.mp hd
    exact ⟨[some (.frz (.scr (ns.map .int))), none, some (.frz (.int z))], rfl, _, rfl⟩
end FL
set_option maxRecDepth 100000
set_option maxHeartbeats 4000000
namespace FL
open PySem PySem.Spec PyProof.Rows L2
/-! ### plain data: comparable, of a depth -/
def PyOk (n : Nat) (d : D) : Prop := ∃ p, d.py = some p ∧ p.canLay0 = true ∧ p.depth ≤ n
theorem PyOk.mono {m n : Nat} {d : D} (h : PyOk m d) (l : m ≤ n) : PyOk n d := by
  obtain ⟨p, h1, h2, h3⟩ := h
  exact ⟨p, h1, h2, Nat.le_trans h3 l⟩
theorem pyOk_int (i : Int) : PyOk 1 (.int i) := ⟨_, rfl, rfl, by show (0 : Nat) ≤ 1 <;> omega⟩
theorem pyOk_non : PyOk 1 .non := ⟨_, rfl, rfl, by show (0 : Nat) ≤ 1 <;> omega⟩
theorem pyOk_bl (b : Bool) : PyOk 1 (.bl b) := ⟨_, rfl, rfl, by show (0 : Nat) ≤ 1 <;> omega⟩
theorem pyL_ok {n : Nat} : ∀ {xs : List D}, (∀ x ∈ xs, PyOk n x) → ∃ ps, D.pyL xs = some ps ∧ PyData.canLayAll0 ps = true ∧ PyData.depthAll ps ≤ n ∧ ps.length = xs.length
  | [], _ => ⟨[], rfl, rfl, Nat.zero_le _, rfl⟩
  | d :: ds, h => by
    obtain ⟨p, h1, h2, h3⟩ := h d List.mem_cons_self
    obtain ⟨ps, g1, g2, g3, g4⟩ := pyL_ok fun x hx => h x (List.mem_cons_of_mem _ hx)
    refine ⟨p :: ps, by unfold D.pyL; rw [h1, g1], by unfold PyData.canLayAll0; rw [h2, g2]; rfl, ?_, by rw [List.length_cons, List.length_cons, g4]⟩
    unfold PyData.depthAll
    omega
theorem pyOk_tup {n : Nat} {xs : List D} (h : ∀ x ∈ xs, PyOk n x) : PyOk (n + 1) (.tup xs) := by
  obtain ⟨ps, g1, g2, g3, _⟩ := pyL_ok h
  refine ⟨.tuple ps, by unfold D.py; rw [g1], g2, ?_⟩
  unfold PyData.depth
  omega
theorem pyOk_lst {n : Nat} {xs : List D} (h : ∀ x ∈ xs, PyOk n x) : PyOk (n + 1) (.lst xs) := by
  obtain ⟨ps, g1, g2, g3, _⟩ := pyL_ok h
  refine ⟨.list ps, by unfold D.py; rw [g1], g2, ?_⟩
  unfold PyData.depth
  omega
theorem PyOk.sh {n : Nat} {d : D} (h : PyOk n d) (l : n ≤ 64) : ∃ p, d.py = some p ∧ SeqAt.shaped p = true := by
  obtain ⟨p, h1, h2, h3⟩ := h
  refine ⟨p, h1, ?_⟩
  unfold SeqAt.shaped
  rw [h2, decide_eq_true (by omega)]
  rfl
theorem eq_nilL {l : List D} {n : Nat} (h : ∀ x ∈ l, PyOk n x) (hn : n ≤ 60) : D.eq (.lst l) (.lst []) = some l.isEmpty := by
  obtain ⟨p, h1, h2⟩ := (pyOk_lst h).sh (by omega)
  obtain ⟨ps, g1, g2, g3, g4⟩ := pyL_ok h
  have e : p = .list ps := by
    unfold D.py at h1
    rw [g1] at h1
    cases h1
    rfl
  subst e
  unfold D.eq
  rw [h1]
  have : (D.lst []).py = some (.list []) := rfl
  rw [this]
  show (if SeqAt.shaped (.list ps) = true ∧ SeqAt.shaped (.list []) = true then some (PyData.eqv (.list ps) (.list [])) else none) = some l.isEmpty
  rw [if_pos ⟨h2, rfl⟩]
  cases ps with
  | nil =>
    cases l with
    | nil => rfl
    | cons _ _ => cases g4
  | cons _ _ =>
    cases l with
    | nil => cases g4
    | cons _ _ => rfl
theorem ne_nilL {l : List D} {n : Nat} (h : ∀ x ∈ l, PyOk n x) (hn : n ≤ 60) : D.neD (.lst l) (.lst []) = some (.bl (!l.isEmpty)) := by
  unfold D.neD
  rw [eq_nilL h hn]
  rfl
theorem eq_nilT {l : List D} {n : Nat} (h : ∀ x ∈ l, PyOk n x) (hn : n ≤ 60) : D.eqD (.tup l) (.tup []) = some (.bl l.isEmpty) := by
  obtain ⟨p, h1, h2⟩ := (pyOk_tup h).sh (by omega)
  obtain ⟨ps, g1, g2, g3, g4⟩ := pyL_ok h
  have e : p = .tuple ps := by
    unfold D.py at h1
    rw [g1] at h1
    cases h1
    rfl
  subst e
  unfold D.eqD D.eq
  rw [h1]
  have : (D.tup []).py = some (.tuple []) := rfl
  rw [this]
  show Option.map D.bl (if SeqAt.shaped (.tuple ps) = true ∧ SeqAt.shaped (.tuple []) = true then some (PyData.eqv (.tuple ps) (.tuple [])) else none) = _
  rw [if_pos ⟨h2, rfl⟩]
  cases ps with
  | nil =>
    cases l with
    | nil => rfl
    | cons _ _ => cases g4
  | cons _ _ =>
    cases l with
    | nil => cases g4
    | cons _ _ => rfl
theorem eq_int (i j : Int) : D.eq (.int i) (.int j) = some (i == j) := rfl
/-! ### how loops go -/
section
variable {ω : Type} {body : SM ω} {bd : Bd} {d : D} {ds : List D} {ρ ρ1 ρ2 : Ev} {w w1 w2 : ω} {a b : SM ω}
theorem sFor_nx (h1 : bd d ρ = some ρ1) (h2 : body ρ1 w = some (.nx ρ2 w2)) : sFor body bd (d :: ds) ρ w = sFor body bd ds ρ2 w2 := by simp only [sFor, h1, h2]
theorem sFor_rt {x : D} (h1 : bd d ρ = some ρ1) (h2 : body ρ1 w = some (.rt x w2)) : sFor body bd (d :: ds) ρ w = some (.rt x w2) := by simp only [sFor, h1, h2]
theorem sSeq_nx (h : a ρ w = some (.nx ρ1 w1)) : sSeq a b ρ w = b ρ1 w1 := by simp only [sSeq, h]
theorem sSeq_rt {x : D} (h : a ρ w = some (.rt x w1)) : sSeq a b ρ w = some (.rt x w1) := by simp only [sSeq, h]
theorem sWh_go {mc : M ω Bool} {n : Nat} (h1 : mc ρ w = some (.ok true ρ1 w1)) (h2 : body ρ1 w1 = some (.nx ρ2 w2)) : sWh mc body (n + 1) ρ w = sWh mc body n ρ2 w2 := by simp [sWh, sB, h1, h2]
theorem sWh_rt {mc : M ω Bool} {n : Nat} {x : D} (h1 : mc ρ w = some (.ok true ρ1 w1)) (h2 : body ρ1 w1 = some (.rt x w2)) : sWh mc body (n + 1) ρ w = some (.rt x w2) := by simp [sWh, sB, h1, h2]
theorem sWh_end {mc : M ω Bool} {n : Nat} (h1 : mc ρ w = some (.ok false ρ1 w1)) : sWh mc body (n + 1) ρ w = some (.nx ρ1 w1) := by simp [sWh, sB, h1]
end
/-! ### draws -/
theorem fdiv_ok {i j : Int} (h : 0 < j) (h2 : j < 1073741824) : D.fdiv (.int i) (.int j) = some (.int (i / j)) := by
  unfold D.fdiv
  simp only
  rw [if_pos ⟨h, h2⟩]
theorem mod_ok {i j : Int} (h : 0 < j) : D.mod (.int i) (.int j) = some (.int (i % j)) := by
  unfold D.mod
  simp only
  rw [if_pos h]
theorem mulA_ok {i j : Int} (h : -(2 ^ 64) < j ∧ j < 2 ^ 64) : D.mulA (.int i) (.int j) = some (.int (i * j)) := by
  unfold D.mulA
  simp only
  rw [if_pos (.inr h)]
theorem pow_ok {i : Int} {k : Nat} (h : i.natAbs < 2 ^ 64) (hk : k ≤ 1000000) : D.pow (.int i) (.int k) = some (.int (i ^ k)) := by
  unfold D.pow
  simp only
  rw [if_pos ⟨by omega, by omega, h⟩]
  simp
end FL
set_option maxRecDepth 100000
set_option maxHeartbeats 4000000
namespace FL
open PySem PySem.Spec PyProof.Rows L2
/-! ### f(k = v, ..): keywords alone -/
def pmI {α : Type} (ix : List Nat) (l : List α) : List α := ix.filterMap fun i => l[i]?
theorem RzL.pm {C : Cc} {H : Hp} {ds : List D} {vs : List V} (h : RzL C H ds vs) : ∀ (ix : List Nat), RzL C H (pmI ix ds) (pmI ix vs)
  | [] => rfl
  | i :: ix => by
    have ih := RzL.pm h ix
    unfold pmI at ih ⊢
    rw [List.filterMap_cons, List.filterMap_cons]
    cases q : ds[i]? with
    | none =>
      have : vs[i]? = none := by
        rw [List.getElem?_eq_none_iff] at q ⊢
        rw [← h.len]
        exact q
      rw [this]
      exact ih
    | some d =>
      obtain ⟨v, h1, h2⟩ := h.get q
      rw [h1]
      exact ⟨v, _, rfl, h2, ih⟩
theorem Vals.pm {vs : List V} {us : List Value} (h : Vals vs us) : ∀ (ix : List Nat), Vals (pmI ix vs) (pmI ix us)
  | [] => .nil
  | i :: ix => by
    have ih := Vals.pm h ix
    unfold pmI at ih ⊢
    rw [List.filterMap_cons, List.filterMap_cons]
    cases q : vs[i]? with
    | none =>
      have : us[i]? = none := by
        rw [List.getElem?_eq_none_iff] at q ⊢
        rw [← h.length]
        exact q
      rw [this]
      exact ih
    | some v =>
      obtain ⟨u, h1, h2⟩ := h.get q
      rw [h1]
      exact .cons h2 ih
section
variable {ω : Type} {X : Cx} {C : Cc} {W : Wd ω} {E : XK}
theorem PK.imp {kws : List Keyword} {t t' : TA} (h : PK X kws t) (i : ∀ σ H Q, t' σ H Q → t σ H Q) : PK X kws t' := ⟨fun pos pins s σ H Q I q => h.run pos pins s σ H Q I (i σ H Q q)⟩
theorem fk_nil : PK X [] (gOf C W E (rL C) mNil) := PK.imp pk_nil fun _ _ _ ⟨_, _, _, _, e, r, h⟩ => At.here (RR := rL C) h e r rfl
theorem fk_cons {e : Expr} {kws : List Keyword} {nm : Option Str} {kpos : Pos} {ma : M ω D} {mb : M ω (List D)} (ha : PE X e (gOf C W E (rD C) ma)) (hb : PK X kws (gOf C W E (rL C) mb)) : PK X (⟨nm, e, kpos⟩ :: kws) (gOf C W E (rL C) (mCons ma mb)) :=
  PK.imp (pk_cons ha hb) fun σ H Q h => gOf.bind h fun d v Ht H1 Ht1 fp ρ1 w1 fp1 e1 s1 o1 r1 q1 h1 =>
    ⟨Ht1, ρ1, w1, fp1, e1, r1, At.bind h1 fun ds vs H2 Ht2 ρ2 w2 fp2 e2 s2 o2 r2 q2 h2 => At.here (RR := rL C) h2 e2 r2 ⟨v, vs, rfl, Rz.mono s2.th q1, q2⟩⟩
def tCallKw (n : Nat) (sp : Sp) (gV : List V → List V → List V) (E : XK) (tk : TA) : TE := fun σ H Q => tk σ H fun zs H2 => zs.length = n ∧ sp (gV [] zs) H2 Q E
theorem pe_callKw0 {CX : CXT} {k : Nat} {f : Addr} {fd : FuncData} {ps ks : List Str} {sp : Sp} {x : Str} {p pos : Pos} {kws : List Keyword} {tk : TA} {g : List Value → List Value → List Value} {gV : List V → List V → List V}
    (F : FnOk X.prog X.w X.K X.mg X.base CX k f fd ps sp) (hr : Room k X.A) (hg : Gl X x) (hm : X.mg x = some (.ref f)) (hk : PySem.W.keepIn X.K (.ref f) = true) (hb : KBn X.K fd ps 0 ks g gV) (hx : Passes CX X E) (hkw : PK X kws tk)
    (hall : (backToKw pos (keywordEach kws X.env)).all (·.1.isSome) = true := by rfl) (hks : (backToKw pos (keywordEach kws X.env)).filterMap (·.1) = ks := by rfl) (hdb : (x == ("__debug__" : Str)) = false := by decide)
    (hpl : ((backTo pos (starEach [] X.env)).any (·.1) || (backToKw pos (keywordEach kws X.env)).any (·.1.isNone)) = false := by rfl) :
    PE X (.Call (.Name x p) [] kws pos) (tCallKw ks.length sp gV E tk) := by
  refine ⟨fun pins s σ H Q I h => ?_⟩
  refine wpAny_Call_Name_kw (ld_glob I hg hm ?_ hdb)
  refine PySem.W.callWith_KW0 (h₀ := X.base) I.ok.mod.kin hk hall ?_ hpl
  refine thn (hkw.run pos pins s σ H _ I h) fun ws s2 ⟨zs, H2, I2, rz, l2, q2⟩ => ⟨I2.kIn, ?_⟩
  rw [hks]
  exact run_fnN (us := []) (vs := []) F hr hb hx I2 .nil rz rfl l2 q2
/-- a def that is called by keywords ks alone; ix: where each parameter's value stands among them -/
structure FnK (P : Program) (pw : World) (base : Heap) (C : Cc) (W : Wd ω) (x : Str) (ks : List Str) (ix : List Nat) (dds : List D) (n : Nat) (g : List D → ω → Option (Rs ω)) (k : Nat) : Prop where
  ex : ∃ f fd ps ds dvs, C.mg x = some (.ref f) ∧ PySem.W.keepIn C.K (.ref f) = true ∧ KBn C.K fd ps 0 ks (fun _ ws => pmI ix ws ++ ds) (fun _ zs => pmI ix zs ++ dvs) ∧ (∀ H, RzL C H dds dvs) ∧ FnOk P pw C.K C.mg base (L2.CX P pw) k f fd ps (spF C W n g)
theorem fe_callKw {root : Addr} {k n : Nat} {x : Str} {p pos : Pos} {kws : List Keyword} {ks : List Str} {ix : List Nat} {g : List D → ω → Option (Rs ω)} {dds : List D} {ma : M ω (List D)} (F : FnK X.prog X.w X.base ⟨X.K, X.mg, root⟩ W x ks ix dds n g k) (hr : Room k X.A) (hg : Gl X x) (hx : Passes (L2.CX X.prog X.w) X E)
    (ha : PK X kws (gOf ⟨X.K, X.mg, root⟩ W E (rL ⟨X.K, X.mg, root⟩) ma))
    (hall : (backToKw pos (keywordEach kws X.env)).all (·.1.isSome) = true := by rfl) (hks : (backToKw pos (keywordEach kws X.env)).filterMap (·.1) = ks := by rfl) (hdb : (x == ("__debug__" : Str)) = false := by decide)
    (hpl : ((backTo pos (starEach [] X.env)).any (·.1) || (backToKw pos (keywordEach kws X.env)).any (·.1.isNone)) = false := by rfl) :
    PE X (.Call (.Name x p) [] kws pos) (gOf ⟨X.K, X.mg, root⟩ W E (rD ⟨X.K, X.mg, root⟩) (mCall n g dds (m1 (fun ds => pu (if ds.length = ks.length then some (pmI ix ds) else none)) ma))) := by
  obtain ⟨f, fd, ps, ds, dvs, h1, h2, h3, h4, h5⟩ := F.ex
  refine PE.imp (pe_callKw0 h5 hr hg h1 h2 h3 hx ha hall hks hdb hpl) fun σ H Q h => ?_
  have h' : gOf ⟨X.K, X.mg, root⟩ W E (rD ⟨X.K, X.mg, root⟩) (fun ρ w => bnd (ma ρ w) fun l ρ w => if l.length = ks.length then (if (pmI ix l ++ dds).length = n then (match g (pmI ix l ++ dds) w with
    | some (.ok d w') => some (.ok d ρ w')
    | some (.er e w') => some (.er e w')
    | none => none) else none) else none) σ H Q := by
    obtain ⟨Ht, ρ, w, fp, e, r, h⟩ := h
    refine ⟨Ht, ρ, w, fp, e, r, ?_⟩
    unfold mCall m1 at h
    show At _ W E _ (bnd (ma ρ w) _) Ht H fp σ Q
    cases q : ma ρ w with
    | none =>
      rw [q] at h
      exact h
    | some rr =>
      rw [q] at h
      cases rr with
      | er _ _ => exact h
      | ok l ρ1 w1 =>
        by_cases c : l.length = ks.length
        · simp only [bnd, if_pos c] at h ⊢
          exact h
        · simp only [bnd, if_neg c] at h ⊢
          exact h
  refine gOf.bind h' fun l v Ht H1 Ht1 fp ρ1 w1 fp1 e1 s1 o1 r1 q1 hh => ?_
  by_cases c : l.length = ks.length
  · rw [if_pos c] at hh
    refine ⟨by rw [← q1.len]; exact c, ?_⟩
    by_cases c2 : (pmI ix l ++ dds).length = n
    · rw [if_pos c2] at hh
      have q2 := (RzL.pm q1 ix).app (h4 Ht1)
      exact At.call (by rw [← q2.len]; exact c2) e1 r1 q2 hh
    · rw [if_neg c2] at hh
      exact hh.elim
  · rw [if_neg c] at hh
    exact hh.elim
end
end FL
set_option maxRecDepth 100000
set_option maxHeartbeats 4000000
namespace FL
open PySem PySem.Spec PyProof.Rows L2
/-! ### defs that give a new list, which the caller owns -/
inductive RsN (ω : Type) where
  | ok (ds : List D) (w : ω)
  | er (e : Er) (w : ω)
section
variable {ω : Type}
def NTail (C : Cc) (W : Wd ω) (E : XK) (r : Option (RsN ω)) (Ht H : Hp) (Q : VK) : Prop := match r with
  | some (.ok xs w') => ∀ a us H' Ht', Stp W Ht H noF Ht' H' → W.rel H' w' → H' a = some (.lst us) → RzL C Ht' xs us → Ht' a = none → H a = none → ¬ W.fp a → Q (.ref a) H'
  | some (.er e w') => ∀ cls dx H' Ht', Stp W Ht H noF Ht' H' → W.rel H' w' → ErOk C Ht' H' e cls dx → E cls dx H'
  | none => False
def spN (C : Cc) (W : Wd ω) (n : Nat) (g : List D → ω → Option (RsN ω)) : Sp := fun vs H Q E =>
  vs.length = n ∧ ∃ Ht w ds, Same Ht H ∧ (∀ a, W.fp a → Ht a = none) ∧ W.rel H w ∧ RzL C Ht ds vs ∧ NTail C W E (g ds w) Ht H Q
def outN (r : Option (Fl ω)) : Option (RsN ω) := match r with
  | some (.rn ds w) => some (.ok ds w)
  | some (.er e w) => some (.er e w)
  | _ => none
theorem fn_defN {dvs : List V} {P : Program} {w : World} {K : PySem.W.Frag} {mg : Str → Option Value} {base : Heap} {x qual : Str} {st : Stmt} {f : Addr} {fd : FuncData} {N ps : List Str} {k n : Nat} {m : SM ω} {C : Cc} {W : Wd ω} (F : FunD K x qual (defArgs st) (defBody st) (defScope st) dvs [] f fd) (S : FnScope N ps (defScope st)) (hn : n = ps.length)
    (hb : ∀ (cdv : Value) (A : Around) (outer : List Env) (s : Shared) (H : Hp) (E : XK), Room k (A.deeper (envOfC qual (defScope st) s.heap.objs.size f cdv)) → PSs (cxOf (L2.CX P w) P w K mg base N qual (defScope st) f cdv A outer s H E) (defBody st) (sOf C W E m)) :
    FnOk P w K mg base (L2.CX P w) (k + 1) f fd ps (spN C W n fun ds w => outN (m (startE N.length ds) w)) :=
  F.ok S (fun vs H Q E h => by rw [← hn]; exact h.1) fun cdv A outer s H vs Q E hr ⟨hl, Ht, ww, ds, sb, wo, rl, hv, h⟩ => by
    refine ⟨_, hb cdv A outer s H E hr, Ht, startE N.length ds, ww, noF, start_env sb wo hv, rl, ?_⟩
    have h : NTail C W E (outN (m (startE N.length ds) ww)) Ht H Q := h
    cases z : m (startE N.length ds) ww with
    | none =>
      rw [z] at h
      exact h.elim
    | some fl =>
      rw [z] at h
      cases fl with
      | rn ds' w' => exact fun a us H' Ht' s' r' q1 q2 q3 q4 q5 => h a us H' Ht' s' r' q1 q2 q3 (q4.elim id fun ⟨i, z⟩ => by cases z) q5
      | er e w' => exact fun cls dx H' Ht' s' r' q' => h cls dx H' Ht' s' r' q'
      | rt _ _ => exact h.elim
      | nx _ _ => exact h.elim
      | bk _ _ => exact h.elim
      | ct _ _ => exact h.elim
def mCallN (n : Nat) (g : List D → ω → Option (RsN ω)) (dds : List D) (ma : M ω (List D)) : M ω (List D) := m1 (fun ds ρ w => if (ds ++ dds).length = n then (match g (ds ++ dds) w with
  | some (.ok xs w') => some (.ok xs ρ w')
  | some (.er e w') => some (.er e w')
  | none => none) else none) ma
structure FnN (P : Program) (pw : World) (base : Heap) (C : Cc) (W : Wd ω) (x : Str) (dds : List D) (n : Nat) (g : List D → ω → Option (RsN ω)) (k : Nat) : Prop where
  ex : ∃ f fd ps ds dvs, C.mg x = some (.ref f) ∧ PySem.W.keepIn C.K (.ref f) = true ∧ Binds C.K fd ps ds ∧ Vals dvs ds ∧ (∀ H, RzL C H dds dvs) ∧ FnOk P pw C.K C.mg base (L2.CX P pw) k f fd ps (spN C W n g)
variable {X : Cx} {C : Cc} {W : Wd ω} {E : XK}
theorem fn_callN {root : Addr} {k n : Nat} {x : Str} {p pos : Pos} {e : Expr} {es : List Expr} {g : List D → ω → Option (RsN ω)} {dds : List D} {ma : M ω (List D)} (F : FnN X.prog X.w X.base ⟨X.K, X.mg, root⟩ W x dds n g k) (hr : Room k X.A) (hg : Gl X x) (hx : Passes (L2.CX X.prog X.w) X E)
    (ha : PA X (e :: es) (gOf ⟨X.K, X.mg, root⟩ W E (rL ⟨X.K, X.mg, root⟩) ma)) (hdb : (x == ("__debug__" : Str)) = false := by decide) (he : starEach (e :: es) X.env = (false, eval e X.env) :: starEach es X.env := by rfl) (hpl : (backTo pos (starEach es X.env)).any (·.1) = false := by rfl) :
    PE X (.Call (.Name x p) (e :: es) [] pos) (gOf ⟨X.K, X.mg, root⟩ W E (rF ⟨X.K, X.mg, root⟩ W) (mCallN n g dds ma)) := by
  obtain ⟨f, fd, ps, ds, dvs, h1, h2, h3, h4, h5, h6⟩ := F.ex
  refine PE.imp (pe_call h6 hr hg h1 h2 h3 h4 hx ha hdb he hpl) fun σ H Q h => ?_
  refine gOf.bind h fun l v Ht H1 Ht1 fp ρ1 w1 fp1 e1 s1 o1 r1 q1 hh => ?_
  by_cases c : (l ++ dds).length = n
  · rw [if_pos c] at hh
    have q2 := q1.app (h5 Ht1)
    refine ⟨by rw [← q2.len]; exact c, Ht1, w1, l ++ dds, e1.sub, e1.wout, r1, q2, ?_⟩
    cases z : g (l ++ dds) w1 with
    | none =>
      rw [z] at hh
      exact hh.elim
    | some rr =>
      rw [z] at hh
      cases rr with
      | ok xs w' =>
        intro a us H' Ht' s r' k1 k2 k3 k4 k5
        obtain ⟨e', s'⟩ := e1.pure r1 s
        exact hh (.ref a) H' Ht' fp1 e' s' OwnS.refl r' ⟨a, us, rfl, k1, k2, k3, k4, k5, fun i hi => (e1.out i a hi).2.2 k4⟩
      | er er w' =>
        intro cls dx H' Ht' s r' hv
        obtain ⟨e', s'⟩ := e1.pure r1 s
        exact hh cls dx H' Ht' s' r' hv
  · rw [if_neg c] at hh
    exact hh.elim
end
end FL
set_option maxRecDepth 100000
set_option maxHeartbeats 4000000
namespace FL
open PySem PySem.Spec PyProof.Rows L2
/-! ### a look at one's own lists that gives a new list of flat things -/
section
variable {ω : Type} {X : Cx} {C : Cc} {W : Wd ω} {E : XK}
def mBorN (m : M ω (List D)) : M ω (List D) := fun ρ w => match m (fzE ρ) w with
  | some (.ok ds _ w') => if (ds.all fun d => d.flV.isSome) = true then some (.ok ds ρ w') else none
  | some (.er e w') => some (.er e w')
  | none => none
theorem flat_rzL {H H' : Hp} : ∀ {ds : List D} {vs : List V}, (ds.all fun d => d.flV.isSome) = true → RzL C H ds vs → RzL C H' ds vs
  | [], _, _, h => h
  | d :: ds, _, f, ⟨v, r, q, h1, h2⟩ => by
    rw [List.all_cons, Bool.and_eq_true] at f
    exact ⟨v, r, q, flat_rz f.1 h1, flat_rzL f.2 h2⟩
theorem fn_borN {e : Expr} {m : M ω (List D)} (h : PE X e (gOf C W E (rF C W) m)) : PE X e (gOf C W E (rF C W) (mBorN m)) := PE.imp h fun σ H Q ⟨Ht, ρ, w, fp, e, r, h⟩ => by
  obtain ⟨Ht2, e2, back⟩ := bor_env e (fun a => W.dom r a)
  refine ⟨Ht2, fzE ρ, w, noF, e2, r, ?_⟩
  unfold mBorN at h
  cases q : m (fzE ρ) w with
  | none =>
    rw [q] at h
    exact h
  | some rr =>
    rw [q] at h
    cases rr with
    | er er w' => exact fun cls dx H' Ht' s r' k => h cls dx H' Ht' (back Ht' H' s).1 r' k
    | ok ds ρ' w' =>
      by_cases f : (ds.all fun d => d.flV.isSome) = true
      · have h' : At C W E (rF C W) (if (ds.all fun d => d.flV.isSome) = true then some (.ok ds ρ w') else none) Ht H fp σ Q := h
        rw [if_pos f] at h'
        intro v H' Ht' fp' e' s o r' ⟨a, vs, hv, k1, k2, k3, k4, k5, k6⟩
        obtain ⟨Ht3, e3, s3, away⟩ := (back Ht' H' s).2
        exact h' v H' Ht3 fp e3 s3 OwnS.refl r' ⟨a, vs, hv, k1, flat_rzL f k2, away a k3, k4, k5, fun i hi => (e.out i a hi).2.2 k4⟩
      · have h' : At C W E (rF C W) (if (ds.all fun d => d.flV.isSome) = true then some (.ok ds ρ w') else none) Ht H fp σ Q := h
        rw [if_neg f] at h'
        exact h'.elim
end
end FL
set_option maxRecDepth 100000
set_option maxHeartbeats 4000000
namespace FL
open PySem PySem.Spec PyProof.Rows L2
/-! ### own lists of own lists -/
def matOf : Option (Option O) → Option (List (List D))
  | some (some (.mat rows)) => some rows
  | some (some (.lst [])) => some []
  | _ => none
section
variable {ω : Type} {X : Cx} {C : Cc} {W : Wd ω} {E : XK}
theorem slot_mat {Ht H : Hp} {fp : Fp} {ρ : Ev} {σ : L2.St} {i : Nat} {rows : List (List D)} (e : EnvO C W Ht H ρ σ fp) (h : matOf (ρ[i]?) = some rows) : ∃ a as, σ[i]? = some (some (.ref a)) ∧ H a = some (.lst (as.map V.ref)) ∧ Rowsz C Ht H rows as ∧ fp i = a :: as ∧ (a :: as).Nodup := by
  unfold matOf at h
  split at h
  · rename_i rows' hi
    cases h
    obtain ⟨v, h1, a, as, rfl, h2, h3, h4, h5⟩ := e.slot i _ hi
    exact ⟨a, as, h1, h2, h3, h4, h5⟩
  · rename_i hi
    cases h
    obtain ⟨v, h1, a, vs, rfl, h2, h3, h4⟩ := e.slot i _ hi
    have h3' : vs = [] := h3
    subst h3'
    exact ⟨a, [], h1, h2, rfl, h4, by simp⟩
  · cases h
theorem Rowsz.snoc {Ht H : Hp} {ds : List D} {b : Addr} {vs : List V} (hb : H b = some (.lst vs)) (hl : RzL C Ht ds vs) : ∀ {rows : List (List D)} {as : List Addr}, Rowsz C Ht H rows as → Rowsz C Ht H (rows ++ [ds]) (as ++ [b])
  | [], _, h => by
    have h' : _ = [] := h
    subst h'
    exact ⟨b, [], vs, rfl, hb, hl, rfl⟩
  | _ :: _, _, ⟨a, bs, us, q, h1, h2, h3⟩ => by
    subst q
    exact ⟨a, bs ++ [b], us, rfl, h1, h2, Rowsz.snoc hb hl h3⟩
theorem Rowsz.len {Ht H : Hp} : ∀ {rows : List (List D)} {as : List Addr}, Rowsz C Ht H rows as → rows.length = as.length
  | [], _, h => by
    have h' : _ = [] := h
    subst h'
    rfl
  | _ :: _, _, ⟨a, bs, us, q, _, _, h3⟩ => by
    subst q
    rw [List.length_cons, List.length_cons, Rowsz.len h3]
/-- x.append(y): y's own list goes into x -/
def sMov (i j : Nat) : SM ω := fun ρ w => match matOf (ρ[i]?), lsOf (ρ[j]?) with
  | some rows, some ds => if i ≠ j ∧ rows.length < 16777216 then some (.nx ((ρ.set j none).set i (some (.mat (rows ++ [ds])))) w) else none
  | _, _ => none
theorem s_mov {i j : Nat} {o e : Expr} {apos cpos pos : Pos} (ho : PE X o (tVar i)) (he : PE X e (tVar j)) (hbase : attributeBase o "append" X.env (eval o X.env) = eval o X.env := by rfl)
    (hfew : ((backTo cpos (starEach [e] X.env)).all (fun x => !x.1) && (backToKw cpos (keywordEach [] X.env)).all (fun x => x.1.isSome)
      && decide (([e] : List Expr).length + ([] : List Keyword).length + (if ([] : List Keyword).isEmpty then 0 else 1) < 30)) = true := by rfl)
    (hline : (apos.endLine == cpos.line) = true := by rfl) (hs : starEach [e] X.env = (false, eval e X.env) :: starEach [] X.env := by rfl) (hplain : (backTo cpos (starEach [] X.env)).any (·.1) = false := by rfl)
    (hsw : swapsWith (.Call (.Attribute o "append" apos) [e] [] cpos) none pos.line X.env = pure false := by rfl) :
    PS X (.Expr (.Call (.Attribute o "append" apos) [e] [] cpos) pos) (sOf C W E (sMov i j)) :=
  PS.imp (ps_expr (pe_bm PySem.F.plainAttrs_list PySem.F.slot_list_append PySem.F.type_list_append mt_append ho (pa_cons he pa_nil hs) hbase hfew hline hs hplain) hsw) fun Dn σ H ⟨Ht, ρ, w, fp, ev, r, h⟩ => by
    unfold sMov at h
    split at h
    · rename_i rows ds hi hj
      split at h
      · rename_i c
        obtain ⟨hij, hlen⟩ := c
        obtain ⟨a, as, s1, s2, s3, s4, s5⟩ := slot_mat ev hi
        have hj' := lsOf_some hj
        obtain ⟨b, vs, t1, t2, t3, t4⟩ := slot_lst ev hj'
        have hai : a ∈ fp i := by rw [s4]; exact List.mem_cons_self
        have hbj : b ∈ fp j := by rw [t4]; exact List.mem_singleton.mpr rfl
        have hbi : b ∉ fp i := fun z => hij (ev.one i j b z hbj)
        have hab : b ≠ a := fun z => hbi (z ▸ hai)
        have haa : a ∉ as := (List.nodup_cons.mp s5).1
        obtain ⟨n1, n2, n3⟩ := ev.out i a hai
        obtain ⟨m1, m2, m3⟩ := ev.out j b hbj
        have hil : i < ρ.length := by
          unfold matOf at hi
          split at hi
          · rename_i q; exact (List.getElem?_eq_some_iff.mp q).1
          · rename_i q; exact (List.getElem?_eq_some_iff.mp q).1
          · cases hi
        refine ⟨.ref a, s1, .inl ⟨rfl, _, SqL.of s2⟩, .ref b, t1, a, _, .ref b, rfl, rfl, s2, by rw [List.length_map, ← s3.len, sizeLine24]; exact hlen, ?_⟩
        have sub : Same Ht (upd H a (.lst (as.map V.ref ++ [.ref b]))) := fun c x z => by
          rw [upd_ne fun y => by subst y; rw [n1] at z; cases z]
          exact ev.sub c x z
        have keep : ∀ c, upd H a (.lst (as.map V.ref ++ [.ref b])) c = none → H c = none := fun c h => upd_none h
        have rz : Rowsz C Ht (upd H a (.lst (as.map V.ref ++ [.ref b]))) (rows ++ [ds]) (as ++ [b]) := Rowsz.snoc (by rw [upd_ne hab]; exact t2) t3 (Rowsz.imp (Same.refl _) (fun c x hc q => by rw [upd_ne fun y => haa (by rw [← y]; exact hc)]; exact q) s3)
        have fpm : ∀ k c, c ∈ (if k = i then a :: (as ++ [b]) else if k = j then [] else fp k) → (k = i ∧ (c ∈ fp i ∨ c = b)) ∨ (k ≠ i ∧ k ≠ j ∧ c ∈ fp k) := fun k c hc => by
          by_cases ki : k = i
          · rw [if_pos ki] at hc
            refine .inl ⟨ki, ?_⟩
            rcases List.mem_cons.mp hc with hc | hc
            · exact .inl (by rw [hc]; exact hai)
            · rcases List.mem_append.mp hc with hc | hc
              · exact .inl (by rw [s4]; exact List.mem_cons_of_mem _ hc)
              · exact .inr (by simpa using hc)
          · rw [if_neg ki] at hc
            by_cases kj : k = j
            · rw [if_pos kj] at hc
              cases hc
            · rw [if_neg kj] at hc
              exact .inr ⟨ki, kj, hc⟩
        have origin : ∀ k c, c ∈ (if k = i then a :: (as ++ [b]) else if k = j then [] else fp k) → ∃ l, c ∈ fp l := fun k c hc => by
          rcases fpm k c hc with ⟨_, h | h⟩ | ⟨_, _, h⟩
          · exact ⟨i, h⟩
          · exact ⟨j, h ▸ hbj⟩
          · exact ⟨k, h⟩
        refine h σ _ Ht (fun k => if k = i then a :: (as ++ [b]) else if k = j then [] else fp k) ⟨sub, by rw [List.length_set, List.length_set]; exact ev.len, fun k o hk => ?_, fun k c hc => ?_, fun k l c hk hl => ?_, ev.wout⟩
          ⟨fun c x h1 h2 h3 => by rw [upd_ne fun y => h2 i (by rw [y]; exact hai)]; exact h3, Same.refl _, sub, fun c h => .inl h, keep⟩ (fun k c hc => .inl (origin k c hc)) (W.put n2 (fun φ z => by rw [s2] at z; cases z) r)
        · by_cases ki : k = i
          · subst ki
            rw [List.getElem?_set_self (by rw [List.length_set]; exact hil)] at hk
            cases hk
            refine ⟨.ref a, s1, a, as ++ [b], rfl, ?_, rz, if_pos rfl, ?_⟩
            · rw [upd_same, List.map_append]
              rfl
            · rw [← List.cons_append, List.nodup_append]
              exact ⟨s5, by simp, fun x hx y hy => by
                have : y = b := by simpa using hy
                subst this
                exact fun z => hbi (by rw [s4, ← z]; exact hx)⟩
          · rw [List.getElem?_set_ne (Ne.symm ki)] at hk
            by_cases kj : k = j
            · subst kj
              have : k < ρ.length := (List.getElem?_eq_some_iff.mp hj').1
              rw [List.getElem?_set_self this] at hk
              cases hk
            · rw [List.getElem?_set_ne (Ne.symm kj)] at hk
              obtain ⟨v, q1, q2⟩ := ev.slot k o hk
              refine ⟨v, q1, ?_⟩
              rw [if_neg ki, if_neg kj]
              exact Ow.imp (Same.refl _) (fun c x hc q => by rw [upd_ne fun y => ki (ev.one k i a (by rw [← y]; exact hc) hai)]; exact q) q2
        · obtain ⟨l, hl⟩ := origin k c hc
          obtain ⟨q1, q2, q3⟩ := ev.out l c hl
          exact ⟨q1, q2, fun z => q3 (keep c z)⟩
        · rcases fpm k c hk with ⟨k1, k2⟩ | ⟨k1, k2, k3⟩
          · rcases fpm l c hl with ⟨l1, l2⟩ | ⟨l1, l2, l3⟩
            · rw [k1, l1]
            · exfalso
              rcases k2 with k2 | k2
              · exact l1 (ev.one l i c l3 k2)
              · exact l2 (ev.one l j c l3 (k2 ▸ hbj))
          · rcases fpm l c hl with ⟨l1, l2⟩ | ⟨l1, l2, l3⟩
            · exfalso
              rcases l2 with l2 | l2
              · exact k1 (ev.one k i c k3 l2)
              · exact k2 (ev.one k j c k3 (l2 ▸ hbj))
            · exact ev.one k l c k3 l3
      · exact h.elim
    · exact h.elim
end
end FL
set_option maxRecDepth 100000
set_option maxHeartbeats 4000000
namespace FL
open PySem PySem.Spec PyProof.Rows L2
/-! ### x[i][j] = v, x an own list of own lists -/
section
variable {ω : Type} {X : Cx} {C : Cc} {W : Wd ω} {E : XK}
theorem Rowsz.at_ {Ht H : Hp} : ∀ {rows : List (List D)} {as : List Addr} {k : Nat} {ds : List D}, Rowsz C Ht H rows as → rows[k]? = some ds → ∃ b vs, as[k]? = some b ∧ H b = some (.lst vs) ∧ RzL C Ht ds vs
  | [], _, k, ds, _, e => by simp at e
  | _ :: _, _, 0, ds, ⟨a, bs, us, q, h1, h2, h3⟩, e => by
    subst q
    cases e
    exact ⟨a, us, rfl, h1, h2⟩
  | _ :: _, _, k + 1, ds, ⟨a, bs, us, q, h1, h2, h3⟩, e => by
    subst q
    exact Rowsz.at_ (k := k) h3 e
theorem Rowsz.put {Ht H : Hp} {b : Addr} {ds' : List D} {vs' : List V} (hl : RzL C Ht ds' vs') : ∀ {rows : List (List D)} {as : List Addr} {k : Nat}, Rowsz C Ht H rows as → as[k]? = some b → as.Nodup → Rowsz C Ht (upd H b (.lst vs')) (rows.set k ds') as
  | [], _, k, h, e, _ => by
    have h' : _ = [] := h
    subst h'
    simp at e
  | _ :: _, _, 0, ⟨a, bs, us, q, h1, h2, h3⟩, e, nd => by
    subst q
    cases e
    have na := (List.nodup_cons.mp nd).1
    exact ⟨b, bs, vs', rfl, upd_same, hl, Rowsz.imp (Same.refl _) (fun c x hc z => by rw [upd_ne fun y => na (by rw [← y]; exact hc)]; exact z) h3⟩
  | _ :: _, _, k + 1, ⟨a, bs, us, q, h1, h2, h3⟩, e, nd => by
    subst q
    have e' : bs[k]? = some b := e
    have na := (List.nodup_cons.mp nd).1
    have hm := List.mem_of_getElem? e'
    exact ⟨a, bs, us, rfl, by rw [upd_ne fun y => na (by rw [y]; exact hm)]; exact h1, h2, Rowsz.put hl h3 e' (List.nodup_cons.mp nd).2⟩
/-- x[p][q] = v, p and q names -/
def sSt2 (i k l : Nat) (mv : M ω D) : SM ω := fun ρ w => sB (mv ρ w) fun d ρ w => match matOf (ρ[i]?), ρ[k]?, ρ[l]? with
  | some rows, some (some (.frz (.int p))), some (some (.frz (.int q))) => match ixN rows.length p with
    | some k => match rows[k]? with
      | some ds => match ixN ds.length q with
        | some l => some (.nx (ρ.set i (some (.mat (rows.set k (ds.set l d))))) w)
        | none => none
      | none => none
    | none => none
  | _, _, _ => none
theorem s_setM {i k l : Nat} {o ea eb ev : Expr} {p2 p3 pos : Pos} {mv : M ω D} (ho : PE X o (tVar i)) (ha : PE X ea (tVar k)) (hb : PE X eb (tVar l)) (hv : PE X ev (gOf C W E (rD C) mv)) (hpl : PlainIx ea)
    (hA : ∀ v, assign (.Subscript (.Subscript o ea p2) eb p3) X.env v = (do
      let ov ← holding [v] (eval (.Subscript o ea p2) X.env)
      let iv ← holding [v, ov] (eval eb X.env)
      standAt p3
      holding [v, ov, iv] (setItem ov iv v)
      release [v, ov, iv] []) := by intro _; rfl) (hs : swapsWithSole [.Subscript (.Subscript o ea p2) eb p3] ev pos.line X.env = pure false := by rfl) (hw : swappedStores [.Subscript (.Subscript o ea p2) eb p3] ev X.env = pure none := by rfl)
    (h1 : (assignEach [.Subscript (.Subscript o ea p2) eb p3] X.env).map (·.2) = [assign (.Subscript (.Subscript o ea p2) eb p3) X.env] := by rfl) :
    PS X (.Assign [.Subscript (.Subscript o ea p2) eb p3] ev pos) (sOf C W E (sSt2 i k l mv)) :=
  PS.imp (ps_asg hv (pg_sub (pe_ix ix_list ho ha hpl) hb set_list hA) hs hw h1) fun Dn σ H ⟨Ht, ρ, w, fp, e0, r0, h0⟩ => by
    refine ⟨Ht, ρ, w, fp, e0, r0, sB.bind h0 fun d v H1 Ht1 ρ1 w1 fp1 e1 s1 o1 r1 q1 h1 => ?_⟩
    split at h1
    · rename_i rows p q hi hk hl
      split at h1
      · rename_i kk hkk
        split at h1
        · rename_i ds hds
          split at h1
          · rename_i ll hll
            obtain ⟨a, as, g1, g2, g3, g4, g5⟩ := slot_mat e1 hi
            obtain ⟨u, k1, k2, _⟩ := e1.slot k _ hk
            obtain ⟨u2, l1, l2, _⟩ := e1.slot l _ hl
            have k2 : u = .int p := k2
            have l2 : u2 = .int q := l2
            subst k2 l2
            obtain ⟨b, vs, b1, b2, b3⟩ := Rowsz.at_ g3 hds
            have hbas : b ∈ as := List.mem_of_getElem? b1
            have hbi : b ∈ fp1 i := by rw [g4]; exact List.mem_cons_of_mem _ hbas
            obtain ⟨m1, m2, m3⟩ := e1.out i b hbi
            have hba : a ≠ b := fun z => (List.nodup_cons.mp g5).1 (z ▸ hbas)
            refine ⟨.ref a, g1, .int p, k1, a, _, p, .ref b, rfl, rfl, SqL.of g2, ?_, .int q, l1, b, vs, q, ll, rfl, rfl, b2, by rw [← b3.len]; exact hll, ?_⟩
            · unfold atI
              rw [List.length_map, ← g3.len, hkk]
              show (as.map V.ref)[kk]? = _
              rw [List.getElem?_map, b1]
              rfl
            · have rz := Rowsz.put (RzL.set (Rz.mono (Same.refl _) q1) ll b3) g3 b1 (List.nodup_cons.mp g5).2
              have sub : Same Ht1 (upd H1 b (.lst (vs.set ll v))) := fun c x z => by
                rw [upd_ne fun y => by subst y; rw [m1] at z; cases z]
                exact e1.sub c x z
              have keep : ∀ c, upd H1 b (.lst (vs.set ll v)) c = none → H1 c = none := fun c h => upd_none h
              refine h1 σ _ Ht1 fp1 ⟨sub, by rw [List.length_set]; exact e1.len, fun j o hj => ?_, fun j c hc => ?_, e1.one, e1.wout⟩ ⟨fun c x h1 h2 h3 => by rw [upd_ne fun y => h2 i (by rw [y]; exact hbi)]; exact h3, Same.refl _, sub, fun c h => .inl h, keep⟩ OwnS.refl (W.put m2 (fun φ z => by rw [b2] at z; cases z) r1)
              · by_cases ji : j = i
                · subst ji
                  have hil : j < ρ1.length := by
                    unfold matOf at hi
                    split at hi
                    · rename_i q; exact (List.getElem?_eq_some_iff.mp q).1
                    · rename_i q; exact (List.getElem?_eq_some_iff.mp q).1
                    · cases hi
                  rw [List.getElem?_set_self hil] at hj
                  cases hj
                  exact ⟨.ref a, g1, a, as, rfl, by rw [upd_ne hba]; exact g2, rz, g4, g5⟩
                · rw [List.getElem?_set_ne (Ne.symm ji)] at hj
                  obtain ⟨v', q1, q2⟩ := e1.slot j o hj
                  exact ⟨v', q1, Ow.imp (Same.refl _) (fun c x hc q => by rw [upd_ne fun y => ji (e1.one j i b (by rw [← y]; exact hc) hbi)]; exact q) q2⟩
              · obtain ⟨q1, q2, q3⟩ := e1.out j c hc
                exact ⟨q1, q2, fun z => q3 (keep c z)⟩
          · exact h1.elim
        · exact h1.elim
      · exact h1.elim
    · exact h1.elim
end
end FL
set_option maxRecDepth 100000
set_option maxHeartbeats 4000000
namespace FL
open PySem PySem.Spec PyProof.Rows L2
/-! ### x, y(, z) = e1, e2(, e3) to plain names, new lists among them to own slots -/
inductive Pz where
  | d (x : D)
  | l (xs : List D)
def Pz.o : Pz → O
  | .d x => .frz x
  | .l xs => .lst xs
section
variable {ω : Type} {X : Cx} {C : Cc} {W : Wd ω} {E : XK}
def AsR (C : Cc) (W : Wd ω) (H0 Ht H : Hp) (fp : Fp) : List Pz → List V → List Addr → Prop
  | [], vs, as => vs = [] ∧ as = []
  | .d x :: ps, vs, as => ∃ v r, vs = v :: r ∧ Rz C Ht x v ∧ AsR C W H0 Ht H fp ps r as
  | .l xs :: ps, vs, as => ∃ a us r bs, vs = .ref a :: r ∧ as = a :: bs ∧ H a = some (.lst us) ∧ RzL C Ht xs us ∧ Ht a = none ∧ H0 a = none ∧ ¬ W.fp a ∧ (∀ i, a ∉ fp i) ∧ a ∉ bs ∧ AsR C W H0 Ht H fp ps r bs
theorem AsR.none_ {H0 Ht H : Hp} {fp : Fp} : ∀ {ps : List Pz} {vs : List V} {as : List Addr}, AsR C W H0 Ht H fp ps vs as → ∀ b, b ∈ as → H0 b = none
  | [], _, _, ⟨_, h⟩, b, hb => by subst h; cases hb
  | .d x :: ps, _, _, ⟨v, r, _, _, h⟩, b, hb => AsR.none_ h b hb
  | .l xs :: ps, _, _, ⟨a, us, r, bs, _, h2, _, _, _, h0, _, _, _, h⟩, b, hb => by
    subst h2
    rcases List.mem_cons.mp hb with rfl | hb
    · exact h0
    · exact AsR.none_ h b hb
theorem AsR.back {H0 H1 Ht H : Hp} {fp : Fp} (k : ∀ a, H1 a = none → H0 a = none) : ∀ {ps : List Pz} {vs : List V} {as : List Addr}, AsR C W H1 Ht H fp ps vs as → AsR C W H0 Ht H fp ps vs as
  | [], _, _, h => h
  | .d x :: ps, _, _, ⟨v, r, h1, h2, h⟩ => ⟨v, r, h1, h2, AsR.back k h⟩
  | .l xs :: ps, _, _, ⟨a, us, r, bs, h1, h2, h3, h4, h5, h0, h6, h7, h8, h⟩ => ⟨a, us, r, bs, h1, h2, h3, h4, h5, k a h0, h6, h7, h8, AsR.back k h⟩
theorem AsR.fps {H0 Ht H : Hp} {fp fp' : Fp} : ∀ {ps : List Pz} {vs : List V} {as : List Addr}, (∀ i b, b ∈ as → b ∈ fp' i → b ∈ fp i) → AsR C W H0 Ht H fp ps vs as → AsR C W H0 Ht H fp' ps vs as
  | [], _, _, _, h => h
  | .d x :: ps, _, _, k, ⟨v, r, h1, h2, h⟩ => ⟨v, r, h1, h2, AsR.fps k h⟩
  | .l xs :: ps, _, _, k, ⟨a, us, r, bs, h1, h2, h3, h4, h5, h0, h6, h7, h8, h⟩ => by
    subst h2
    exact ⟨a, us, r, bs, h1, rfl, h3, h4, h5, h0, h6, fun i hi => h7 i (k i a List.mem_cons_self hi), h8, AsR.fps (fun i b hb => k i b (List.mem_cons_of_mem _ hb)) h⟩
theorem At.imp {α β : Type} {RR : RRt α β} {r : Option (R ω α)} {Ht H : Hp} {fp : Fp} {σ : L2.St} {Q Q' : β → Hp → Prop} (hi : ∀ v H', Q v H' → Q' v H') (h : At C W E RR r Ht H fp σ Q) : At C W E RR r Ht H fp σ Q' := by
  cases r with
  | none => exact h
  | some r =>
    cases r with
    | er e w => exact h
    | ok d ρ w => exact fun v H' Ht' fp' e s o r q => hi _ _ (h v H' Ht' fp' e s o r q)
abbrev rAs (C : Cc) (W : Wd ω) : RRt (List Pz) (List V) := fun H0 Ht H fp ps vs => ∃ as, AsR C W H0 Ht H fp ps vs as
instance : RRk (rAs C W) := ⟨fun k ⟨as, h⟩ => ⟨as, AsR.back k h⟩⟩
def mNilP : M ω (List Pz) := fun ρ w => some (.ok [] ρ w)
def mConsD (ma : M ω D) (mb : M ω (List Pz)) : M ω (List Pz) := fun ρ w => bnd (ma ρ w) fun a ρ w => bnd (mb ρ w) fun bs ρ w => some (.ok (.d a :: bs) ρ w)
def mConsL (ma : M ω (List D)) (mb : M ω (List Pz)) : M ω (List Pz) := fun ρ w => bnd (ma ρ w) fun a ρ w => bnd (mb ρ w) fun bs ρ w => some (.ok (.l a :: bs) ρ w)
theorem fz_nil : PA X [] (gOf C W E (rAs C W) mNilP) := PA.imp pa_nil fun _ _ _ ⟨_, _, _, _, e, r, h⟩ => At.here h e r ⟨[], rfl, rfl⟩
theorem fz_consD {e : Expr} {es : List Expr} {ma : M ω D} {mb : M ω (List Pz)} (ha : PE X e (gOf C W E (rD C) ma)) (hb : PA X es (gOf C W E (rAs C W) mb)) (hs : starEach (e :: es) X.env = (false, eval e X.env) :: starEach es X.env := by rfl) :
    PA X (e :: es) (gOf C W E (rAs C W) (mConsD ma mb)) :=
  PA.imp (pa_cons ha hb hs) fun σ H Q ⟨Ht, ρ, w, fp, e, r, h⟩ => by
    refine ⟨Ht, ρ, w, fp, e, r, ?_⟩
    unfold mConsD at h
    cases q : ma ρ w with
    | none =>
      rw [q] at h
      exact h
    | some rr =>
      rw [q] at h
      cases rr with
      | er e' w' => exact h
      | ok d ρ1 w1 =>
        intro v H1 Ht1 fp1 e1 s1 o1 r1 q1
        refine ⟨Ht1, ρ1, w1, fp1, e1, r1, ?_⟩
        rw [bnd_ok] at h
        cases p : mb ρ1 w1 with
        | none =>
          rw [p] at h
          exact h
        | some rr =>
          rw [p] at h
          cases rr with
          | er e' w' => exact fun cls dx H' Ht' s2 r2 k => h cls dx H' Ht' (s1.trans o1 s2) r2 k
          | ok ds ρ2 w2 =>
            intro vs H2 Ht2 fp2 e2 s2 o2 r2 ⟨as, q2⟩
            exact h (v :: vs) H2 Ht2 fp2 e2 (s1.trans o1 s2) (o1.trans s1 o2) r2 ⟨as, v, vs, rfl, Rz.mono s2.th q1, AsR.back s1.keep q2⟩
theorem fz_consL {e : Expr} {es : List Expr} {ma : M ω (List D)} {mb : M ω (List Pz)} (ha : PE X e (gOf C W E (rF C W) ma)) (hb : PA X es (gOf C W E (rAs C W) mb)) (hs : starEach (e :: es) X.env = (false, eval e X.env) :: starEach es X.env := by rfl) :
    PA X (e :: es) (gOf C W E (rAs C W) (mConsL ma mb)) :=
  PA.imp (pa_cons ha hb hs) fun σ H Q ⟨Ht, ρ, w, fp, e, r, h⟩ => by
    refine ⟨Ht, ρ, w, fp, e, r, ?_⟩
    unfold mConsL at h
    cases q : ma ρ w with
    | none =>
      rw [q] at h
      exact h
    | some rr =>
      rw [q] at h
      cases rr with
      | er e' w' => exact h
      | ok d ρ1 w1 =>
        intro v H1 Ht1 fp1 e1 s1 o1 r1 ⟨a, us, g0, g1, g2, g3, g4, g5, g6⟩
        subst g0
        refine ⟨Ht1, ρ1, w1, fp1, e1, r1, ?_⟩
        rw [bnd_ok] at h
        cases p : mb ρ1 w1 with
        | none =>
          rw [p] at h
          exact h
        | some rr =>
          rw [p] at h
          cases rr with
          | er e' w' => exact fun cls dx H' Ht' s2 r2 k => h cls dx H' Ht' (s1.trans o1 s2) r2 k
          | ok ds ρ2 w2 =>
            intro vs H2 Ht2 fp2 e2 s2 o2 r2 ⟨as, q2⟩
            have n1 : H1 a ≠ none := by rw [g1]; simp
            have n2 : Ht2 a = none := by
              cases z : Ht2 a with
              | none => rfl
              | some y =>
                rcases s2.new a (by rw [z]; simp) with h | ⟨i, h⟩ | h
                · exact absurd g3 h
                · exact absurd h (g6 i)
                · exact absurd h n1
            refine h (.ref a :: vs) H2 Ht2 fp2 e2 (s1.trans o1 s2) (o1.trans s1 o2) r2 ⟨a :: as, a, us, vs, as, rfl, rfl, s2.ch a _ g5 g6 g1, RzL.mono s2.th g2, n2, g4, g5, fun i hi => ?_, fun hb => n1 (AsR.none_ q2 a hb), AsR.back s1.keep q2⟩
            rcases o2 i a hi with ⟨j, hj⟩ | hn
            · exact g6 j hj
            · exact n1 hn
def setP : Ev → List Nat → List Pz → Ev
  | ρ, i :: is, p :: ps => setP (ρ.set i (some p.o)) is ps
  | ρ, _, _ => ρ
def setV : L2.St → List Nat → List V → L2.St
  | σ, i :: is, v :: vs => setV (σ.set i (some v)) is vs
  | σ, _, _ => σ
theorem par_env {H0 Ht H : Hp} : ∀ {ps : List Pz} {is : List Nat} {vs : List V} {as : List Addr} {fp : Fp} {ρ : Ev} {σ : L2.St}, EnvO C W Ht H ρ σ fp → AsR C W H0 Ht H fp ps vs as →
    ∃ fp', EnvO C W Ht H (setP ρ is ps) (setV σ is vs) fp' ∧ ∀ i a, a ∈ fp' i → a ∈ fp i ∨ a ∈ as
  | [], is, vs, as, fp, ρ, σ, e, ⟨h1, h2⟩ => by
    subst h1 h2
    refine ⟨fp, ?_, fun i a h => .inl h⟩
    cases is <;> exact e
  | p :: ps, [], vs, as, fp, ρ, σ, e, h => ⟨fp, by cases vs <;> exact e, fun i a h => .inl h⟩
  | .d x :: ps, i :: is, vs, as, fp, ρ, σ, e, ⟨v, r, h1, h2, h⟩ => by
    subst h1
    obtain ⟨fp', g1, g2⟩ := par_env (is := is) (e.set h2 (i := i)) (h.fps fun j b _ hb => by
      have hb' : b ∈ (if j = i then [] else fp j) := hb
      by_cases c : j = i
      · rw [if_pos c] at hb'; cases hb'
      · rw [if_neg c] at hb'; exact hb')
    refine ⟨fp', g1, fun j b hb => ?_⟩
    rcases g2 j b hb with hb | hb
    · have hb' : b ∈ (if j = i then [] else fp j) := hb
      by_cases c : j = i
      · rw [if_pos c] at hb'; cases hb'
      · rw [if_neg c] at hb'; exact .inl hb'
    · exact .inr hb
  | .l xs :: ps, i :: is, vs, as, fp, ρ, σ, e, ⟨a, us, r, bs, h1, h2, h3, h4, h5, h0, h6, h7, h8, h⟩ => by
    subst h1 h2
    obtain ⟨fp', g1, g2⟩ := par_env (is := is) (own_env e h3 h4 h5 h6 h7 (i := i)) (h.fps fun j b hbs hb => by
      have hb' : b ∈ (if j = i then [a] else fp j) := hb
      by_cases c : j = i
      · rw [if_pos c] at hb'
        have := List.mem_singleton.mp hb'
        subst this
        exact absurd hbs h8
      · rw [if_neg c] at hb'; exact hb')
    refine ⟨fp', g1, fun j b hb => ?_⟩
    rcases g2 j b hb with hb | hb
    · have hb' : b ∈ (if j = i then [a] else fp j) := hb
      by_cases c : j = i
      · rw [if_pos c] at hb'
        have := List.mem_singleton.mp hb'
        subst this
        exact .inr List.mem_cons_self
      · rw [if_neg c] at hb'; exact .inl hb'
    · exact .inr (List.mem_cons_of_mem _ hb)
theorem AsR.len {H0 Ht H : Hp} {fp : Fp} : ∀ {ps : List Pz} {vs : List V} {as : List Addr}, AsR C W H0 Ht H fp ps vs as → ps.length = vs.length
  | [], _, _, ⟨h, _⟩ => by subst h; rfl
  | .d x :: ps, _, _, ⟨v, r, h1, _, h⟩ => by rw [h1, List.length_cons, List.length_cons, AsR.len h]
  | .l xs :: ps, _, _, ⟨a, us, r, bs, h1, _, _, _, _, _, _, _, _, h⟩ => by rw [h1, List.length_cons, List.length_cons, AsR.len h]
def sParP (is : List Nat) (ma : M ω (List Pz)) : SM ω := fun ρ w => sB (ma ρ w) fun ps ρ w => if ps.length = is.length then some (.nx (setP ρ is ps) w) else none
theorem sParP_at {is : List Nat} {ma : M ω (List Pz)} {Ht H : Hp} {ρ : Ev} {w : ω} {fp : Fp} {σ : L2.St} {Dn : Ends} (r : W.rel H w) (e : EnvO C W Ht H ρ σ fp) (h : SAt C W E (sParP is ma ρ w) Ht H fp Dn) :
    gOf C W E (rAs C W) ma σ H fun vs H1 => vs.length = is.length ∧ Dn.nx (setV σ is vs) H1 := by
  refine ⟨Ht, ρ, w, fp, e, r, ?_⟩
  unfold sParP at h
  cases q : ma ρ w with
  | none =>
    rw [q] at h
    exact h
  | some rr =>
    rw [q] at h
    cases rr with
    | er e' w' => exact h
    | ok ps ρ1 w1 =>
      intro vs H1 Ht1 fp1 e1 s1 o1 r1 ⟨as, q1⟩
      have h' : SAt C W E (if ps.length = is.length then some (.nx (setP ρ1 is ps) w1) else none) Ht H fp Dn := h
      split at h'
      · rename_i hl
        obtain ⟨fp', g1, g2⟩ := par_env (is := is) e1 q1
        refine ⟨by rw [← q1.len]; exact hl, h' _ H1 Ht1 fp' g1 s1 (fun i a ha => ?_) r1⟩
        rcases g2 i a ha with ha | ha
        · exact o1 i a ha
        · exact .inr (AsR.none_ q1 a ha)
      · exact h'.elim
theorem s_parP {i j : Nat} {x y : Str} {a b : Expr} {px py pt pos : Pos} {kt k2 pt2} {ma : M ω (List Pz)} (hc : X.calm = true) (hN : X.N.Nodup) (hi : X.N[i]? = some x) (hj : X.N[j]? = some y) (hij : i ≠ j) (hx : X.env.scope.names.lookup x = some .local) (hy : X.env.scope.names.lookup y = some .local)
    (ha : PA X [a, b] (gOf C W E (rAs C W) ma)) (hw : swappedStores [.Tuple [.Name x px, .Name y py] kt pt] (.Tuple [a, b] k2 pt2) X.env = pure (some [x, y]))
    (hs : swapsWithSole [.Tuple [.Name x px, .Name y py] kt pt] (.Tuple [a, b] k2 pt2) pos.line X.env = pure false := by rfl) :
    PS X (.Assign [.Tuple [.Name x px, .Name y py] kt pt] (.Tuple [a, b] k2 pt2) pos) (sOf C W E (sParP [i, j] ma)) := PS.imp (ps_par hc hN hi hj hij hx hy ha hw hs) fun Dn σ H ⟨Ht, ρ, w, fp, e, r, h⟩ => by
  obtain ⟨Ht, ρ, w, fp, e, r, h⟩ := sParP_at r e h
  refine ⟨Ht, ρ, w, fp, e, r, ?_⟩
  refine At.imp (fun vs H1 ⟨hl, hd⟩ => ?_) h
  match vs, hl with
  | [u, v], _ => exact ⟨u, v, rfl, hd⟩
theorem s_parP3 {i j l : Nat} {x y z : Str} {a b c : Expr} {px py pz pt pos : Pos} {kt k2 pt2} {ma : M ω (List Pz)} (hc : X.calm = true) (hN : X.N.Nodup) (hi : X.N[i]? = some x) (hj : X.N[j]? = some y) (hl : X.N[l]? = some z) (hij : i ≠ j) (hil : i ≠ l) (hjl : j ≠ l)
    (hx : X.env.scope.names.lookup x = some .local) (hy : X.env.scope.names.lookup y = some .local) (hz : X.env.scope.names.lookup z = some .local)
    (ha : PA X [a, b, c] (gOf C W E (rAs C W) ma)) (hw : swappedStores [.Tuple [.Name x px, .Name y py, .Name z pz] kt pt] (.Tuple [a, b, c] k2 pt2) X.env = pure (some [x, y, z]))
    (hs : swapsWithSole [.Tuple [.Name x px, .Name y py, .Name z pz] kt pt] (.Tuple [a, b, c] k2 pt2) pos.line X.env = pure false := by rfl) :
    PS X (.Assign [.Tuple [.Name x px, .Name y py, .Name z pz] kt pt] (.Tuple [a, b, c] k2 pt2) pos) (sOf C W E (sParP [i, j, l] ma)) := PS.imp (ps_par3 hc hN hi hj hl hij hil hjl hx hy hz ha hw hs) fun Dn σ H ⟨Ht, ρ, w, fp, e, r, h⟩ => by
  obtain ⟨Ht, ρ, w, fp, e, r, h⟩ := sParP_at r e h
  refine ⟨Ht, ρ, w, fp, e, r, ?_⟩
  refine At.imp (fun vs H1 ⟨hl, hd⟩ => ?_) h
  match vs, hl with
  | [u, v, w], _ => exact ⟨u, v, w, rfl, hd⟩
end
end FL
set_option maxRecDepth 100000
set_option maxHeartbeats 4000000
namespace FL
open PySem PySem.Spec PyProof.Rows L2
/-! ### an exception's own __init__: super().__init__(text); self.f = a, the class right below it ending in ValueError's -/
section
variable {prog : Program} {w : World} {A : Around} {E : Value → Shared → Prop} {h : Heap} {g : Array GenState} {d : Drawn} {t : Nat} {os : OsState}
variable {nm q : Str} {C N : Addr} {bs bm : List Value} {hdct : Bool} {sn : List Str} {sub : List Value} {ab : Bool} {col : Option Bool} {dd : Option Addr} {k0 k1 k2 k3 k5 : Option Value}
theorem call_mwV {u e t0 : Addr} {us : List Value} {Q : Value → Shared → Prop}
    (hC : h.get? C = some (excClassObj nm q C N bs bm hdct sn sub ab col dd k0 k1 k2 k3 k5 "ValueError.__new__")) (he : h.get? e = some (PySem.HandSPX.excO C t0)) (hu : h.get? u = some (PySem.W.kxs_mw "ValueError.__init__" e)) (hr : us.length ≤ sizeLine)
    (hq : ∀ h' t1, (∀ b o, b ≠ e → h.get? b = some o → h'.get? b = some o) → h'.get? e = some (PySem.HandSPX.excO C t1) → Q .none ⟨h', g, d, t, os⟩) :
    wpAny (model prog w) A (call (.ref u) us) Q E ⟨h, g, d, t, os⟩ := by
  refine wpAny_call (codeAny_of_tree ?_)
  show wpAny _ A.in1 (callAny (.ref u) ⟨us, []⟩) _ _ _
  simp only [callAny]
  refine wpAny_bind (wpAny_load hu ?_)
  simp only [PySem.W.kxs_mw, show (Value.type "method-wrapper" == Value.type "method" || Value.type "method-wrapper" == Value.type "builtin_function_or_method" || Value.type "method-wrapper" == Value.type "method-wrapper") = true from by decide, if_true]
  refine PySem.W.KFB.if_so (by decide) ?_
  refine wpAny_bind (PySem.ESX.check_bound F.excBase_ValueError hC he rfl ?_)
  refine wpAny_bind (wpAny_pure (wpAny_pure ?_))
  refine ⟨Code.quiet_builtin _ (by decide +kernel), codeAny_builtin F.excBase_ValueError.initEntry ?_⟩
  rw [Around.under_plainId F.excBase_ValueError.init.plain _]
  wp_walk
  refine hq _ h.objs.size (fun b o hb ho => ?_) ?_
  · rw [Heap.get?_update_other _ _ (Ne.symm hb)]
    exact Heap.get?_push_of_some _ ho
  · rw [Heap.get?_update_self _ (Heap.get?_push_of_some _ he) rfl]
    rfl
end
/-- what the written part says of such a method: its class D, its cell cc, its code -/
structure SupF (P : Program) (K : PySem.W.Frag) (mg : Str → Option Value) (qual : Str) (ar : Arguments) (body : List Stmt) (sc : Scope) (D fI : Addr) (fd : FuncData) : Prop where
  ex : ∃ (oc kV doc pm ct ccl cl : Value) (od an cdd cld : Option Addr) (osl ccs csl : Array (Option Value)) (cda cc : Addr) (vs : Array Value) (file : Str) (tf : Tok), fd = PySem.W.ksFn "__init__" qual ar body sc .none kV doc pm an (.ref cda) ct cc ∧
    K.lookup fI = some ⟨oc, od, .func (PySem.W.ksFn "__init__" qual ar body sc .none kV doc pm an (.ref cda) ct cc), osl⟩ ∧ PySem.W.codeIn K (.ref cda) qual = true ∧ K.lookup cda = some ⟨ccl, cdd, .fields vs, ccs⟩ ∧ vs[2]? = some (.str file tf) ∧ ((P.main.file : Str) == file) = true ∧
    K.lookup cc = some ⟨cl, cld, .cell (some (.ref D)), csl⟩
  clsD : (PySem.W.clsIn K D).isSome = true
  sup : mg "super" = none
  any_ : PySem.W.nsIn K cStatics "thirdparty.any" = some none
  top : (P.main.scope.names.lookup ("super" : Str)).isSome = false
/-- of a class C below D -/
structure SupC (K : PySem.W.Frag) (D C : Addr) (f : Str) : Prop where
  oex : OexC K C
  mro : PySem.W.mroIn K C (.ref D) = some true
  sup : PySem.W.ks_superIn K C D "__init__" = some (some (.builtin "ValueError.__init__"))
  ve : PySem.W.subIn K (.ref C) (.type "ValueError") = some true
  no : PySem.W.findIn K (.ref C) f = some none
def spSI (K : PySem.W.Frag) (D : Addr) (f : Str) : Sp := fun vs H Q _ => ∃ (a C : Addr) (v : V), vs = [.ref a, v] ∧ SupC K D C f ∧ H a = some (exo a C none) ∧ ∀ dx, H dx = none → dx ≠ a → Q .non (upd (upd H dx (exd dx [(f, v)])) a (exo a C (some dx)))
def supCx (P : Program) (w : World) (K : PySem.W.Frag) (mg : Str → Option Value) (base : Heap) (N : List Str) (qual : Str) (scope : Scope) (f cda cc : Addr) (A : Around) (outer : List Env) (s : Shared) (H : Hp) (E : XK) : Cx where
  prog := P
  w := w
  K := K
  mg := mg
  base := base
  A := A.deeper (PySem.W.ksEnv qual scope s.heap.objs.size f (.ref cda) cc)
  N := N
  s_0 := s
  H_0 := H
  env := PySem.W.ksEnv qual scope s.heap.objs.size f (.ref cda) cc
  outer := outer
  stack := PySem.W.ksEnv qual scope s.heap.objs.size f (.ref cda) cc :: outer
  ex := []
  calm := true
  fn := fun _ => false
  pn := []
  xe := fun e s' => wpAny (model P w) (A.deeper (PySem.W.ksEnv qual scope s.heap.objs.size f (.ref cda) cc)) (leaving (PySem.W.ksEnv qual scope s.heap.objs.size f (.ref cda) cc) e) (fun _ s'' => L2.CX P w outer H s E e s'') (fun e' s'' => L2.CX P w outer H s E e' s'') s'
/-- its names -/
structure SupS (sc : Scope) (a : Str) : Prop where
  kind : sc.kind = .function
  co : sc.isCoroutine = false
  gen : sc.isGenerator = false
  cell : ∀ y ∈ sc.names, y.2 ≠ .cell
  free : ∀ y ∈ sc.names, y.2 = .free → y.1 = "__class__"
  self : sc.names.lookup ("self" : Str) = some .local
  arg : sc.names.lookup a = some .local
  sup : sc.names.lookup ("super" : Str) = some .globalImplicit
  cls : sc.names.lookup ("__class__" : Str) = some .free
  ne : a ≠ "self"
theorem fn_sup {P : Program} {w : World} {K : PySem.W.Frag} {mg : Str → Option Value} {base : Heap} {qual a f msg : Str} {ar : Arguments} {sc : Scope} {D fI : Addr} {fd : FuncData} {k j : Nat} {p0 p1 p2 p3 p4 p5 p6 p7 p8 p9 : Pos}
    (F : SupF P K mg qual ar [.Expr (.Call (.Attribute (.Call (.Name "super" p0) [] [] p1) "__init__" p2) [.Constant (.str msg) j p3] [] p4) p5, .Assign [.Attribute (.Name "self" p6) f p7] (.Name a p8) p9] sc D fI fd)
    (S : SupS sc a) (har : ∃ r, (ar.posonlyargs ++ ar.args).head? = some r ∧ r.arg = "self") (hda : (a == ("__debug__" : Str)) = false := by decide) (hca : (a == ("__classdict__" : Str)) = false := by decide)
    (hsw : ∀ env : Env, swapsWith (.Name a p8) (some (.Attribute (.Name "self" p6) f p7)) p9.line env = pure false := by intros; rfl)
    {pl : Env → Sem Bool}
    (hev : ∀ env : Env, eval (.Call (.Attribute (.Call (.Name "super" p0) [] [] p1) "__init__" p2) [.Constant (.str msg) j p3] [] p4) env = (do
      let ov ← attributeBase (.Call (.Name "super" p0) [] [] p1) "__init__" env (eval (.Call (.Name "super" p0) [] [] p1) env)
      standAt p2.atName
      let (g, first) ← holding [ov] (getMethod ov "__init__" (pl env))
      callWith p4 g first (backTo p4 (starEach [.Constant (.str msg) j p3] env)) []) := by intros; rfl)
    (hsx : ∀ env : Env, swapsWith (.Call (.Attribute (.Call (.Name "super" p0) [] [] p1) "__init__" p2) [.Constant (.str msg) j p3] [] p4) none p5.line env = pure false := by intros; rfl) :
    FnOk P w K mg base (L2.CX P w) (k + 1) fI fd ["self", a] (spSI K D f) := by
  obtain ⟨oc, kV, doc, pm, ct, ccl, cl, od, an, cdd, cld, osl, ccs, csl, cda, cc, vsC, file, tf, rfl, lk, hcd, lkc, hvs, hfile, lkcc⟩ := F.ex
  obtain ⟨r0, hr0, hr1⟩ := har
  refine ⟨fun vs H Q E ⟨x, C, v, h, _⟩ => by rw [h]; rfl, fun A outer s H args us vs Q E hr e0 hb r hsp => ?_⟩
  obtain ⟨x, C, v, rfl, T, hx, hq⟩ := hsp
  obtain ⟨u0, u, rfl, ru0, ru⟩ : ∃ u0 u, us = [u0, u] ∧ RelV (.ref x) u0 ∧ RelV v u := by
    cases r with
    | cons p q =>
      cases q with
      | cons p' q' =>
        cases q'
        exact ⟨_, _, rfl, p, p'⟩
  obtain rfl : u0 = Value.ref x := ru0
  have KX : K.In s.heap := e0.mod.kin.keeps fun b o e => (e0.bs b o e).1
  have lim : s.heap.NoLimit := e0.mod.nolimit.keeps fun b o e => (e0.bs b o e).1
  refine PySem.ks_codeAny_call_defAt (binds := [("self", .ref x), (a, u)]) hr.depth (KX _ _ lk) rfl lim (PySem.W.codeRec_of KX hcd) rfl hb S.cell (fun y hy => ?_) (fun h₁ hns kp => ?_) S.co S.gen S.kind
  · rcases List.mem_cons.mp hy with rfl | hy
    · exact S.self
    · rcases List.mem_cons.mp hy with rfl | hy
      · exact S.arg
      · cases hy
  have ccB : base.get? cc = some ⟨cl, cld, .cell (some (.ref D)), csl⟩ := e0.mod.kin _ _ lkcc
  have one : ∀ {y : Str} {c : Addr}, ([("__class__", cc)] : List (Str × Addr)).lookup y = some c → y = "__class__" ∧ c = cc := fun {y c} e => by
    have z : y = "__class__" ∧ c = cc := by
      by_cases q : y = "__class__"
      · subst q
        refine ⟨rfl, ?_⟩
        have : some cc = some c := e
        exact (Option.some.inj this).symm
      · have q' : (y == ("__class__" : Str)) = false := by simpa using q
        simp [List.lookup, q'] at e
    exact z
  have I : Inv (supCx P w K mg base ["self", a] qual sc fI cda cc A outer s H E) [] [some (.ref x), some v] H { s with heap := h₁, toks := s.toks + 2 } := by
    refine ⟨⟨e0.mod, S.kind, rfl, rfl, Nat.le_refl _, fun y z c h1 h2 => (one h1).1.trans (one h2).1.symm, fun y hy => ?_, fun y c hf _ => ?_, fun _ => hr.hd, Around.frames_deeper e0.frames, .inr ⟨rfl, rfl⟩, fun b z => ?_, e0.bs, e0.bsz, fun b _ _ z => ?_, fun b z => ?_, e0.funs, e0.frf⟩,
      rfl, e0.bare, Un.kept kp, ⟨_, hns, fun i y v' h1 h2 h3 => ?_⟩, fun y c h => ?_, e0.hok.fresh (Nat.le_refl _), fun y c h => ?_, fun p hp => absurd (show p ∈ ([] : List (Addr × Obj)) from hp) (by simp), e0.hok.kept kp, rfl⟩
    · have hy : sc.names.lookup y = some .cell ∨ sc.names.lookup y = some .free := hy
      rcases hy with hy | hy
      · exact absurd rfl (S.cell _ (PySem.mem_of_lookup hy))
      · have := S.free _ (PySem.mem_of_lookup hy) rfl
        have e : y = "__class__" := this
        subst e
        exact ⟨cc, rfl⟩
    · have hf : false = true := hf
      cases hf
    · exact absurd (show b ∈ ([] : List Addr) from z) (by simp)
    · exact absurd (show b ∈ ([] : List Addr) from z) (by simp)
    · exact absurd (show b ∈ ([] : List Addr) from z) (by simp)
    · have h1 : (["self", a] : List Str)[i]? = some y := h1
      match i, h1, h2 with
      | 0, h1, h2 =>
        cases h1
        cases h2
        exact ⟨.ref x, rfl, .inl ⟨S.self, by
          have n : (("self" : Str) == a) = false := by simpa using fun z => S.ne z.symm
          simp [List.lookup, n]⟩⟩
      | 1, h1, h2 =>
        cases h1
        cases h2
        exact ⟨u, ru, .inl ⟨S.arg, by simp [List.lookup]⟩⟩
      | i + 2, h1, h2 => simp at h1
    · obtain ⟨_, rfl⟩ := one h
      exact ⟨_, _, kp _ _ (e0.bs _ _ ccB).1, rfl⟩
    · obtain ⟨_, rfl⟩ := one h
      exact (e0.bs _ _ ccB).2
  have hsup : Gl (supCx P w K mg base ["self", a] qual sc fI cda cc A outer s H E) "super" := S.sup
  have heq : callEnv (PySem.W.ksFn "__init__" qual ar [.Expr (.Call (.Attribute (.Call (.Name "super" p0) [] [] p1) "__init__" p2) [.Constant (.str msg) j p3] [] p4) p5, .Assign [.Attribute (.Name "self" p6) f p7] (.Name a p8) p9] sc .none kV doc pm an (.ref cda) ct cc) s.heap.objs.size fI = PySem.W.ksEnv qual sc s.heap.objs.size fI (.ref cda) cc := rfl
  rw [heq]
  obtain ⟨nm, q, NN, bs, bm, sn, sub, ab, col, dd, k0, k1, k2, k3, k5, hC, hbm⟩ := T.oex.cls
  -- the end
  have fin : ∀ {σ' : L2.St} {H' : Hp} {s' : Shared}, Inv (supCx P w K mg base ["self", a] qual sc fI cda cc A outer s H E) [] σ' H' s' → Q .non H' → CE outer P w H s Q .none s' :=
    fun {σ' H' s'} J z => ⟨.non, H', J.os, J.bare, J.base, J.hok, rfl, z⟩
  -- the second row
  have row2 : ∀ s', Inv (supCx P w K mg base ["self", a] qual sc fI cda cc A outer s H E) [] [some (.ref x), some v] H s' →
      wpAny (model P w) (A.deeper (PySem.W.ksEnv qual sc s.heap.objs.size fI (.ref cda) cc)) (execs [.Assign [.Attribute (.Name "self" p6) f p7] (.Name a p8) p9] (PySem.W.ksEnv qual sc s.heap.objs.size fI (.ref cda) cc))
        (fun fl s' => CR (L2.CX P w) outer P w H s Q E (.ok (.ret (match fl with | .ret v => v | _ => .none))) s') (fun e s' => (supCx P w K mg base ["self", a] qual sc fI cda cc A outer s H E).xe e s') s' := fun s' J => by
    have p := pss_one (ps_ost (X := supCx P w K mg base ["self", a] qual sc fI cda cc A outer s H E) (pos := p9) (p' := p7) (f := f) (pe_var (i := 0) (x := "self") (pos := p6) rfl (.inl S.self) (by decide) (by decide)) (pe_var (i := 1) (x := a) (pos := p8) rfl (.inl S.arg) hda hca) (hsw _))
    refine wpAny_mono (p.run [] s' _ H { nx := fun _ H' => Q .non H', rt := Q } J ?_) (fun fl s2 hs => ?_) fun e s2 hs => hs
    · refine ⟨v, rfl, .ref x, rfl, x, C, rfl, T.oex, T.no, .inl ⟨hx, hq⟩⟩
    · cases fl with
      | ret u =>
        obtain ⟨v', σ', H', J', rv, z⟩ := hs
        exact ⟨v', H', J'.os, J'.bare, J'.base, J'.hok, rv, z⟩
      | next =>
        obtain ⟨σ', H', J', z⟩ := hs
        exact fin J' z
      | brk =>
        obtain ⟨_, _, _, z⟩ := hs
        exact False.elim z
      | cont =>
        obtain ⟨_, _, _, z⟩ := hs
        exact False.elim z
  obtain ⟨cdD, hD⟩ := Option.isSome_iff_exists.mp F.clsD
  obtain ⟨oD, hD1, hD2⟩ : ∃ oD, h₁.get? D = some oD ∧ oD.data = .cls cdD := by
    unfold PySem.W.clsIn at hD
    split at hD
    · rename_i c d cd' sl ho
      cases hD
      exact ⟨_, kp _ _ (KX _ _ ho), rfl⟩
    · cases hD
  obtain ⟨mbl, hmbl, hmb⟩ := e0.mod.blt
  obtain ⟨t1, hxo⟩ := exo_at I.hok hx
  have K1 : K.In h₁ := KX.keeps kp
  have bk : ∀ b o, base.get? b = some o → h₁.get? b = some o := fun b o e => kp _ _ (e0.bs b o e).1
  refine PySem.ks_wpAt_execs_cons (PySem.ks_wpAt_Expr_any (PySem.ks_wpAt_MethodCall (PySem.ks_wpAt_super_base (of := ⟨oc, od, .func _, osl⟩) (oc := ⟨ccl, cdd, .fields vsC, ccs⟩) (env := PySem.W.ksEnv qual sc s.heap.objs.size fI (.ref cda) cc) S.sup S.cls (by decide) rfl (K1 _ _ lk) rfl hr0 rfl (K1 _ _ lkc) rfl hvs hfile F.top ?_) (hev _)) (by
    have e : (PySem.W.ksEnv qual sc s.heap.objs.size fI (.ref cda) cc).scope.kind = .function := S.kind
    unfold interactive
    rw [e]
    rfl) (hsx _))
  refine PySem.W.ks_loadName_global S.kind S.sup (PySem.Calls.loadGlobal_builtin (env := PySem.W.ksEnv qual sc s.heap.objs.size fI (.ref cda) cc) (e0.mod.glob.keeps bk) F.sup (hmbl.keeps bk) ((hmb _ (by decide +kernel)).trans (show bootBuiltins "super" = some (.type "super") by first | boot_by_name | rfl | kernel_rfl)) ⟨rfl, ?_⟩)
  refine wpAny_loadName_free S.kind S.cls rfl ⟨_, bk _ _ ccB, rfl⟩ ?_
  rw [hr1]
  refine wpAny_loadName_local S.kind S.self hns (v := .ref x) (by
    have n : (("self" : Str) == a) = false := by simpa using fun z => S.ne z.symm
    simp [List.lookup, n]) ?_
  refine PySem.ks_wpAny_isType_cls hD1 hD2 ⟨rfl, ?_⟩
  refine PySem.ks_wpAny_call_super hD1 hD2 hxo rfl (fun c z => by cases z) (PySem.W.looks_mroIn K1 T.mro) (fun h2 hso k2 => ?_)
  have K2 : K.In h2 := K1.keeps k2
  have hC2 : PySem.W.clsIn K C = some { name := nm, bases := bs, mro := .ref C :: bm, ns := NN, qualname := q, hasDict := true, slotNames := sn, subclasses := sub, abstract := ab, collection := col, hasDel := false } := by unfold PySem.W.clsIn; rw [hC] <;> rfl
  have hsi := T.sup
  unfold PySem.W.ks_superIn at hsi
  rw [hC2] at hsi
  have hI : PySem.W.Looks (model P w) h2 (isInstance (.ref x) (.type "ValueError")) true := (PySem.W.InstAt.type (od := none) ⟨k2 _ _ hxo, rfl, rfl, trivial⟩).andThen (PySem.W.looks_subIn K2 T.ve)
  have hxC : x ≠ C := fun z => by
    have z1 := K1 _ _ hC
    rw [← z, hxo] at z1
    cases z1
  refine PySem.W.kxs_getMethod PySem.W.kxs_ValueError hso (PySem.W.looks_opaque K2 F.any_) (l₀ := .ref C :: bm) ?_ rfl K2 hsi hI hxC (by decide) ?_
  · exact fun A Q E s k q => wpAny_bind ((PySem.W.looks_clsIn K2 hC2) A _ E s k (wpAny_pure q))
  -- the wrapper stands
  have k3 : ∀ b o, h₁.get? b = some o → (h2.push (PySem.W.kxs_mw "ValueError.__init__" x)).get? b = some o := fun b o e => Heap.get?_push_of_some _ (k2 b o e)
  have hu : (h2.push (PySem.W.kxs_mw "ValueError.__init__" x)).get? h2.objs.size = some (PySem.W.kxs_mw "ValueError.__init__" x) := Heap.get?_push_at rfl rfl
  have s12 : h₁.objs.size ≤ h2.objs.size := by
    have z := Heap.lt_size hso
    exact Nat.le_of_lt z
  have I3 := I.kept (h' := h2.push (PySem.W.kxs_mw "ValueError.__init__" x)) (t' := s.toks + 2 + 1) k3
  have I4 : Inv (supCx P w K mg base ["self", a] qual sc fI cda cc A outer s H E) [(h2.objs.size, PySem.W.kxs_mw "ValueError.__init__" x)] [some (.ref x), some v] H _ := I3.pins_of fun p hp => by
    rcases List.mem_cons.mp hp with rfl | hp
    · refine ⟨hu, I.hok.fresh s12, fun z => ?_, fun z => I.nofs s12 z, fun v z => by cases z⟩
      have z1 := I.lt
      have z2 : s.heap.objs.size < h₁.objs.size := z1
      have z3 : h2.objs.size = s.heap.objs.size := z
      omega
    · cases hp
  refine PySem.W.kxs_callWith (i := "ValueError.__init__") (x := x) rfl (PySem.Calls.evalArgs_plain ?_)
  refine thn ((pa_cons (X := supCx P w K mg base ["self", a] qual sc fI cda cc A outer s H E) (pe_str (x := msg) (j := j) (pos := p3)) pa_nil rfl).run p4 _ _ _ _ (fun vs H' => vs = [.str msg] ∧ H' = H) I4 ?_) fun us s5 ⟨vs, H5, I5, r5, e5, e6⟩ => ?_
  · exact ⟨rfl, rfl⟩
  subst e5 e6
  have hpin := I5.pin (h2.objs.size, PySem.W.kxs_mw "ValueError.__init__" x) (List.mem_append_right _ List.mem_cons_self)
  refine ⟨hpin.1, ?_⟩
  obtain ⟨t5, hx5⟩ := exo_at I5.hok hx
  obtain ⟨hp5, g5, d5, tk5, os5⟩ := s5
  have hl5 : us.length ≤ sizeLine := by
    rw [← Paired.length r5, sizeLine_eq]
    simp
  refine call_mwV (I5.kIn _ _ hC) hx5 hpin.1 hl5 fun h6 t6 k6 hx6 => ?_
  have J := I5.write (t' := tk5) (x := x) (e := x) (o := exo x C none) (by rw [hx]; exact True.intro) (.inl rfl) k6 ⟨_, hx6⟩ (exo_ok hx6)
  have eu : upd H5 x (exo x C none) = H5 := by
    funext b
    by_cases hb : b = x
    · rw [hb, upd_same, hx]
    · rw [upd_ne hb]
  rw [eu] at J
  have J2 : Inv (supCx P w K mg base ["self", a] qual sc fI cda cc A outer s H5 E) [] [some (.ref x), some v] H5 ⟨h6, g5, d5, tk5, os5⟩ := ⟨J.ok, J.os, J.bare, J.base, J.loc, J.cell, J.free, J.freeC, fun p hp => absurd (show p ∈ ([] : List (Addr × Obj)) ++ [] from hp) (by simp), J.hok, J.len⟩
  exact PySem.wpAt_of_wpAny (row2 _ J2)
end FL
set_option maxRecDepth 100000
set_option maxHeartbeats 4000000
namespace FL
open PySem PySem.Spec PyProof.Rows L2
/-! ### raise X(v), raise X('text') -/
section
variable {ω : Type} {X : Cx} {C : Cc} {W : Wd ω} {E : XK}
def sRaiseF (c f : Str) (ma : M ω (List D)) : SM ω := fun ρ w => sB (ma ρ w) fun ds _ w => match ds with
  | [d] => some (.er ⟨c, some (f, d)⟩ w)
  | _ => none
def sRaiseN (c : Str) : SM ω := fun _ w => some (.er ⟨c, none⟩ w)
/-- a class whose instances are made by an own __init__ that keeps one field -/
structure RaiF (P : Program) (w : World) (base : Heap) (K : PySem.W.Frag) (mg : Str → Option Value) (c f : Str) (k : Nat) : Prop where
  ex : ∃ C D fI fd a, mg c = some (.ref C) ∧ SupC K D C f ∧ PySem.W.findIn K (.ref C) "__init__" = some (some (.ref fI)) ∧ PySem.W.typeIn K (.ref fI) = some (.type "function") ∧ FnOk P w K mg base (L2.CX P w) k fI fd ["self", a] (spSI K D f) ∧ L2.Binds K fd ["self", a] []
structure RaiN (K : PySem.W.Frag) (mg : Str → Option Value) (c : Str) : Prop where
  ex : ∃ C, mg c = some (.ref C) ∧ PySem.W.excIn K C PySem.HandSPX.veTail "ValueError.__new__" = true ∧ PySem.W.keepIn K (.ref C) = true ∧ PySem.W.subIn K (.ref C) (.type "BaseException") = some true ∧ PySem.W.typeIn K (.ref C) = some (.type "type")
theorem s_raiseF {root : Addr} {c f : Str} {k : Nat} {e : Expr} {p1 p2 pos : Pos} {ma : M ω (List D)} (F : RaiF X.prog X.w X.base X.K X.mg c f k) (hr : Room (k + 1) X.A) (hc : X.calm = true) (tk : Takes X (fun cls d _ H => E cls d H)) (hg : Gl X c)
    (ha : PA X [e] (gOf ⟨X.K, X.mg, root⟩ W E (rL ⟨X.K, X.mg, root⟩) ma)) (hdb : (c == ("__debug__" : Str)) = false := by decide) (he : starEach [e] X.env = (false, eval e X.env) :: starEach [] X.env := by rfl) (hpl : (backTo p2 (starEach [] X.env)).any (·.1) = false := by rfl) :
    PS X (.Raise (some (.Call (.Name c p1) [e] [] p2)) none pos) (sOf ⟨X.K, X.mg, root⟩ W E (sRaiseF c f ma)) := by
  obtain ⟨Ca, Da, fI, fd, a, h1, h2, h3, h4, h5, h6⟩ := F.ex
  refine PS.imp (ps_raise hc tk (pmk_oex h2.oex h3 h4 h5 hr h6 .nil passL hg h1 ha hdb he hpl)) fun Dn σ H ⟨Ht, ρ, w, fp, ev, r, h⟩ => ?_
  refine ⟨Ht, ρ, w, fp, ev, r, sB.bind h fun ds vs H1 Ht1 ρ1 w1 fp1 e1 s1 o1 r1 q1 hh => ?_⟩
  split at hh
  · rename_i d
    obtain ⟨v, rfl, rv⟩ : ∃ v, vs = [v] ∧ Rz ⟨X.K, X.mg, root⟩ Ht1 d v := by
      obtain ⟨v, r, q, z1, z2⟩ := q1
      have z2' : r = [] := z2
      subst z2'
      exact ⟨v, q, z1⟩
    refine ⟨by simp, fun x hx => ⟨x, Ca, v, rfl, h2, upd_same, fun dx hd hne => ⟨rfl, dx, [(f, v)], upd_same, by rw [upd_ne hne, upd_same], ?_, ?_⟩⟩⟩
    · rw [upd_ne hne] at hd
      exact hd
    · rw [upd_ne hne] at hd
      have e2 : upd (del (upd (upd (upd H1 x (exo x Ca none)) dx (exd dx [(f, v)])) x (exo x Ca (some dx))) x) dx (.xd [(f, v)]) = upd H1 dx (.xd [(f, v)]) := by
        funext b
        by_cases hb : b = dx
        · subst hb
          rw [upd_same, upd_same]
        · rw [upd_ne hb, upd_ne hb]
          by_cases hbx : b = x
          · subst hbx
            rw [del_same, hx]
          · rw [del_ne hbx, upd_ne hbx, upd_ne hb, upd_ne hbx]
      rw [e2]
      obtain ⟨e3, s3⟩ := alloc_env (o := .xd [(f, v)]) e1 r1 hd
      exact hh _ _ _ _ s3 (rel_upd r1 hd) ⟨Ca, h1, rfl, dx, v, rfl, upd_same, Rz.mono s3.th rv⟩
  · exact hh.elim
theorem s_raiseN {root : Addr} {c m : Str} {j : Nat} {p1 p2 p3 pos : Pos} (F : RaiN X.K X.mg c) (hc : X.calm = true) (tk : Takes X (fun cls d _ H => E cls d H)) (hg : Gl X c) (hdb : (c == ("__debug__" : Str)) = false := by decide) :
    PS X (.Raise (some (.Call (.Name c p1) [.Constant (.str m) j p2] [] p3)) none pos) (sOf ⟨X.K, X.mg, root⟩ W E (sRaiseN c)) := by
  obtain ⟨Ca, h1, h2, h3, h4, h5⟩ := F.ex
  refine PS.imp (ps_raise hc tk (pmk_own PySem.F.excBase_ValueError h2 h1 h3 (raises_own h4 h5) hg hdb)) fun Dn σ H ⟨Ht, ρ, w, fp, ev, r, h⟩ => ?_
  exact h _ none H Ht (Stp.refl ev.sub) r ⟨Ca, h1, rfl, rfl⟩
end
end FL
set_option maxRecDepth 100000
set_option maxHeartbeats 4000000
namespace FL
open PySem PySem.Spec PyProof.Rows L2
/-! ### try: .. except x as n: .., the caught exception known from then on -/
section
variable {X : Cx} {pins : List (Addr × Obj)} {σ : L2.St} {H : Hp} {s : Shared}
theorem exg_tup {e C : Addr} {d : Option Addr} {xs : List V} : exg e C d ≠ .tup xs := fun z => by
  have z' : HO.ext _ = HO.tup xs := z
  cases z'
theorem exg_own {e C x : Addr} {d : Option Addr} : exg e C d ≠ .own x := fun z => by
  have z' : HO.ext _ = HO.own x := z
  cases z'
/-- an object that stands is known from now on -/
theorem track {a C : Addr} {d : Option Addr} {oe : Obj} {vs : Array Value} (I : Inv X pins σ H s) (he : s.heap.get? a = some oe) (hd : oe.data = .fields vs) (hc : oe.cls = .ref C) (hdd : oe.dict = d) (na : H a = none) (nL : a ≠ X.env.locals)
    (n0 : X.s_0.heap.get? a = none) (np : ∀ p ∈ X.pn ++ pins, p.1 ≠ a) : Inv X pins σ (upd H a (exg a C d)) s := by
  have ne : ∀ {b : Addr} {u : HO}, H b = some u → b ≠ a := fun {b u} q z => by
    rw [z, na] at q
    cases q
  refine ⟨I.ok, I.os, I.bare, ⟨I.base.keep, I.base.slot, fun b o z n hx => ?_, I.base.there, fun b xs q => ?_, fun b o u q => ?_, fun b ps q => ?_⟩, I.loc, I.cell, ?_, fun y c q => ?_, fun p hp => ?_, fun b o q => ?_, I.len⟩
  · rw [upd_ne fun y => by rw [y, n0] at z; cases z]
    exact I.base.free b o z n hx
  · have q' := I.base.tups b xs q
    rw [upd_ne (ne q')]
    exact q'
  · have q' := I.base.frzs b o u q
    rw [upd_ne (ne q')]
    exact q'
  · obtain ⟨more, q'⟩ := I.base.tbls b ps q
    exact ⟨more, by rw [upd_ne (ne q')]; exact q'⟩
  · rw [upd_ne (Ne.symm nL)]
    exact I.free
  · rw [upd_ne fun z => ?_]
    · exact I.freeC y c q
    · obtain ⟨v, o, h1, h2⟩ := I.cell y c q
      rw [z, he] at h1
      cases h1
      rw [hd] at h2
      cases h2
  · obtain ⟨p1, p2, p3⟩ := I.pin p hp
    exact ⟨p1, by rw [upd_ne (np p hp)]; exact p2, p3⟩
  · by_cases hb : b = a
    · subst hb
      rw [upd_same] at q
      cases q
      exact ⟨⟨oe, he, hc, hdd, vs, hd⟩, ⟨oe, he⟩, fun h1 h2 ⟨ox, z1, z2⟩ k => ⟨ox, k _ z1, z2⟩⟩
    · rw [upd_ne hb] at q
      exact (I.hok b o q).stay (fun c v _ z => z) (fun c z => by rw [upd_ne (ne z)]; exact z) fun c xs z => by rw [upd_ne (ne z)]; exact z
theorem exg_at {P : Program} {w : World} {h : Heap} {e C : Addr} {d : Option Addr} (hok : HOk P w H h) (he : H e = some (exg e C d)) : ∃ ox : Obj, h.get? e = some ox ∧ ox.cls = .ref C ∧ ox.dict = d ∧ ∃ vs, ox.data = .fields vs := by
  have x : ObjOk P w H h e (.ext fun h => ∃ ox : Obj, h.get? e = some ox ∧ ox.cls = .ref C ∧ ox.dict = d ∧ ∃ vs, ox.data = .fields vs) := hok e _ he
  exact x.1
/-- what the clause wishes: every exception that comes is one of c, and is known in the suite -/
def wKp (K : PySem.W.Frag) (c : Value) (i : Nat) (ts : TS) (D : Ends) : WX := fun cls d σ H => ∃ C : Addr, cls = .ref C ∧ PySem.W.exmOne K cls c = some true ∧
  ∀ a, H a = none → ts { nx := fun σ' H' => D.nx (σ'.set i none) H', rt := D.rt, bk := fun σ' H' => D.bk (σ'.set i none) H', ct := fun σ' H' => D.ct (σ'.set i none) H' } (σ.set i (some (.ref a))) (upd H a (exg a C d))
variable {x n : Str} {c : Value} {i : Nat} {body suite : List Stmt} {b₀ : Stmt} {np pos pos' : Pos} {tb : WX → TS} {ts : TS}
theorem ps_try_kept (hs : X.stack = X.env :: X.outer) (hf : X.env.frame = some X.env.locals) (hex : X.ex = []) (hN : X.N.Nodup) (hi : X.N[i]? = some n) (hln : X.env.kindOf n = some .local) (hc : Names X x c)
    (hb : ∀ (W : WX) (pn : List (Addr × Obj)) (xe : Value → Shared → Prop), Takes (X.tr pn xe) W → PassesOwn (model X.prog X.w) X.A X.env xe → PSs (X.tr pn xe) body (tb W))
    (hsu : ∀ (a : Addr) (pn : List (Addr × Obj)), PSs (X.suite a pn) (b₀ :: suite) ts) :
    PS X (.Try body [.ExceptHandler (some (.Name x np)) (some n) (b₀ :: suite) pos'] [] [] pos) (fun D σ H => tb (wKp X.K c i ts D) D σ H) := by
  refine ⟨fun pins s σ H D I h => ?_⟩
  have ok := I.ok
  have frames : X.A.frames = some (X.env :: X.outer) := by rw [ok.frames, hs]
  have isLoc : Loc X.env.scope n := .inl hln
  refine wpAny_Try_except ?_
  refine wpAny_mono ((hb (wKp X.K c i ts D) (X.pn ++ pins) (fun e t1 => wpAny (model X.prog X.w) X.A (noteFrame e X.env) (fun _ t2 => wpAny (model X.prog X.w) X.A (setFlight e none) (fun _ t3 =>
    wpAny (model X.prog X.w) X.A (handleBy e X.env [.ExceptHandler (some (.Name x np)) (some n) (b₀ :: suite) pos']) (SP X pins D) X.xe t3) X.xe t2) X.xe t1) (fun u s' caught => ?_) PassesOwn.looking).run [] s σ H D (I.toTry _) h) (fun f s1 ended => ?_) (fun e s1 z => z)
  · obtain ⟨a, B, sI, pins', σ', H', cls, d, rfl, J', nb, up, sky, na, os, ag, C, rfl, hm, hyes⟩ := caught
    have J : Inv X pins σ' H' sI := J'.ofTry ok
    have sky' : Sky B (X.env :: X.outer) a (Zc (.ref C) d) X.env.locals s'.heap := by rw [← hs]; exact sky
    show wpAny (model X.prog X.w) X.A (noteFrame (.ref a) X.env) _ _ _
    refine Sky.land Zc.steady frames hf sky' fun h3 fl3 up3 => ?_
    have J3 : Inv X pins σ' H' { s' with heap := h3 } := J.landed nb fl3.1 (up.trans up3) os ag
    obtain ⟨oe3, vs3, he3, hz3, hd3⟩ := fl3.there
    have out : a ∉ frs (X.env :: X.outer) := fun z => by
      obtain ⟨_, o', e', hnf⟩ := fl3.2.2.1.mem z
      rw [he3] at e'
      cases e'
      exact hnf _ hd3
    have nL : a ≠ X.env.locals := fun z => out (List.mem_filterMap.mpr ⟨X.env, List.mem_cons_self, by rw [hf, z]⟩)
    have nF : a ∉ X.fs := fun z => by
      obtain ⟨e, he, q⟩ := List.mem_filterMap.mp z
      exact out (List.mem_filterMap.mpr ⟨e, List.mem_cons_of_mem _ he, q⟩)
    have nI : sI.heap.get? a = none := by
      cases z : sI.heap.get? a with
      | none => rfl
      | some o =>
        have z1 := nb a o z (by rw [hs]; exact out)
        rw [fl3.2.1] at z1
        cases z1
    have n0 : X.s_0.heap.get? a = none := by
      cases z : X.s_0.heap.get? a with
      | none => rfl
      | some o =>
        obtain ⟨o', z1⟩ := J.base.there a o z (by rw [hex]; simp)
        rw [nI] at z1
        cases z1
    have npn : ∀ p ∈ X.pn ++ pins, p.1 ≠ a := fun p hp z => by
      have z1 := (J.pin p hp).1
      rw [z, nI] at z1
      cases z1
    have S3 := J3.suite he3 hd3 na nL nF
    refine wpAny_handleBy_cons (codeAny_handlers_test ?_) (by intro q; cases q)
    have LT : PySem.W.Looks (model X.prog X.w) h3 (typeOf (.ref a)) (.ref C) := fun A Q E s k q => wpAny_typeOf_ref (k _ _ he3) (by rw [hz3.1]; exact q)
    have LM := PySem.W.exm_one (M := model X.prog X.w) (J3.kIn) LT hm
    have asked : ∀ {Q : Value → Shared → Prop} {E : Value → Shared → Prop}, Q c { s' with heap := h3 } → wpAny (model X.prog X.w) (X.A.mark (some (.ref a))) (eval (.Name x np) X.env) Q E { s' with heap := h3 } := fun {Q E} q => by
      obtain ⟨g1, g2, g3 | ⟨g3, g4, g5⟩⟩ := hc
      · exact ld_glob (X := X.suite a ((a, oe3) :: (X.pn ++ pins))) S3 g1 g3 q g2
      · exact ld_blt (X := X.suite a ((a, oe3) :: (X.pn ++ pins))) S3 g1 g3 g4 q g5 g2
    refine asked (LM.here ?_)
    refine codeAny_handlers_suite_as ?_
    refine HandSPX.lands_againZ fl3 fun h4 fl4 up4 => ?_
    have J4 : Inv X pins σ' H' { s' with heap := h4 } := J.landed nb fl4.1 ((up.trans up3).trans up4) os ag
    obtain ⟨oe4, vs4, he4, hz4, hd4⟩ := fl4.there
    have J5 := track J4 he4 hd4 hz4.1 hz4.2 na nL n0 npn
    have S5 : Inv (X.suite a (X.pn ++ pins)) [] σ' (upd H' a (exg a C d)) { s' with heap := h4 } := ⟨ok.suite _ _, J5.os, J5.bare, J5.base, J5.loc, J5.cell, J5.free, J5.freeC, fun p hp => J5.pin p (by rw [List.append_nil] at hp; exact hp), J5.hok, J5.len⟩
    refine store_ok (X := X.suite a (X.pn ++ pins)) (v := .ref a) S5 hN hi isLoc rfl (fun s6 S6 => ?_) (.inr hln)
    refine wpAny_mono ((hsu a (X.pn ++ pins)).run [] s6 _ _ _ S6 (hyes a na)) (fun f s7 ended => ?_) (fun _ _ z => False.elim z)
    have leave : ∀ {σ7 : L2.St} {H7 : Hp} {Q : Shared → Prop}, Inv (X.suite a (X.pn ++ pins)) [] σ7 H7 s7 → (∀ s8, Inv X pins (σ7.set i none) H7 s8 → Q s8) →
        wpAny (model X.prog X.w) X.A (do bindName X.env n .none; unbindBehindTheSuite X.env n pos') (fun _ s8 => Q s8) X.xe s7 := fun {σ7 H7 Q} S7 hq =>
      gone_ok ⟨ok, S7.os, S7.bare, S7.base, S7.loc, S7.cell, S7.free, S7.freeC, fun p hp => S7.pin p (by rw [List.append_nil]; exact hp), S7.hok, S7.len⟩ hN hi hln hq
    cases f with
    | next =>
      obtain ⟨σ7, H7, S7, q7⟩ := ended
      exact leave S7 fun s8 J8 => ⟨_, _, J8, q7⟩
    | brk =>
      obtain ⟨σ7, H7, S7, q7⟩ := ended
      exact leave S7 fun s8 J8 => ⟨_, _, J8, q7⟩
    | cont =>
      obtain ⟨σ7, H7, S7, q7⟩ := ended
      exact leave S7 fun s8 J8 => ⟨_, _, J8, q7⟩
    | ret u =>
      obtain ⟨v7, σ7, H7, S7, r7, q7⟩ := ended
      exact leave S7 fun s8 J8 => ⟨_, _, _, J8, r7, q7⟩
  · cases f with
    | next =>
      obtain ⟨σ1, H1, J1, q⟩ := ended
      exact wpAny_execs_nil ⟨σ1, H1, J1.ofTry ok, q⟩
    | brk =>
      obtain ⟨σ1, H1, J1, q⟩ := ended
      exact ⟨σ1, H1, J1.ofTry ok, q⟩
    | cont =>
      obtain ⟨σ1, H1, J1, q⟩ := ended
      exact ⟨σ1, H1, J1.ofTry ok, q⟩
    | ret u =>
      obtain ⟨v, σ1, H1, J1, r, q⟩ := ended
      exact ⟨v, σ1, H1, J1.ofTry ok, r, q⟩
end
end FL
set_option maxRecDepth 100000
set_option maxHeartbeats 4000000
namespace FL
open PySem PySem.Spec PyProof.Rows L2
/-! ### caught(lambda: e): None, or the exception that e raises -/
def TTc (K : PySem.W.Frag) (CS : Addr) : (XK → Hp → VK → Prop) → Hp → VK → Prop := fun tl H Q =>
  tl (fun cls d H' => ∃ C : Addr, cls = .ref C ∧ PySem.W.exmOne K cls (.ref CS) = some true ∧ ∀ b, H' b = none → Q (.ref b) (upd H' b (exg b C d))) H fun _ H' => Q .non H'
theorem takes_len {X : Cx} {W : WX} (tk : Takes X W) : Takes X (fun cls d σ H => σ.length = X.N.length → W cls d σ H) := fun u s' ⟨a, B, sI, pins, σ, H, cls, d, e, I, nb, up, sky, na, os, ag, w⟩ =>
  tk u s' ⟨a, B, sI, pins, σ, H, cls, d, e, I, nb, up, sky, na, os, ag, w I.len⟩
theorem caught_gives {X : Cx} {x a e q n fnd : Str} {sg : Scope} {g CS : Addr} {cdg : Value} {j : Nat} {p1 p2 p3 p4 p5 p6 p7 p8 p9 p10 p11 p12 p13 p14 : Pos} (hnd : [a, fnd, n].Nodup) (hge : sg.names.lookup e = some .globalImplicit) (hme : X.mg e = some (.ref CS)) (hde : (e == ("__debug__" : Str)) = false)
    (hf : sg.names.lookup fnd = some .local) (hn : sg.names.lookup n = some .local) (hd1 : (fnd == ("__debug__" : Str)) = false) (hd2 : (fnd == ("__classdict__" : Str)) = false) (hd3 : (n == ("__debug__" : Str)) = false) (hd4 : (n == ("__classdict__" : Str)) = false)
    (s1 : ∀ env : Env, swapsWithSole [.Name fnd p1] (.Constant .none j p2) p3.line env = pure false := by intros; rfl) (s2 : ∀ env : Env, swapsWithSole [.Name fnd p8] (.Name n p9) p10.line env = pure false := by intros; rfl) (s3 : ∀ env : Env, swapsWith (.Call (.Name a p4) [] [] p5) none p6.line env = pure false := by intros; rfl) :
    LamX.GivesTo X [a, fnd, n] x sg g cdg [.Assign [.Name fnd p1] (.Constant .none j p2) p3, .Try [.Expr (.Call (.Name a p4) [] [] p5) p6] [.ExceptHandler (some (.Name e p7)) (some n) [.Assign [.Name fnd p8] (.Name n p9) p10] p11] [] [] p12, .Return (some (.Name fnd p13)) p14] a q (TTc X.K CS) := by
  intro f c' s H Q tl act hc h
  have e1 : PE (cxOf C8.CX0 X.prog X.w X.K X.mg X.base [a, fnd, n] x sg g cdg X.A X.stack s H C8.E0).nox (.Constant .none j p2) (tC .non) := pe_non
  refine ⟨_, pss_cons (ps_asg (X := (cxOf C8.CX0 X.prog X.w X.K X.mg X.base [a, fnd, n] x sg g cdg X.A X.stack s H C8.E0).nox) e1 (pg_name (i := 1) hnd rfl (.inl hf) (.inl rfl)) (s1 _) rfl rfl)
    (pss_cons (ps_try_kept (X := (cxOf C8.CX0 X.prog X.w X.K X.mg X.base [a, fnd, n] x sg g cdg X.A X.stack s H C8.E0).nox) (i := 2) (c := .ref CS)
      (tb := fun W D σ H => ∃ Ech : XK, (∀ cls d σ' H', σ'.length = 3 → Ech cls d H' → W cls d σ' H') ∧ σ[0]? = some (some (.ref f)) ∧ H c' = some (LamX.CodeO c' q) ∧ tl Ech H fun _ H' => D.nx σ H')
      rfl rfl rfl hnd rfl hn ⟨hge, hde, .inl hme⟩ (fun W pn xe tk _ => ?_)
      (fun b pn => pss_one (ps_asg (X := ((cxOf C8.CX0 X.prog X.w X.K X.mg X.base [a, fnd, n] x sg g cdg X.A X.stack s H C8.E0).nox).suite b pn) (pe_var (i := 2) rfl (.inl hn) hd3 hd4) (pg_name (i := 1) hnd rfl (.inl hf) (.inl rfl)) (s2 _) rfl rfl)))
      (pss_one (ps_ret (pe_var (X := (cxOf C8.CX0 X.prog X.w X.K X.mg X.base [a, fnd, n] x sg g cdg X.A X.stack s H C8.E0).nox) (i := 1) rfl (.inl hf) hd1 hd2)))), ?_⟩
  · refine ⟨fun pins s' σ H' D I h' => ?_⟩
    obtain ⟨Ech, hW, h1, h2, h3⟩ := h'
    have hp := act (fun cls d σ H => σ.length = 3 → W cls d σ H) pn xe Ech p4 p5 (takes_len tk) fun cls d σ' H' z l => hW cls d σ' H' l z
    exact (pss_one (ps_expr (pos := p6) hp (s3 _))).run pins s' σ H' D I ⟨h1, h2, h3⟩
  · refine ⟨fun cls d H' => ∃ C : Addr, cls = .ref C ∧ PySem.W.exmOne X.K cls (.ref CS) = some true ∧ ∀ b, H' b = none → Q (.ref b) (upd H' b (exg b C d)), fun cls d σ' H' hl ⟨C, z1, z2, z3⟩ => ⟨C, z1, z2, fun b nb => ?_⟩, rfl, hc, ?_⟩
    · match σ', hl with
      | [u0, u1, u2], _ => exact ⟨.ref b, rfl, .ref b, rfl, z3 b nb⟩
    · have e0 : (fun (_ : V) (H' : Hp) => ∃ v, (some (some V.non) : Option (Option V)) = some (some v) ∧ Q v H') = fun _ H' => Q .non H' := by
        funext _ H'
        exact propext ⟨fun ⟨v, z1, z2⟩ => by cases z1; exact z2, fun z => ⟨_, rfl, z⟩⟩
      show tl _ H (fun (_ : V) (H' : Hp) => ∃ v, (some (some V.non) : Option (Option V)) = some (some v) ∧ Q v H')
      rw [e0]
      exact h
section
variable {ω : Type} {X : Cx} {W : Wd ω} {E : XK}
end
end FL
set_option maxRecDepth 100000
set_option maxHeartbeats 4000000
namespace FL
open PySem PySem.Spec PyProof.Rows L2
/-! ### caught(lambda: e) in a def whose table of code objects is the world's -/
section
variable {X : Cx} {pins : List (Addr × Obj)} {σ : L2.St} {H : Hp} {s : Shared}
abbrev lamQ (X : Cx) : Str := X.env.qual ++ "<lambda>"
/-- a lambda is made: nothing but the table at P is touched -/
theorem lam_made {T : List (Addr × Str)} {c P : Addr} {pr : Arguments} {lb : Expr} {sc : Scope} {lp : Pos} {E Q : Value → Shared → Prop} (I : Inv X pins σ H s) (TB : LamX.TabB X.base X.mg c P) (hco : X.env.code = .ref c)
    (hm : (P, lamQ X) ∈ T) (hu : ∀ p ∈ T, p.1 = P → p.2 = lamQ X) (hT : LamX.Tabs T H) (hdf : defaultsOf pr X.env = ([], [])) (hfr : ∀ y ∈ sc.names, y.2 = .free → ∃ c, X.env.cells.lookup y.1 = some c)
    (h : ∀ (f c' : Addr) (pm ctv : Value) (H1 : Hp) (s' : Shared), Inv X pins σ H1 s' → (∀ b o, b ≠ P → H b = some o → H1 b = some o) → LamX.Tabs T H1 →
      s'.heap.get? f = some (PySem.W.kla_obj "<lambda>" (lamQ X) pr lb sc (cloFrom X.env.cells sc.names []) pm c' ctv) → H1 f = none → f ∉ frs X.stack → H1 c' = some (LamX.CodeO c' (lamQ X)) → Q (.ref f) s') :
    wpAny (model X.prog X.w) X.A (eval (.Lambda pr lb sc lp) X.env) Q E s := by
  obtain ⟨ps, tabP, trip, amg⟩ := hT _ hm
  refine PySem.W.kla_eval hdf ?_
  have blP : s.heap.BuiltinsAt X.mg P := TB.bm.keeps I.bk
  have atP : s.heap.get? P = some { cls := .none, data := .fields ps } := I.hok P _ tabP
  have unfr : ∀ f, s.heap.objs.size ≤ f → f ∉ frs X.stack := fun f hf z => by
    rcases List.mem_cons.mp (I.stkSub _ z) with e | e
    · have := I.lt
      rw [← e] at this
      exact absurd hf (Nat.not_le_of_lt this)
    · exact I.nofs hf e
  cases known : codeAmong lp ps.toList with
  | some cv =>
    obtain ⟨c0, e, hc0⟩ := amg lp cv known
    subst e
    refine PySem.W.kla_makeFunctionHit (mg := X.mg) (c := c) (P := P) (ps := ps) (closure_ok hfr) I.ok.glob (I.mod.glob.keeps I.bk) hco (TB.code.keeps I.bk) atP trip known blP fun ctv h' tk old size => ?_
    have I2 := I.kept (h' := h'.push (PySem.W.kla_obj "<lambda>" (lamQ X) pr lb sc (cloFrom X.env.cells sc.names []) ((X.mg "__name__").getD .none) c0 ctv)) (t' := tk) fun b o e => Heap.get?_push_of_some _ (old b o e)
    exact h h'.objs.size c0 ((X.mg "__name__").getD .none) ctv H _ I2 (fun _ _ _ e => e) hT (Heap.get?_push_size _ rfl) (I.hok.fresh size) (unfr _ size) hc0
  | none =>
    refine PySem.W.kla_makeFunction (mg := X.mg) (c := c) (P := P) (ps := ps) (closure_ok hfr) I.ok.glob (I.mod.glob.keeps I.bk) hco (TB.code.keeps I.bk) atP trip known TB.gP blP fun c0 ctv h' tk old above below rec_ tab => ?_
    obtain ⟨c1, oc, vs, t, e, objc, datc, namc⟩ := rec_
    cases e
    have size : s.heap.objs.size ≤ h'.objs.size := Nat.le_trans above (Nat.le_of_lt below)
    have noC : H c0 = none := I.hok.fresh above
    have I2 := LamX.inv_table (t' := tk) (more := #[rawInt lp.line, rawInt lp.col, .ref c0]) (h' := h'.push (PySem.W.kla_obj "<lambda>" (lamQ X) pr lb sc (cloFrom X.env.cells sc.names []) ((X.mg "__name__").getD .none) c0 ctv)) I tabP
      (fun b o nb e => Heap.get?_push_of_some _ (old b o nb e)) (Heap.get?_push_of_some _ tab) above ⟨oc, vs, t, Heap.get?_push_of_some _ objc, datc, namc⟩
    have stay : ∀ b o, b ≠ P → H b = some o → (upd (upd H P (.tbl (ps ++ #[rawInt lp.line, rawInt lp.col, .ref c0]))) c0 (LamX.CodeO c0 (lamQ X))) b = some o := fun b o nb e => by
      rw [upd_ne (ne_of_none e noC), upd_ne nb]
      exact e
    have codes : ∀ b q, H b = some (LamX.CodeO b q) → (upd (upd H P (.tbl (ps ++ #[rawInt lp.line, rawInt lp.col, .ref c0]))) c0 (LamX.CodeO c0 (lamQ X))) b = some (LamX.CodeO b q) := fun b q e => stay b _ (fun z => by
      rw [z, tabP] at e
      exact LamX.codeO_ne ps (Option.some.inj e).symm) e
    have asList : (ps ++ #[rawInt lp.line, rawInt lp.col, .ref c0]).toList = ps.toList ++ [rawInt lp.line, rawInt lp.col, .ref c0] := by simp
    refine h h'.objs.size c0 ((X.mg "__name__").getD .none) ctv _ _ I2 stay (fun p hp => ?_) (Heap.get?_push_size _ rfl) ?_ (unfr _ size) upd_same
    · by_cases same : p.1 = P
      · rw [hu p hp same, same]
        refine ⟨_, by rw [upd_ne (ne_of_none tabP noC), upd_same], by rw [asList]; exact PySem.TriplesOk_snoc _ _ _ _ trip, fun p' cv hcv => ?_⟩
        rw [asList] at hcv
        rcases LamX.among_app _ trip hcv with z | z
        · obtain ⟨c2, e1, e2⟩ := amg p' cv z
          exact ⟨c2, e1, codes _ _ e2⟩
        · exact ⟨c0, z, upd_same⟩
      · obtain ⟨qs, a1, a2, a3⟩ := hT p hp
        refine ⟨qs, stay _ _ same a1, a2, fun p' cv hcv => ?_⟩
        obtain ⟨c2, e1, e2⟩ := a3 p' cv hcv
        exact ⟨c2, e1, codes _ _ e2⟩
    · rw [upd_ne (Nat.ne_of_gt below), upd_ne (Nat.ne_of_gt (Nat.lt_of_lt_of_le (Heap.lt_size atP) size))]
      exact I.hok.fresh size
def tLam2 (T : List (Addr × Str)) (P : Addr) (TT : (XK → Hp → VK → Prop) → Hp → VK → Prop) (t : XK → TE) : TE := fun σ H Q => LamX.Tabs T H ∧ ∀ H1, (∀ b o, b ≠ P → H b = some o → H1 b = some o) → LamX.Tabs T H1 → TT (fun E H' Q' => t E σ H' Q') H1 Q
theorem pe_lamcall2 {T : List (Addr × Str)} {TT : (XK → Hp → VK → Prop) → Hp → VK → Prop} {x a : Str} {g c P : Addr} {k : Nat} {pg : Arguments} {bg : List Stmt} {sg : Scope} {dV kV doc pm cdv ct oc : Value} {an od : Option Addr} {osl : Array (Option Value)} {Ng : List Str}
    {pr : Arguments} {lb : Expr} {sc : Scope} {t : XK → TE} {p lp pos : Pos} (hg : Gl X x) (hm : X.mg x = some (.ref g)) (hk : PySem.W.keepIn X.K (.ref g) = true)
    (lk : X.K.lookup g = some ⟨oc, od, .func (PySem.W.fnOf x x pg bg sg dV kV doc pm an cdv ct), osl⟩) (hcg : PySem.W.codeIn X.K cdv x = true) (hb : L2.Binds X.K (PySem.W.fnOf x x pg bg sg dV kV doc pm an cdv ct) [a] []) (Sg : FnScope Ng [a] sg) (hNg : Ng[0]? = some a) (hva : Vis sg a)
    (hG : LamX.GivesTo X Ng x sg g cdv bg a (lamQ X) TT) (TB : LamX.TabB X.base X.mg c P) (hco : X.env.code = .ref c) (hmT : (P, lamQ X) ∈ T) (hu : ∀ p ∈ T, p.1 = P → p.2 = lamQ X) (hr : Room (k + 2) X.A) (L : LamX.LamS X.env.scope sc) (hdf : defaultsOf pr X.env = ([], []))
    (hbind : ∀ (q : Str) (cl : List (Str × Addr)) (pm cv ctv : Value), bindArgs (PySem.W.kla_fn "<lambda>" q pr lb sc cl pm cv ctv) ⟨[], []⟩ = pure [])
    (hbody : ∀ (A : Around) (outer : List Env) (s : Shared) (H : Hp) (E : XK) (f c' : Addr), Room k (A.deeper (LamX.lamEnv X sc s.heap.objs.size f c')) → PE (LamX.lamCx X A outer s H E sc f c') lb (t E))
    (hdb : (x == ("__debug__" : Str)) = false := by decide) (hd : (a == ("__debug__" : Str)) = false := by decide) (hcd : (a == ("__classdict__" : Str)) = false := by decide) :
    PE X (.Call (.Name x p) [.Lambda pr lb sc lp] [] pos) (tLam2 T P TT t) := by
  refine ⟨fun pins s σ H Q I ⟨hT, h⟩ => ?_⟩
  refine wpAny_Call_Name_kw (ld_glob I hg hm ?_ hdb)
  refine PySem.W.callWith_K (h₀ := X.base) I.ok.mod.kin hk ?_ (by rfl) (by rfl)
  show wpAny _ _ (spliced ((false, eval (.Lambda pr lb sc lp) X.env) :: backTo pos (starEach [] X.env))) _ _ s
  refine Calls.spliced_cons (lam_made I TB hco hmT hu hT hdf (L.has I.ok) fun f c' pm' ctv H1 s1 I1 stay T1 objf nof notfr code => ?_)
  refine Calls.spliced_nil ⟨I1.kIn, ?_⟩
  have run : codeAny (model X.prog X.w) X.A (.call (.ref g) ⟨[.ref f], []⟩) (CR C8.CX0 X.stack X.prog X.w H1 s1 Q C8.E0) s1 := by
    refine LamX.run_ofS (N := Ng) (ps := [a]) (us := [.ref f]) (vs := [.ref f]) lk hcg Sg hr I1.env0 (hb s1 [.ref f] I1.kIn rfl) (.cons rfl .nil) rfl fun hr' => ?_
    obtain ⟨tt, htt, hqq⟩ := hG f c' s1 H1 Q (fun E H' Q' => t E σ H' Q') (fun W pn xe E p1 p2 tk hW => LamX.pe_act (i := 0) I1 L objf nof notfr (hbind _ _ _ _ _) tk hW hr' (fun A outer s H hr2 => hbody A outer s H E f c' hr2) hNg hva hd hcd) code (h H1 stay T1)
    exact ⟨tt, htt.nox, hqq⟩
  refine wpAny_call (codeAny_mono run fun r s2 hq => ?_)
  cases r with
  | error e => exact (show False from hq).elim
  | ok fl =>
    cases fl with
    | ret u => exact I1.after hq
    | next => exact False.elim hq
    | brk => exact False.elim hq
    | cont => exact False.elim hq
end
def excD (e : Er) : D := match e.fld with
  | none => .exc e.cls [] []
  | some (f, d) => .exc e.cls [f] [d]
def mCaught {ω : Type} (oks : List Str) (me : M ω D) : M ω D := fun ρ w => match me (hidE [] 0 ρ) w with
  | some (.ok _ _ w') => some (.ok .non ρ w')
  | some (.er e w') => if oks.contains e.cls = true then some (.ok (excD e) ρ w') else none
  | none => none
/-- the classes oks stand below the class that the clause names -/
structure CatchF (K : PySem.W.Frag) (mg : Str → Option Value) (sup : Str) (oks : List Str) : Prop where
  ex : ∃ CS, mg sup = some (.ref CS) ∧ ∀ c ∈ oks, ∃ C, mg c = some (.ref C) ∧ PySem.W.exmOne K (.ref C) (.ref CS) = some true
theorem hidE_nil : ∀ (n : Nat) (ρ : Ev), hidE [] n ρ = ρ.map hidO
  | _, [] => rfl
  | n, o :: ρ => by
    unfold hidE
    rw [hidE_nil (n + 1) ρ]
    rfl
theorem tLam_of {X : Cx} {pd : DP} {E : XK} {P CS : Addr} {oks : List Str} {me : M DS D} (hP : ∃ q, (P, q) ∈ pd.T) (hok : ∀ c ∈ oks, ∃ C, X.mg c = some (.ref C) ∧ PySem.W.exmOne X.K (.ref C) (.ref CS) = some true) (σ : L2.St) (H : Hp) (Q : VK)
    (h : gOf (CD X pd) (DW pd) E (rD (CD X pd)) (mCaught oks me) σ H Q) : tLam2 pd.T P (TTc X.K CS) (fun E' => gOf (CD X pd) (DW pd) E' (rD (CD X pd)) me) σ H Q := by
  obtain ⟨Ht, ρ, w, fp, e, r, h⟩ := h
  refine ⟨r.2.2.2.2.2.2.2, fun H1 stay T1 => ?_⟩
  obtain ⟨q0, hP⟩ := hP
  have hPf : (DW pd).fp P := .inr (.inr (.inr (List.mem_map.mpr ⟨_, hP, rfl⟩)))
  have nP : Ht P = none := e.wout P hPf
  obtain ⟨ps0, tP, _⟩ := r.2.2.2.2.2.2.2 _ hP
  obtain ⟨ps1, tP1, _⟩ := T1 _ hP
  have ofp : ∀ i a, a ∈ fp i → a ≠ P := fun i a ha z => (e.out i a ha).2.1 (by rw [z]; exact hPf)
  have keep : ∀ a, H1 a = none → H a = none := fun a z => by
    cases y : H a with
    | none => rfl
    | some o =>
      by_cases ha : a = P
      · rw [ha, tP1] at z
        cases z
      · rw [stay a o ha y] at z
        cases z
  have sub : Same Ht H1 := fun a x z => stay a x (fun y => by rw [y, nP] at z; cases z) (e.sub a x z)
  have e1 : EnvO (CD X pd) (DW pd) Ht H1 ρ σ fp := ⟨sub, e.len, fun i o z => by
      obtain ⟨v, z1, z2⟩ := e.slot i o z
      exact ⟨v, z1, Ow.imp (Same.refl _) (fun a x ha y => stay a x (ofp i a ha) y) z2⟩, fun i a ha => ⟨(e.out i a ha).1, (e.out i a ha).2.1, fun z => (e.out i a ha).2.2 (keep a z)⟩, e.one, e.wout⟩
  have s1 : Stp (DW pd) Ht H fp Ht H1 := ⟨fun a x z1 z2 z3 => stay a x (fun y => z1 (by rw [y]; exact hPf)) z3, Same.refl _, sub, fun a z => .inl z, keep⟩
  have r1 : (DW pd).rel H1 w := by
    obtain ⟨z1, z2, z3, z4, z5, z6, z7, _⟩ := r
    have ne : ∀ {a : Addr} {u : HO}, H a = some u → (∀ ps, u ≠ .tbl ps) → a ≠ P := fun {a u} y hu z => by
      rw [z, tP] at y
      exact hu _ (Option.some.inj y).symm
    exact ⟨stay _ _ (ne z1 fun _ z => by cases z) z1, stay _ _ (ne z2 fun _ z => by cases z) z2, stay _ _ (ne z3 fun _ z => by cases z) z3, z4, z5, z6, z7, T1⟩
  have eh := e1.hide []
  refine ⟨Ht, hidE [] 0 ρ, w, noF, eh, r1, ?_⟩
  unfold mCaught at h
  cases q : me (hidE [] 0 ρ) w with
  | none =>
    rw [q] at h
    exact h
  | some rr =>
    rw [q] at h
    cases rr with
    | ok d ρ2 w2 =>
      intro v H2 Ht2 fp2 _ s2 _ r2 _
      obtain ⟨e3, s3⟩ := e1.pure r1 s2
      exact h .non H2 Ht2 fp e3 (s1.trans OwnS.refl s3) OwnS.refl r2 rfl
    | er er w2 =>
      have h' : At (CD X pd) (DW pd) E (rD (CD X pd)) (if oks.contains er.cls = true then some (.ok (excD er) ρ w2) else none) Ht H fp σ Q := h
      split at h'
      · rename_i hc
        intro cls dx H2 Ht2 s2 r2 ⟨Ca, m1, m2, m3⟩
        subst m2
        obtain ⟨C1, c1, c2⟩ := hok er.cls (by simpa using hc)
        have m1' : X.mg er.cls = some (.ref Ca) := m1
        rw [c1] at m1'
        cases m1'
        refine ⟨Ca, rfl, c2, fun b nb => ?_⟩
        obtain ⟨e3, s3⟩ := e1.pure r1 s2
        obtain ⟨e4, s4⟩ := alloc_env (o := exg b Ca dx) e3 r2 nb
        refine h' (.ref b) _ _ fp e4 (s1.trans OwnS.refl (s3.trans OwnS.refl s4)) OwnS.refl (rel_upd r2 nb) ?_
        unfold excD
        cases hf : er.fld with
        | none =>
          rw [hf] at m3
          exact ⟨b, Ca, dx, [], rfl, c1, upd_same, .inl ⟨rfl, rfl, m3⟩, rfl, rfl⟩
        | some fd =>
          obtain ⟨f, d⟩ := fd
          rw [hf] at m3
          obtain ⟨ax, v, y1, y2, y3⟩ := m3
          have nab : ax ≠ b := fun z => by
            rw [z, none_of_sub e3.sub nb] at y2
            cases y2
          exact ⟨b, Ca, dx, [v], rfl, c1, upd_same, .inr ⟨ax, y1, by rw [upd_ne nab]; exact y2⟩, rfl, v, [], rfl, Rz.mono s4.th y3, rfl⟩
      · exact h'.elim
/-- a def that calls what it got and gives the exception, as it stands in the text -/
structure CauC (K : PySem.W.Frag) (mg : Str → Option Value) (x : Str) (oks : List Str) : Prop where
  ex : ∃ (g CS : Addr) (fd : FuncData) (a e n fnd : Str) (ag : Arguments) (bg : List Stmt) (sg : Scope) (j : Nat) (p1 p2 p3 p4 p5 p6 p7 p8 p9 p10 p11 p12 p13 p14 : Pos), mg x = some (.ref g) ∧ FunD K x x ag bg sg [] [] g fd ∧ L2.Binds K fd [a] [] ∧ FnScope [a, fnd, n] [a] sg ∧
    bg = [.Assign [.Name fnd p1] (.Constant .none j p2) p3, .Try [.Expr (.Call (.Name a p4) [] [] p5) p6] [.ExceptHandler (some (.Name e p7)) (some n) [.Assign [.Name fnd p8] (.Name n p9) p10] p11] [] [] p12, .Return (some (.Name fnd p13)) p14] ∧
    mg e = some (.ref CS) ∧ (∀ c ∈ oks, ∃ C, mg c = some (.ref C) ∧ PySem.W.exmOne K (.ref C) (.ref CS) = some true) ∧
    [a, fnd, n].Nodup ∧ sg.names.lookup e = some .globalImplicit ∧ (e == ("__debug__" : Str)) = false ∧ sg.names.lookup a = some .local ∧ sg.names.lookup fnd = some .local ∧ sg.names.lookup n = some .local ∧
    (fnd == ("__debug__" : Str)) = false ∧ (fnd == ("__classdict__" : Str)) = false ∧ (n == ("__debug__" : Str)) = false ∧ (n == ("__classdict__" : Str)) = false ∧ (a == ("__debug__" : Str)) = false ∧ (a == ("__classdict__" : Str)) = false ∧
    (∀ env : Env, swapsWithSole [.Name fnd p1] (.Constant .none j p2) p3.line env = pure false) ∧ (∀ env : Env, swapsWithSole [.Name fnd p8] (.Name n p9) p10.line env = pure false) ∧ (∀ env : Env, swapsWith (.Call (.Name a p4) [] [] p5) none p6.line env = pure false)
/-- what a def with lambdas knows of its code and its table -/
structure TabC (base : Heap) (mg : Str → Option Value) (T : List (Addr × Str)) (q : Str) (cdv : Value) : Prop where
  ex : ∃ c P, cdv = .ref c ∧ LamX.TabB base mg c P ∧ (P, q ++ ".<locals>." ++ "<lambda>") ∈ T ∧ ∀ p ∈ T, p.1 = P → p.2 = q ++ ".<locals>." ++ "<lambda>"
theorem fe_caught {X : Cx} {pd : DP} {E : XK} {x q : Str} {oks : List Str} {k : Nat} {pr : Arguments} {lb : Expr} {sc : Scope} {p lp pos : Pos} {me : M DS D} (F : CauC X.K X.mg x oks) (hg : Gl X x) (TC : TabC X.base X.mg pd.T q X.env.code) (hq : X.env.qual = q ++ ".<locals>.") (hr : Room (k + 2) X.A) (L : LamX.LamS X.env.scope sc)
    (hbody : ∀ (A : Around) (outer : List Env) (s : Shared) (H : Hp) (E : XK) (f c' : Addr), Room k (A.deeper (LamX.lamEnv X sc s.heap.objs.size f c')) → PE (LamX.lamCx X A outer s H E sc f c') lb (gOf (CD X pd) (DW pd) E (rD (CD X pd)) me))
    (hdf : defaultsOf pr X.env = ([], []) := by rfl) (hbind : ∀ (q : Str) (cl : List (Str × Addr)) (pm cv ctv : Value), bindArgs (PySem.W.kla_fn "<lambda>" q pr lb sc cl pm cv ctv) ⟨[], []⟩ = pure [] := by intros; rfl)
    (hdb : (x == ("__debug__" : Str)) = false := by decide) : PE X (.Call (.Name x p) [.Lambda pr lb sc lp] [] pos) (gOf (CD X pd) (DW pd) E (rD (CD X pd)) (mCaught oks me)) := by
  obtain ⟨g, CS, fd, a, e, n, fnd, ag, bg, sg, j, p1, p2, p3, p4, p5, p6, p7, p8, p9, p10, p11, p12, p13, p14, h1, h2, h3, h4, h5, h6, h7, h8, h9, h10, h11, h12, h13, h14, h15, h16, h17, h18, h19, h20, h21, h22⟩ := F.ex
  obtain ⟨oc, od, dV, kV, doc, pm, an, cdv, ct, osl, rfl, lk, hcd, _, _⟩ := h2.ex
  obtain ⟨c, P, t1, t2, t3, t4⟩ := TC.ex
  subst h5
  have eq : X.env.qual ++ "<lambda>" = q ++ ".<locals>." ++ "<lambda>" := by rw [hq]
  refine PE.imp (pe_lamcall2 (T := pd.T) (P := P) (c := c) (TT := TTc X.K CS) (t := fun E' => gOf (CD X pd) (DW pd) E' (rD (CD X pd)) me) hg h1 h2.kp lk hcd h3 h4 rfl (.inl h11) (caught_gives h8 h9 h6 h10 h12 h13 h14 h15 h16 h17 h20 h21 h22) t2 t1 ?_ ?_ hr L hdf hbind hbody hdb h18 h19) fun σ H Q h => tLam_of ⟨_, t3⟩ h7 σ H Q h
  · show (P, X.env.qual ++ "<lambda>") ∈ pd.T
    rw [eq]
    exact t3
  · intro p hp e
    show p.2 = X.env.qual ++ "<lambda>"
    rw [eq]
    exact t4 p hp e
end FL
set_option maxRecDepth 100000
set_option maxHeartbeats 4000000
namespace FL
open PySem PySem.Spec PyProof.Rows L2
/-! ### a caught exception: isinstance, its field -/
structure ExcK (K : PySem.W.Frag) (C : Addr) : Prop where
  xf : XfC K C
  cl : (PySem.W.clsIn K C).isSome = true
  ca : PySem.W.findIn K (.ref C) "__class__" = some (some (.builtin "object.__class__"))
  cn : PySem.W.specialIn K (.builtin "object.__class__") "__get__" = some (some (.builtin "getset_descriptor.__get__"))
  ct : PySem.W.takesIn K (.builtin "object.__class__") = some true
  cm : PySem.W.mroIn K C (.type "object") = some true
section
variable {X : Cx} {pins : List (Addr × Obj)} {σ : L2.St} {H : Hp} {s : Shared}
theorem exc_inst {a C : Addr} {d : Option Addr} (I : Inv X pins σ H s) (h : H a = some (exg a C d)) (hd : d = none ∨ ∃ dx fs, d = some dx ∧ H dx = some (.xd fs)) : ∃ ox od, PySem.W.InstAt s.heap a ox C od := by
  obtain ⟨ox, h1, h2, h3, vs, h4⟩ := exg_at I.hok h
  rcases hd with hd | ⟨dx, fs, hd, hx⟩
  · exact ⟨ox, none, h1, h2, by unfold PySem.W.notCls; rw [h4] <;> rfl, by rw [h3, hd]; trivial⟩
  · have hx : ObjOk X.prog X.w H s.heap dx (.xd fs) := I.hok dx _ hx
    obtain ⟨mA, hns, hr⟩ := hx
    obtain ⟨od, ho, hl⟩ := lookIn_ns hns
    exact ⟨ox, some od, h1, h2, by unfold PySem.W.notCls; rw [h4] <;> rfl, by rw [h3, hd]; exact ho⟩
def rIsE (K : PySem.W.Frag) : List V → Hp → VK → Prop := fun vs H Q => ∃ (a C : Addr) (d : Option Addr) (c : V) (u : Value) (b : Bool), vs = [.ref a, c] ∧ ClsV c u ∧ H a = some (exg a C d) ∧ (d = none ∨ ∃ dx fs, d = some dx ∧ H dx = some (.xd fs)) ∧ ExcK K C ∧ PySem.W.kitOne K (.ref C) u = some b ∧ Q (.bl b) H
theorem call_isE : CallR X (.builtin "isinstance") (rIsE X.K) := by
  intro pins s σ H xs us Q I r h
  obtain ⟨a, C, d, c, u, b, rfl, k, h1, h2, T, e, q⟩ := h
  obtain ⟨u1, u2, rfl, r1, r2⟩ := vals2 r
  obtain rfl : u1 = Value.ref a := r1
  have e2 := k.eq r2
  subst e2
  obtain ⟨ox, od, J⟩ := exc_inst I h1 h2
  exact PySem.W.kia_one (PySem.W.kitx_exc T.cl T.xf.ga T.xf.gg T.xf.exC T.ca T.cn T.ct T.cm) I.kIn J e (fun z => nomatch z) fun tk => ⟨.bl b, H, I.tok tk, rfl, q⟩
theorem CallR.or {f : Value} {r1 r2 : List V → Hp → VK → Prop} (h1 : CallR X f r1) (h2 : CallR X f r2) : CallR X f (fun vs H Q => r1 vs H Q ∨ r2 vs H Q) := fun pins s σ H xs us Q I r h => h.elim (h1 pins s σ H xs us Q I r) (h2 pins s σ H xs us Q I r)
end
/-- isinstance(x, c), c an exception class: yes, no the classes that stand below it or do not -/
def D.isiE (c : Str) (yes no : List Str) : List D → Option D
  | [d, .gl x] => if x = c then (match d with
    | .exc k _ _ => if yes.contains k = true then some (.bl true) else if no.contains k = true then some (.bl false) else none
    | d => match d.tyN with
      | some _ => some (.bl false)
      | none => none) else none
  | _ => none
structure ClsE (K : PySem.W.Frag) (mg : Str → Option Value) (c : Str) (yes no : List Str) : Prop where
  ex : ∃ Ca, mg c = some (.ref Ca) ∧ (∀ t ∈ (["NoneType", "bool", "int", "str", "tuple", "list", "dict"] : List String), PySem.W.kitOne K (.type t) (.ref Ca) = some false) ∧
    (∀ k ∈ yes, ∃ Ck, mg k = some (.ref Ck) ∧ ExcK K Ck ∧ PySem.W.kitOne K (.ref Ck) (.ref Ca) = some true) ∧ ∀ k ∈ no, ∃ Ck, mg k = some (.ref Ck) ∧ ExcK K Ck ∧ PySem.W.kitOne K (.ref Ck) (.ref Ca) = some false
section
variable {ω : Type} {X : Cx} {C : Cc} {W : Wd ω} {E : XK}
theorem exc_rd {H Hs : Hp} {c : Str} {ns : List Str} {ds : List D} {v : V} (s : Same H Hs) (h : Rz C H (.exc c ns ds) v) : ∃ a Ca d vs, v = .ref a ∧ C.mg c = some (.ref Ca) ∧ Hs a = some (exg a Ca d) ∧ (d = none ∨ ∃ dx fs, d = some dx ∧ Hs dx = some (.xd fs)) ∧ ((ns = [] ∧ vs = []) ∨ ∃ dx, d = some dx ∧ Hs dx = some (.xd (ns.zip vs))) ∧ ns.length = vs.length ∧ RzL C H ds vs := by
  obtain ⟨a, Ca, d, vs, h1, h2, h3, h4, h5, h6⟩ := h
  refine ⟨a, Ca, d, vs, h1, h2, s _ _ h3, ?_, ?_, h5, h6⟩
  · rcases h4 with ⟨_, _, z⟩ | ⟨dx, z1, z2⟩
    · exact .inl z
    · exact .inr ⟨dx, _, z1, s _ _ z2⟩
  · rcases h4 with ⟨z1, z2, _⟩ | ⟨dx, z1, z2⟩
    · exact .inl ⟨z1, z2⟩
    · exact .inr ⟨dx, z1, s _ _ z2⟩
theorem cs_isiE {c : Str} {yes no : List Str} (T : ClsE C.K C.mg c yes no) (hK : X.K = C.K) : CallS C W E (fun vs H Q => rIsi X.K vs H Q ∨ rIsE X.K vs H Q) (pu1 (D.isiE c yes no)) := cs_pu fun ds d vs Ht H Q s ra q k => by
  obtain ⟨Ca, hm, hb, hy, hn⟩ := T.ex
  unfold D.isiE at q
  split at q
  · rename_i d0 x
    split at q
    · rename_i hx
      subst hx
      obtain ⟨v, u, rfl, h1, f, rfl, hf⟩ := rzl2 ra
      rw [hm] at hf
      cases hf
      split at q
      · rename_i kx ns es
        obtain ⟨a, Ck, dx, us, rfl, g1, g2, g3, _, _, _⟩ := exc_rd s h1
        split at q
        · rename_i hk
          cases q
          obtain ⟨C2, z1, z2, z3⟩ := hy kx (by simpa using hk)
          rw [g1] at z1
          cases z1
          exact .inr ⟨a, _, dx, .ref Ca, .ref Ca, true, rfl, .own Ca, g2, g3, by rw [hK]; exact z2, by rw [hK]; exact z3, k _ rfl⟩
        · split at q
          · rename_i hk
            cases q
            obtain ⟨C2, z1, z2, z3⟩ := hn kx (by simpa using hk)
            rw [g1] at z1
            cases z1
            exact .inr ⟨a, _, dx, .ref Ca, .ref Ca, false, rfl, .own Ca, g2, g3, by rw [hK]; exact z2, by rw [hK]; exact z3, k _ rfl⟩
          · cases q
      · split at q
        · rename_i t ht
          cases q
          exact .inl ⟨v, .ref Ca, .type t, .ref Ca, false, rfl, .own Ca, by rw [hK]; exact Rz.tyX (Rz.mono s h1) ht, by rw [hK]; exact hb t (tyN_mem ht), k _ rfl⟩
        · cases q
    · cases q
  · cases q
/-- e.f of a caught exception of one of the classes cs -/
def D.fldE (f : Str) (cs : List Str) : D → Option D
  | .exc k ns ds => if cs.contains k = true then (match ns, ds with
    | [g], [d] => if g = f then some d else none
    | _, _ => none) else none
  | _ => none
structure FldE (K : PySem.W.Frag) (mg : Str → Option Value) (f : Str) (cs : List Str) : Prop where
  ex : ∀ k ∈ cs, ∃ Ck, mg k = some (.ref Ck) ∧ XfC K Ck ∧ PySem.W.findIn K (.ref Ck) f = some none
theorem fe_fldE {e : Expr} {f : Str} {cs : List Str} {pos : Pos} {me : M ω D} (T : FldE C.K C.mg f cs) (hK : X.K = C.K) (he : PE X e (gOf C W E (rD C) me)) (hb : attributeBase e f X.env (eval e X.env) = eval e X.env := by rfl) :
    PE X (.Attribute e f pos) (gOf C W E (rD C) (m1 (fun d => pu (d.fldE f cs)) me)) := by
  refine ⟨fun pins s σ H Q I h => ?_⟩
  refine attr_of hb (thn (he.run pins s σ H (fun x H1 => ∃ a Ck d v, x = .ref a ∧ H1 a = some (exg a Ck d) ∧ XfC X.K Ck ∧ PySem.W.findIn X.K (.ref Ck) f = some none ∧ (∃ dx, d = some dx ∧ H1 dx = some (.xd [(f, v)])) ∧ Q v H1) I ?_) fun u s1 ⟨x, H1, I1, rx, hh⟩ => ?_)
  · refine gOf.bind (RA := rD C) h fun d v Ht H1 Ht1 fp ρ1 w1 fp1 e1 s1 o1 r1 q1 h1 => ?_
    unfold pu at h1
    split at h1
    · rename_i d2 hd
      unfold D.fldE at hd
      split at hd
      · rename_i k ns ds
        split at hd
        · rename_i hk
          split at hd
          · rename_i g d3
            split at hd
            · rename_i hg
              subst hg
              cases hd
              obtain ⟨a, Ck, d, vs, rfl, g1, g2, _, g4, g5, g6⟩ := exc_rd e1.sub q1
              obtain ⟨v2, rr, rfl, z1, z2⟩ := g6
              have z2' : rr = [] := z2
              subst z2'
              obtain ⟨C2, y1, y2, y3⟩ := T.ex k (by simpa using hk)
              rw [g1] at y1
              cases y1
              rcases g4 with ⟨y, _⟩ | ⟨dx, y4, y5⟩
              · cases y
              · exact ⟨a, _, d, v2, rfl, g2, by rw [hK]; exact y2, by rw [hK]; exact y3, ⟨dx, y4, y5⟩, At.here h1 e1 r1 z1⟩
            · cases hd
          · cases hd
        · cases hd
      · cases hd
    · exact h1.elim
  · obtain ⟨a, Ck, d, v, rfl, g1, T1, hno, ⟨dx, rfl, g2⟩, q⟩ := hh
    obtain rfl : u = Value.ref a := rx
    obtain ⟨ox, h1, h2, h3, vs, h4⟩ := exg_at I1.hok g1
    have hx : ObjOk X.prog X.w H1 s1.heap dx (.xd [(f, v)]) := I1.hok dx _ g2
    obtain ⟨mA, hns, hr⟩ := hx
    obtain ⟨od, ho, hl⟩ := lookIn_ns hns
    obtain ⟨u, hu, ru⟩ := RelO.some_of (v := v) (o := mA f) (by have := hr f; simpa [List.lookup] using this)
    have J : PySem.W.InstAt s1.heap a ox Ck (some od) := ⟨h1, h2, by unfold PySem.W.notCls; rw [h4] <;> rfl, by rw [h3]; exact ho⟩
    exact HandSPX.exc_get I1.kIn J T1.ga T1.gg T1.exC (PySem.W.findObj_own T1.hdC hno rfl (by rw [hl, hu])) (handed_of ru) ⟨v, H1, I1.tok _, ru, q⟩
end
end FL
set_option maxRecDepth 100000
set_option maxHeartbeats 4000000
namespace FL
open PySem PySem.Spec PyProof.Rows L2
/-! ### [*xs, ..] -/
def mStar {ω : Type} (me : M ω D) (mb : M ω (List D)) : M ω (List D) := fun ρ w => bnd (me ρ w) fun d ρ w => match d.its with
  | some xs => bnd (mb ρ w) fun ds ρ w => some (.ok (xs ++ ds) ρ w)
  | none => none
theorem fa_star {ω : Type} {X : Cx} {C : Cc} {W : Wd ω} {E : XK} {e : Expr} {es : List Expr} {p : Pos} {me : M ω D} {mb : M ω (List D)} (hK : X.K = C.K) (he : PE X e (gOf C W E (rD C) me)) (hb : PA X es (gOf C W E (rL C) mb)) (hs : starEach (.Starred e p :: es) X.env = (true, eval e X.env) :: starEach es X.env := by rfl) :
    PA X (.Starred e p :: es) (gOf C W E (rL C) (mStar me mb)) := PA.imp (StX.pa_star he hb hs) fun σ H Q h => by
  refine gOf.bind (RA := rD C) h fun d v Ht H1 Ht1 fp ρ1 w1 fp1 e1 s1 o1 r1 q1 h1 => ?_
  cases hd : d.its with
  | none =>
    rw [hd] at h1
    exact h1.elim
  | some xs =>
    obtain ⟨a, vs, rfl, g1, g2⟩ := q1.its hd
    refine ⟨a, vs, rfl, ?_, ?_⟩
    · rw [hK]
      rcases g1 with g | g
      · exact .inr (e1.sub.seq g)
      · exact .inl (Same.sqT e1.sub g)
    · rw [hd] at h1
      refine ⟨Ht1, ρ1, w1, fp1, e1, r1, At.bind (RA := rL C) h1 fun ds us H2 Ht2 ρ2 w2 fp2 e2 s2 o2 r2 q2 h2 => ?_⟩
      exact At.here h2 e2 r2 (RzL.app (RzL.mono s2.th g2) q2)
end FL
set_option maxRecDepth 100000
set_option maxHeartbeats 4000000
namespace FL
open PySem PySem.Spec PyProof.Rows L2
/-! ### the end of a law that holds lambdas; an exception's __init__ by its text -/
theorem fn_supB {P : Program} {w : World} {K : PySem.W.Frag} {mg : Str → Option Value} {base : Heap} {qual a f msg : Str} {ar : Arguments} {body : List Stmt} {sc : Scope} {D fI : Addr} {fd : FuncData} {k j : Nat} {p0 p1 p2 p3 p4 p5 p6 p7 p8 p9 : Pos} (F : SupF P K mg qual ar body sc D fI fd)
    (hb : body = [.Expr (.Call (.Attribute (.Call (.Name "super" p0) [] [] p1) "__init__" p2) [.Constant (.str msg) j p3] [] p4) p5, .Assign [.Attribute (.Name "self" p6) f p7] (.Name a p8) p9])
    (S : SupS sc a) (har : ∃ r, (ar.posonlyargs ++ ar.args).head? = some r ∧ r.arg = "self") (hda : (a == ("__debug__" : Str)) = false := by decide) (hca : (a == ("__classdict__" : Str)) = false := by decide)
    (hsw : ∀ env : Env, swapsWith (.Name a p8) (some (.Attribute (.Name "self" p6) f p7)) p9.line env = pure false := by intros; rfl)
    {pl : Env → Sem Bool}
    (hev : ∀ env : Env, eval (.Call (.Attribute (.Call (.Name "super" p0) [] [] p1) "__init__" p2) [.Constant (.str msg) j p3] [] p4) env = (do
      let ov ← attributeBase (.Call (.Name "super" p0) [] [] p1) "__init__" env (eval (.Call (.Name "super" p0) [] [] p1) env)
      standAt p2.atName
      let (g, first) ← holding [ov] (getMethod ov "__init__" (pl env))
      callWith p4 g first (backTo p4 (starEach [.Constant (.str msg) j p3] env)) []) := by intros; rfl)
    (hsx : ∀ env : Env, swapsWith (.Call (.Attribute (.Call (.Name "super" p0) [] [] p1) "__init__" p2) [.Constant (.str msg) j p3] [] p4) none p5.line env = pure false := by intros; rfl) :
    FnOk P w K mg base (L2.CX P w) (k + 1) fI fd ["self", a] (spSI K D f) := by
  subst hb
  exact fn_sup F S har hda hca hsw hev hsx
abbrev lawL : Str := "law.<locals>.<lambda>"
theorem walk_tabs {l : PySem.W.OpenLaw} {n k : Nat} {q : Program} {loose : List Str} {XP : (Str → Option Value) → Heap → Prop} {YP : World → Heap → Prop} {d : DefRec} {K : Params → PySem.W.Frag} {CX : World → CXT} {x nm : Str} (hn : l.most = some n) (hn1 : n ≤ 1000) (hdf : d.params.defaults = []) (hr : Room k callerA)
    (hrec : ((recsOf q).find? (fun e => e.name == nm)).isSome = true) (hY : ∀ (w : World) (h : Heap), YP w h → (K w.params).In h)
    (F : ∀ (w : World) (mg : Str → Option Value) (fa : Addr) (h : Heap), (K w.params).In h → h.Ns mainGlobals mg → mg d.name = some (.ref fa) →
      ∃ (fd : FuncData) (c P : Addr), PySem.W.tabIn (K w.params) nm = some (c, P) ∧ (K w.params).lookup P = none ∧ (∀ (s : Shared) (u : Value), BindsTo s fd ⟨[u], []⟩ [(x, u)]) ∧
        ∀ base : Heap, (K w.params).In base → base.Ns mainGlobals mg → LamX.TabB base mg c P → FnOk l.prog w (K w.params) mg base (CX w) k fa fd [x] (spLaw (K w.params) [(P, lawL)]))
    (hCX : ∀ (w : World) (H : Hp) (s : Shared) (e : Value) (s' : Shared), CX w [] H s (fun _ _ _ => False) e s' → False) :
    PySem.W.WalkO q loose XP YP l.row.toRowW d [] (fun f vs => PySem.call f vs) := by
  refine Att.attach_callB hn hdf fun w s₀ s1 mg mb fa o pm cd doc a vs ns G Y ho hd hcd hmg hobj hints hlen hbits hg => ?_
  have KX := hY w _ Y
  obtain ⟨fd, c, P, t1, t2, hb, hF⟩ := F w mg fa _ KX G.T.g hmg
  obtain ⟨dr, hdr⟩ := Option.isSome_iff_exists.mp hrec
  obtain ⟨c1, c2⟩ := PySem.W.tab_of G.T KX hdr t1
  refine LamX.law_callTs (cs := [(c, P)]) KX G.T.g G.T.b G.T.builtins G.T.nolimit hg (fun p hp => ?_) (fun p hp => ?_) (fun p hp => ?_) G.T.bmain hobj hints (Nat.le_trans hlen (Nat.le_trans hn1 (by rw [sizeLine_eq]; omega))) hr (fun base b1 b2 b3 => hF base b1 b2 (b3 _ List.mem_cons_self)) hb (fun H hH hS => ⟨a, ns, rfl, hS, Nat.le_trans hlen hn1, fun q hq => ?_, fun _ => rfl⟩) fun H e s' => hCX w H s1 e s'
  · rcases List.mem_cons.mp hp with rfl | hp
    · exact c2
    · cases hp
  · rcases List.mem_cons.mp hp with rfl | hp
    · exact t2
    · cases hp
  · rcases List.mem_cons.mp hp with rfl | hp
    · exact c1
    · cases hp
  · rcases List.mem_cons.mp hq with rfl | hq
    · exact hH (c, P) List.mem_cons_self
    · cases hq
end FL
set_option maxRecDepth 100000
set_option maxHeartbeats 4000000
namespace K03
open PySem PySem.Spec PyProof.Rows L2 FL
def fuel_live_in : Nat := 40
def fuel__law_same : Nat := 100000
/-! ### the text -/
def topS (i : Nat) : Stmt := PySem.Challenge.pw_stacksure_k03_whole_joined_programs.main.body.getD i (.Pass ⟨0, 0, 0, 0⟩)
abbrev s_PartError_init : Stmt := inClass (topS 2) 0
abbrev s_ItemError_init : Stmt := inClass (topS 3) 0
abbrev s_is_number : Stmt := topS 10
abbrev s_is_between : Stmt := topS 11
abbrev s_is_list : Stmt := topS 12
abbrev s_rule_right : Stmt := topS 18
abbrev s_rules_right : Stmt := topS 19
abbrev s_need_parts : Stmt := topS 20
abbrev s_is_live_by : Stmt := topS 21
abbrev s_live_in : Stmt := topS 22
abbrev s_need_program : Stmt := topS 24
abbrev s_calls_right : Stmt := topS 25
abbrev s_row_right : Stmt := topS 26
abbrev s_need_row : Stmt := topS 27
abbrev s_widened : Stmt := topS 28
abbrev s_joined : Stmt := topS 29
abbrev s_need_text : Stmt := topS 32
abbrev s_gone : Stmt := topS 33
abbrev s_need_reading : Stmt := topS 34
abbrev s_reads : Stmt := topS 35
abbrev s__law_begun : Stmt := topS 37
abbrev s__law_blended : Stmt := topS 38
abbrev s__law_draw : Stmt := topS 39
abbrev s__law_pick : Stmt := topS 40
abbrev s__law_caught : Stmt := topS 41
abbrev s__law_is_truth : Stmt := topS 42
abbrev s__law_same : Stmt := topS 43
abbrev s__law_sk_live : Stmt := topS 44
abbrev s__law_sk_rules : Stmt := topS 45
abbrev s__law_sk_row : Stmt := topS 46
abbrev s__law_sk_gone : Stmt := topS 47
abbrev s__law_sk_text : Stmt := topS 48
abbrev s__law_sk_no_program : Stmt := topS 49
abbrev s__law_came : Stmt := topS 50
abbrev s_law : Stmt := topS 51
abbrev s_Program_init : Stmt := inClass (topS 23) 0
abbrev s_Program_letters : Stmt := inClass (topS 23) 1
abbrev s_Program_rules : Stmt := inClass (topS 23) 2
def m_is_number : SM DS := (sSeq (sRet (mAndV (m1 (pu1 D.isi) (mCons (mVar 0) (mCons (mC (.ty "int")) mNil))) (m1 (fun d => pu (d.tr.map fun k => .bl (!k))) (m1 (pu1 D.isi) (mCons (mVar 0) (mCons (mC (.ty "bool")) mNil)))))) sNext)
def g_is_number (ds : List D) (w : DS) : Option (Rs DS) := outF (m_is_number (startE 1 ds) w)
def m_is_between : SM DS := (sSeq (sRet (mAndV (mCall 1 g_is_number [] (mCons (mVar 0) mNil)) (mCh (pu2 D.le) (pu2 D.le) (mVar 1) (mVar 0) (mVar 2)))) sNext)
def g_is_between (ds : List D) (w : DS) : Option (Rs DS) := outF (m_is_between (startE 3 ds) w)
def m_is_list : SM DS := (sSeq (sRet (m1 (pu1 D.isiT) (mCons (mVar 0) (mCons (mTup (mCons (mC (.ty "list")) (mCons (mC (.ty "tuple")) mNil))) mNil)))) sNext)
def g_is_list (ds : List D) (w : DS) : Option (Rs DS) := outF (m_is_list (startE 1 ds) w)
def m_rule_right : SM DS := (sSeq (sIf (mB (m2 (pu2 D.isN) (mVar 1) (mC .non))) (sSeq (sRet (mC (.bl true))) sNext) sNext) (sSeq (sIf (mOr (mNot (mB (m1 (pu1 D.isi) (mCons (mVar 1) (mCons (mC (.ty "tuple")) mNil))))) (mB (m2 (pu2 D.gt) (m1 (pu1 D.lenL) (mCons (mVar 1) mNil)) (mC (.int 6))))) (sSeq (sRet (mC (.bl false))) sNext) sNext) (sSeq (sRet (m1 (pu1 D.allL) (mCons (mFz (mLc (mIts (mVar 1)) [2] (bdN 2) mTrue (mCall 3 g_is_between [] (mCons (mVar 2) (mCons (mC (.int 0)) (mCons (m2 (pu2 D.sub) (mVar 0) (mC (.int 1))) mNil)))))) mNil))) sNext)))
def g_rule_right (ds : List D) (w : DS) : Option (Rs DS) := outF (m_rule_right (startE 3 ds) w)
def m_rules_right : SM DS := (sSeq (sIf (mOr (mNot (mB (mCall 1 g_is_list [] (mCons (mVar 1) mNil)))) (mNot (mB (mCh (pu2 D.le) (pu2 D.le) (mC (.int 1)) (m1 (pu1 D.lenL) (mCons (mVar 1) mNil)) (mC (.int 12)))))) (sSeq (sRet (mC (.bl false))) sNext) sNext) (sSeq (sIf (mNot (mB (m1 (pu1 D.allL) (mCons (mFz (mLc (mIts (mVar 1)) [2] (bdN 2) mTrue (mAndV (mCall 1 g_is_list [] (mCons (mVar 2) mNil)) (m2 (pu2 D.eqD) (m1 (pu1 D.lenL) (mCons (mVar 2) mNil)) (mVar 0))))) mNil)))) (sSeq (sRet (mC (.bl false))) sNext) sNext) (sSeq (sRet (m1 (pu1 D.allL) (mCons (mFz (mLc (mIts (mVar 1)) [2] (bdN 2) mTrue (m1 (pu1 D.allL) (mCons (mFz (mLc (mIts (mVar 2)) [3] (bdN 3) mTrue (mCall 2 g_rule_right [] (mCons (m1 (pu1 D.lenL) (mCons (mVar 1) mNil)) (mCons (mVar 3) mNil))))) mNil)))) mNil))) sNext)))
def g_rules_right (ds : List D) (w : DS) : Option (Rs DS) := outF (m_rules_right (startE 4 ds) w)
def m_need_parts : SM DS := (sSeq (sIf (mNot (mB (mCall 3 g_is_between [] (mCons (mVar 0) (mCons (mC (.int 1)) (mCons (mC (.int 6)) mNil)))))) (sSeq sNo sNext) sNext) (sSeq (sIf (mNot (mB (mCall 2 g_rules_right [] (mCons (mVar 0) (mCons (mVar 1) mNil))))) (sSeq sNo sNext) sNext) sNext))
def g_need_parts (ds : List D) (w : DS) : Option (Rs DS) := outF (m_need_parts (startE 2 ds) w)
def m_is_live_by : SM DS := (sSeq (sRet (m1 (pu1 D.anyL) (mCons (mFz (mLc (mIts (mVar 0)) [2] (bdN 2) mTrue (mAndV (m2 (pu2 D.notN) (mVar 2) (mC .non)) (m1 (pu1 D.allL) (mCons (mFz (mLc (mIts (mVar 2)) [3] (bdN 3) mTrue (m2 (pu2 D.inD) (mVar 3) (mVar 1)))) mNil))))) mNil))) sNext)
def g_is_live_by (ds : List D) (w : DS) : Option (Rs DS) := outF (m_is_live_by (startE 4 ds) w)
def m_live_in : SM DS := (sSeq (sAsg (mTup (mCons (mC (.dK [] [])) (mCons (m1 (fun d => pu d.neg) (mC (.int 1))) mNil))) (bdT [(bdN 1), (bdN 2)])) (sSeq (sWh (mB (m2 (pu2 D.neD) (m1 (pu1 D.lenL) (mCons (mVar 1) mNil)) (mVar 2))) (sSeq (sAsg (m1 (pu1 D.lenL) (mCons (mVar 1) mNil)) (bdN 2)) (sSeq (sAsg (mDc (m1 (fun ds => pu (D.enumA ds)) (mCons (mVar 0) mNil)) [3, 4] (bdT [(bdN 3), (bdN 4)]) (mOr (mB (m2 (pu2 D.inD) (mVar 3) (mVar 1))) (mB (mCall 2 g_is_live_by [] (mCons (mVar 4) (mCons (mVar 1) mNil))))) (mVar 3) (mC .non)) (bdN 1)) sNext)) fuel_live_in) (sSeq (sRet (mVar 1)) sNext)))
def g_live_in (ds : List D) (w : DS) : Option (Rs DS) := outF (m_live_in (startE 5 ds) w)
def m_need_program : SM DS := (sSeq (sIf (mNot (mB (m1 (pu1 (D.isiC "Program")) (mCons (mVar 0) (mCons (mC (.gl "Program")) mNil))))) (sSeq (sRaiseF "NoProgram" "part" (mCons (mVar 1) mNil)) sNext) sNext) sNext)
def g_need_program (ds : List D) (w : DS) : Option (Rs DS) := outF (m_need_program (startE 2 ds) w)
def m_calls_right : SM DS := (sSeq (sRet (mAndV (m1 (pu1 D.isi) (mCons (mVar 1) (mCons (mC (.ty "tuple")) mNil))) (m1 (pu1 D.allL) (mCons (mFz (mLc (mIts (mVar 1)) [2] (bdN 2) mTrue (mCall 3 g_is_between [] (mCons (mVar 2) (mCons (mC (.int 0)) (mCons (m2 (pu2 D.sub) (m1 (pu1 D.lenL) (mCons (m1 (fun d => pu (d.fldS "Program" "own_rules")) (mVar 0)) mNil)) (mC (.int 1))) mNil)))))) mNil)))) sNext)
def g_calls_right (ds : List D) (w : DS) : Option (Rs DS) := outF (m_calls_right (startE 3 ds) w)
def m_row_right : SM DS := (sSeq (sRet (mAndV (mCall 2 g_calls_right [] (mCons (mVar 0) (mCons (mVar 1) mNil))) (m2 (pu2 D.le) (m1 (pu1 D.lenL) (mCons (mVar 1) mNil)) (mC (.int 12))))) sNext)
def g_row_right (ds : List D) (w : DS) : Option (Rs DS) := outF (m_row_right (startE 2 ds) w)
def m_need_row : SM DS := (sSeq (sIf (mNot (mB (mCall 2 g_row_right [] (mCons (mVar 0) (mCons (mVar 1) mNil))))) (sSeq sNo sNext) sNext) sNext)
def g_need_row (ds : List D) (w : DS) : Option (Rs DS) := outF (m_need_row (startE 3 ds) w)
def m_widened : SM DS := (sSeq (sAsg (mFz (mLc (mIts (mVar 0)) [4] (bdN 4) mTrue (mIf (mB (m2 (pu2 D.isN) (mVar 4) (mC .non))) (mC .non) (m1 (pu1 D.tupF) (mCons (mFz (mLc (mIts (mVar 4)) [5] (bdN 5) mTrue (m2 (pu2 D.add) (mVar 5) (mVar 2)))) mNil))))) (bdN 3)) (sSeq (sRet (mFz (mLs (mStar (mVar 3) (mStar (m2 (pu2 D.mulA) (mFz (mLs (mCons (mC .non) mNil))) (m2 (pu2 D.sub) (mVar 1) (m1 (pu1 D.lenL) (mCons (mVar 0) mNil)))) mNil))))) sNext))
def g_widened (ds : List D) (w : DS) : Option (Rs DS) := outF (m_widened (startE 6 ds) w)
def m_Program_init : SM DS := (sSeq (sDrop (mCall 2 g_need_parts [] (mCons (mVar 1) (mCons (mVar 2) mNil)))) (sSeq (sIf (mB (m2 (pu2 D.lt) (m1 (pu1 D.lenL) (mCons (mCall 1 g_live_in [] (mCons (mVar 2) mNil)) mNil)) (m1 (pu1 D.lenL) (mCons (mVar 2) mNil)))) (sSeq sNo sNext) sNext) (sSeq (sFldI 0 "Program" "own_letters" (mVar 1)) (sSeq (sFldI 0 "Program" "own_rules" (m1 (pu1 D.tupF) (mCons (mFz (mLc (mIts (mVar 2)) [3] (bdN 3) mTrue (m1 (pu1 D.tupF) (mCons (mVar 3) mNil)))) mNil))) sNext))))
def g_Program (ds : List D) (w : DS) : Option (Rs DS) := outI (m_Program_init (startI 4 "Program" 0 ds) w)
def m_joined : SM DS := (sSeq (sDrop (mCall 2 g_need_program [] (mCons (mVar 0) (mCons (mC (.str "one")) mNil)))) (sSeq (sDrop (mCall 2 g_need_program [] (mCons (mVar 1) (mCons (mC (.str "other")) mNil)))) (sSeq (sAsg (mTup (mCons (m1 (pu1 D.lenL) (mCons (m1 (fun d => pu (d.fldS "Program" "own_rules")) (mVar 0)) mNil)) (mCons (m1 (pu1 D.max2) (mCons (m1 (fun d => pu (d.fldS "Program" "own_letters")) (mVar 0)) (mCons (m1 (fun d => pu (d.fldS "Program" "own_letters")) (mVar 1)) mNil))) mNil))) (bdT [(bdN 2), (bdN 3)])) (sSeq (sIf (mB (m2 (pu2 D.gt) (m2 (pu2 D.add) (mVar 2) (m1 (pu1 D.lenL) (mCons (m1 (fun d => pu (d.fldS "Program" "own_rules")) (mVar 1)) mNil))) (mC (.int 12)))) (sSeq (sRaiseN "NoRoom") sNext) sNext) (sSeq (sAsg (mFz (mLc (mIts (m1 (fun d => pu (d.fldS "Program" "own_rules")) (mVar 0))) [5] (bdN 5) mTrue (mCall 3 g_widened [] (mCons (mVar 5) (mCons (mVar 3) (mCons (mC (.int 0)) mNil)))))) (bdN 4)) (sSeq (sRet (mMake 2 g_Program (mCons (mVar 3) (mCons (mFz (mLs (mStar (mVar 4) (mStar (mFz (mLc (mIts (m1 (fun d => pu (d.fldS "Program" "own_rules")) (mVar 1))) [5] (bdN 5) mTrue (mCall 3 g_widened [] (mCons (mVar 5) (mCons (mVar 3) (mCons (mVar 2) mNil)))))) mNil)))) mNil)))) sNext))))))
def g_joined (ds : List D) (w : DS) : Option (Rs DS) := outF (m_joined (startE 6 ds) w)
def m_need_text : SM DS := (sSeq (sIf (mOr (mNot (mB (m1 (pu1 D.isi) (mCons (mVar 1) (mCons (mC (.ty "tuple")) mNil))))) (mB (m2 (pu2 D.gt) (m1 (pu1 D.lenL) (mCons (mVar 1) mNil)) (mC (.int 2000))))) (sSeq sNo sNext) sNext) (sSeq (sForM (m1 (fun ds => pu (D.enumA ds)) (mCons (mVar 1) mNil)) (bdT [(bdN 2), (bdN 3)]) (sSeq (sIf (mNot (mB (mCall 3 g_is_between [] (mCons (mVar 3) (mCons (mC (.int 0)) (mCons (m2 (pu2 D.sub) (m1 (fun d => pu (d.fldS "Program" "own_letters")) (mVar 0)) (mC (.int 1))) mNil)))))) (sSeq sNo sNext) sNext) sNext)) sNext))
def g_need_text (ds : List D) (w : DS) : Option (Rs DS) := outF (m_need_text (startE 4 ds) w)
def m_gone : SM DS := (sSeq (sOwn 3 (mItems (mCons (m1 (fun d => pu d.revA) (mVar 1)) mNil))) (sSeq (sForM (m1 (fun ds => pu (D.enumA ds)) (mCons (mVar 2) mNil)) (bdT [(bdN 4), (bdN 5)]) (sSeq (sIf (mBor (mOr (mB (m2 (pu2 D.eqD) (mVar 3) (mFz (mLs mNil)))) (mB (m2 (pu2 D.isN) (m2 (pu2 D.ix) (m2 (pu2 D.ix) (mVar 0) (m2 (pu2 D.ix) (mVar 3) (m1 (fun d => pu d.neg) (mC (.int 1))))) (mVar 5)) (mC .non))))) (sSeq (sRet (mTup (mCons (mC .non) (mCons (mVar 4) mNil)))) sNext) sNext) (sSeq (sAsg (m2 (pu2 D.ix) (m2 (pu2 D.ix) (mVar 0) (mSM 3 fPop mNil)) (mVar 5)) (bdN 6)) (sSeq (sDrop (mSM 3 fExtA (mCons (m1 (fun d => pu d.revA) (mVar 6)) mNil))) sNext)))) (sSeq (sRet (mTup (mCons (m1 (pu1 D.tupF) (mCons (m1 (fun d => pu d.revA) (mVar 3)) mNil)) (mCons (m1 (pu1 D.lenL) (mCons (mVar 2) mNil)) mNil)))) sNext)))
def g_gone (ds : List D) (w : DS) : Option (Rs DS) := outF (m_gone (startE 7 ds) w)
def m_need_reading : SM DS := (sSeq (sDrop (mCall 2 g_need_program [.non] (mCons (mVar 0) mNil))) (sSeq (sDrop (mCall 3 g_need_row [.non] (mCons (mVar 0) (mCons (mVar 1) mNil)))) (sSeq (sDrop (mCall 2 g_need_text [] (mCons (mVar 0) (mCons (mVar 2) mNil)))) sNext)))
def g_need_reading (ds : List D) (w : DS) : Option (Rs DS) := outF (m_need_reading (startE 3 ds) w)
def m_reads : SM DS := (sSeq (sDrop (mCall 3 g_need_reading [] (mCons (mVar 0) (mCons (mVar 1) (mCons (mVar 2) mNil))))) (sSeq (sRet (m2 (pu2 D.eqD) (m2 (pu2 D.ix) (mCall 3 g_gone [] (mCons (m1 (fun d => pu (d.fldS "Program" "own_rules")) (mVar 0)) (mCons (mVar 1) (mCons (mVar 2) mNil)))) (mC (.int 0))) (mTup mNil))) sNext))
def g_reads (ds : List D) (w : DS) : Option (Rs DS) := outF (m_reads (startE 3 ds) w)
def m__law_blended : SM DS := (sSeq (sPar 1 2 (mCons (m2 (pu2 D.add) (mWi 0 .turn) (mC (.int 1))) (mCons (mC (.int 0)) mNil))) (sSeq (sWi 0 .turn (mVar 1)) (sSeq (sForM (mIts (mFz (mLs (mCons (mC (.int 2147483579)) (mCons (mC (.int 2147483629)) (mCons (mC (.int 2147483563)) mNil)))))) (bdN 3) (sSeq (sAsg (m2 (pu2 D.add) (m2 (pu2 D.mulA) (mC (.int 48271)) (mVar 1)) (m2 (pu2 D.fdiv) (mVar 3) (mC (.int 53)))) (bdN 4)) (sSeq (sForM (mWcells 0) (bdN 5) (sSeq (sAsg (m2 (pu2 D.mod) (m1 (pu1 D.intL) (mCons (m2 (pu2 D.add) (m2 (pu2 D.add) (m2 (pu2 D.mulA) (mVar 4) (mC (.int 69621))) (mVar 5)) (mVar 1)) mNil)) (mVar 3)) (bdN 4)) sNext)) (sSeq (sAsg (m2 (pu2 D.add) (m2 (pu2 D.mulA) (mVar 2) (mC (.int 2147483647))) (m2 (pu2 D.mod) (m1 (pu1 D.intL) (mCons (m2 (pu2 D.pow) (mVar 4) (mC (.int 5))) mNil)) (mVar 3))) (bdN 2)) sNext)))) (sSeq (sRet (mVar 2)) sNext))))
def g__law_blended (ds : List D) (w : DS) : Option (Rs DS) := outF (m__law_blended (startE 6 ds) w)
def m__law_draw : SM DS := (sSeq (sIf (mB (m2 (pu2 D.eqD) (mWi 0 .rest) (mC (.int 0)))) (sSeq (sWi 0 .rest (mIf (mB (mWne 0)) (mWpop 0) (mCall 1 g__law_blended [] (mCons (mVar 0) mNil)))) sNext) sNext) (sSeq (sAsg (m2 (pu2 D.mod) (m1 (pu1 D.intL) (mCons (mWi 0 .rest) mNil)) (mVar 1)) (bdN 2)) (sSeq (sWi 0 .rest (m2 (pu2 D.fdiv) (mWi 0 .rest) (mVar 1))) (sSeq (sRet (mVar 2)) sNext))))
def g__law_draw (ds : List D) (w : DS) : Option (Rs DS) := outF (m__law_draw (startE 3 ds) w)
def m__law_pick : SM DS := (sSeq (sRet (m2 (pu2 D.ix) (mVar 1) (mCall 2 g__law_draw [] (mCons (mVar 0) (mCons (m1 (pu1 D.lenL) (mCons (mVar 1) mNil)) mNil))))) sNext)
def g__law_pick (ds : List D) (w : DS) : Option (Rs DS) := outF (m__law_pick (startE 2 ds) w)
def m__law_is_truth : SM DS := (sSeq (sRet (mIf (mB (mVar 1)) (m2 (pu2 D.isB) (mVar 0) (mC (.bl true))) (m2 (pu2 D.isB) (mVar 0) (mC (.bl false))))) sNext)
def g__law_is_truth (ds : List D) (w : DS) : Option (Rs DS) := outF (m__law_is_truth (startE 2 ds) w)
def m__law_same : SM DS := (sSeq (sOwn 2 (mLs (mCons (mTup (mCons (mVar 0) (mCons (mVar 1) mNil))) mNil))) (sSeq (sWh (mBor (mB (m2 (pu2 D.neD) (mVar 2) (mFz (mLs mNil))))) (sSeq (sAsg (mSM 2 fPop mNil) (bdT [(bdN 3), (bdN 4)])) (sSeq (sIf (mOr (mB (m2 (pu2 D.isN) (mVar 4) (mC .non))) (mB (m1 (pu1 D.isi) (mCons (mVar 4) (mCons (mC (.ty "bool")) mNil))))) (sSeq (sIf (mIf (mB (m2 (pu2 D.isN) (mVar 4) (mC .non))) (mB (m2 (pu2 D.notN) (mVar 3) (mC .non))) (mNot (mB (mCall 2 g__law_is_truth [] (mCons (mVar 3) (mCons (mVar 4) mNil)))))) (sSeq (sRet (mC (.bl false))) sNext) sNext) sNext) (sSeq (sIf (mB (m1 (pu1 D.isiT) (mCons (mVar 4) (mCons (mTup (mCons (mC (.ty "int")) (mCons (mC (.ty "str")) mNil))) mNil)))) (sSeq (sIf (mOr (mB (m1 (pu1 D.isi) (mCons (mVar 3) (mCons (mC (.ty "bool")) mNil)))) (mOr (mB (m2 (pu2 D.neD) (m1 (pu1 D.isi) (mCons (mVar 3) (mCons (mC (.ty "int")) mNil))) (m1 (pu1 D.isi) (mCons (mVar 4) (mCons (mC (.ty "int")) mNil))))) (mB (m2 (pu2 D.neD) (mVar 3) (mVar 4))))) (sSeq (sRet (mC (.bl false))) sNext) sNext) sNext) (sSeq (sIf (mB (m1 (pu1 D.isi) (mCons (mVar 4) (mCons (mC (.ty "dict")) mNil)))) (sSeq (sIf (mOr (mNot (mB (m1 (pu1 D.isi) (mCons (mVar 3) (mCons (mC (.ty "dict")) mNil))))) (mB (m2 (pu2 D.neD) (mFz (mItems (mCons (mVar 3) mNil))) (mFz (mItems (mCons (mVar 4) mNil)))))) (sSeq (sRet (mC (.bl false))) sNext) sNext) (sSeq sNo (sSeq (sDrop (mSM 2 fExt (mCons (mFz (mLc (mIts (mVar 4)) [6] (bdN 6) mTrue (mTup (mCons (m2 (pu2 D.ix) (mVar 3) (mVar 6)) (mCons (m2 (pu2 D.ix) (mVar 4) (mVar 6)) mNil))))) mNil))) sNext))) (sSeq (sAsg (mFz (mLs (mCons (mAndV (m1 (pu1 D.isi) (mCons (mVar 3) (mCons (mC (.ty "tuple")) mNil))) (m1 (pu1 D.isi) (mCons (mVar 4) (mCons (mC (.ty "tuple")) mNil)))) (mCons (mAndV (m1 (pu1 D.isi) (mCons (mVar 3) (mCons (mC (.ty "list")) mNil))) (m1 (pu1 D.isi) (mCons (mVar 4) (mCons (mC (.ty "list")) mNil)))) mNil)))) (bdN 5)) (sSeq (sIf (mOr (mB (m2 (pu2 D.ninD) (mC (.bl true)) (mVar 5))) (mB (m2 (pu2 D.neD) (m1 (pu1 D.lenL) (mCons (mVar 3) mNil)) (m1 (pu1 D.lenL) (mCons (mVar 4) mNil))))) (sSeq (sRet (mC (.bl false))) sNext) sNext) (sSeq (sDrop (mSM 2 fExt (mCons (mFz (mLc (m1 (fun ds => pu (D.zipA ds)) (mCons (mVar 3) (mCons (mVar 4) mNil))) [7, 8] (bdT [(bdN 7), (bdN 8)]) mTrue (mTup (mCons (mVar 7) (mCons (mVar 8) mNil))))) mNil))) sNext)))) sNext)) sNext)) sNext)) fuel__law_same) (sSeq (sRet (mC (.bl true))) sNext)))
def g__law_same (ds : List D) (w : DS) : Option (Rs DS) := outF (m__law_same (startE 9 ds) w)
def m__law_sk_live : SM DS := (sSeq (sOwn 1 (mLs mNil)) (sSeq (sForM (mIts (mVar 0)) (bdN 2) (sSeq (sOwn 1 (mBorN (mLc (m1 (fun ds => pu (D.enumA ds)) (mCons (mVar 0) mNil)) [3, 4] (bdT [(bdN 3), (bdN 4)]) (mB (m2 (pu2 D.neD) (mFz (mLc (mIts (mVar 4)) [5] (bdN 5) (mAnd (mB (m2 (pu2 D.notN) (mVar 5) (mC .non))) (mB (m2 (pu2 D.eqD) (mFz (mLc (mIts (mVar 5)) [6] (bdN 6) (mB (m2 (pu2 D.ninD) (mVar 6) (mVar 1))) (mC (.int 1)))) (mFz (mLs mNil))))) (mC (.int 1)))) (mFz (mLs mNil)))) (mVar 3)))) sNext)) (sSeq (sRetO 1) sNext)))
def gn__law_sk_live (ds : List D) (w : DS) : Option (RsN DS) := outN (m__law_sk_live (startE 7 ds) w)
def m__law_sk_rules : SM DS := (sSeq (sAsg (mTup (mCons (m2 (pu2 D.add) (mC (.int 1)) (mCall 2 g__law_draw [] (mCons (mVar 0) (mCons (mVar 1) mNil)))) (mCons (m2 (pu2 D.add) (mC (.int 1)) (mCall 2 g__law_draw [] (mCons (mVar 0) (mCons (mVar 2) mNil)))) (mCons (mCall 2 g__law_pick [] (mCons (mVar 0) (mCons (mFz (mLs (mCons (mC (.int 2)) (mCons (mC (.int 3)) (mCons (mC (.int 3)) (mCons (mC (.int 4)) mNil)))))) mNil))) mNil)))) (bdT [(bdN 3), (bdN 4), (bdN 5)])) (sSeq (sOwn 6 (mLs mNil)) (sSeq (sForM (m1 (fun ds => pu (D.rng1 ds)) (mCons (mVar 3) mNil)) (bdN 7) (sSeq (sOwn 8 (mLs mNil)) (sSeq (sForM (m1 (fun ds => pu (D.rng1 ds)) (mCons (mVar 4) mNil)) (bdN 9) (sSeq (sAsg (mCall 2 g__law_draw [] (mCons (mVar 0) (mCons (mC (.int 5)) mNil))) (bdN 10)) (sSeq (sAsg (m1 (pu1 D.tupF) (mCons (mFz (mLc (m1 (fun ds => pu (D.rng1 ds)) (mCons (mCall 2 g__law_draw [] (mCons (mVar 0) (mCons (mVar 5) mNil))) mNil)) [14] (bdN 14) mTrue (mCall 2 g__law_draw [] (mCons (mVar 0) (mCons (mVar 3) mNil))))) mNil)) (bdN 11)) (sSeq (sDrop (mSM 8 fApp (mCons (mIf (mB (m2 (pu2 D.eqD) (mVar 10) (mC (.int 0)))) (mC .non) (mIf (mB (m2 (pu2 D.eqD) (mVar 10) (mC (.int 1)))) (mTup mNil) (mVar 11))) mNil))) sNext)))) (sSeq (sMov 6 8) sNext)))) (sSeq (sAsg (mFz (mBorN (mCallN 1 gn__law_sk_live [] (mCons (mVar 6) mNil)))) (bdN 12)) (sSeq (sForM (m1 (fun ds => pu (D.rng1 ds)) (mCons (mVar 3) mNil)) (bdN 7) (sSeq (sIf (mB (m2 (pu2 D.ninD) (mVar 7) (mVar 12))) (sSeq (sAsg (mCall 2 g__law_draw [] (mCons (mVar 0) (mCons (mVar 4) mNil))) (bdN 13)) (sSeq (sSt2 6 7 13 (mTup mNil)) sNext)) sNext) sNext)) (sSeq (sRet (m1 (pu1 D.tupF) (mCons (mFz (mLc (mIts (mVar 6)) [8] (bdN 8) mTrue (m1 (pu1 D.tupF) (mCons (mVar 8) mNil)))) mNil))) sNext))))))
def g__law_sk_rules (ds : List D) (w : DS) : Option (Rs DS) := outF (m__law_sk_rules (startE 15 ds) w)
def m__law_sk_row : SM DS := (sSeq (sRet (m1 (pu1 D.tupF) (mCons (mFz (mLc (m1 (fun ds => pu (D.rng1 ds)) (mCons (mCall 2 g__law_draw [] (mCons (mVar 0) (mCons (m2 (pu2 D.add) (mVar 2) (mC (.int 1))) mNil))) mNil)) [3] (bdN 3) mTrue (mCall 2 g__law_draw [] (mCons (mVar 0) (mCons (m1 (pu1 D.lenL) (mCons (mVar 1) mNil)) mNil))))) mNil))) sNext)
def g__law_sk_row (ds : List D) (w : DS) : Option (Rs DS) := outF (m__law_sk_row (startE 4 ds) w)
def m__law_sk_gone : SM DS := (sSeq (sAsg (mFz (mItems (mCons (mVar 1) mNil))) (bdN 3)) (sSeq (sForM (m1 (fun ds => pu (D.enumA ds)) (mCons (mVar 2) mNil)) (bdT [(bdN 4), (bdN 5)]) (sSeq (sAsg (mIf (mB (m2 (pu2 D.neD) (mVar 3) (mFz (mLs mNil)))) (m2 (pu2 D.ix) (m2 (pu2 D.ix) (mVar 0) (m2 (pu2 D.ix) (mVar 3) (mC (.int 0)))) (mVar 5)) (mC .non)) (bdN 6)) (sSeq (sIf (mB (m2 (pu2 D.isN) (mVar 6) (mC .non))) (sSeq (sRet (mTup (mCons (mC .non) (mCons (mVar 4) mNil)))) sNext) sNext) (sSeq (sAsg (m2 (pu2 D.add) (mFz (mItems (mCons (mVar 6) mNil))) (mFz (mSlL (mVar 3) (mP (mC (.int 1))) mNoP))) (bdN 3)) sNext)))) (sSeq (sRet (mTup (mCons (m1 (pu1 D.tupF) (mCons (mVar 3) mNil)) (mCons (m1 (pu1 D.lenL) (mCons (mVar 2) mNil)) mNil)))) sNext)))
def g__law_sk_gone (ds : List D) (w : DS) : Option (Rs DS) := outF (m__law_sk_gone (startE 7 ds) w)
def m__law_sk_text : SM DS := (sSeq (sParP [4, 5, 6] (mConsD (mCall 2 g__law_draw [] (mCons (mVar 0) (mCons (mC (.int 4)) mNil))) (mConsL (mLs mNil) (mConsD (m1 (pu1 D.tupF) (mCons (mVar 2) mNil)) mNilP)))) (sSeq (sForM (m1 (fun ds => pu (D.rng1 ds)) (mCons (mCall 2 g__law_draw [] (mCons (mVar 0) (mCons (m2 (pu2 D.add) (mVar 3) (mC (.int 1))) mNil))) mNil)) (bdN 7) (sSeq (sAsg (mIf (mB (m2 (pu2 D.neD) (mVar 6) (mTup mNil))) (mFz (mLc (m1 (fun ds => pu (D.enumA ds)) (mCons (m2 (pu2 D.ix) (mVar 1) (m2 (pu2 D.ix) (mVar 6) (mC (.int 0)))) mNil)) [9, 10] (bdT [(bdN 9), (bdN 10)]) (mB (m2 (pu2 D.notN) (mVar 10) (mC .non))) (mVar 9))) (mFz (mLs mNil))) (bdN 8)) (sSeq (sIf (mOr (mB (m2 (pu2 D.eqD) (mVar 4) (mC (.int 3)))) (mB (m2 (pu2 D.eqD) (mVar 8) (mFz (mLs mNil))))) (sSeq (sDrop (mSM 5 fApp (mCons (mCall 2 g__law_draw [] (mCons (mVar 0) (mCons (m1 (pu1 D.lenL) (mCons (m2 (pu2 D.ix) (mVar 1) (mC (.int 0))) mNil)) mNil))) mNil))) (sSeq (sAsg (mTup mNil) (bdN 6)) sNext)) (sSeq (sAsg (mCall 2 g__law_pick [] (mCons (mVar 0) (mCons (mVar 8) mNil))) (bdN 9)) (sSeq (sDrop (mSM 5 fApp (mCons (mVar 9) mNil))) (sSeq (sAsg (m2 (pu2 D.add) (m2 (pu2 D.ix) (m2 (pu2 D.ix) (mVar 1) (m2 (pu2 D.ix) (mVar 6) (mC (.int 0)))) (mVar 9)) (mSlT (mVar 6) (mP (mC (.int 1))) mNoP)) (bdN 6)) sNext)))) sNext))) (sSeq (sIf (mBor (mAnd (mB (m2 (pu2 D.eqD) (mVar 4) (mC (.int 2)))) (mB (m2 (pu2 D.neD) (mVar 5) (mFz (mLs mNil)))))) (sSeq (mSt 5 (mCall 2 g__law_draw [] (mCons (mVar 0) (mCons (m1 (pu1 D.lenL) (mCons (m2 (pu2 D.ix) (mVar 1) (mC (.int 0))) mNil)) mNil))) (mBorF (mCall 2 g__law_draw [] (mCons (mVar 0) (mCons (m1 (pu1 D.lenL) (mCons (mVar 5) mNil)) mNil))))) sNext) sNext) (sSeq (sRet (m1 (pu1 D.tupF) (mCons (mVar 5) mNil))) sNext))))
def g__law_sk_text (ds : List D) (w : DS) : Option (Rs DS) := outF (m__law_sk_text (startE 11 ds) w)
def m__law_sk_no_program : SM DS := (sSeq (sRet (mCall 2 g__law_pick [] (mCons (mVar 0) (mCons (mFz (mLs (mCons (mC .non) (mCons (mC (.int 5)) (mCons (mC (.str "program")) (mCons (mTup (mCons (mC (.int 2)) (mCons (mTup mNil) mNil))) (mCons (mFz (mLs (mCons (mFz (mLs (mCons (mTup mNil) mNil))) mNil))) mNil))))))) mNil)))) sNext)
def g__law_sk_no_program (ds : List D) (w : DS) : Option (Rs DS) := outF (m__law_sk_no_program (startE 1 ds) w)
def m__law_came : SM DS := (sSeq (sAsg (mFz (mLs (mCons (m1 (pu1 (D.isiE "NoProgram" ["NoProgram"] ["NoRoom"])) (mCons (mVar 0) (mCons (mC (.gl "NoProgram")) mNil))) (mCons (m1 (pu1 (D.isiE "NoRoom" ["NoRoom"] ["NoProgram"])) (mCons (mVar 0) (mCons (mC (.gl "NoRoom")) mNil))) mNil)))) (bdN 2)) (sSeq (sRet (m2 (pu2 D.eqD) (mVar 2) (mFz (mLc (mIts (mFz (mLs (mCons (mC (.str "program")) (mCons (mC (.str "room")) mNil))))) [3] (bdN 3) mTrue (m2 (pu2 D.eqD) (mVar 1) (mVar 3)))))) sNext))
def g__law_came (ds : List D) (w : DS) : Option (Rs DS) := outF (m__law_came (startE 4 ds) w)
def m_law : SM DS := (sSeq (sForM (m1 (fun ds => pu (D.rng1 ds)) (mCons (m2 (pu2 D.add) (mC (.int 4)) (m1 (pu1 D.min2) (mCons (m1 (pu1 D.lenL) (mCons (mVar 0) mNil)) (mCons (mC (.int 8)) mNil)))) mNil)) (bdN 2) (sSeq (sPar 3 4 (mCons (mCall 3 g__law_sk_rules [] (mCons (mVar 1) (mCons (mCall 2 g__law_pick [] (mCons (mVar 1) (mCons (mFz (mLs (mCons (mC (.int 3)) (mCons (mC (.int 8)) mNil)))) mNil))) (mCons (mC (.int 4)) mNil)))) (mCons (mCall 3 g__law_sk_rules [] (mCons (mVar 1) (mCons (mCall 2 g__law_pick [] (mCons (mVar 1) (mCons (mFz (mLs (mCons (mC (.int 3)) (mCons (mC (.int 8)) mNil)))) mNil))) (mCons (mC (.int 4)) mNil)))) mNil))) (sSeq (sAsg (mTup (mCons (mMake 2 g_Program (mCons (m1 (pu1 D.lenL) (mCons (m2 (pu2 D.ix) (mVar 3) (mC (.int 0))) mNil)) (mCons (mVar 3) mNil))) (mCons (mMake 2 g_Program (mCons (m1 (pu1 D.lenL) (mCons (m2 (pu2 D.ix) (mVar 4) (mC (.int 0))) mNil)) (mCons (mVar 4) mNil))) (mCons (m1 (pu1 D.max2) (mCons (m1 (pu1 D.lenL) (mCons (m2 (pu2 D.ix) (mVar 3) (mC (.int 0))) mNil)) (mCons (m1 (pu1 D.lenL) (mCons (m2 (pu2 D.ix) (mVar 4) (mC (.int 0))) mNil)) mNil))) mNil)))) (bdT [(bdN 5), (bdN 6), (bdN 7)])) (sSeq (sAsg (m1 (pu1 D.lenL) (mCons (mVar 3) mNil)) (bdN 8)) (sSeq (sAsg (mFz (mLc (mIts (mVar 3)) [23] (bdN 23) mTrue (m2 (pu2 D.add) (m1 (pu1 D.tupF) (mCons (mVar 23) mNil)) (m2 (pu2 D.mulA) (mTup (mCons (mC .non) mNil)) (m2 (pu2 D.sub) (mVar 7) (m1 (pu1 D.lenL) (mCons (mVar 23) mNil))))))) (bdN 9)) (sSeq (sAsg (m2 (pu2 D.add) (mVar 9) (mFz (mLc (mIts (mVar 4)) [23] (bdN 23) mTrue (m2 (pu2 D.add) (m1 (pu1 D.tupF) (mCons (mFz (mLc (mIts (mVar 23)) [24] (bdN 24) mTrue (mIf (mB (m2 (pu2 D.isN) (mVar 24) (mC .non))) (mC .non) (m1 (pu1 D.tupF) (mCons (mFz (mLc (mIts (mVar 24)) [25] (bdN 25) mTrue (m2 (pu2 D.add) (mVar 25) (mVar 8)))) mNil))))) mNil)) (m2 (pu2 D.mulA) (mTup (mCons (mC .non) mNil)) (m2 (pu2 D.sub) (mVar 7) (m1 (pu1 D.lenL) (mCons (mVar 23) mNil)))))))) (bdN 9)) (sSeq (sIf (mB (m2 (pu2 D.gt) (m1 (pu1 D.lenL) (mCons (mVar 9) mNil)) (mC (.int 12)))) (sSeq (sIf (mNot (mB (mCall 2 g__law_came [] (mCons (mCaught ["NoProgram", "NoRoom"] (mCall 2 g_joined [] (mCons (mVar 5) (mCons (mVar 6) mNil)))) (mCons (mC (.str "room")) mNil))))) (sSeq (sRet (mC (.bl false))) sNext) sNext) (sSeq sCnt sNext)) sNext) (sSeq (sAsg (mCall 2 g_joined [] (mCons (mVar 5) (mCons (mVar 6) mNil))) (bdN 10)) (sSeq (sIf (mNot (mB (mCall 2 g__law_same [] (mCons (mFz (mLs (mCons (m1 (fun d => pu (d.fldS "Program" "own_letters")) (mVar 10)) (mCons (m1 (fun d => pu (d.fldS "Program" "own_rules")) (mVar 10)) (mCons (m1 (fun d => pu (d.fldS "Program" "own_rules")) (mCall 2 g_joined [] (m1 (fun ds => pu (if ds.length = 2 then some (pmI [1, 0] ds) else none)) (mCons (mVar 6) (mCons (mVar 5) mNil))))) mNil))))) (mCons (mFz (mLs (mCons (mVar 7) (mCons (m1 (pu1 D.tupF) (mCons (mVar 9) mNil)) (mCons (m1 (pu1 D.tupF) (mCons (mVar 9) mNil)) mNil))))) mNil))))) (sSeq (sRet (mC (.bl false))) sNext) sNext) (sSeq (sForM (m1 (fun ds => pu (D.rng1 ds)) (mCons (mC (.int 6)) mNil)) (bdN 11) (sSeq (sPar 12 13 (mCons (mCall 3 g__law_sk_row [] (mCons (mVar 1) (mCons (mVar 3) (mCons (mC (.int 3)) mNil)))) (mCons (mCall 3 g__law_sk_row [] (mCons (mVar 1) (mCons (mVar 4) (mCons (mC (.int 3)) mNil)))) mNil))) (sSeq (sPar 14 15 (mCons (mCall 4 g__law_sk_text [] (mCons (mVar 1) (mCons (mVar 3) (mCons (mVar 12) (mCons (mC (.int 8)) mNil))))) (mCons (mCall 4 g__law_sk_text [] (mCons (mVar 1) (mCons (mVar 4) (mCons (mVar 13) (mCons (mC (.int 8)) mNil))))) mNil))) (sSeq (sIf (mNot (mB (mCall 2 g__law_is_truth [] (mCons (mCall 3 g_reads [] (mCons (mVar 10) (mCons (mVar 12) (mCons (mVar 14) mNil)))) (mCons (m2 (pu2 D.eqD) (m2 (pu2 D.ix) (mCall 3 g__law_sk_gone [] (mCons (mVar 3) (mCons (mVar 12) (mCons (mVar 14) mNil)))) (mC (.int 0))) (mTup mNil)) mNil))))) (sSeq (sRet (mC (.bl false))) sNext) sNext) (sSeq (sIf (mNot (mB (mCall 2 g__law_is_truth [] (mCons (mCall 3 g_reads [] (mCons (mVar 10) (mCons (m1 (pu1 D.tupF) (mCons (mFz (mLc (mIts (mVar 13)) [25] (bdN 25) mTrue (m2 (pu2 D.add) (mVar 25) (mVar 8)))) mNil)) (mCons (mVar 15) mNil)))) (mCons (m2 (pu2 D.eqD) (m2 (pu2 D.ix) (mCall 3 g__law_sk_gone [] (mCons (mVar 4) (mCons (mVar 13) (mCons (mVar 15) mNil)))) (mC (.int 0))) (mTup mNil)) mNil))))) (sSeq (sRet (mC (.bl false))) sNext) sNext) sNext))))) (sSeq (sAsg (mCall 1 g__law_sk_no_program [] (mCons (mVar 1) mNil)) (bdN 16)) (sSeq (sForM (mIts (mFz (mLs (mCons (mTup (mCons (mVar 16) (mCons (mVar 16) (mCons (mC (.str "one")) mNil)))) (mCons (mTup (mCons (mVar 5) (mCons (mVar 16) (mCons (mC (.str "other")) mNil)))) mNil))))) (bdT [(bdN 17), (bdN 18), (bdN 19)]) (sSeq (sAsg (mCaught ["NoProgram", "NoRoom"] (mCall 2 g_joined [] (mCons (mVar 17) (mCons (mVar 18) mNil)))) (bdN 20)) (sSeq (sIf (mOr (mNot (mB (mCall 2 g__law_came [] (mCons (mVar 20) (mCons (mC (.str "program")) mNil))))) (mNot (mB (mCall 2 g__law_same [] (mCons (m1 (fun d => pu (d.fldE "part" ["NoProgram"])) (mVar 20)) (mCons (mVar 19) mNil)))))) (sSeq (sRet (mC (.bl false))) sNext) sNext) sNext))) sNext)))))))))))) (sSeq (sAsg (mTup (mCons (mMake 2 g_Program (mCons (mC (.int 1)) (mCons (m2 (pu2 D.mulA) (mFz (mLs (mCons (mFz (mLs (mCons (mTup mNil) mNil))) mNil))) (mC (.int 6))) mNil))) (mCons (mMake 2 g_Program (mCons (mC (.int 1)) (mCons (m2 (pu2 D.mulA) (mFz (mLs (mCons (mFz (mLs (mCons (mTup mNil) mNil))) mNil))) (mC (.int 7))) mNil))) mNil))) (bdT [(bdN 21), (bdN 22)])) (sSeq (sRet (mAndV (m2 (pu2 D.eqD) (m1 (pu1 D.lenL) (mCons (m1 (fun d => pu (d.fldS "Program" "own_rules")) (mCall 2 g_joined [] (mCons (mVar 21) (mCons (mVar 21) mNil)))) mNil)) (mC (.int 12))) (mCall 2 g__law_came [] (mCons (mCaught ["NoProgram", "NoRoom"] (mCall 2 g_joined [] (mCons (mVar 21) (mCons (mVar 22) mNil)))) (mCons (mC (.str "room")) mNil))))) sNext)))
theorem sc_is_number : FnScope ["thing"] ["thing"] (defScope s_is_number) := ⟨rfl, rfl, rfl, by decide +kernel, rfl, by decide +kernel, by decide +kernel⟩
theorem sc_is_between : FnScope ["thing", "low", "high"] ["thing", "low", "high"] (defScope s_is_between) := ⟨rfl, rfl, rfl, by decide +kernel, rfl, by decide +kernel, by decide +kernel⟩
theorem sc_is_list : FnScope ["thing"] ["thing"] (defScope s_is_list) := ⟨rfl, rfl, rfl, by decide +kernel, rfl, by decide +kernel, by decide +kernel⟩
theorem sc_rule_right : FnScope ["many", "thing", "item"] ["many", "thing"] (defScope s_rule_right) := ⟨rfl, rfl, rfl, by decide +kernel, rfl, by decide +kernel, by decide +kernel⟩
theorem sc_rules_right : FnScope ["letters", "thing", "line", "item"] ["letters", "thing"] (defScope s_rules_right) := ⟨rfl, rfl, rfl, by decide +kernel, rfl, by decide +kernel, by decide +kernel⟩
theorem sc_need_parts : FnScope ["letters", "rules"] ["letters", "rules"] (defScope s_need_parts) := ⟨rfl, rfl, rfl, by decide +kernel, rfl, by decide +kernel, by decide +kernel⟩
theorem sc_is_live_by : FnScope ["line", "live", "item", "other"] ["line", "live"] (defScope s_is_live_by) := ⟨rfl, rfl, rfl, by decide +kernel, rfl, by decide +kernel, by decide +kernel⟩
theorem sc_live_in : FnScope ["rules", "found", "many", "index", "line"] ["rules"] (defScope s_live_in) := ⟨rfl, rfl, rfl, by decide +kernel, rfl, by decide +kernel, by decide +kernel⟩
theorem sc_need_program : FnScope ["program", "part"] ["program", "part"] (defScope s_need_program) := ⟨rfl, rfl, rfl, by decide +kernel, rfl, by decide +kernel, by decide +kernel⟩
theorem sc_calls_right : FnScope ["program", "thing", "item"] ["program", "thing"] (defScope s_calls_right) := ⟨rfl, rfl, rfl, by decide +kernel, rfl, by decide +kernel, by decide +kernel⟩
theorem sc_row_right : FnScope ["program", "thing"] ["program", "thing"] (defScope s_row_right) := ⟨rfl, rfl, rfl, by decide +kernel, rfl, by decide +kernel, by decide +kernel⟩
theorem sc_need_row : FnScope ["program", "row", "part"] ["program", "row", "part"] (defScope s_need_row) := ⟨rfl, rfl, rfl, by decide +kernel, rfl, by decide +kernel, by decide +kernel⟩
theorem sc_widened : FnScope ["line", "letters", "shift", "found", "rule", "item"] ["line", "letters", "shift"] (defScope s_widened) := ⟨rfl, rfl, rfl, by decide +kernel, rfl, by decide +kernel, by decide +kernel⟩
theorem sc_joined : FnScope ["one", "other", "many", "letters", "found", "line"] ["one", "other"] (defScope s_joined) := ⟨rfl, rfl, rfl, by decide +kernel, rfl, by decide +kernel, by decide +kernel⟩
theorem sc_need_text : FnScope ["program", "text", "index", "item"] ["program", "text"] (defScope s_need_text) := ⟨rfl, rfl, rfl, by decide +kernel, rfl, by decide +kernel, by decide +kernel⟩
theorem sc_gone : FnScope ["rules", "row", "text", "stack", "index", "letter", "rule"] ["rules", "row", "text"] (defScope s_gone) := ⟨rfl, rfl, rfl, by decide +kernel, rfl, by decide +kernel, by decide +kernel⟩
theorem sc_need_reading : FnScope ["program", "row", "text"] ["program", "row", "text"] (defScope s_need_reading) := ⟨rfl, rfl, rfl, by decide +kernel, rfl, by decide +kernel, by decide +kernel⟩
theorem sc_reads : FnScope ["program", "row", "text"] ["program", "row", "text"] (defScope s_reads) := ⟨rfl, rfl, rfl, by decide +kernel, rfl, by decide +kernel, by decide +kernel⟩
theorem sc__law_begun : FnScope ["script", "great", "cell"] ["script"] (defScope s__law_begun) := ⟨rfl, rfl, rfl, by decide +kernel, rfl, by decide +kernel, by decide +kernel⟩
theorem sc__law_blended : FnScope ["state", "turn", "found", "prime", "blend", "cell"] ["state"] (defScope s__law_blended) := ⟨rfl, rfl, rfl, by decide +kernel, rfl, by decide +kernel, by decide +kernel⟩
theorem sc__law_draw : FnScope ["state", "room", "found"] ["state", "room"] (defScope s__law_draw) := ⟨rfl, rfl, rfl, by decide +kernel, rfl, by decide +kernel, by decide +kernel⟩
theorem sc__law_pick : FnScope ["state", "some"] ["state", "some"] (defScope s__law_pick) := ⟨rfl, rfl, rfl, by decide +kernel, rfl, by decide +kernel, by decide +kernel⟩
theorem sc__law_caught : FnScope ["action", "found", "error"] ["action"] (defScope s__law_caught) := ⟨rfl, rfl, rfl, by decide +kernel, rfl, by decide +kernel, by decide +kernel⟩
theorem sc__law_is_truth : FnScope ["found", "due"] ["found", "due"] (defScope s__law_is_truth) := ⟨rfl, rfl, rfl, by decide +kernel, rfl, by decide +kernel, by decide +kernel⟩
theorem sc__law_same : FnScope ["found", "due", "waiting", "one", "other", "same_kinds", "key", "left", "right"] ["found", "due"] (defScope s__law_same) := ⟨rfl, rfl, rfl, by decide +kernel, rfl, by decide +kernel, by decide +kernel⟩
theorem sc__law_sk_live : FnScope ["rules", "found", "lap", "at", "line", "rule", "item"] ["rules"] (defScope s__law_sk_live) := ⟨rfl, rfl, rfl, by decide +kernel, rfl, by decide +kernel, by decide +kernel⟩
theorem sc__law_sk_rules : FnScope ["draws", "procedures", "letters", "many", "k", "size", "found", "at", "line", "letter", "way", "rule", "live", "spot", "lap"] ["draws", "procedures", "letters"] (defScope s__law_sk_rules) := ⟨rfl, rfl, rfl, by decide +kernel, rfl, by decide +kernel, by decide +kernel⟩
theorem sc__law_sk_row : FnScope ["draws", "rules", "most", "lap"] ["draws", "rules", "most"] (defScope s__law_sk_row) := ⟨rfl, rfl, rfl, by decide +kernel, rfl, by decide +kernel, by decide +kernel⟩
theorem sc__law_sk_gone : FnScope ["rules", "row", "text", "left", "at", "letter", "rule"] ["rules", "row", "text"] (defScope s__law_sk_gone) := ⟨rfl, rfl, rfl, by decide +kernel, rfl, by decide +kernel, by decide +kernel⟩
theorem sc__law_sk_text : FnScope ["draws", "rules", "row", "most", "way", "found", "left", "lap", "some", "letter", "rule"] ["draws", "rules", "row", "most"] (defScope s__law_sk_text) := ⟨rfl, rfl, rfl, by decide +kernel, rfl, by decide +kernel, by decide +kernel⟩
theorem sc__law_sk_no_program : FnScope ["draws"] ["draws"] (defScope s__law_sk_no_program) := ⟨rfl, rfl, rfl, by decide +kernel, rfl, by decide +kernel, by decide +kernel⟩
theorem sc__law_came : FnScope ["caught", "word", "kinds", "each"] ["caught", "word"] (defScope s__law_came) := ⟨rfl, rfl, rfl, by decide +kernel, rfl, by decide +kernel, by decide +kernel⟩
theorem sc_law : FnScope ["script", "draws", "turn", "left", "right", "one", "other", "k", "shift", "due", "told", "lap", "row", "second_row", "text", "more", "odd", "first", "second", "part", "caught", "six", "seven", "line", "rule", "item"] ["script"] (defScope s_law) := ⟨rfl, rfl, rfl, by decide +kernel, rfl, by decide +kernel, by decide +kernel⟩
theorem sc_Program_init : FnScope ["self", "letters", "rules", "line"] ["self", "letters", "rules"] (defScope s_Program_init) := ⟨rfl, rfl, rfl, by decide +kernel, rfl, by decide +kernel, by decide +kernel⟩
theorem sc_Program_letters : FnScope ["self"] ["self"] (defScope s_Program_letters) := ⟨rfl, rfl, rfl, by decide +kernel, rfl, by decide +kernel, by decide +kernel⟩
theorem sc_Program_rules : FnScope ["self"] ["self"] (defScope s_Program_rules) := ⟨rfl, rfl, rfl, by decide +kernel, rfl, by decide +kernel, by decide +kernel⟩
end K03
set_option maxRecDepth 100000
set_option maxHeartbeats 4000000
namespace K03
open PySem PySem.Spec PyProof.Rows L2 FL
def bl2 : SM DS := (sSeq (sAsg (m2 (pu2 D.mod) (m1 (pu1 D.intL) (mCons (m2 (pu2 D.add) (m2 (pu2 D.add) (m2 (pu2 D.mulA) (mVar 4) (mC (.int 69621))) (mVar 5)) (mVar 1)) mNil)) (mVar 3)) (bdN 4)) sNext)
theorem bl2_step (w : DS) (t f p b c : Int) (hp : 0 < p) : bl2 [some (.frz .wld), some (.frz (.int t)), some (.frz (.int f)), some (.frz (.int p)), some (.frz (.int b)), some (.frz (.int c))] w =
    some (.nx [some (.frz .wld), some (.frz (.int t)), some (.frz (.int f)), some (.frz (.int p)), some (.frz (.int ((b * 69621 + c + t) % p))), some (.frz (.int c))] w) := by
  have h1 : D.mulA (.int b) (.int 69621) = some (.int (b * 69621)) := mulA_ok (by decide)
  have h2 : D.mod (.int (b * 69621 + c + t)) (.int p) = some (.int ((b * 69621 + c + t) % p)) := mod_ok hp
  simp [bl2, sSeq, sAsg, sB, sNext, m2, m1, mCons, mNil, mVar, rdV, mC, pu, pu1, pu2, bnd, D.add, h1, h2, D.intL, bdN]
theorem bl2_loop (w : DS) (t f p : Int) (hp : 0 < p) : ∀ (cs : List Int) (b : Int) (o : Option O), ∃ b' o', sFor bl2 (bdN 5) (cs.map .int) [some (.frz .wld), some (.frz (.int t)), some (.frz (.int f)), some (.frz (.int p)), some (.frz (.int b)), o] w =
    some (.nx [some (.frz .wld), some (.frz (.int t)), some (.frz (.int f)), some (.frz (.int p)), some (.frz (.int b')), o'] w) ∧ (b' = b ∨ (0 ≤ b' ∧ b' < p))
  | [], b, o => ⟨b, o, rfl, .inl rfl⟩
  | c :: cs, b, o => by
    obtain ⟨b', o', h1, h2⟩ := bl2_loop w t f p hp cs ((b * 69621 + c + t) % p) (some (.frz (.int c)))
    refine ⟨b', o', ?_, ?_⟩
    · rw [List.map_cons]
      unfold sFor
      have e : bdN 5 (D.int c) [some (.frz .wld), some (.frz (.int t)), some (.frz (.int f)), some (.frz (.int p)), some (.frz (.int b)), o] = some [some (.frz .wld), some (.frz (.int t)), some (.frz (.int f)), some (.frz (.int p)), some (.frz (.int b)), some (.frz (.int c))] := rfl
      rw [e]
      simp only
      rw [bl2_step w t f p b c hp]
      exact h1
    · rcases h2 with h2 | h2
      · exact .inr (by rw [h2]; exact ⟨Int.emod_nonneg _ (by omega), Int.emod_lt_of_pos _ hp⟩)
      · exact .inr h2
def bl1 : SM DS := (sSeq (sAsg (m2 (pu2 D.add) (m2 (pu2 D.mulA) (mC (.int 48271)) (mVar 1)) (m2 (pu2 D.fdiv) (mVar 3) (mC (.int 53)))) (bdN 4)) (sSeq (sForM (mWcells 0) (bdN 5) bl2) (sSeq (sAsg (m2 (pu2 D.add) (m2 (pu2 D.mulA) (mVar 2) (mC (.int 2147483647))) (m2 (pu2 D.mod) (m1 (pu1 D.intL) (mCons (m2 (pu2 D.pow) (mVar 4) (mC (.int 5))) mNil)) (mVar 3))) (bdN 2)) sNext)))
theorem bl1_step (w : DS) (t f p : Int) (hp : 0 < p) (hp2 : p < 2 ^ 32) (ht : 0 ≤ t) (ht2 : t ≤ 2 ^ 41) (hf : 0 ≤ f) (o4 o5 : Option O) : ∃ f' b' o', bl1 [some (.frz .wld), some (.frz (.int t)), some (.frz (.int f)), some (.frz (.int p)), o4, o5] w =
    some (.nx [some (.frz .wld), some (.frz (.int t)), some (.frz (.int f')), some (.frz (.int p)), some (.frz (.int b')), o'] w) ∧ 0 ≤ f' := by
  obtain ⟨b', o', h1, h2⟩ := bl2_loop w t f p hp w.cells (48271 * t + p / 53) o5
  have hb : b'.natAbs < 2 ^ 64 := by
    rcases h2 with h2 | h2
    · omega
    · omega
  have k1 : D.mulA (.int 48271) (.int t) = some (.int (48271 * t)) := mulA_ok (by omega)
  have k2 : D.fdiv (.int p) (.int 53) = some (.int (p / 53)) := fdiv_ok (by decide) (by decide)
  have k3 : D.mulA (.int f) (.int 2147483647) = some (.int (f * 2147483647)) := mulA_ok (by decide)
  have k4 : D.pow (.int b') (.int 5) = some (.int (b' ^ 5)) := pow_ok (k := 5) hb (by decide)
  have k5 : D.mod (.int (b' ^ 5)) (.int p) = some (.int (b' ^ 5 % p)) := mod_ok hp
  refine ⟨f * 2147483647 + b' ^ 5 % p, b', o', ?_, ?_⟩
  · simp [bl1, sSeq, sAsg, sB, sNext, sForM, mWcells, m2, m1, mCons, mNil, mVar, rdV, mC, pu, pu1, pu2, bnd, D.add, k1, k2, k3, k4, k5, h1, D.intL, bdN]
  · have := Int.emod_nonneg (b' ^ 5) (show p ≠ 0 by omega)
    have : 0 ≤ f * 2147483647 := by omega
    omega
theorem blended_ok (w : DS) (ht : 0 ≤ w.turn) (ht2 : w.turn + 1 ≤ 2 ^ 41) : ∃ b, g__law_blended [.wld] w = some (.ok (.int b) { w with turn := w.turn + 1 }) ∧ 0 ≤ b := by
  obtain ⟨f1, b1, o1, e1, n1⟩ := bl1_step { w with turn := w.turn + 1 } (w.turn + 1) 0 2147483579 (by decide) (by decide) (by omega) ht2 (by decide) none none
  obtain ⟨f2, b2, o2, e2, n2⟩ := bl1_step { w with turn := w.turn + 1 } (w.turn + 1) f1 2147483629 (by decide) (by decide) (by omega) ht2 n1 (some (.frz (.int b1))) o1
  obtain ⟨f3, b3, o3, e3, n3⟩ := bl1_step { w with turn := w.turn + 1 } (w.turn + 1) f2 2147483563 (by decide) (by decide) (by omega) ht2 n2 (some (.frz (.int b2))) o2
  refine ⟨f3, ?_, n3⟩
  have hm : m__law_blended = (sSeq (sPar 1 2 (mCons (m2 (pu2 D.add) (mWi 0 .turn) (mC (.int 1))) (mCons (mC (.int 0)) mNil))) (sSeq (sWi 0 .turn (mVar 1)) (sSeq (sForM (mIts (mFz (mLs (mCons (mC (.int 2147483579)) (mCons (mC (.int 2147483629)) (mCons (mC (.int 2147483563)) mNil)))))) (bdN 3) bl1) (sSeq (sRet (mVar 2)) sNext)))) := rfl
  have a1 : sPar 1 2 (mCons (m2 (pu2 D.add) (mWi 0 .turn) (mC (.int 1))) (mCons (mC (.int 0)) mNil)) (startE 6 [.wld]) w = some (.nx [some (.frz .wld), some (.frz (.int (w.turn + 1))), some (.frz (.int 0)), none, none, none] w) := rfl
  have a2 : sWi 0 .turn (mVar 1) [some (.frz .wld), some (.frz (.int (w.turn + 1))), some (.frz (.int 0)), none, none, none] w = some (.nx [some (.frz .wld), some (.frz (.int (w.turn + 1))), some (.frz (.int 0)), none, none, none] { w with turn := w.turn + 1 }) := rfl
  have a3 : sForM (mIts (mFz (mLs (mCons (mC (.int 2147483579)) (mCons (mC (.int 2147483629)) (mCons (mC (.int 2147483563)) mNil)))))) (bdN 3) bl1 [some (.frz .wld), some (.frz (.int (w.turn + 1))), some (.frz (.int 0)), none, none, none] { w with turn := w.turn + 1 } =
      sFor bl1 (bdN 3) [.int 2147483579, .int 2147483629, .int 2147483563] [some (.frz .wld), some (.frz (.int (w.turn + 1))), some (.frz (.int 0)), none, none, none] { w with turn := w.turn + 1 } := rfl
  unfold g__law_blended
  rw [hm]
  unfold sSeq
  rw [a1]
  simp only
  rw [a2]
  simp only
  rw [a3]
  rw [sFor_nx (ρ1 := [some (.frz .wld), some (.frz (.int (w.turn + 1))), some (.frz (.int 0)), some (.frz (.int 2147483579)), none, none]) rfl e1]
  rw [sFor_nx (ρ1 := [some (.frz .wld), some (.frz (.int (w.turn + 1))), some (.frz (.int f1)), some (.frz (.int 2147483629)), some (.frz (.int b1)), o1]) rfl e2]
  rw [sFor_nx (ρ1 := [some (.frz .wld), some (.frz (.int (w.turn + 1))), some (.frz (.int f2)), some (.frz (.int 2147483563)), some (.frz (.int b2)), o2]) rfl e3]
  rfl
theorem draw_ok {n : Nat} {w : DS} (ok : DsOk (n + 1) w) {room : Int} (h1 : 0 < room) (h2 : room < 1073741824) : ∃ v w', g__law_draw [.wld, .int room] w = some (.ok (.int v) w') ∧ 0 ≤ v ∧ v < room ∧ DsOk n w' := by
  obtain ⟨t0, t1, r0, g0⟩ := ok
  -- the rest, filled
  have fill : ∃ w1, sIf (mB (m2 (pu2 D.eqD) (mWi 0 .rest) (mC (.int 0)))) (sSeq (sWi 0 .rest (mIf (mB (mWne 0)) (mWpop 0) (mCall 1 g__law_blended [] (mCons (mVar 0) mNil)))) sNext) sNext [some (.frz .wld), some (.frz (.int room)), none] w =
      some (.nx [some (.frz .wld), some (.frz (.int room)), none] w1) ∧ 0 ≤ w1.rest ∧ 0 ≤ w1.turn ∧ w1.turn + n ≤ 2 ^ 40 ∧ ∀ z ∈ w1.great, 0 ≤ z := by
    obtain ⟨great, cells, rest, turn⟩ := w
    by_cases hr : rest = 0
    · subst hr
      cases great with
      | nil =>
        obtain ⟨b, hb, b0⟩ := blended_ok ⟨[], cells, 0, turn⟩ t0 (by have : turn + (n + 1 : Nat) ≤ 2 ^ 40 := t1; show turn + 1 ≤ 2 ^ 41; omega)
        refine ⟨⟨[], cells, b, turn + 1⟩, ?_, b0, by show 0 ≤ turn + 1; have : 0 ≤ turn := t0; omega, by show turn + 1 + n ≤ 2 ^ 40; have : turn + (n + 1 : Nat) ≤ 2 ^ 40 := t1; omega, g0⟩
        have e1 : (mB (m2 (pu2 D.eqD) (mWi 0 .rest) (mC (.int 0)))) [some (.frz .wld), some (.frz (.int room)), none] (⟨[], cells, 0, turn⟩ : DS) = some (.ok true [some (.frz .wld), some (.frz (.int room)), none] ⟨[], cells, 0, turn⟩) := rfl
        have e2 : (mB (mWne 0)) [some (.frz .wld), some (.frz (.int room)), none] (⟨[], cells, 0, turn⟩ : DS) = some (.ok false [some (.frz .wld), some (.frz (.int room)), none] ⟨[], cells, 0, turn⟩) := rfl
        have e3 : (mCons (mVar 0) mNil) [some (.frz .wld), some (.frz (.int room)), none] (⟨[], cells, 0, turn⟩ : DS) = some (.ok [.wld] [some (.frz .wld), some (.frz (.int room)), none] ⟨[], cells, 0, turn⟩) := rfl
        simp [sIf, sB, e1, sSeq, sNext, sWi, mIf, bnd, e2, mCall, m1, e3, hb, WF.set]
      | cons x r =>
        refine ⟨⟨r, cells, x, turn⟩, ?_, g0 x List.mem_cons_self, t0, by show turn + n ≤ 2 ^ 40; have : turn + (n + 1 : Nat) ≤ 2 ^ 40 := t1; omega, fun z hz => g0 z (List.mem_cons_of_mem _ hz)⟩
        have e1 : (mB (m2 (pu2 D.eqD) (mWi 0 .rest) (mC (.int 0)))) [some (.frz .wld), some (.frz (.int room)), none] (⟨x :: r, cells, 0, turn⟩ : DS) = some (.ok true [some (.frz .wld), some (.frz (.int room)), none] ⟨x :: r, cells, 0, turn⟩) := rfl
        have e2 : (mB (mWne 0)) [some (.frz .wld), some (.frz (.int room)), none] (⟨x :: r, cells, 0, turn⟩ : DS) = some (.ok true [some (.frz .wld), some (.frz (.int room)), none] ⟨x :: r, cells, 0, turn⟩) := by
          have z := ne_nilL (l := (x :: r).map D.int) (n := 1) (fun y hy => by
            obtain ⟨q, _, rfl⟩ := List.mem_map.mp hy
            exact pyOk_int q) (by decide)
          simp only [mB, m1, mWne, List.getElem?_cons_zero, z, Option.map_some, bnd, pu, D.tr]
          rfl
        have e3 : (mWpop 0) [some (.frz .wld), some (.frz (.int room)), none] (⟨x :: r, cells, 0, turn⟩ : DS) = some (.ok (.int x) [some (.frz .wld), some (.frz (.int room)), none] ⟨r, cells, 0, turn⟩) := rfl
        simp [sIf, sB, e1, sSeq, sNext, sWi, mIf, bnd, e2, e3, WF.set]
    · refine ⟨⟨great, cells, rest, turn⟩, ?_, r0, t0, by show turn + n ≤ 2 ^ 40; have : turn + (n + 1 : Nat) ≤ 2 ^ 40 := t1; omega, g0⟩
      have e0 : (mB (m2 (pu2 D.eqD) (mWi 0 .rest) (mC (.int 0)))) [some (.frz .wld), some (.frz (.int room)), none] (⟨great, cells, rest, turn⟩ : DS) = some (.ok (rest == 0) [some (.frz .wld), some (.frz (.int room)), none] ⟨great, cells, rest, turn⟩) := rfl
      have e1 : (rest == 0) = false := beq_eq_false_iff_ne.mpr hr
      rw [e1] at e0
      simp [sIf, sB, e0, sNext]
  obtain ⟨w1, e1, a1, a2, a3, a4⟩ := fill
  refine ⟨w1.rest % room, { w1 with rest := w1.rest / room }, ?_, Int.emod_nonneg _ (by omega), Int.emod_lt_of_pos _ h1, a2, a3, Int.ediv_nonneg a1 (by omega), a4⟩
  have k1 : D.mod (.int w1.rest) (.int room) = some (.int (w1.rest % room)) := mod_ok h1
  have k2 : D.fdiv (.int w1.rest) (.int room) = some (.int (w1.rest / room)) := fdiv_ok h1 h2
  have hs : startE 3 [.wld, .int room] = [some (.frz .wld), some (.frz (.int room)), none] := rfl
  unfold g__law_draw m__law_draw
  rw [hs, sSeq_nx e1]
  simp [sSeq, sAsg, sB, sRet, sNext, sWi, m2, m1, mCons, mNil, mVar, mWi, WF.get, WF.set, rdV, pu, pu1, pu2, bnd, k1, k2, D.intL, bdN, outF]
end K03
set_option maxRecDepth 100000
set_option maxHeartbeats 4000000
namespace K03
open PySem PySem.Spec PyProof.Rows L2 FL
/-! ### rows, texts, rules as data -/
def dn (l : List Nat) : List D := l.map fun (n : Nat) => .int n
def dR : Option (List Nat) → D
  | none => .non
  | some l => .tup (dn l)
def dRules (R : List (List (Option (List Nat)))) : D := .tup (R.map fun l => .tup (l.map dR))
def PD (L : Nat) (R : List (List (Option (List Nat)))) : D := .ins "Program" ["own_letters", "own_rules"] [.int L, dRules R]
def rl (R : List (List (Option (List Nat)))) (a x : Nat) : Option (Option (List Nat)) := (R[a]?).bind (·[x]?)
def goneM (R : List (List (Option (List Nat)))) : List Nat → Nat → List Nat → Option (List Nat) × Nat
  | row, i, [] => (some row, i)
  | [], i, _ :: _ => (none, i)
  | a :: r, i, x :: xs => match rl R a x with
    | some (some l) => goneM R (l ++ r) (i + 1) xs
    | _ => (none, i)
def GoodR (R : List (List (Option (List Nat)))) (m n : Nat) : Prop := ∀ a, a < m → ∀ x, x < n → ∃ r, rl R a x = some r ∧ ∀ l, r = some l → (∀ b ∈ l, b < m) ∧ l.length ≤ 6
theorem rl_ix {R : List (List (Option (List Nat)))} {a x : Nat} {r : Option (List Nat)} (h : rl R a x = some r) : ∃ row, D.ix (dRules R) (.int a) = some row ∧ D.ix row (.int x) = some (dR r) := by
  unfold rl at h
  cases hR : R[a]? with
  | none =>
    rw [hR] at h
    cases h
  | some l =>
    rw [hR] at h
    have h' : l[x]? = some r := h
    refine ⟨.tup (l.map dR), ?_, ?_⟩
    · show atI (R.map fun l => D.tup (l.map dR)) (a : Int) = _
      exact atI_nat (by rw [List.getElem?_map, hR]; rfl)
    · show atI (l.map dR) (x : Int) = _
      exact atI_nat (by rw [List.getElem?_map, h']; rfl)
def gb : SM DS := (sSeq (sIf (mBor (mOr (mB (m2 (pu2 D.eqD) (mVar 3) (mFz (mLs mNil)))) (mB (m2 (pu2 D.isN) (m2 (pu2 D.ix) (m2 (pu2 D.ix) (mVar 0) (m2 (pu2 D.ix) (mVar 3) (m1 (fun d => pu d.neg) (mC (.int 1))))) (mVar 5)) (mC .non))))) (sSeq (sRet (mTup (mCons (mC .non) (mCons (mVar 4) mNil)))) sNext) sNext) (sSeq (sAsg (m2 (pu2 D.ix) (m2 (pu2 D.ix) (mVar 0) (mSM 3 fPop mNil)) (mVar 5)) (bdN 6)) (sSeq (sDrop (mSM 3 fExtA (mCons (m1 (fun d => pu d.revA) (mVar 6)) mNil))) sNext)))
def gE (R : List (List (Option (List Nat)))) (d1 d2 : D) (row : List Nat) (o4 o5 o6 : Option O) : Ev := [some (.frz (dRules R)), some (.frz d1), some (.frz d2), some (.lst (dn row.reverse)), o4, o5, o6]
theorem dn_rev (l : List Nat) : (dn l).reverse = dn l.reverse := by
  unfold dn
  rw [List.map_reverse]
theorem dn_ok (l : List Nat) : ∀ x ∈ dn l, PyOk 1 x := fun x hx => by
  unfold dn at hx
  obtain ⟨q, _, rfl⟩ := List.mem_map.mp hx
  exact pyOk_int q
theorem eqD_nil (l : List Nat) : D.eqD (.lst (dn l)) (.lst []) = some (.bl l.isEmpty) := by
  unfold D.eqD
  rw [eq_nilL (dn_ok l) (by decide)]
  unfold dn
  cases l <;> rfl
theorem gb_nil (R : List (List (Option (List Nat)))) (d1 d2 : D) (i x : Int) (o6 : Option O) (w : DS) : gb [some (.frz (dRules R)), some (.frz d1), some (.frz d2), some (.lst (dn [])), some (.frz (.int i)), some (.frz (.int x)), o6] w = some (.rt (.tup [.non, .int i]) w) := rfl
theorem last_ix (r : List Nat) (a : Nat) : D.ix (.lst (dn (a :: r).reverse)) (.int (-1)) = some (.int a) := by
  rw [List.reverse_cons]
  unfold dn
  rw [List.map_append]
  exact atI_last _ _
theorem pop_ix (r : List Nat) (a : Nat) : fPop (dn (a :: r).reverse) [] = some (.int a, dn r.reverse) := by
  rw [List.reverse_cons]
  unfold dn fPop
  rw [List.map_append]
  simp
theorem gb_none {R : List (List (Option (List Nat)))} {d1 d2 : D} {a x : Nat} {r : List Nat} {i : Int} {o6 : Option O} (w : DS) (h : rl R a x = some none) :
    gb [some (.frz (dRules R)), some (.frz d1), some (.frz d2), some (.lst (dn (a :: r).reverse)), some (.frz (.int i)), some (.frz (.int x)), o6] w = some (.rt (.tup [.non, .int i]) w) := by
  obtain ⟨row, k1, k2⟩ := rl_ix h
  have k3 := eqD_nil (a :: r).reverse
  have k4 := last_ix r a
  have k5 : (a :: r).reverse.isEmpty = false := by simp
  rw [k5] at k3
  generalize (a :: r).reverse = s at k3 k4 ⊢
  simp [gb, sSeq, sIf, sB, sRet, sNext, mBor, fzE, mOr, mIf, mB, m2, m1, mCons, mNil, mVar, rdV, mC, pu, pu2, bnd, mFz, mLs, mTup, D.tr, D.neg, k1, k2, k3, k4, O.toD, dR, D.isN]
theorem gb_some {R : List (List (Option (List Nat)))} {d1 d2 : D} {a x : Nat} {r l : List Nat} {i : Int} {o6 : Option O} (w : DS) (h : rl R a x = some (some l)) (hl : r.length + l.length ≤ 16777216) :
    gb [some (.frz (dRules R)), some (.frz d1), some (.frz d2), some (.lst (dn (a :: r).reverse)), some (.frz (.int i)), some (.frz (.int x)), o6] w = some (.nx (gE R d1 d2 (l ++ r) (some (.frz (.int i))) (some (.frz (.int x))) (some (.frz (.tup (dn l))))) w) := by
  obtain ⟨row, k1, k2⟩ := rl_ix h
  have k3 := eqD_nil (a :: r).reverse
  have k4 := last_ix r a
  have k5 : (a :: r).reverse.isEmpty = false := by simp
  rw [k5] at k3
  have k6 := pop_ix r a
  have k7 : fExtA (dn r.reverse) [.tup (dn l.reverse)] = some (.non, dn (l ++ r).reverse) := by
    unfold fExtA
    simp only
    rw [if_pos (by unfold dn; simp; omega)]
    unfold dn
    rw [List.reverse_append, List.map_append]
  generalize (a :: r).reverse = s at k3 k4 k6 ⊢
  simp [gb, sSeq, sIf, sB, sRet, sNext, sAsg, sDrop, mBor, fzE, mOr, mIf, mB, m2, m1, mCons, mNil, mVar, rdV, mC, pu, pu2, bnd, mFz, mLs, mTup, mSM, lsOf, bdN, D.tr, D.neg, k1, k2, k3, k4, k6, k7, O.toD, dR, D.isN, D.revA, dn_rev, gE]
theorem gone_loop {R : List (List (Option (List Nat)))} {m n : Nat} (hR : GoodR R m n) (d1 d2 : D) (w : DS) : ∀ (text : List Nat) (i : Nat) (row : List Nat) (o4 o5 o6 : Option O), (∀ a ∈ row, a < m) → (∀ x ∈ text, x < n) → row.length + 6 * text.length ≤ 16000000 →
    ∃ p4 p5 p6, sFor gb (bdT [(bdN 4), (bdN 5)]) (((dn text).zipIdx i).map fun p => .tup [.int p.2, p.1]) (gE R d1 d2 row o4 o5 o6) w = (match goneM R row i text with
      | (some row', _) => some (.nx (gE R d1 d2 row' p4 p5 p6) w)
      | (none, j) => some (.rt (.tup [.non, .int j]) w))
  | [], i, row, o4, o5, o6, _, _, _ => ⟨o4, o5, o6, by unfold goneM; rfl⟩
  | x :: xs, i, [], o4, o5, o6, _, _, _ => ⟨o4, o5, o6, by
    have e : ((dn (x :: xs)).zipIdx i).map (fun p => D.tup [.int p.2, p.1]) = .tup [.int i, .int x] :: ((dn xs).zipIdx (i + 1)).map (fun p => D.tup [.int p.2, p.1]) := by
      unfold dn
      rw [List.map_cons, List.zipIdx_cons, List.map_cons]
    rw [e, sFor_rt (ρ1 := [some (.frz (dRules R)), some (.frz d1), some (.frz d2), some (.lst (dn [])), some (.frz (.int i)), some (.frz (.int x)), o6]) rfl (gb_nil R d1 d2 i x o6 w)]
    unfold goneM
    rfl⟩
  | x :: xs, i, a :: r, o4, o5, o6, hr, ht, hl => by
    obtain ⟨q, hq, hq2⟩ := hR a (hr a List.mem_cons_self) x (ht x List.mem_cons_self)
    have e : ((dn (x :: xs)).zipIdx i).map (fun p => D.tup [.int p.2, p.1]) = .tup [.int i, .int x] :: ((dn xs).zipIdx (i + 1)).map (fun p => D.tup [.int p.2, p.1]) := by
      unfold dn
      rw [List.map_cons, List.zipIdx_cons, List.map_cons]
    cases q with
    | none =>
      refine ⟨o4, o5, o6, ?_⟩
      rw [e, sFor_rt (ρ1 := [some (.frz (dRules R)), some (.frz d1), some (.frz d2), some (.lst (dn (a :: r).reverse)), some (.frz (.int i)), some (.frz (.int x)), o6]) rfl (gb_none w hq)]
      unfold goneM
      rw [hq]
    | some l =>
      obtain ⟨g1, g2⟩ := hq2 l rfl
      have hl' : r.length + 1 + 6 * (xs.length + 1) ≤ 16000000 := hl
      obtain ⟨p4, p5, p6, ih⟩ := gone_loop hR d1 d2 w xs (i + 1) (l ++ r) (some (.frz (.int i))) (some (.frz (.int x))) (some (.frz (.tup (dn l)))) (fun b hb => by
        rcases List.mem_append.mp hb with hb | hb
        · exact g1 b hb
        · exact hr b (List.mem_cons_of_mem _ hb)) (fun y hy => ht y (List.mem_cons_of_mem _ hy)) (by rw [List.length_append]; omega)
      refine ⟨p4, p5, p6, ?_⟩
      rw [e, sFor_nx (ρ1 := [some (.frz (dRules R)), some (.frz d1), some (.frz d2), some (.lst (dn (a :: r).reverse)), some (.frz (.int i)), some (.frz (.int x)), o6]) rfl (gb_some w hq (by omega)), ih]
      conv => rhs; unfold goneM
      rw [hq]
theorem goneM_idx (R : List (List (Option (List Nat)))) : ∀ (text row : List Nat) (i j : Nat) (r : List Nat), goneM R row i text = (some r, j) → j = i + text.length
  | [], row, i, j, r, h => by
    unfold goneM at h
    cases h
    rfl
  | x :: xs, [], i, j, r, h => by
    unfold goneM at h
    cases h
  | x :: xs, a :: q, i, j, r, h => by
    unfold goneM at h
    split at h
    · have := goneM_idx R xs _ _ _ _ h
      rw [this, List.length_cons]
      omega
    · cases h
def IsT (d : D) (ts : List Nat) : Prop := d = .tup (dn ts) ∨ d = .tpx (dn ts)
theorem gone_ok {R : List (List (Option (List Nat)))} {m n : Nat} (hR : GoodR R m n) {txt : D} {text row : List Nat} (ht : IsT txt text) (h1 : ∀ a ∈ row, a < m) (h2 : ∀ x ∈ text, x < n) (h3 : row.length ≤ 12) (h4 : text.length ≤ 2000) (w : DS) :
    g_gone [dRules R, .tup (dn row), txt] w = some (.ok (.tup [dR (goneM R row 0 text).1, .int ((goneM R row 0 text).2 : Nat)]) w) := by
  obtain ⟨p4, p5, p6, e⟩ := gone_loop hR (.tup (dn row)) txt w text 0 row none none none h1 h2 (by omega)
  have hm : m_gone = (sSeq (sOwn 3 (mItems (mCons (m1 (fun d => pu d.revA) (mVar 1)) mNil))) (sSeq (sForM (m1 (fun ds => pu (D.enumA ds)) (mCons (mVar 2) mNil)) (bdT [(bdN 4), (bdN 5)]) gb) (sSeq (sRet (mTup (mCons (m1 (pu1 D.tupF) (mCons (m1 (fun d => pu d.revA) (mVar 3)) mNil)) (mCons (m1 (pu1 D.lenL) (mCons (mVar 2) mNil)) mNil)))) sNext))) := rfl
  have a1 : sOwn 3 (mItems (mCons (m1 (fun d => pu d.revA) (mVar 1)) mNil)) (startE 7 [dRules R, .tup (dn row), txt]) w = some (.nx (gE R (.tup (dn row)) txt row none none none) w) := by
    show some (Fl.nx [some (.frz (dRules R)), some (.frz (.tup (dn row))), some (.frz txt), some (.lst (dn row).reverse), none, none, none] w) = _
    rw [dn_rev]
    rfl
  have hen : D.enumA [txt] = some (((dn text).zipIdx 0).map fun p => .tup [.int p.2, p.1]) := by
    rcases ht with rfl | rfl <;> rfl
  have a2 : sForM (m1 (fun ds => pu (D.enumA ds)) (mCons (mVar 2) mNil)) (bdT [(bdN 4), (bdN 5)]) gb (gE R (.tup (dn row)) txt row none none none) w =
      sFor gb (bdT [(bdN 4), (bdN 5)]) (((dn text).zipIdx 0).map fun p => .tup [.int p.2, p.1]) (gE R (.tup (dn row)) txt row none none none) w := by
    simp [sForM, sB, m1, mCons, mNil, mVar, rdV, gE, m2, pu, bnd, hen]
  have hlen : D.lenL [txt] = some (.int text.length) := by
    rcases ht with rfl | rfl <;> (show some (D.int ((dn text).length : Nat)) = _; unfold dn; rw [List.length_map])
  unfold g_gone
  rw [hm, sSeq_nx a1]
  cases q : goneM R row 0 text with
  | mk q1 q2 =>
    rw [q] at e
    cases q1 with
    | none =>
      rw [sSeq_rt (a2.trans e)]
      rfl
    | some row' =>
      have hj := goneM_idx R text row 0 q2 row' q
      rw [sSeq_nx (a2.trans e)]
      simp [sSeq, sRet, sB, mTup, m1, m2, mCons, mNil, mVar, rdV, gE, pu, pu1, bnd, hlen, D.revA, O.toD, D.tupF, D.itsS, dn_rev, dR, outF, hj]
end K03
set_option maxRecDepth 100000
set_option maxHeartbeats 4000000
namespace K03
open PySem PySem.Spec PyProof.Rows L2 FL
/-! ### what is asked of a program, a row, a text -/
theorem is_between_int (i lo hi : Int) (w : DS) : g_is_between [.int i, .int lo, .int hi] w = some (.ok (.bl (decide (lo ≤ i) && decide (i ≤ hi))) w) := by
  have k : ∀ j : Int, g_is_number [.int j] w = some (.ok (.bl true) w) := fun _ => rfl
  by_cases h1 : lo ≤ i
  · by_cases h2 : i ≤ hi
    · simp [g_is_between, m_is_between, startE, sSeq, sRet, sB, mAndV, mCall, mB, mIf, m1, m2, mCh, pu, pu1, pu2, bnd, mCons, mNil, mVar, rdV, D.tr, D.le, outF, k, h1, h2]
    · simp [g_is_between, m_is_between, startE, sSeq, sRet, sB, mAndV, mCall, mB, mIf, m1, m2, mCh, pu, pu1, pu2, bnd, mCons, mNil, mVar, rdV, D.tr, D.le, outF, k, h1, h2]
  · simp [g_is_between, m_is_between, startE, sSeq, sRet, sB, mAndV, mCall, mB, mIf, m1, m2, mCh, pu, pu1, pu2, bnd, mCons, mNil, mVar, rdV, D.tr, D.le, outF, k, h1]
theorem between_in {x n : Nat} (h : x < n) (w : DS) : g_is_between [.int x, .int 0, .int ((n : Int) - 1)] w = some (.ok (.bl true) w) := by
  rw [is_between_int, decide_eq_true (by omega), decide_eq_true (by omega)]
  rfl
theorem bls_true : ∀ (l : List D), D.bls (l.map fun _ => D.bl true) = some (l.map fun _ => true)
  | [] => rfl
  | _ :: r => by
    show (D.bls (r.map fun _ => D.bl true)).map (true :: ·) = _
    rw [bls_true r]
    rfl
theorem all_true (l : List D) : D.allL [.lst (l.map fun _ => D.bl true)] = some (.bl true) := by
  unfold D.allL
  simp only
  rw [bls_true]
  show some (D.bl ((l.map fun _ => true).all id)) = _
  have : (l.map fun _ => true).all id = true := by
    rw [List.all_map]
    exact List.all_eq_true.mpr fun _ _ => rfl
  rw [this]
def nb : SM DS := (sSeq (sIf (mNot (mB (mCall 3 g_is_between [] (mCons (mVar 3) (mCons (mC (.int 0)) (mCons (m2 (pu2 D.sub) (m1 (fun d => pu (d.fldS "Program" "own_letters")) (mVar 0)) (mC (.int 1))) mNil)))))) (sSeq sNo sNext) sNext) sNext)
theorem nb_step {L : Nat} {R : List (List (Option (List Nat)))} {txt : D} {i : Int} {x : Nat} (h : x < L) (w : DS) : nb [some (.frz (PD L R)), some (.frz txt), some (.frz (.int i)), some (.frz (.int x))] w = some (.nx [some (.frz (PD L R)), some (.frz txt), some (.frz (.int i)), some (.frz (.int x))] w) := by
  have k := between_in h w
  have k2 : (PD L R).fldS "Program" "own_letters" = some (.int L) := rfl
  simp [nb, sSeq, sIf, sB, sNext, mNot, mB, mCall, m1, m2, mCons, mNil, mVar, rdV, mC, pu, pu2, bnd, k, k2, D.sub, D.tr]
theorem nb_loop {L : Nat} {R : List (List (Option (List Nat)))} {txt : D} (w : DS) : ∀ (text : List Nat) (i : Nat) (o2 o3 : Option O), (∀ x ∈ text, x < L) →
    ∃ p2 p3, sFor nb (bdT [(bdN 2), (bdN 3)]) (((dn text).zipIdx i).map fun p => .tup [.int p.2, p.1]) [some (.frz (PD L R)), some (.frz txt), o2, o3] w = some (.nx [some (.frz (PD L R)), some (.frz txt), p2, p3] w)
  | [], i, o2, o3, _ => ⟨o2, o3, rfl⟩
  | x :: xs, i, o2, o3, h => by
    have e : ((dn (x :: xs)).zipIdx i).map (fun p => D.tup [.int p.2, p.1]) = .tup [.int i, .int x] :: ((dn xs).zipIdx (i + 1)).map (fun p => D.tup [.int p.2, p.1]) := by
      unfold dn
      rw [List.map_cons, List.zipIdx_cons, List.map_cons]
    obtain ⟨p2, p3, ih⟩ := nb_loop (R := R) (txt := txt) w xs (i + 1) (some (.frz (.int i))) (some (.frz (.int x))) fun y hy => h y (List.mem_cons_of_mem _ hy)
    refine ⟨p2, p3, ?_⟩
    rw [e, sFor_nx (ρ1 := [some (.frz (PD L R)), some (.frz txt), some (.frz (.int i)), some (.frz (.int x))]) rfl (nb_step (h x List.mem_cons_self) w), ih]
theorem need_text_ok {L : Nat} {R : List (List (Option (List Nat)))} {txt : D} {text : List Nat} (ht : IsT txt text) (h2 : ∀ x ∈ text, x < L) (h4 : text.length ≤ 2000) (w : DS) : g_need_text [PD L R, txt] w = some (.ok .non w) := by
  obtain ⟨p2, p3, e⟩ := nb_loop (R := R) (txt := txt) w text 0 none none h2
  have hm : m_need_text = (sSeq (sIf (mOr (mNot (mB (m1 (pu1 D.isi) (mCons (mVar 1) (mCons (mC (.ty "tuple")) mNil))))) (mB (m2 (pu2 D.gt) (m1 (pu1 D.lenL) (mCons (mVar 1) mNil)) (mC (.int 2000))))) (sSeq sNo sNext) sNext) (sSeq (sForM (m1 (fun ds => pu (D.enumA ds)) (mCons (mVar 1) mNil)) (bdT [(bdN 2), (bdN 3)]) nb) sNext)) := rfl
  have hen : D.enumA [txt] = some (((dn text).zipIdx 0).map fun p => .tup [.int p.2, p.1]) := by
    rcases ht with rfl | rfl <;> rfl
  have hlen : D.lenL [txt] = some (.int text.length) := by
    rcases ht with rfl | rfl <;> (show some (D.int ((dn text).length : Nat)) = _; unfold dn; rw [List.length_map])
  have hisi : D.isi [txt, .ty "tuple"] = some (.bl true) := by
    rcases ht with rfl | rfl <;> rfl
  have hgt : D.gt (.int text.length) (.int 2000) = some (.bl false) := by
    show some (D.bl (decide ((text.length : Int) > 2000))) = _
    rw [decide_eq_false (by omega)]
  have hs : startE 4 [PD L R, txt] = [some (.frz (PD L R)), some (.frz txt), none, none] := rfl
  have a1 : sIf (mOr (mNot (mB (m1 (pu1 D.isi) (mCons (mVar 1) (mCons (mC (.ty "tuple")) mNil))))) (mB (m2 (pu2 D.gt) (m1 (pu1 D.lenL) (mCons (mVar 1) mNil)) (mC (.int 2000))))) (sSeq sNo sNext) sNext [some (.frz (PD L R)), some (.frz txt), none, none] w = some (.nx [some (.frz (PD L R)), some (.frz txt), none, none] w) := by
    simp [sIf, sB, sNext, mOr, mIf, mNot, mB, m1, m2, mCons, mNil, mVar, rdV, mC, pu, pu1, pu2, bnd, hisi, hlen, hgt, D.tr]
  have a2 : sForM (m1 (fun ds => pu (D.enumA ds)) (mCons (mVar 1) mNil)) (bdT [(bdN 2), (bdN 3)]) nb [some (.frz (PD L R)), some (.frz txt), none, none] w =
      sFor nb (bdT [(bdN 2), (bdN 3)]) (((dn text).zipIdx 0).map fun p => .tup [.int p.2, p.1]) [some (.frz (PD L R)), some (.frz txt), none, none] w := by
    simp [sForM, sB, m1, mCons, mNil, mVar, rdV, m2, pu, bnd, hen]
  unfold g_need_text
  rw [hm, hs, sSeq_nx a1, sSeq_nx (a2.trans e)]
  rfl
theorem need_program_ok {L : Nat} {R : List (List (Option (List Nat)))} (d : D) (w : DS) : g_need_program [PD L R, d] w = some (.ok .non w) := rfl
def crX : M DS (List D) := (mLc (mIts (mVar 1)) [2] (bdN 2) mTrue (mCall 3 g_is_between [] (mCons (mVar 2) (mCons (mC (.int 0)) (mCons (m2 (pu2 D.sub) (m1 (pu1 D.lenL) (mCons (m1 (fun d => pu (d.fldS "Program" "own_rules")) (mVar 0)) mNil)) (mC (.int 1))) mNil)))))
theorem calls_right_ok {L : Nat} {R : List (List (Option (List Nat)))} {row : List Nat} (h1 : ∀ a ∈ row, a < R.length) (h3 : row.length ≤ 12) (w : DS) : g_calls_right [PD L R, .tup (dn row)] w = some (.ok (.bl true) w) := by
  have k2 : (PD L R).fldS "Program" "own_rules" = some (dRules R) := rfl
  have k3 : D.lenL [dRules R] = some (.int R.length) := by
    show some (D.int ((R.map fun l => D.tup (l.map dR)).length : Nat)) = _
    rw [List.length_map]
  have k := mLc_map (ω := DS) (src := mIts (mVar 1)) (vs := [2]) (bd := bdN 2) (e := (mCall 3 g_is_between [] (mCons (mVar 2) (mCons (mC (.int 0)) (mCons (m2 (pu2 D.sub) (m1 (pu1 D.lenL) (mCons (m1 (fun d => pu (d.fldS "Program" "own_rules")) (mVar 0)) mNil)) (mC (.int 1))) mNil)))))
    (ρ := [some (.frz (PD L R)), some (.frz (.tup (dn row))), none]) (ρ' := [some (.frz (PD L R)), some (.frz (.tup (dn row))), none]) (w := w) (ds := dn row) (fun _ => .bl true) rfl (by unfold dn; rw [List.length_map]; omega) fun d hd => by
      unfold dn at hd
      obtain ⟨a, ha, rfl⟩ := List.mem_map.mp hd
      have kb := between_in (h1 a ha) w
      refine ⟨[some (.frz (PD L R)), some (.frz (.tup (dn row))), some (.frz (.int a))], rfl, [some (.frz (PD L R)), some (.frz (.tup (dn row))), some (.frz (.int a))], ?_⟩
      simp [mCall, m1, m2, mCons, mNil, mVar, rdV, mC, pu, pu1, pu2, bnd, k2, k3, D.sub, kb]
  have hs : startE 3 [PD L R, .tup (dn row)] = [some (.frz (PD L R)), some (.frz (.tup (dn row))), none] := rfl
  have k4 := all_true (dn row)
  have k5 : D.isi [.tup (dn row), .ty "tuple"] = some (.bl true) := rfl
  have hm : m_calls_right = (sSeq (sRet (mAndV (m1 (pu1 D.isi) (mCons (mVar 1) (mCons (mC (.ty "tuple")) mNil))) (m1 (pu1 D.allL) (mCons (mFz crX) mNil)))) sNext) := rfl
  have k : crX [some (.frz (PD L R)), some (.frz (.tup (dn row))), none] w = _ := k
  unfold g_calls_right
  rw [hs, hm]
  simp [sSeq, sRet, sB, mAndV, mIf, mB, m1, m2, mCons, mNil, mVar, rdV, mC, pu, pu1, bnd, mFz, D.tr, k, k4, k5, outF]
theorem need_row_ok {L : Nat} {R : List (List (Option (List Nat)))} {row : List Nat} (h1 : ∀ a ∈ row, a < R.length) (h3 : row.length ≤ 12) (d : D) (w : DS) : g_need_row [PD L R, .tup (dn row), d] w = some (.ok .non w) := by
  have k := calls_right_ok (L := L) h1 h3 w
  have k1 : D.lenL [.tup (dn row)] = some (.int row.length) := by
    show some (D.int ((dn row).length : Nat)) = _
    unfold dn
    rw [List.length_map]
  have k2 : D.le (.int row.length) (.int 12) = some (.bl true) := by
    show some (D.bl (decide ((row.length : Int) ≤ 12))) = _
    rw [decide_eq_true (by omega)]
  have k3 : g_row_right [PD L R, .tup (dn row)] w = some (.ok (.bl true) w) := by
    unfold g_row_right m_row_right
    have hs : startE 2 [PD L R, .tup (dn row)] = [some (.frz (PD L R)), some (.frz (.tup (dn row)))] := rfl
    rw [hs]
    simp [sSeq, sRet, sB, mAndV, mIf, mB, mCall, m1, m2, mCons, mNil, mVar, rdV, mC, pu, pu1, pu2, bnd, D.tr, k, k1, k2, outF]
  unfold g_need_row m_need_row
  have hs : startE 3 [PD L R, .tup (dn row), d] = [some (.frz (PD L R)), some (.frz (.tup (dn row))), some (.frz d)] := rfl
  rw [hs]
  simp [sSeq, sIf, sNext, sB, mNot, mB, mCall, m1, m2, mCons, mNil, mVar, rdV, pu, bnd, D.tr, k3, outF]
/-- a program, a row, a text that fit -/
structure Fits (L : Nat) (R : List (List (Option (List Nat)))) (row : List Nat) (txt : D) (text : List Nat) : Prop where
  good : GoodR R R.length L
  it : IsT txt text
  row_ : ∀ a ∈ row, a < R.length
  text_ : ∀ x ∈ text, x < L
  r12 : row.length ≤ 12
  t2000 : text.length ≤ 2000
theorem need_reading_ok {L : Nat} {R : List (List (Option (List Nat)))} {row text : List Nat} {txt : D} (f : Fits L R row txt text) (w : DS) : g_need_reading [PD L R, .tup (dn row), txt] w = some (.ok .non w) := by
  have k1 := need_program_ok (L := L) (R := R) .non w
  have k2 := need_row_ok (L := L) f.row_ f.r12 .non w
  have k3 := need_text_ok (R := R) f.it f.text_ f.t2000 w
  unfold g_need_reading m_need_reading
  have hs : startE 3 [PD L R, .tup (dn row), txt] = [some (.frz (PD L R)), some (.frz (.tup (dn row))), some (.frz txt)] := rfl
  rw [hs]
  simp [sSeq, sDrop, sNext, sB, mCall, m1, m2, mCons, mNil, mVar, rdV, pu, bnd, k1, k2, k3, outF]
theorem eqD_dR (r : Option (List Nat)) : D.eqD (dR r) (.tup []) = some (.bl (decide (r = some []))) := by
  cases r with
  | none => rfl
  | some l =>
    show D.eqD (.tup (dn l)) (.tup []) = _
    rw [eq_nilT (dn_ok l) (by decide)]
    cases l with
    | nil => rfl
    | cons a r => simp [dn]
theorem reads_ok {L : Nat} {R : List (List (Option (List Nat)))} {row text : List Nat} {txt : D} (f : Fits L R row txt text) (w : DS) : g_reads [PD L R, .tup (dn row), txt] w = some (.ok (.bl (decide ((goneM R row 0 text).1 = some []))) w) := by
  have k1 := need_reading_ok f w
  have k2 := gone_ok f.good f.it f.row_ f.text_ f.r12 f.t2000 w
  have k3 : (PD L R).fldS "Program" "own_rules" = some (dRules R) := rfl
  have k4 : ∀ a b : D, D.ix (.tup [a, b]) (.int 0) = some a := fun _ _ => rfl
  have k5 := eqD_dR (goneM R row 0 text).1
  unfold g_reads m_reads
  have hs : startE 3 [PD L R, .tup (dn row), txt] = [some (.frz (PD L R)), some (.frz (.tup (dn row))), some (.frz txt)] := rfl
  rw [hs]
  simp [sSeq, sDrop, sRet, sNext, sB, mCall, m1, m2, mCons, mNil, mVar, rdV, mC, pu, pu2, bnd, k1, k2, k3, k4, k5, outF, mTup]
end K03
set_option maxRecDepth 100000
set_option maxHeartbeats 4000000
namespace K03
open PySem PySem.Spec PyProof.Rows L2 FL
def reEnv {α : Type} (ρ' : Ev) (r : Option (R DS α)) : Option (R DS α) := match r with
  | some (.ok x _ w') => some (.ok x ρ' w')
  | r => r
theorem lcGo_env {bd : Bd} {c : M DS Bool} {e : M DS D} (ρ ρ' ρh : Ev) : ∀ (ds acc : List D) (w : DS), lcGo bd c e ρ' ρh ds acc w = reEnv ρ' (lcGo bd c e ρ ρh ds acc w)
  | [], acc, w => rfl
  | d :: ds, acc, w => by
    unfold lcGo
    cases bd d ρh with
    | none => rfl
    | some ρ1 =>
      simp only
      cases c ρ1 w with
      | none => rfl
      | some r1 =>
        cases r1 with
        | er _ _ => rfl
        | ok k ρ2 w1 =>
          cases k with
          | false => exact lcGo_env ρ ρ' ρh ds acc w1
          | true =>
            simp only
            cases e ρ2 w1 with
            | none => rfl
            | some r2 =>
              cases r2 with
              | er _ _ => rfl
              | ok x ρ3 w2 => exact lcGo_env ρ ρ' ρh ds (acc ++ [x]) w2
def pX : M DS (List D) := (mLc (mIts (mVar 2)) [3] (bdN 3) mTrue (m1 (pu1 D.tupF) (mCons (mVar 3) mNil)))
def pE (a : Addr) (l r : D) (ns : List Str) (ds : List D) : Ev := [some (.ins a "Program" ns ds), some (.frz l), some (.frz r), none]
theorem pX_env (a b : Addr) (l r : D) (ns : List Str) (ds : List D) (w : DS) : pX (pE a l r ns ds) w = reEnv (pE a l r ns ds) (pX (pE b l r ns ds) w) := by
  have h : ∀ c, pX (pE c l r ns ds) w = (match r.its with
    | some xs => if xs.length ≤ 16777216 then lcGo (bdN 3) mTrue (m1 (pu1 D.tupF) (mCons (mVar 3) mNil)) (pE c l r ns ds) [none, some (.frz l), some (.frz r), none] xs [] w else none
    | none => none) := fun c => by
    unfold pX mLc mIts
    have e : (m1 (fun d => pu d.its) (mVar 2)) (pE c l r ns ds) w = pu r.its (pE c l r ns ds) w := rfl
    rw [e]
    unfold pu
    cases r.its with
    | none => rfl
    | some xs => rfl
  rw [h a, h b]
  cases r.its with
  | none => rfl
  | some xs =>
    simp only
    by_cases c : xs.length ≤ 16777216
    · rw [if_pos c, if_pos c]
      exact lcGo_env _ _ _ _ _ _
    · rw [if_neg c, if_neg c]
      rfl
def p1 : SM DS := sSeq (sDrop (mCall 2 g_need_parts [] (mCons (mVar 1) (mCons (mVar 2) mNil)))) (sIf (mB (m2 (pu2 D.lt) (m1 (pu1 D.lenL) (mCons (mCall 1 g_live_in [] (mCons (mVar 2) mNil)) mNil)) (m1 (pu1 D.lenL) (mCons (mVar 2) mNil)))) (sSeq sNo sNext) sNext)
theorem sSeq_eq {a b : SM DS} {ρ : Ev} {w : DS} : sSeq a b ρ w = (match a ρ w with
  | some (.nx ρ w) => b ρ w
  | r => r) := by
  unfold sSeq
  cases a ρ w with
  | none => rfl
  | some q => cases q <;> rfl
def reF (ρ' : Ev) (r : Option (Fl DS)) : Option (Fl DS) := match r with
  | some (.nx _ w') => some (.nx ρ' w')
  | r => r
theorem bears_Program : BearsI 4 "Program" m_Program_init g_Program 2 := fun a ds w r hl hg => by
  obtain ⟨l, rr, rfl⟩ : ∃ l rr, ds = [l, rr] := by
    match ds, hl with
    | [l, rr], _ => exact ⟨l, rr, rfl⟩
  have hs : ∀ c, startI 4 "Program" c [l, rr] = pE c l rr [] [] := fun _ => rfl
  -- how it goes, by the address
  have go : ∀ c, m_Program_init (pE c l rr [] []) w = (match g_need_parts [l, rr] w with
    | some (.ok _ w1) => (match g_live_in [rr] w1 with
      | some (.ok lv w2) => (match D.lenL [lv], D.lenL [rr] with
        | some n1, some n2 => (match D.lt n1 n2 with
          | some (.bl false) => (match pX (pE c l rr ["own_letters"] [l]) w2 with
            | some (.ok xs _ w3) => some (.nx (pE c l rr ["own_letters", "own_rules"] [l, .tup xs]) w3)
            | some (.er e w3) => some (.er e w3)
            | none => none)
          | _ => none)
        | _, _ => none)
      | some (.er e w2) => some (.er e w2)
      | none => none)
    | some (.er e w1) => some (.er e w1)
    | none => none) := fun c => by
    have hm : m_Program_init = (sSeq (sDrop (mCall 2 g_need_parts [] (mCons (mVar 1) (mCons (mVar 2) mNil)))) (sSeq (sIf (mB (m2 (pu2 D.lt) (m1 (pu1 D.lenL) (mCons (mCall 1 g_live_in [] (mCons (mVar 2) mNil)) mNil)) (m1 (pu1 D.lenL) (mCons (mVar 2) mNil)))) (sSeq sNo sNext) sNext) (sSeq (sFldI 0 "Program" "own_letters" (mVar 1)) (sSeq (sFldI 0 "Program" "own_rules" (m1 (pu1 D.tupF) (mCons (mFz pX) mNil))) sNext)))) := rfl
    have hf1 : ∀ w' : DS, sFldI 0 "Program" "own_letters" (mVar 1) (pE c l rr [] []) w' = some (.nx (pE c l rr ["own_letters"] [l]) w') := fun _ => rfl
    have hf2 : ∀ w' : DS, sFldI 0 "Program" "own_rules" (m1 (pu1 D.tupF) (mCons (mFz pX) mNil)) (pE c l rr ["own_letters"] [l]) w' = (match pX (pE c l rr ["own_letters"] [l]) w' with
      | some (.ok xs _ w3) => some (.nx (pE c l rr ["own_letters", "own_rules"] [l, .tup xs]) w3)
      | some (.er e w3) => some (.er e w3)
      | none => none) := fun w' => by
      rw [pX_env c c l rr ["own_letters"] [l] w']
      unfold sFldI m1 mCons m2 mFz m1
      rw [pX_env c c l rr ["own_letters"] [l] w']
      cases pX (pE c l rr ["own_letters"] [l]) w' with
      | none => rfl
      | some q =>
        cases q with
        | er _ _ => rfl
        | ok xs ρ3 w3 => rfl
    rw [hm]
    have h1 : sDrop (mCall 2 g_need_parts [] (mCons (mVar 1) (mCons (mVar 2) mNil))) (pE c l rr [] []) w = (match g_need_parts [l, rr] w with
      | some (.ok _ w1) => some (.nx (pE c l rr [] []) w1)
      | some (.er e w1) => some (.er e w1)
      | none => none) := by
      simp only [sDrop, mCall, m1, mCons, m2, mVar, pE, rdV, mNil, bnd, pu, sB, List.getElem?_cons_succ, List.getElem?_cons_zero, List.append_nil, List.length_cons, List.length_nil]
      cases g_need_parts [l, rr] w with
      | none => rfl
      | some q => cases q <;> rfl
    rw [sSeq_eq, h1]
    cases g_need_parts [l, rr] w with
    | none => rfl
    | some q =>
      cases q with
      | er _ _ => rfl
      | ok d w1 =>
        simp only
        have h2 : sIf (mB (m2 (pu2 D.lt) (m1 (pu1 D.lenL) (mCons (mCall 1 g_live_in [] (mCons (mVar 2) mNil)) mNil)) (m1 (pu1 D.lenL) (mCons (mVar 2) mNil)))) (sSeq sNo sNext) sNext (pE c l rr [] []) w1 = (match g_live_in [rr] w1 with
          | some (.ok lv w2) => (match D.lenL [lv], D.lenL [rr] with
            | some n1, some n2 => (match D.lt n1 n2 with
              | some (.bl false) => some (.nx (pE c l rr [] []) w2)
              | _ => none)
            | _, _ => none)
          | some (.er e w2) => some (.er e w2)
          | none => none) := by
          have q2 : (m1 (pu1 D.lenL) (mCons (mCall 1 g_live_in [] (mCons (mVar 2) mNil)) mNil)) (pE c l rr [] []) w1 = (match g_live_in [rr] w1 with
            | some (.ok lv w2) => pu (D.lenL [lv]) (pE c l rr [] []) w2
            | some (.er e w2) => some (.er e w2)
            | none => none) := by
            simp only [mCall, m1, mCons, m2, mVar, pE, rdV, mNil, bnd, pu, pu1, List.getElem?_cons_succ, List.getElem?_cons_zero, List.append_nil, List.length_cons, List.length_nil]
            cases g_live_in [rr] w1 with
            | none => rfl
            | some q => cases q <;> rfl
          have q1 : ∀ w' : DS, (m1 (pu1 D.lenL) (mCons (mVar 2) mNil)) (pE c l rr [] []) w' = pu (D.lenL [rr]) (pE c l rr [] []) w' := fun _ => rfl
          show sB (bnd (bnd ((m1 (pu1 D.lenL) (mCons (mCall 1 g_live_in [] (mCons (mVar 2) mNil)) mNil)) (pE c l rr [] []) w1) fun a ρ w => bnd ((m1 (pu1 D.lenL) (mCons (mVar 2) mNil)) ρ w) fun b ρ w => pu2 D.lt a b ρ w) fun d => pu d.tr) (fun k ρ w => if k = true then sSeq sNo sNext ρ w else sNext ρ w) = _
          rw [q2]
          cases g_live_in [rr] w1 with
          | none => rfl
          | some q =>
            cases q with
            | er _ _ => rfl
            | ok lv w2 =>
              dsimp only
              cases D.lenL [lv] with
              | none => rfl
              | some n1 =>
                show sB (bnd (bnd ((m1 (pu1 D.lenL) (mCons (mVar 2) mNil)) (pE c l rr [] []) w2) fun b ρ w => pu2 D.lt n1 b ρ w) fun d => pu d.tr) (fun k ρ w => if k = true then sSeq sNo sNext ρ w else sNext ρ w) = _
                rw [q1]
                cases D.lenL [rr] with
                | none => rfl
                | some n2 =>
                  show sB (bnd (pu (D.lt n1 n2) (pE c l rr [] []) w2) fun d => pu d.tr) (fun k ρ w => if k = true then sSeq sNo sNext ρ w else sNext ρ w) = _
                  dsimp only
                  cases D.lt n1 n2 with
                  | none => rfl
                  | some b =>
                    cases b with
                    | bl b => cases b <;> rfl
                    | _ => rfl
        rw [sSeq_eq, h2]
        cases g_live_in [rr] w1 with
        | none => rfl
        | some q =>
          cases q with
          | er _ _ => rfl
          | ok lv w2 =>
            simp only
            cases D.lenL [lv] with
            | none => rfl
            | some n1 =>
              cases D.lenL [rr] with
              | none => rfl
              | some n2 =>
                simp only
                cases D.lt n1 n2 with
                | none => rfl
                | some b =>
                  cases b with
                  | bl b =>
                    cases b with
                    | true => rfl
                    | false =>
                      dsimp only
                      rw [sSeq_nx (hf1 w2), sSeq_eq, hf2]
                      cases pX (pE c l rr ["own_letters"] [l]) w2 with
                      | none => rfl
                      | some q => cases q <;> rfl
                  | _ => rfl
  unfold g_Program at hg
  rw [hs] at hg ⊢
  rw [go] at hg ⊢
  cases hq0 : g_need_parts [l, rr] w with
  | none =>
    rw [hq0] at hg
    cases hg
  | some q =>
    rw [hq0] at hg
    cases q with
    | er _ _ => exact ⟨hg, trivial⟩
    | ok d w1 =>
      simp only at hg ⊢
      cases hq : g_live_in [rr] w1 with
      | none =>
        rw [hq] at hg
        cases hg
      | some q =>
        rw [hq] at hg
        cases q with
        | er _ _ => exact ⟨hg, trivial⟩
        | ok lv w2 =>
          simp only at hg ⊢
          cases hq1 : D.lenL [lv] with
          | none =>
            rw [hq1] at hg
            cases hg
          | some n1 =>
            rw [hq1] at hg
            cases hq2 : D.lenL [rr] with
            | none =>
              rw [hq2] at hg
              cases hg
            | some n2 =>
              rw [hq2] at hg
              simp only at hg ⊢
              split at hg
              · rename_i hlt
                rw [pX_env a 0 l rr ["own_letters"] [l] w2]
                cases hX : pX (pE 0 l rr ["own_letters"] [l]) w2 with
                | none =>
                  rw [hX] at hg
                  cases hg
                | some q =>
                  rw [hX] at hg
                  cases q with
                  | er _ _ => exact ⟨hg, trivial⟩
                  | ok xs ρ3 w3 =>
                    refine ⟨hg, ?_⟩
                    intro p c' ns ds hi
                    cases hi
                    rfl
              · cases hg
end K03
set_option maxRecDepth 100000
set_option maxHeartbeats 4000000
namespace K03
open PySem PySem.Spec PyProof.Rows L2 FL
/-! ### _law_same of a thing and itself -/
def Sm : Nat → D → Prop
  | 0, d => d = .non ∨ ∃ i, d = .int i
  | n + 1, d => Sm n d ∨ ∃ xs, (d = .tup xs ∨ d = .lst xs) ∧ ∀ x ∈ xs, Sm n x
theorem Sm.py : ∀ {n : Nat} {d : D}, Sm n d → PyOk (n + 1) d
  | 0, d, h => by
    rcases h with rfl | ⟨i, rfl⟩
    · exact pyOk_non
    · exact pyOk_int i
  | n + 1, d, h => by
    rcases h with h | ⟨xs, rfl | rfl, h⟩
    · exact (Sm.py h).mono (by omega)
    · exact pyOk_tup fun x hx => Sm.py (h x hx)
    · exact pyOk_lst fun x hx => Sm.py (h x hx)
mutual
def szD : D → Nat
  | .tup xs => 1 + szL xs
  | .lst xs => 1 + szL xs
  | _ => 1
def szL : List D → Nat
  | [] => 0
  | d :: ds => szD d + szL ds
end
theorem szL_app : ∀ (a b : List D), szL (a ++ b) = szL a + szL b
  | [], b => by simp [szL]
  | d :: a, b => by
    rw [List.cons_append]
    show szD d + szL (a ++ b) = szD d + szL a + szL b
    rw [szL_app a b]
    omega
theorem szL_len : ∀ (a : List D), a.length ≤ szL a
  | [] => Nat.zero_le _
  | d :: a => by
    unfold szL
    have := szL_len a
    have h : 1 ≤ szD d := by
      cases d <;> unfold szD <;> omega
    rw [List.length_cons]
    omega
def prs (l : List D) : List D := l.map fun x => .tup [x, x]
def sbX : M DS (List D) := (mLc (m1 (fun ds => pu (D.zipA ds)) (mCons (mVar 3) (mCons (mVar 4) mNil))) [7, 8] (bdT [(bdN 7), (bdN 8)]) mTrue (mTup (mCons (mVar 7) (mCons (mVar 8) mNil))))
def sbD : SM DS := (sSeq (sIf (mOr (mNot (mB (m1 (pu1 D.isi) (mCons (mVar 3) (mCons (mC (.ty "dict")) mNil))))) (mB (m2 (pu2 D.neD) (mFz (mItems (mCons (mVar 3) mNil))) (mFz (mItems (mCons (mVar 4) mNil)))))) (sSeq (sRet (mC (.bl false))) sNext) sNext) (sSeq sNo (sSeq (sDrop (mSM 2 fExt (mCons (mFz (mLc (mIts (mVar 4)) [6] (bdN 6) mTrue (mTup (mCons (m2 (pu2 D.ix) (mVar 3) (mVar 6)) (mCons (m2 (pu2 D.ix) (mVar 4) (mVar 6)) mNil))))) mNil))) sNext)))
def sbE : SM DS := (sSeq (sAsg (mFz (mLs (mCons (mAndV (m1 (pu1 D.isi) (mCons (mVar 3) (mCons (mC (.ty "tuple")) mNil))) (m1 (pu1 D.isi) (mCons (mVar 4) (mCons (mC (.ty "tuple")) mNil)))) (mCons (mAndV (m1 (pu1 D.isi) (mCons (mVar 3) (mCons (mC (.ty "list")) mNil))) (m1 (pu1 D.isi) (mCons (mVar 4) (mCons (mC (.ty "list")) mNil)))) mNil)))) (bdN 5)) (sSeq (sIf (mOr (mB (m2 (pu2 D.ninD) (mC (.bl true)) (mVar 5))) (mB (m2 (pu2 D.neD) (m1 (pu1 D.lenL) (mCons (mVar 3) mNil)) (m1 (pu1 D.lenL) (mCons (mVar 4) mNil))))) (sSeq (sRet (mC (.bl false))) sNext) sNext) (sSeq (sDrop (mSM 2 fExt (mCons (mFz sbX) mNil))) sNext)))
def sbC : SM DS := (sSeq (sIf (mB (m1 (pu1 D.isi) (mCons (mVar 4) (mCons (mC (.ty "dict")) mNil)))) sbD sbE) sNext)
def sbI : SM DS := (sSeq (sIf (mOr (mB (m1 (pu1 D.isi) (mCons (mVar 3) (mCons (mC (.ty "bool")) mNil)))) (mOr (mB (m2 (pu2 D.neD) (m1 (pu1 D.isi) (mCons (mVar 3) (mCons (mC (.ty "int")) mNil))) (m1 (pu1 D.isi) (mCons (mVar 4) (mCons (mC (.ty "int")) mNil))))) (mB (m2 (pu2 D.neD) (mVar 3) (mVar 4))))) (sSeq (sRet (mC (.bl false))) sNext) sNext) sNext)
def sbB : SM DS := (sSeq (sIf (mB (m1 (pu1 D.isiT) (mCons (mVar 4) (mCons (mTup (mCons (mC (.ty "int")) (mCons (mC (.ty "str")) mNil))) mNil)))) sbI sbC) sNext)
def sbN : SM DS := (sSeq (sIf (mIf (mB (m2 (pu2 D.isN) (mVar 4) (mC .non))) (mB (m2 (pu2 D.notN) (mVar 3) (mC .non))) (mNot (mB (mCall 2 g__law_is_truth [] (mCons (mVar 3) (mCons (mVar 4) mNil)))))) (sSeq (sRet (mC (.bl false))) sNext) sNext) sNext)
def sb : SM DS := (sSeq (sAsg (mSM 2 fPop mNil) (bdT [(bdN 3), (bdN 4)])) (sSeq (sIf (mOr (mB (m2 (pu2 D.isN) (mVar 4) (mC .non))) (mB (m1 (pu1 D.isi) (mCons (mVar 4) (mCons (mC (.ty "bool")) mNil))))) sbN sbB) sNext))
def sT : M DS Bool := (mBor (mB (m2 (pu2 D.neD) (mVar 2) (mFz (mLs mNil)))))
theorem m_same_eq : m__law_same = (sSeq (sOwn 2 (mLs (mCons (mTup (mCons (mVar 0) (mCons (mVar 1) mNil))) mNil))) (sSeq (sWh sT sb fuel__law_same) (sSeq (sRet (mC (.bl true))) sNext))) := rfl
theorem pop_last (l : List D) (x : D) : fPop (l ++ [x]) [] = some (x, l) := by
  unfold fPop
  simp
theorem sb_pop (f d x : D) (l : List D) (o3 o4 o5 o6 o7 o8 : Option O) (w : DS) : sAsg (mSM 2 fPop mNil) (bdT [(bdN 3), (bdN 4)]) [some (.frz f), some (.frz d), some (.lst (l ++ [.tup [x, x]])), o3, o4, o5, o6, o7, o8] w =
    some (.nx [some (.frz f), some (.frz d), some (.lst l), some (.frz x), some (.frz x), o5, o6, o7, o8] w) := by
  have h := pop_last l (.tup [x, x])
  simp [sAsg, sB, mSM, lsOf, mNil, bnd, h, bdT, bdL, bdN]
theorem sb_non (f d : D) (l : List D) (o3 o4 o5 o6 o7 o8 : Option O) (w : DS) : sb [some (.frz f), some (.frz d), some (.lst (l ++ [.tup [.non, .non]])), o3, o4, o5, o6, o7, o8] w =
    some (.nx [some (.frz f), some (.frz d), some (.lst l), some (.frz .non), some (.frz .non), o5, o6, o7, o8] w) := by
  unfold sb
  rw [sSeq_nx (sb_pop f d .non l o3 o4 o5 o6 o7 o8 w)]
  rfl
theorem neD_self (i : Int) : D.neD (.int i) (.int i) = some (.bl false) := by
  show some (D.bl (!(i == i))) = _
  simp
theorem sb_int (i : Int) (f d : D) (l : List D) (o3 o4 o5 o6 o7 o8 : Option O) (w : DS) : sb [some (.frz f), some (.frz d), some (.lst (l ++ [.tup [.int i, .int i]])), o3, o4, o5, o6, o7, o8] w =
    some (.nx [some (.frz f), some (.frz d), some (.lst l), some (.frz (.int i)), some (.frz (.int i)), o5, o6, o7, o8] w) := by
  unfold sb
  rw [sSeq_nx (sb_pop f d (.int i) l o3 o4 o5 o6 o7 o8 w)]
  have h := neD_self i
  have k1 : D.isi [.int i, .ty "bool"] = some (.bl false) := rfl
  have k2 : D.isi [.int i, .ty "int"] = some (.bl true) := rfl
  have k3 : D.isiT [.int i, .tup [.ty "int", .ty "str"]] = some (.bl true) := rfl
  have k4 : D.neD (.bl true) (.bl true) = some (.bl false) := rfl
  simp [sbB, sbI, sSeq, sIf, sB, sNext, mOr, mIf, mB, m1, m2, mCons, mNil, mVar, rdV, mC, mTup, pu, pu1, pu2, bnd, D.tr, D.isN, h, k1, k2, k3, k4]
theorem zip_self : ∀ (xs : List D), zipD xs xs = prs xs
  | [] => rfl
  | x :: xs => by
    have := zip_self xs
    unfold zipD prs at this ⊢
    rw [List.zip_cons_cons, List.map_cons, List.map_cons, this]
theorem sbX_ok (f d x : D) (xs l : List D) (hx : x = .tup xs ∨ x = .lst xs) (hl : xs.length ≤ 16777216) (o5 : D) (o6 o7 o8 : Option O) (w : DS) : sbX [some (.frz f), some (.frz d), some (.lst l), some (.frz x), some (.frz x), some (.frz o5), o6, o7, o8] w =
    some (.ok (prs xs) [some (.frz f), some (.frz d), some (.lst l), some (.frz x), some (.frz x), some (.frz o5), o6, o7, o8] w) := by
  have hz : D.zipA [x, x] = some (prs xs) := by
    rcases hx with rfl | rfl
    · show some (zipD xs xs) = _
      rw [zip_self]
    · show some (zipD xs xs) = _
      rw [zip_self]
  unfold sbX
  have e := mLc_map (ω := DS) (src := m1 (fun ds => pu (D.zipA ds)) (mCons (mVar 3) (mCons (mVar 4) mNil))) (vs := [7, 8]) (bd := bdT [(bdN 7), (bdN 8)]) (e := mTup (mCons (mVar 7) (mCons (mVar 8) mNil)))
    (ρ := [some (.frz f), some (.frz d), some (.lst l), some (.frz x), some (.frz x), some (.frz o5), o6, o7, o8]) (ρ' := [some (.frz f), some (.frz d), some (.lst l), some (.frz x), some (.frz x), some (.frz o5), o6, o7, o8]) (w := w) (ds := prs xs) (fun y => y)
    (by simp [m1, m2, mCons, mNil, mVar, rdV, pu, bnd, hz]) (by unfold prs; rw [List.length_map]; exact hl) fun y hy => by
      unfold prs at hy
      obtain ⟨z, _, rfl⟩ := List.mem_map.mp hy
      exact ⟨_, rfl, _, rfl⟩
  rw [e, List.map_id']
theorem sb_seq (f d x : D) (xs l : List D) (hx : x = .tup xs ∨ x = .lst xs) (hl : l.length + xs.length ≤ 16777216) (o3 o4 o5 o6 o7 o8 : Option O) (w : DS) : ∃ q5, sb [some (.frz f), some (.frz d), some (.lst (l ++ [.tup [x, x]])), o3, o4, o5, o6, o7, o8] w =
    some (.nx [some (.frz f), some (.frz d), some (.lst (l ++ prs xs)), some (.frz x), some (.frz x), q5, o6, o7, o8] w) := by
  have kinds : ∃ s, sAsg (mFz (mLs (mCons (mAndV (m1 (pu1 D.isi) (mCons (mVar 3) (mCons (mC (.ty "tuple")) mNil))) (m1 (pu1 D.isi) (mCons (mVar 4) (mCons (mC (.ty "tuple")) mNil)))) (mCons (mAndV (m1 (pu1 D.isi) (mCons (mVar 3) (mCons (mC (.ty "list")) mNil))) (m1 (pu1 D.isi) (mCons (mVar 4) (mCons (mC (.ty "list")) mNil)))) mNil)))) (bdN 5)
      [some (.frz f), some (.frz d), some (.lst l), some (.frz x), some (.frz x), o5, o6, o7, o8] w = some (.nx [some (.frz f), some (.frz d), some (.lst l), some (.frz x), some (.frz x), some (.frz s), o6, o7, o8] w) ∧ D.ninD (.bl true) s = some (.bl false) := by
    rcases hx with rfl | rfl
    · exact ⟨.lst [.bl true, .bl false], rfl, rfl⟩
    · exact ⟨.lst [.bl false, .bl true], rfl, rfl⟩
  obtain ⟨s, e1, e2⟩ := kinds
  have k1 : D.isi [x, .ty "bool"] = some (.bl false) := by rcases hx with rfl | rfl <;> rfl
  have k3 : D.isiT [x, .tup [.ty "int", .ty "str"]] = some (.bl false) := by rcases hx with rfl | rfl <;> rfl
  have k5 : D.isi [x, .ty "dict"] = some (.bl false) := by rcases hx with rfl | rfl <;> rfl
  have k6 : D.isN x .non = some (.bl false) := by rcases hx with rfl | rfl <;> rfl
  have k7 : D.lenL [x] = some (.int xs.length) := by rcases hx with rfl | rfl <;> rfl
  have k8 := neD_self xs.length
  have k9 := sbX_ok f d x xs l hx (by omega) s o6 o7 o8 w
  have k10 : fExt l [.lst (prs xs)] = some (.non, l ++ prs xs) := by
    unfold fExt
    simp only
    rw [if_pos (by unfold prs; rw [List.length_map]; exact hl)]
  have eE : sbE [some (.frz f), some (.frz d), some (.lst l), some (.frz x), some (.frz x), o5, o6, o7, o8] w = some (.nx [some (.frz f), some (.frz d), some (.lst (l ++ prs xs)), some (.frz x), some (.frz x), some (.frz s), o6, o7, o8] w) := by
    unfold sbE
    rw [sSeq_nx e1]
    simp [sSeq, sIf, sB, sNext, sDrop, mOr, mIf, mB, m1, m2, mCons, mNil, mVar, rdV, mC, mFz, mSM, lsOf, pu, pu1, pu2, bnd, D.tr, e2, k7, k8, k9, k10]
  refine ⟨some (.frz s), ?_⟩
  unfold sb
  rw [sSeq_nx (sb_pop f d x l o3 o4 o5 o6 o7 o8 w)]
  have eC : sbC [some (.frz f), some (.frz d), some (.lst l), some (.frz x), some (.frz x), o5, o6, o7, o8] w = some (.nx [some (.frz f), some (.frz d), some (.lst (l ++ prs xs)), some (.frz x), some (.frz x), some (.frz s), o6, o7, o8] w) := by
    have t : (mB (m1 (pu1 D.isi) (mCons (mVar 4) (mCons (mC (.ty "dict")) mNil)))) [some (.frz f), some (.frz d), some (.lst l), some (.frz x), some (.frz x), o5, o6, o7, o8] w = some (.ok false [some (.frz f), some (.frz d), some (.lst l), some (.frz x), some (.frz x), o5, o6, o7, o8] w) := by
      simp [mB, m1, m2, mCons, mNil, mVar, rdV, mC, pu, pu1, bnd, D.tr, k5]
    have u : sIf (mB (m1 (pu1 D.isi) (mCons (mVar 4) (mCons (mC (.ty "dict")) mNil)))) sbD sbE [some (.frz f), some (.frz d), some (.lst l), some (.frz x), some (.frz x), o5, o6, o7, o8] w = some (.nx [some (.frz f), some (.frz d), some (.lst (l ++ prs xs)), some (.frz x), some (.frz x), some (.frz s), o6, o7, o8] w) := by
      unfold sIf
      rw [t]
      exact eE
    unfold sbC
    rw [sSeq_nx u]
    rfl
  have eB : sbB [some (.frz f), some (.frz d), some (.lst l), some (.frz x), some (.frz x), o5, o6, o7, o8] w = some (.nx [some (.frz f), some (.frz d), some (.lst (l ++ prs xs)), some (.frz x), some (.frz x), some (.frz s), o6, o7, o8] w) := by
    have t : (mB (m1 (pu1 D.isiT) (mCons (mVar 4) (mCons (mTup (mCons (mC (.ty "int")) (mCons (mC (.ty "str")) mNil))) mNil)))) [some (.frz f), some (.frz d), some (.lst l), some (.frz x), some (.frz x), o5, o6, o7, o8] w = some (.ok false [some (.frz f), some (.frz d), some (.lst l), some (.frz x), some (.frz x), o5, o6, o7, o8] w) := by
      simp [mB, m1, m2, mCons, mNil, mVar, rdV, mC, mTup, pu, pu1, bnd, D.tr, k3]
    have u : sIf (mB (m1 (pu1 D.isiT) (mCons (mVar 4) (mCons (mTup (mCons (mC (.ty "int")) (mCons (mC (.ty "str")) mNil))) mNil)))) sbI sbC [some (.frz f), some (.frz d), some (.lst l), some (.frz x), some (.frz x), o5, o6, o7, o8] w = some (.nx [some (.frz f), some (.frz d), some (.lst (l ++ prs xs)), some (.frz x), some (.frz x), some (.frz s), o6, o7, o8] w) := by
      unfold sIf
      rw [t]
      exact eC
    unfold sbB
    rw [sSeq_nx u]
    rfl
  rw [sSeq_nx (ρ1 := [some (.frz f), some (.frz d), some (.lst (l ++ prs xs)), some (.frz x), some (.frz x), some (.frz s), o6, o7, o8]) (w1 := w)]
  · rfl
  · have : (mOr (mB (m2 (pu2 D.isN) (mVar 4) (mC .non))) (mB (m1 (pu1 D.isi) (mCons (mVar 4) (mCons (mC (.ty "bool")) mNil))))) [some (.frz f), some (.frz d), some (.lst l), some (.frz x), some (.frz x), o5, o6, o7, o8] w = some (.ok false [some (.frz f), some (.frz d), some (.lst l), some (.frz x), some (.frz x), o5, o6, o7, o8] w) := by
      simp [mOr, mIf, mB, m1, m2, mCons, mNil, mVar, rdV, mC, pu, pu1, pu2, bnd, D.tr, k1, k6]
    unfold sIf
    rw [this]
    exact eB
theorem sT_ok (f d : D) (l : List D) (n : Nat) (hn : n ≤ 50) (h : ∀ x ∈ l, Sm n x) (o3 o4 o5 o6 o7 o8 : Option O) (w : DS) : sT [some (.frz f), some (.frz d), some (.lst (prs l)), o3, o4, o5, o6, o7, o8] w = some (.ok (!l.isEmpty) [some (.frz f), some (.frz d), some (.lst (prs l)), o3, o4, o5, o6, o7, o8] w) := by
  have k := ne_nilL (l := prs l) (n := n + 2) (fun y hy => by
    unfold prs at hy
    obtain ⟨z, hz, rfl⟩ := List.mem_map.mp hy
    exact pyOk_tup (n := n + 1) fun q hq => by
      have e : q = z := by simpa using hq
      rw [e]
      exact Sm.py (h z hz)) (by omega)
  have e : (prs l).isEmpty = l.isEmpty := by unfold prs; cases l <;> rfl
  rw [e] at k
  simp [sT, mBor, fzE, mB, m2, m1, mVar, rdV, mFz, mLs, mNil, pu, pu2, bnd, O.toD, k, D.tr]
theorem same_loop (f d : D) (n : Nat) (hn : n ≤ 50) (w : DS) : ∀ (m : Nat) (l : List D) (fu : Nat) (o3 o4 o5 o6 o7 o8 : Option O), szL l ≤ m → m < fu → m ≤ 1000000 → (∀ x ∈ l, Sm n x) →
    ∃ ρ, sWh sT sb fu [some (.frz f), some (.frz d), some (.lst (prs l)), o3, o4, o5, o6, o7, o8] w = some (.nx ρ w) := by
  intro m
  induction m with
  | zero =>
    intro l fu o3 o4 o5 o6 o7 o8 h1 h2 h3 h4
    have e : l = [] := by
      have := szL_len l
      exact List.eq_nil_of_length_eq_zero (by omega)
    subst e
    obtain ⟨fu, rfl⟩ : ∃ k, fu = k + 1 := ⟨fu - 1, by omega⟩
    exact ⟨_, sWh_end (sT_ok f d [] n hn h4 o3 o4 o5 o6 o7 o8 w)⟩
  | succ m ih =>
    intro l fu o3 o4 o5 o6 o7 o8 h1 h2 h3 h4
    obtain ⟨fu, rfl⟩ : ∃ k, fu = k + 1 := ⟨fu - 1, by omega⟩
    rcases List.eq_nil_or_concat l with rfl | ⟨l', x, rfl⟩
    · exact ⟨_, sWh_end (sT_ok f d [] n hn h4 o3 o4 o5 o6 o7 o8 w)⟩
    · rw [List.concat_eq_append] at h1 h4 ⊢
      have t := sT_ok f d (l' ++ [x]) n hn h4 o3 o4 o5 o6 o7 o8 w
      have ne : (!(l' ++ [x]).isEmpty) = true := by simp
      rw [ne] at t
      have ep : prs (l' ++ [x]) = prs l' ++ [.tup [x, x]] := by unfold prs; rw [List.map_append]; rfl
      rw [ep] at t ⊢
      rw [szL_app] at h1
      have h1' : szL l' + (szD x + 0) ≤ m + 1 := h1
      have hl' : ∀ y ∈ l', Sm n y := fun y hy => h4 y (List.mem_append_left _ hy)
      have leaf : ∀ (_ : szD x = 1) (_ : sb [some (.frz f), some (.frz d), some (.lst (prs l' ++ [.tup [x, x]])), o3, o4, o5, o6, o7, o8] w = some (.nx [some (.frz f), some (.frz d), some (.lst (prs l')), some (.frz x), some (.frz x), o5, o6, o7, o8] w)),
          ∃ ρ, sWh sT sb (fu + 1) [some (.frz f), some (.frz d), some (.lst (prs l' ++ [.tup [x, x]])), o3, o4, o5, o6, o7, o8] w = some (.nx ρ w) := fun hz e => by
        obtain ⟨ρ, e2⟩ := ih l' fu (some (.frz x)) (some (.frz x)) o5 o6 o7 o8 (by omega) (by omega) (by omega) hl'
        exact ⟨ρ, by rw [sWh_go t e, e2]⟩
      have hx := h4 x (List.mem_append_right _ (List.mem_singleton.mpr rfl))
      have main : ∀ k ≤ n, Sm k x → ∃ ρ, sWh sT sb (fu + 1) [some (.frz f), some (.frz d), some (.lst (prs l' ++ [.tup [x, x]])), o3, o4, o5, o6, o7, o8] w = some (.nx ρ w) := by
        intro k
        induction k with
        | zero =>
          intro _ hk
          rcases hk with rfl | ⟨i, rfl⟩
          · exact leaf rfl (sb_non f d (prs l') o3 o4 o5 o6 o7 o8 w)
          · exact leaf rfl (sb_int i f d (prs l') o3 o4 o5 o6 o7 o8 w)
        | succ k ihk =>
          intro hkn hk
          rcases hk with hk | ⟨xs, hxs, hall⟩
          · exact ihk (by omega) hk
          · have hz : szD x = 1 + szL xs := by rcases hxs with rfl | rfl <;> rfl
            have l1 := szL_len l'
            have l2 := szL_len xs
            obtain ⟨q5, e⟩ := sb_seq f d x xs (prs l') hxs (by unfold prs; rw [List.length_map]; omega) o3 o4 o5 o6 o7 o8 w
            have up : ∀ {k : Nat} {y : D}, Sm k y → ∀ j, k ≤ j → Sm j y := fun {k y} hy j hj => by
              induction j with
              | zero =>
                have : k = 0 := by omega
                subst this
                exact hy
              | succ j ihj =>
                by_cases c : k ≤ j
                · exact .inl (ihj c)
                · have : k = j + 1 := by omega
                  subst this
                  exact hy
            have ea : prs l' ++ prs xs = prs (l' ++ xs) := by unfold prs; rw [List.map_append]
            rw [ea] at e
            obtain ⟨ρ, e2⟩ := ih (l' ++ xs) fu (some (.frz x)) (some (.frz x)) q5 o6 o7 o8 (by rw [szL_app]; omega) (by omega) (by omega) fun y hy => by
              rcases List.mem_append.mp hy with hy | hy
              · exact hl' y hy
              · exact up (hall y hy) n (by omega)
            exact ⟨ρ, by rw [sWh_go t e, e2]⟩
      exact main n (Nat.le_refl _) hx
theorem same_ok {d : D} {n : Nat} (hn : n ≤ 50) (h : Sm n d) (hz : szD d < 100000) (w : DS) : g__law_same [d, d] w = some (.ok (.bl true) w) := by
  obtain ⟨ρ, e⟩ := same_loop d d n hn w (szD d) [d] fuel__law_same none none none none none none (by show szD d + 0 ≤ szD d; omega) (by show szD d < 100000; exact hz) (by omega) fun x hx => by
    have : x = d := by simpa using hx
    rw [this]
    exact h
  have a1 : sOwn 2 (mLs (mCons (mTup (mCons (mVar 0) (mCons (mVar 1) mNil))) mNil)) (startE 9 [d, d]) w = some (.nx [some (.frz d), some (.frz d), some (.lst (prs [d])), none, none, none, none, none, none] w) := rfl
  unfold g__law_same
  rw [m_same_eq, sSeq_nx a1, sSeq_nx e]
  rfl
end K03
set_option maxRecDepth 100000
set_option maxHeartbeats 4000000
namespace K03
open PySem PySem.Spec PyProof.Rows L2 FL
/-! ### tools: meanings worked out -/
theorem sForM_ok {src : M DS (List D)} {bd : Bd} {body : SM DS} {ρ ρ' : Ev} {w w' : DS} {ds : List D} (h : src ρ w = some (.ok ds ρ' w')) : sForM src bd body ρ w = sFor body bd ds ρ' w' := by
  unfold sForM sB
  rw [h]
/-- a loop that keeps I -/
theorem sFor_inv {α : Type} {bd : Bd} {body : SM DS} (emb : α → D) (I : Nat → Ev → DS → Prop) (L : List α) (hs : ∀ i a ρ w, L[i]? = some a → I i ρ w → ∃ ρ1, bd (emb a) ρ = some ρ1 ∧ ∃ ρ2 w2, body ρ1 w = some (.nx ρ2 w2) ∧ I (i + 1) ρ2 w2) :
    ∀ {ρ : Ev} {w : DS}, I 0 ρ w → ∃ ρ' w', sFor body bd (L.map emb) ρ w = some (.nx ρ' w') ∧ I L.length ρ' w' := by
  have go : ∀ (M : List α) (j : Nat), (∀ i a, M[i]? = some a → L[j + i]? = some a) → j + M.length = L.length → ∀ ρ w, I j ρ w → ∃ ρ' w', sFor body bd (M.map emb) ρ w = some (.nx ρ' w') ∧ I L.length ρ' w' := by
    intro M
    induction M with
    | nil =>
      intro j _ hl ρ w h
      refine ⟨ρ, w, rfl, ?_⟩
      rw [← hl]
      exact h
    | cons a M ih =>
      intro j hg hl ρ w h
      obtain ⟨ρ1, h1, ρ2, w2, h2, h3⟩ := hs j a ρ w (hg 0 a rfl) h
      rw [List.map_cons, sFor_nx h1 h2]
      refine ih (j + 1) (fun i b hb => ?_) (by rw [List.length_cons] at hl; omega) ρ2 w2 h3
      have := hg (i + 1) b (by simpa using hb)
      rw [show j + 1 + i = j + (i + 1) by omega]
      exact this
  intro ρ w h
  exact go L 0 (fun i a h => by rw [Nat.zero_add]; exact h) (by omega) ρ w h
theorem sFor_rng {bd : Bd} {body : SM DS} (I : Nat → Ev → DS → Prop) (n : Nat) (hs : ∀ i ρ w, i < n → I i ρ w → ∃ ρ1, bd (.int i) ρ = some ρ1 ∧ ∃ ρ2 w2, body ρ1 w = some (.nx ρ2 w2) ∧ I (i + 1) ρ2 w2) {ρ : Ev} {w : DS} (h : I 0 ρ w) :
    ∃ ρ' w', sFor body bd ((List.range n).map fun (i : Nat) => D.int i) ρ w = some (.nx ρ' w') ∧ I n ρ' w' := by
  obtain ⟨ρ', w', h1, h2⟩ := sFor_inv (fun (i : Nat) => D.int i) I (List.range n) (fun i a ρ w ha hI => by
    have hi : i < n := by
      have := (List.getElem?_eq_some_iff.mp ha).1
      rwa [List.length_range] at this
    rw [List.getElem?_range hi] at ha
    cases ha
    exact hs i ρ w hi hI) h
  rw [List.length_range] at h2
  exact ⟨ρ', w', h1, h2⟩
theorem rng1_ok {n : Nat} (h : n < 1000000) : D.rng1 [.int n] = some ((List.range n).map fun (i : Nat) => D.int i) := by
  unfold D.rng1
  simp only
  rw [if_pos (by omega)]
  unfold rngD
  simp
theorem src_rng {ma : M DS (List D)} {ρ ρ' : Ev} {w w' : DS} {v : Nat} (h : ma ρ w = some (.ok [.int v] ρ' w')) (hv : v < 1000000) : m1 (fun ds => pu (D.rng1 ds)) ma ρ w = some (.ok ((List.range v).map fun (i : Nat) => D.int i) ρ' w') := by
  have k : ∀ o : Option (List D), o = some ((List.range v).map fun (i : Nat) => D.int i) → (pu o : M DS (List D)) ρ' w' = some (.ok ((List.range v).map fun (i : Nat) => D.int i) ρ' w') := fun o ho => by
    rw [ho]
    rfl
  unfold m1
  rw [h, bnd_ok]
  exact k _ (rng1_ok hv)
/-- a comprehension whose items draw -/
theorem lcGo_dr {α : Type} {bd : Bd} {e : M DS D} {ρ ρh : Ev} (emb : α → D) (Pa : α → Prop) (c : Nat) : ∀ (ds acc : List D), (∀ d ∈ ds, ∃ ρ1, bd d ρh = some ρ1 ∧ ∀ n w, DsOk (n + c) w → ∃ a ρ2 w', e ρ1 w = some (.ok (emb a) ρ2 w') ∧ Pa a ∧ DsOk n w') →
    ∀ n w, DsOk (n + c * ds.length) w → ∃ (l : List α) (w' : DS), l.length = ds.length ∧ (∀ a ∈ l, Pa a) ∧ lcGo bd mTrue e ρ ρh ds acc w = some (.ok (acc ++ l.map emb) ρ w') ∧ DsOk n w'
  | [], acc, _, n, w, ok => ⟨[], w, rfl, (fun a h => by cases h), (by unfold lcGo; simp), ok⟩
  | d :: ds, acc, h, n, w, ok => by
    obtain ⟨ρ1, h1, h2⟩ := h d List.mem_cons_self
    obtain ⟨a, ρ2, w1, h3, h4, h5⟩ := h2 (n + c * ds.length) w (by rw [List.length_cons, Nat.mul_succ] at ok; rwa [Nat.add_assoc])
    obtain ⟨l, w', g1, g2, g3, g4⟩ := lcGo_dr (ρ := ρ) emb Pa c ds (acc ++ [emb a]) (fun x hx => h x (List.mem_cons_of_mem _ hx)) n w1 h5
    refine ⟨a :: l, w', by rw [List.length_cons, List.length_cons, g1], fun b hb => ?_, ?_, g4⟩
    · rcases List.mem_cons.mp hb with rfl | hb
      · exact h4
      · exact g2 b hb
    · unfold lcGo
      rw [h1]
      simp only [mTrue, h3, List.map_cons]
      rw [g3, List.append_assoc]
      rfl
theorem mLc_dr {α : Type} {src : M DS (List D)} {vs : List Nat} {bd : Bd} {e : M DS D} {ρ ρ' : Ev} {w0 w : DS} {ds : List D} (emb : α → D) (Pa : α → Prop) (c n : Nat) (hs : src ρ w0 = some (.ok ds ρ' w)) (hl : ds.length ≤ 16777216) (ok : DsOk (n + c * ds.length) w)
    (h : ∀ d ∈ ds, ∃ ρ1, bd d (hidE vs 0 ρ') = some ρ1 ∧ ∀ n w, DsOk (n + c) w → ∃ a ρ2 w', e ρ1 w = some (.ok (emb a) ρ2 w') ∧ Pa a ∧ DsOk n w') :
    ∃ (l : List α) (w' : DS), l.length = ds.length ∧ (∀ a ∈ l, Pa a) ∧ mLc src vs bd mTrue e ρ w0 = some (.ok (l.map emb) ρ' w') ∧ DsOk n w' := by
  obtain ⟨l, w', h1, h2, h3, h4⟩ := lcGo_dr (ρ := ρ') (ρh := hidE vs 0 ρ') emb Pa c ds [] h n w ok
  refine ⟨l, w', h1, h2, ?_, h4⟩
  unfold mLc
  rw [hs, bnd_ok, if_pos hl]
  exact h3
/-- a comprehension over a list told by its members -/
theorem mLc_of {α : Type} {src : M DS (List D)} {vs : List Nat} {bd : Bd} {c : M DS Bool} {e : M DS D} {ρ ρ' : Ev} {w0 w : DS} (L : List α) (emb : α → D) (p : α → Bool) (f : α → D) (hs : src ρ w0 = some (.ok (L.map emb) ρ' w)) (hl : L.length ≤ 16777216)
    (h : ∀ a ∈ L, ∃ ρ1 ρ2, bd (emb a) (hidE vs 0 ρ') = some ρ1 ∧ c ρ1 w = some (.ok (p a) ρ2 w) ∧ (p a = true → ∃ ρ3, e ρ2 w = some (.ok (f a) ρ3 w))) : mLc src vs bd c e ρ w0 = some (.ok ((L.filter p).map f) ρ' w) := by
  have go : ∀ (L : List α) (acc : List D), (∀ a ∈ L, ∃ ρ1 ρ2, bd (emb a) (hidE vs 0 ρ') = some ρ1 ∧ c ρ1 w = some (.ok (p a) ρ2 w) ∧ (p a = true → ∃ ρ3, e ρ2 w = some (.ok (f a) ρ3 w))) →
      lcGo bd c e ρ' (hidE vs 0 ρ') (L.map emb) acc w = some (.ok (acc ++ (L.filter p).map f) ρ' w) := by
    intro L
    induction L with
    | nil =>
      intro acc _
      unfold lcGo
      simp
    | cons a L ih =>
      intro acc h
      obtain ⟨ρ1, ρ2, h1, h2, h3⟩ := h a List.mem_cons_self
      rw [List.map_cons]
      unfold lcGo
      rw [h1]
      simp only [h2]
      cases hp : p a with
      | false =>
        simp only
        rw [ih acc fun x hx => h x (List.mem_cons_of_mem _ hx), List.filter_cons_of_neg (by rw [hp]; simp)]
      | true =>
        obtain ⟨ρ3, h4⟩ := h3 hp
        simp only [h4]
        rw [ih (acc ++ [f a]) fun x hx => h x (List.mem_cons_of_mem _ hx), List.filter_cons_of_pos hp, List.map_cons, List.append_assoc]
        rfl
  unfold mLc
  rw [hs, bnd_ok, if_pos (by rw [List.length_map]; exact hl), go L [] h]
  rfl
theorem mLc_all {α : Type} {src : M DS (List D)} {vs : List Nat} {bd : Bd} {e : M DS D} {ρ ρ' : Ev} {w0 w : DS} (L : List α) (emb f : α → D) (hs : src ρ w0 = some (.ok (L.map emb) ρ' w)) (hl : L.length ≤ 16777216)
    (h : ∀ a ∈ L, ∃ ρ1, bd (emb a) (hidE vs 0 ρ') = some ρ1 ∧ ∃ ρ3, e ρ1 w = some (.ok (f a) ρ3 w)) : mLc src vs bd mTrue e ρ w0 = some (.ok (L.map f) ρ' w) := by
  rw [mLc_of L emb (fun _ => true) f hs hl fun a ha => ?_, List.filter_eq_self.mpr fun _ _ => rfl]
  obtain ⟨ρ1, h1, h2⟩ := h a ha
  exact ⟨ρ1, ρ1, h1, rfl, fun _ => h2⟩
/-! draws -/
theorem draw_nat {n : Nat} {w : DS} (ok : DsOk (n + 1) w) {room : Nat} (h1 : 0 < room) (h2 : room < 1073741824) : ∃ (v : Nat) (w' : DS), g__law_draw [.wld, .int room] w = some (.ok (.int v) w') ∧ v < room ∧ DsOk n w' := by
  obtain ⟨v, w', e, v0, v1, ok'⟩ := draw_ok ok (room := room) (by omega) (by omega)
  refine ⟨v.toNat, w', ?_, by omega, ok'⟩
  rw [e, Int.toNat_of_nonneg v0]
theorem pick_ok {n : Nat} {w : DS} (ok : DsOk (n + 1) w) {xs : List D} (h1 : xs ≠ []) (h2 : xs.length < 1000000) : ∃ d w', g__law_pick [.wld, .lst xs] w = some (.ok d w') ∧ d ∈ xs ∧ DsOk n w' := by
  obtain ⟨v, w', e, v1, ok'⟩ := draw_nat ok (room := xs.length) (by cases xs; exact absurd rfl h1; simp) (by omega)
  refine ⟨xs[v], w', ?_, List.getElem_mem v1, ok'⟩
  have k : D.ix (.lst xs) (.int v) = some xs[v] := atI_nat (List.getElem?_eq_getElem v1)
  have kl : D.lenL [.lst xs] = some (.int xs.length) := rfl
  unfold g__law_pick m__law_pick
  have hs : startE 2 [.wld, .lst xs] = [some (.frz .wld), some (.frz (.lst xs))] := rfl
  rw [hs]
  simp [sSeq, sIf, sB, sNext, sAsg, sDrop, sRet, sOwn, sMov, sSt2, mSt, sParP, mB, mNot, mOr, mAnd, mOrV, mAndV, mIf, m1, m2, mCons, mNil, mConsD, mConsL, mNilP, setP, Pz.o, mC, mVar, rdV, mTup, mLs, mFz, mItems, mSM, lsOf, matOf, mCh, mCall, mCallN, mBor, mBorF, mBorN, fzE, pu, pu1, pu2, bnd, bdN, bdT, bdL, D.tr, D.isN, D.notN, outF, outN, O.toD, mStar, D.toI, mP, mNoP, mSlL, mSlT, e, k, kl]
theorem okl {m n : Nat} {w : DS} (ok : DsOk n w) (h : m ≤ n) : DsOk m w := ⟨ok.t0, by have := ok.t1; omega, ok.r0, ok.g0⟩
theorem inV_ints (a : Int) (l : List Int) : inV (.int a) (l.map V.int) = decide (a ∈ l) := by
  unfold inV
  induction l with
  | nil => simp
  | cons b l ih =>
    have e : eqV (.int b) (.int a) = decide (a = b) := by
      show (b == a) = _
      by_cases h : a = b
      · subst h; simp
      · rw [decide_eq_false h]
        simpa using fun z => h z.symm
    rw [List.map_cons, List.any_cons, ih, e]
    simp
end K03
set_option maxRecDepth 100000
set_option maxHeartbeats 4000000
namespace K03
open PySem PySem.Spec PyProof.Rows L2 FL
/-! ### the procedures that read some text, by laps -/
abbrev Rl := List (List (Option (List Nat)))
def lvN (R : Rl) : Nat → Nat → Bool
  | 0, _ => false
  | n + 1, a => ((R[a]?).getD []).any fun r => match r with
    | none => false
    | some l => l.all fun b => lvN R n b
def Live (R : Rl) : Prop := ∀ a, a < R.length → ∃ n, lvN R n a = true
def Calls (R : Rl) (m : Nat) : Prop := ∀ l ∈ R, ∀ r ∈ l, ∀ c, r = some c → ∀ b ∈ c, b < m
theorem lvN_mono {R : Rl} : ∀ {n : Nat} {a : Nat}, lvN R n a = true → lvN R (n + 1) a = true
  | 0, a, h => by cases h
  | n + 1, a, h => by
    unfold lvN at h ⊢
    rw [List.any_eq_true] at h ⊢
    obtain ⟨r, h1, h2⟩ := h
    refine ⟨r, h1, ?_⟩
    cases r with
    | none => cases h2
    | some l =>
      simp only at h2 ⊢
      rw [List.all_eq_true] at h2 ⊢
      exact fun b hb => lvN_mono (h2 b hb)
theorem lvN_le {R : Rl} {m n : Nat} {a : Nat} (l : m ≤ n) (h : lvN R m a = true) : lvN R n a = true := by
  induction n with
  | zero =>
    have : m = 0 := by omega
    subst this
    exact h
  | succ n ih =>
    by_cases e : m = n + 1
    · subst e
      exact h
    · exact lvN_mono (ih (by omega))
def lvs (R : Rl) (n : Nat) : List Nat := (List.range R.length).filter fun a => lvN R n a
theorem mem_lvs {R : Rl} {n a : Nat} : a ∈ lvs R n ↔ a < R.length ∧ lvN R n a = true := by
  unfold lvs
  rw [List.mem_filter, List.mem_range]
def ruleB (F : List Nat) : Option (List Nat) → Bool
  | none => false
  | some l => l.all fun b => decide (b ∈ F)
def stepB (F : List Nat) (line : List (Option (List Nat))) : Bool := line.any (ruleB F)
theorem step_lv {R : Rl} (hc : Calls R R.length) {n a : Nat} {line : List (Option (List Nat))} (h : R[a]? = some line) : stepB (lvs R n) line = lvN R (n + 1) a := by
  unfold stepB ruleB
  conv => rhs; unfold lvN
  rw [h]
  show _ = line.any _
  have hl := List.mem_of_getElem? h
  rw [Bool.eq_iff_iff, List.any_eq_true, List.any_eq_true]
  constructor
  · rintro ⟨r, h1, h2⟩
    refine ⟨r, h1, ?_⟩
    cases r with
    | none => cases h2
    | some c =>
      simp only at h2 ⊢
      rw [List.all_eq_true] at h2 ⊢
      exact fun b hb => (mem_lvs.mp (of_decide_eq_true (h2 b hb))).2
  · rintro ⟨r, h1, h2⟩
    refine ⟨r, h1, ?_⟩
    cases r with
    | none => cases h2
    | some c =>
      simp only at h2 ⊢
      rw [List.all_eq_true] at h2 ⊢
      exact fun b hb => decide_eq_true (mem_lvs.mpr ⟨hc _ hl _ h1 c rfl b hb, h2 b hb⟩)
/-! #### _law_sk_live -/
abbrev LF : M DS (List D) := (mLc (mIts (mVar 5)) [6] (bdN 6) (mB (m2 (pu2 D.ninD) (mVar 6) (mVar 1))) (mC (.int 1)))
abbrev LE : M DS Bool := (mAnd (mB (m2 (pu2 D.notN) (mVar 5) (mC .non))) (mB (m2 (pu2 D.eqD) (mFz LF) (mFz (mLs mNil)))))
abbrev LD : M DS (List D) := (mLc (mIts (mVar 4)) [5] (bdN 5) LE (mC (.int 1)))
abbrev LT : M DS Bool := (mB (m2 (pu2 D.neD) (mFz LD) (mFz (mLs mNil))))
abbrev LC : M DS (List D) := (mLc (m1 (fun ds => pu (D.enumA ds)) (mCons (mVar 0) mNil)) [3, 4] (bdT [(bdN 3), (bdN 4)]) LT (mVar 3))
abbrev LB : SM DS := (sSeq (sOwn 1 (mBorN LC)) sNext)
theorem ones_eq {α : Type} (L : List α) : D.eqD (.lst (L.map fun _ => D.int 1)) (.lst []) = some (.bl L.isEmpty) := by
  unfold D.eqD
  rw [eq_nilL (n := 1) (fun x hx => by
    obtain ⟨_, _, rfl⟩ := List.mem_map.mp hx
    exact pyOk_int 1) (by decide)]
  cases L <;> rfl
theorem ones_ne {α : Type} (L : List α) : D.neD (.lst (L.map fun _ => D.int 1)) (.lst []) = some (.bl (!L.isEmpty)) := by
  rw [ne_nilL (n := 1) (fun x hx => by
    obtain ⟨_, _, rfl⟩ := List.mem_map.mp hx
    exact pyOk_int 1) (by decide)]
  cases L <;> rfl
theorem flVs_dn : ∀ (l : List Nat), D.flVs (dn l) = some (l.map fun (n : Nat) => V.int n)
  | [] => rfl
  | a :: l => by
    have := flVs_dn l
    unfold dn at this ⊢
    rw [List.map_cons]
    unfold D.flVs
    rw [this]
    rfl
theorem nin_dn (a : Nat) (l : List Nat) : D.ninD (.int a) (.lst (dn l)) = some (.bl (!decide (a ∈ l))) := by
  unfold D.ninD D.inQ D.inS D.its
  simp only
  rw [flVs_dn]
  show some (D.bl (!inV (V.int a) (l.map fun (n : Nat) => V.int n))) = _
  have e : (l.map fun (n : Nat) => V.int n) = (l.map fun (n : Nat) => (n : Int)).map V.int := by
    rw [List.map_map]
    rfl
  rw [e, inV_ints]
  have e2 : decide ((a : Int) ∈ l.map fun (n : Nat) => (n : Int)) = decide (a ∈ l) := by
    rw [Bool.eq_iff_iff, decide_eq_true_iff, decide_eq_true_iff, List.mem_map]
    constructor
    · rintro ⟨b, h1, h2⟩
      have : b = a := by omega
      exact this ▸ h1
    · exact fun h => ⟨a, h, rfl⟩
  rw [e2]
section
variable (X : D) (F : List Nat) (o2 : Option O) (w : DS)
theorem LF_ok (a : Nat) (ln : D) (l : List Nat) (hl : l.length ≤ 100) : LF [some (.frz X), some (.frz (.lst (dn F))), o2, some (.frz (.int a)), some (.frz ln), some (.frz (.tup (dn l))), none] w =
    some (.ok ((l.filter fun b => !decide (b ∈ F)).map fun _ => .int 1) [some (.frz X), some (.frz (.lst (dn F))), o2, some (.frz (.int a)), some (.frz ln), some (.frz (.tup (dn l))), none] w) := by
  refine mLc_of l (fun (n : Nat) => D.int n) (fun b => !decide (b ∈ F)) (fun _ => .int 1) rfl (by omega) fun b hb => ?_
  have k := nin_dn b F
  have t : (mB (m2 (pu2 D.ninD) (mVar 6) (mVar 1))) [some (.frz X), some (.frz (.lst (dn F))), hidO o2, some (.frz (.int a)), some (.frz ln), some (.frz (.tup (dn l))), some (.frz (.int b))] w = some (.ok (!decide (b ∈ F)) [some (.frz X), some (.frz (.lst (dn F))), hidO o2, some (.frz (.int a)), some (.frz ln), some (.frz (.tup (dn l))), some (.frz (.int b))] w) := by
    simp [sSeq, sIf, sB, sNext, sAsg, sDrop, sRet, sOwn, sMov, sSt2, mSt, sParP, mB, mNot, mOr, mAnd, mOrV, mAndV, mIf, m1, m2, mCons, mNil, mConsD, mConsL, mNilP, setP, Pz.o, mC, mVar, rdV, mTup, mLs, mFz, mItems, mSM, lsOf, matOf, mCh, mCall, mCallN, mBor, mBorF, mBorN, fzE, pu, pu1, pu2, bnd, bdN, bdT, bdL, D.tr, D.isN, D.notN, outF, outN, O.toD, mStar, D.toI, mP, mNoP, mSlL, mSlT, k]
  exact ⟨_, _, rfl, t, fun _ => ⟨_, rfl⟩⟩
theorem LE_ok (a : Nat) (ln : D) (r : Option (List Nat)) (hl : ∀ c, r = some c → c.length ≤ 100) : LE [some (.frz X), some (.frz (.lst (dn F))), o2, some (.frz (.int a)), some (.frz ln), some (.frz (dR r)), none] w =
    some (.ok (ruleB F r) [some (.frz X), some (.frz (.lst (dn F))), o2, some (.frz (.int a)), some (.frz ln), some (.frz (dR r)), none] w) := by
  cases r with
  | none => rfl
  | some l =>
    have k := LF_ok X F o2 w a ln l (hl l rfl)
    have k2 := ones_eq (l.filter fun b => !decide (b ∈ F))
    have k3 : (l.filter fun b => !decide (b ∈ F)).isEmpty = l.all fun b => decide (b ∈ F) := by
      rw [Bool.eq_iff_iff, List.isEmpty_iff, List.filter_eq_nil_iff, List.all_eq_true]
      simp
    rw [k3] at k2
    have k0 : dR (some l) = .tup (dn l) := rfl
    rw [k0]
    unfold LE
    have k4 : ruleB F (some l) = l.all fun b => decide (b ∈ F) := rfl
    rw [k4]
    simp [sSeq, sIf, sB, sNext, sAsg, sDrop, sRet, sOwn, sMov, sSt2, mSt, sParP, mB, mNot, mOr, mAnd, mOrV, mAndV, mIf, m1, m2, mCons, mNil, mConsD, mConsL, mNilP, setP, Pz.o, mC, mVar, rdV, mTup, mLs, mFz, mItems, mSM, lsOf, matOf, mCh, mCall, mCallN, mBor, mBorF, mBorN, fzE, pu, pu1, pu2, bnd, bdN, bdT, bdL, D.tr, D.isN, D.notN, outF, outN, O.toD, mStar, D.toI, mP, mNoP, mSlL, mSlT, k, k2]
theorem LD_ok (a : Nat) (line : List (Option (List Nat))) (hn : line.length ≤ 100) (hl : ∀ r ∈ line, ∀ c, r = some c → c.length ≤ 100) (ln : D) (hln : ln.its = some (line.map dR)) : LD [some (.frz X), some (.frz (.lst (dn F))), o2, some (.frz (.int a)), some (.frz ln), none, none] w =
    some (.ok ((line.filter (ruleB F)).map fun _ => .int 1) [some (.frz X), some (.frz (.lst (dn F))), o2, some (.frz (.int a)), some (.frz ln), none, none] w) := by
  refine mLc_of line dR _ (fun _ => .int 1) ?_ (by omega) fun r hr => ?_
  · simp [sSeq, sIf, sB, sNext, sAsg, sDrop, sRet, sOwn, sMov, sSt2, mSt, sParP, mB, mNot, mOr, mAnd, mOrV, mAndV, mIf, m1, m2, mCons, mNil, mConsD, mConsL, mNilP, setP, Pz.o, mC, mVar, rdV, mTup, mLs, mFz, mItems, mSM, lsOf, matOf, mCh, mCall, mCallN, mBor, mBorF, mBorN, fzE, pu, pu1, pu2, bnd, bdN, bdT, bdL, D.tr, D.isN, D.notN, outF, outN, O.toD, mStar, D.toI, mP, mNoP, mSlL, mSlT, mIts, hln]
  · exact ⟨[some (.frz X), some (.frz (.lst (dn F))), hidO o2, some (.frz (.int a)), some (.frz ln), some (.frz (dR r)), none], _, rfl, LE_ok X F (hidO o2) w a ln r (hl r hr), fun _ => ⟨_, rfl⟩⟩
theorem LT_ok (a : Nat) (line : List (Option (List Nat))) (hn : line.length ≤ 100) (hl : ∀ r ∈ line, ∀ c, r = some c → c.length ≤ 100) (ln : D) (hln : ln.its = some (line.map dR)) : LT [some (.frz X), some (.frz (.lst (dn F))), o2, some (.frz (.int a)), some (.frz ln), none, none] w =
    some (.ok (stepB F line) [some (.frz X), some (.frz (.lst (dn F))), o2, some (.frz (.int a)), some (.frz ln), none, none] w) := by
  have k := LD_ok X F o2 w a line hn hl ln hln
  have k2 := ones_ne (line.filter (ruleB F))
  have k3 : (!(line.filter (ruleB F)).isEmpty) = stepB F line := by
    unfold stepB
    rw [Bool.eq_iff_iff, Bool.not_eq_true', List.any_eq_true]
    rw [Bool.eq_false_iff, ne_eq, List.isEmpty_iff, List.filter_eq_nil_iff]
    constructor
    · intro h
      exact Classical.byContradiction fun z => h fun r hr hh => z ⟨r, hr, hh⟩
    · rintro ⟨r, h1, h2⟩ h
      exact h r h1 h2
  rw [k3] at k2
  simp [sSeq, sIf, sB, sNext, sAsg, sDrop, sRet, sOwn, sMov, sSt2, mSt, sParP, mB, mNot, mOr, mAnd, mOrV, mAndV, mIf, m1, m2, mCons, mNil, mConsD, mConsL, mNilP, setP, Pz.o, mC, mVar, rdV, mTup, mLs, mFz, mItems, mSM, lsOf, matOf, mCh, mCall, mCallN, mBor, mBorF, mBorN, fzE, pu, pu1, pu2, bnd, bdN, bdT, bdL, D.tr, D.isN, D.notN, outF, outN, O.toD, mStar, D.toI, mP, mNoP, mSlL, mSlT, k, k2]
end
theorem zipIdx_filter {α : Type} (q : α → Bool) (g : Nat → Bool) : ∀ (R : List α) (k : Nat), (∀ i a, R[i]? = some a → g (k + i) = q a) → ((R.zipIdx k).filter fun p => q p.1).map (·.2) = (List.range' k R.length).filter g
  | [], k, _ => rfl
  | a :: R, k, h => by
    have ih := zipIdx_filter q g R (k + 1) fun i b hb => by
      rw [show k + 1 + i = k + (i + 1) by omega]
      exact h (i + 1) b (by simpa using hb)
    have h0 : g k = q a := h 0 a rfl
    rw [List.zipIdx_cons, List.length_cons, List.range'_succ]
    cases hq : q a with
    | true =>
      rw [List.filter_cons_of_pos (by exact hq), List.filter_cons_of_pos (by rw [h0]; exact hq), List.map_cons, ih]
    | false =>
      rw [List.filter_cons_of_neg (by simp [hq]), List.filter_cons_of_neg (by rw [h0, hq]; simp), ih]
def XL (R : Rl) : D := .lst (R.map fun l => .lst (l.map dR))
def Sz (R : Rl) : Prop := R.length ≤ 100 ∧ ∀ l ∈ R, l.length ≤ 100 ∧ ∀ r ∈ l, ∀ c, r = some c → c.length ≤ 100
theorem enum_XL (R : Rl) : D.enumA [XL R] = some ((R.zipIdx).map fun p => .tup [.int p.2, .lst (p.1.map dR)]) := by
  show some (enumD (R.map fun l => D.lst (l.map dR))) = _
  have : enumD (R.map fun l => D.lst (l.map dR)) = ((R.map fun l => D.lst (l.map dR)).zipIdx 0).map fun p => D.tup [.int p.2, p.1] := rfl
  rw [this, List.zipIdx_map, List.map_map]
  rfl
theorem LC_ok {R : Rl} (hz : Sz R) (hc : Calls R R.length) (n : Nat) (o2 : Option O) (w : DS) : LC [some (.frz (XL R)), some (.frz (.lst (dn (lvs R n)))), o2, none, none, none, none] w =
    some (.ok (dn (lvs R (n + 1))) [some (.frz (XL R)), some (.frz (.lst (dn (lvs R n)))), o2, none, none, none, none] w) := by
  have e : dn (lvs R (n + 1)) = (R.zipIdx.filter fun p => stepB (lvs R n) p.1).map fun p => .int p.2 := by
    have z := zipIdx_filter (stepB (lvs R n)) (fun a => lvN R (n + 1) a) R 0 fun i a h => by
      rw [Nat.zero_add]
      exact (step_lv hc h).symm
    have e0 : lvs R (n + 1) = (R.zipIdx.filter fun p => stepB (lvs R n) p.1).map (·.2) := by
      show (List.range R.length).filter (fun a => lvN R (n + 1) a) = _
      rw [List.range_eq_range', z]
    rw [e0]
    unfold dn
    rw [List.map_map]
    rfl
  rw [e]
  refine mLc_of R.zipIdx (fun p => .tup [.int p.2, .lst (p.1.map dR)]) (fun p => stepB (lvs R n) p.1) (fun p => .int p.2) ?_ (by rw [List.length_zipIdx]; have := hz.1; omega) fun p hp => ?_
  · have k := enum_XL R
    simp [sSeq, sIf, sB, sNext, sAsg, sDrop, sRet, sOwn, sMov, sSt2, mSt, sParP, mB, mNot, mOr, mAnd, mOrV, mAndV, mIf, m1, m2, mCons, mNil, mConsD, mConsL, mNilP, setP, Pz.o, mC, mVar, rdV, mTup, mLs, mFz, mItems, mSM, lsOf, matOf, mCh, mCall, mCallN, mBor, mBorF, mBorN, fzE, pu, pu1, pu2, bnd, bdN, bdT, bdL, D.tr, D.isN, D.notN, outF, outN, O.toD, mStar, D.toI, mP, mNoP, mSlL, mSlT, k]
  · obtain ⟨line, a⟩ := p
    have hm : line ∈ R := by
      have := List.mem_zipIdx hp
      simp at this
      rw [this.2]
      exact List.getElem_mem _
    have k := LT_ok (XL R) (lvs R n) (hidO o2) w a line (hz.2 line hm).1 (hz.2 line hm).2 (.lst (line.map dR)) rfl
    exact ⟨[some (.frz (XL R)), some (.frz (.lst (dn (lvs R n)))), hidO o2, some (.frz (.int a)), some (.frz (.lst (line.map dR))), none, none], _, rfl, k, fun _ => ⟨_, rfl⟩⟩
theorem flat_dn (l : List Nat) : ((dn l).all fun d => d.flV.isSome) = true := by
  unfold dn
  rw [List.all_map]
  exact List.all_eq_true.mpr fun _ _ => rfl
theorem LB_ok {R : Rl} (hz : Sz R) (hc : Calls R R.length) (n : Nat) (ln : D) (w : DS) : LB [some (.frz (XL R)), some (.lst (dn (lvs R n))), some (.frz ln), none, none, none, none] w =
    some (.nx [some (.frz (XL R)), some (.lst (dn (lvs R (n + 1)))), some (.frz ln), none, none, none, none] w) := by
  have k := LC_ok hz hc n (some (.frz ln)) w
  have k2 := flat_dn (lvs R (n + 1))
  have e : fzE [some (.frz (XL R)), some (.lst (dn (lvs R n))), some (.frz ln), none, none, none, none] = [some (.frz (XL R)), some (.frz (.lst (dn (lvs R n)))), some (.frz ln), none, none, none, none] := rfl
  have m : mBorN LC [some (.frz (XL R)), some (.lst (dn (lvs R n))), some (.frz ln), none, none, none, none] w = some (.ok (dn (lvs R (n + 1))) [some (.frz (XL R)), some (.lst (dn (lvs R n))), some (.frz ln), none, none, none, none] w) := by
    unfold mBorN
    rw [e, k]
    simp only
    rw [if_pos k2]
  unfold LB sSeq sOwn sB sNext
  rw [m]
  rfl
theorem sk_live_ok {R : Rl} (hz : Sz R) (hc : Calls R R.length) (w : DS) : gn__law_sk_live [XL R] w = some (.ok (dn (lvs R R.length)) w) := by
  have hm : m__law_sk_live = (sSeq (sOwn 1 (mLs mNil)) (sSeq (sForM (mIts (mVar 0)) (bdN 2) LB) (sSeq (sRetO 1) sNext))) := rfl
  have hs : startE 7 [XL R] = [some (.frz (XL R)), none, none, none, none, none, none] := rfl
  have e1 : sOwn 1 (mLs mNil) [some (.frz (XL R)), none, none, none, none, none, none] w = some (.nx [some (.frz (XL R)), some (.lst (dn (lvs R 0))), none, none, none, none, none] w) := by
    have z : lvs R 0 = [] := List.filter_eq_nil_iff.mpr fun a _ => by simp [lvN]
    rw [z]
    rfl
  obtain ⟨ρ', w', h1, h2⟩ := sFor_inv (bd := bdN 2) (body := LB) (fun (l : List (Option (List Nat))) => D.lst (l.map dR)) (fun i ρ w' => w' = w ∧ ∃ o2, ρ = [some (.frz (XL R)), some (.lst (dn (lvs R i))), o2, none, none, none, none]) R (fun i a ρ w1 _ hI => by
    obtain ⟨rfl, o2, rfl⟩ := hI
    exact ⟨_, rfl, _, _, LB_ok hz hc i _ w1, rfl, _, rfl⟩) (ρ := [some (.frz (XL R)), some (.lst (dn (lvs R 0))), none, none, none, none, none]) (w := w) ⟨rfl, _, rfl⟩
  obtain ⟨rfl, o2, rfl⟩ := h2
  have e2 : sForM (mIts (mVar 0)) (bdN 2) LB [some (.frz (XL R)), some (.lst (dn (lvs R 0))), none, none, none, none, none] w' = some (.nx [some (.frz (XL R)), some (.lst (dn (lvs R R.length))), o2, none, none, none, none] w') := by
    rw [sForM_ok (ds := R.map fun l => D.lst (l.map dR)) (ρ' := [some (.frz (XL R)), some (.lst (dn (lvs R 0))), none, none, none, none, none]) (w' := w') rfl]
    exact h1
  unfold gn__law_sk_live
  rw [hm, hs, sSeq_nx e1, sSeq_nx e2]
  rfl
end K03
set_option maxRecDepth 100000
set_option maxHeartbeats 4000000
namespace K03
open PySem PySem.Spec PyProof.Rows L2 FL
/-! ### drawn programs -/
abbrev RC : M DS (List D) := (mLc (m1 (fun ds => pu (D.rng1 ds)) (mCons (mCall 2 g__law_draw [] (mCons (mVar 0) (mCons (mVar 5) mNil))) mNil)) [14] (bdN 14) mTrue (mCall 2 g__law_draw [] (mCons (mVar 0) (mCons (mVar 3) mNil))))
abbrev RU : M DS D := (m1 (pu1 D.tupF) (mCons (mFz RC) mNil))
abbrev RA : SM DS := (sDrop (mSM 8 fApp (mCons (mIf (mB (m2 (pu2 D.eqD) (mVar 10) (mC (.int 0)))) (mC .non) (mIf (mB (m2 (pu2 D.eqD) (mVar 10) (mC (.int 1)))) (mTup mNil) (mVar 11))) mNil)))
abbrev IB : SM DS := (sSeq (sAsg (mCall 2 g__law_draw [] (mCons (mVar 0) (mCons (mC (.int 5)) mNil))) (bdN 10)) (sSeq (sAsg RU (bdN 11)) (sSeq RA sNext)))
abbrev OB : SM DS := (sSeq (sOwn 8 (mLs mNil)) (sSeq (sForM (m1 (fun ds => pu (D.rng1 ds)) (mCons (mVar 4) mNil)) (bdN 9) IB) (sSeq (sMov 6 8) sNext)))
abbrev FB : SM DS := (sSeq (sIf (mB (m2 (pu2 D.ninD) (mVar 7) (mVar 12))) (sSeq (sAsg (mCall 2 g__law_draw [] (mCons (mVar 0) (mCons (mVar 4) mNil))) (bdN 13)) (sSeq (sSt2 6 7 13 (mTup mNil)) sNext)) sNext) sNext)
def fO (rows : Rl) : O := match rows with
  | [] => .lst []
  | _ => .mat (rows.map fun l => l.map dR)
def GR (m : Nat) (r : Option (List Nat)) : Prop := ∀ c, r = some c → (∀ b ∈ c, b < m) ∧ c.length ≤ 3
section
variable (P L many k size : Nat)
abbrev eR (o6 o7 o8 o9 o10 o11 o12 o13 : Option O) : Ev := [some (.frz .wld), some (.frz (.int P)), some (.frz (.int L)), some (.frz (.int many)), some (.frz (.int k)), some (.frz (.int size)), o6, o7, o8, o9, o10, o11, o12, o13, none]
variable (hm : 0 < many ∧ many ≤ 12) (hk : 0 < k ∧ k ≤ 6) (hs : 0 < size ∧ size ≤ 4)
include hm hs
theorem RU_ok (o6 o7 o8 o9 o10 o11 o12 o13 : Option O) {n : Nat} {w : DS} (ok : DsOk (n + 5) w) : ∃ (c : List Nat) (w' : DS), RU (eR P L many k size o6 o7 o8 o9 o10 o11 o12 o13) w = some (.ok (.tup (dn c)) (eR P L many k size o6 o7 o8 o9 o10 o11 o12 o13) w') ∧ (∀ b ∈ c, b < many) ∧ c.length ≤ 3 ∧ DsOk n w' := by
  obtain ⟨v, w1, e1, v1, ok1⟩ := draw_nat (n := n + 4) ok hs.1 (by omega)
  have hsrc : (m1 (fun ds => pu (D.rng1 ds)) (mCons (mCall 2 g__law_draw [] (mCons (mVar 0) (mCons (mVar 5) mNil))) mNil)) (eR P L many k size o6 o7 o8 o9 o10 o11 o12 o13) w = some (.ok ((List.range v).map fun (i : Nat) => D.int i) (eR P L many k size o6 o7 o8 o9 o10 o11 o12 o13) w1) := src_rng (by simp [sSeq, sIf, sB, sNext, sAsg, sDrop, sRet, sOwn, sMov, sSt2, mSt, sParP, mB, mNot, mOr, mAnd, mOrV, mAndV, mIf, m1, m2, mCons, mNil, mConsD, mConsL, mNilP, setP, Pz.o, mC, mVar, rdV, mTup, mLs, mFz, mItems, mSM, lsOf, matOf, mCh, mCall, mCallN, mBor, mBorF, mBorN, fzE, pu, pu1, pu2, bnd, bdN, bdT, bdL, D.tr, D.isN, D.notN, outF, outN, O.toD, mStar, D.toI, mP, mNoP, mSlL, mSlT, e1]) (by omega)
  obtain ⟨c, w2, h1, h2, h3, h4⟩ := mLc_dr (vs := [14]) (bd := bdN 14) (e := mCall 2 g__law_draw [] (mCons (mVar 0) (mCons (mVar 3) mNil))) (fun (n : Nat) => D.int n) (fun a => a < many) 1 n hsrc (by rw [List.length_map, List.length_range]; omega) (okl ok1 (by rw [List.length_map, List.length_range]; omega)) fun d hd => by
    refine ⟨[some (.frz .wld), some (.frz (.int P)), some (.frz (.int L)), some (.frz (.int many)), some (.frz (.int k)), some (.frz (.int size)), hidO o6, hidO o7, hidO o8, hidO o9, hidO o10, hidO o11, hidO o12, hidO o13, some (.frz d)], rfl, fun n w ok => ?_⟩
    obtain ⟨v, w', e, v1, ok'⟩ := draw_nat ok hm.1 (by omega)
    exact ⟨v, [some (.frz .wld), some (.frz (.int P)), some (.frz (.int L)), some (.frz (.int many)), some (.frz (.int k)), some (.frz (.int size)), hidO o6, hidO o7, hidO o8, hidO o9, hidO o10, hidO o11, hidO o12, hidO o13, some (.frz d)], w', by simp [sSeq, sIf, sB, sNext, sAsg, sDrop, sRet, sOwn, sMov, sSt2, mSt, sParP, mB, mNot, mOr, mAnd, mOrV, mAndV, mIf, m1, m2, mCons, mNil, mConsD, mConsL, mNilP, setP, Pz.o, mC, mVar, rdV, mTup, mLs, mFz, mItems, mSM, lsOf, matOf, mCh, mCall, mCallN, mBor, mBorF, mBorN, fzE, pu, pu1, pu2, bnd, bdN, bdT, bdL, D.tr, D.isN, D.notN, outF, outN, O.toD, mStar, D.toI, mP, mNoP, mSlL, mSlT, e], v1, ok'⟩
  refine ⟨c, w2, ?_, h2, by rw [h1]; simp; omega, h4⟩
  have kt : D.tupF [.lst (c.map fun (n : Nat) => D.int n)] = some (.tup (dn c)) := rfl
  simp [sSeq, sIf, sB, sNext, sAsg, sDrop, sRet, sOwn, sMov, sSt2, mSt, sParP, mB, mNot, mOr, mAnd, mOrV, mAndV, mIf, m1, m2, mCons, mNil, mConsD, mConsL, mNilP, setP, Pz.o, mC, mVar, rdV, mTup, mLs, mFz, mItems, mSM, lsOf, matOf, mCh, mCall, mCallN, mBor, mBorF, mBorN, fzE, pu, pu1, pu2, bnd, bdN, bdT, bdL, D.tr, D.isN, D.notN, outF, outN, O.toD, mStar, D.toI, mP, mNoP, mSlL, mSlT, h3, kt]
theorem IB_ok (l : List (Option (List Nat))) (hl : l.length < 1000) (o6 o7 o9 o10 o11 o12 o13 : Option O) {n : Nat} {w : DS} (ok : DsOk (n + 6) w) : ∃ (r : Option (List Nat)) (p10 p11 : Option O) (w' : DS),
    IB (eR P L many k size o6 o7 (some (.lst (l.map dR))) o9 o10 o11 o12 o13) w = some (.nx (eR P L many k size o6 o7 (some (.lst ((l ++ [r]).map dR))) o9 p10 p11 o12 o13) w') ∧ GR many r ∧ DsOk n w' := by
  obtain ⟨v, w1, e1, v1, ok1⟩ := draw_nat (n := n + 5) ok (room := 5) (by decide) (by decide)
  have e1 : g__law_draw [D.wld, D.int 5] w = some (.ok (.int v) w1) := e1
  have a1 : sAsg (mCall 2 g__law_draw [] (mCons (mVar 0) (mCons (mC (.int 5)) mNil))) (bdN 10) (eR P L many k size o6 o7 (some (.lst (l.map dR))) o9 o10 o11 o12 o13) w = some (.nx (eR P L many k size o6 o7 (some (.lst (l.map dR))) o9 (some (.frz (.int v))) o11 o12 o13) w1) := by
    simp [sSeq, sIf, sB, sNext, sAsg, sDrop, sRet, sOwn, sMov, sSt2, mSt, sParP, mB, mNot, mOr, mAnd, mOrV, mAndV, mIf, m1, m2, mCons, mNil, mConsD, mConsL, mNilP, setP, Pz.o, mC, mVar, rdV, mTup, mLs, mFz, mItems, mSM, lsOf, matOf, mCh, mCall, mCallN, mBor, mBorF, mBorN, fzE, pu, pu1, pu2, bnd, bdN, bdT, bdL, D.tr, D.isN, D.notN, outF, outN, O.toD, mStar, D.toI, mP, mNoP, mSlL, mSlT, e1]
  obtain ⟨c, w2, e2, c1, c2, ok2⟩ := RU_ok P L many k size hm hs o6 o7 (some (.lst (l.map dR))) o9 (some (.frz (.int v))) o11 o12 o13 ok1
  have a2 : sAsg RU (bdN 11) (eR P L many k size o6 o7 (some (.lst (l.map dR))) o9 (some (.frz (.int v))) o11 o12 o13) w1 = some (.nx (eR P L many k size o6 o7 (some (.lst (l.map dR))) o9 (some (.frz (.int v))) (some (.frz (.tup (dn c)))) o12 o13) w2) := by
    unfold sAsg sB
    rw [e2]
    rfl
  have kd : ∀ j : Nat, D.eqD (.int v) (.int j) = some (.bl (decide (v = j))) := fun j => by
    show some (D.bl ((v : Int) == (j : Int))) = _
    congr 2
    rw [Bool.eq_iff_iff, beq_iff_eq, decide_eq_true_iff]
    omega
  have k0 : D.eqD (.int v) (.int 0) = some (.bl (decide (v = 0))) := kd 0
  have k1 : D.eqD (.int v) (.int 1) = some (.bl (decide (v = 1))) := kd 1
  have app : ∀ d, fApp (l.map dR) [d] = some (.non, l.map dR ++ [d]) := fun d => by
    unfold fApp
    simp only
    rw [if_pos (by rw [List.length_map]; omega)]
  refine ⟨if v = 0 then none else if v = 1 then some [] else some c, some (.frz (.int v)), some (.frz (.tup (dn c))), w2, ?_, ?_, ok2⟩
  rotate_left
  · intro c' hc
    by_cases h0 : v = 0
    · rw [if_pos h0] at hc
      cases hc
    · rw [if_neg h0] at hc
      by_cases h1 : v = 1
      · rw [if_pos h1] at hc
        cases hc
        exact ⟨(fun b hb => by cases hb), by simp⟩
      · rw [if_neg h1] at hc
        cases hc
        exact ⟨c1, c2⟩
  · unfold IB
    rw [sSeq_nx a1, sSeq_nx a2]
    by_cases h0 : v = 0
    · rw [decide_eq_true h0] at k0
      rw [if_pos h0]
      simp [sSeq, sIf, sB, sNext, sAsg, sDrop, sRet, sOwn, sMov, sSt2, mSt, sParP, mB, mNot, mOr, mAnd, mOrV, mAndV, mIf, m1, m2, mCons, mNil, mConsD, mConsL, mNilP, setP, Pz.o, mC, mVar, rdV, mTup, mLs, mFz, mItems, mSM, lsOf, matOf, mCh, mCall, mCallN, mBor, mBorF, mBorN, fzE, pu, pu1, pu2, bnd, bdN, bdT, bdL, D.tr, D.isN, D.notN, outF, outN, O.toD, mStar, D.toI, mP, mNoP, mSlL, mSlT, k0, app, dR]
    · rw [decide_eq_false h0] at k0
      rw [if_neg h0]
      by_cases h1 : v = 1
      · rw [decide_eq_true h1] at k1
        rw [if_pos h1]
        simp [sSeq, sIf, sB, sNext, sAsg, sDrop, sRet, sOwn, sMov, sSt2, mSt, sParP, mB, mNot, mOr, mAnd, mOrV, mAndV, mIf, m1, m2, mCons, mNil, mConsD, mConsL, mNilP, setP, Pz.o, mC, mVar, rdV, mTup, mLs, mFz, mItems, mSM, lsOf, matOf, mCh, mCall, mCallN, mBor, mBorF, mBorN, fzE, pu, pu1, pu2, bnd, bdN, bdT, bdL, D.tr, D.isN, D.notN, outF, outN, O.toD, mStar, D.toI, mP, mNoP, mSlL, mSlT, k0, k1, app, dR, dn]
      · rw [decide_eq_false h1] at k1
        rw [if_neg h1]
        simp [sSeq, sIf, sB, sNext, sAsg, sDrop, sRet, sOwn, sMov, sSt2, mSt, sParP, mB, mNot, mOr, mAnd, mOrV, mAndV, mIf, m1, m2, mCons, mNil, mConsD, mConsL, mNilP, setP, Pz.o, mC, mVar, rdV, mTup, mLs, mFz, mItems, mSM, lsOf, matOf, mCh, mCall, mCallN, mBor, mBorF, mBorN, fzE, pu, pu1, pu2, bnd, bdN, bdT, bdL, D.tr, D.isN, D.notN, outF, outN, O.toD, mStar, D.toI, mP, mNoP, mSlL, mSlT, k0, k1, app, dR]
include hk
theorem OB_ok (rows : Rl) (hr : rows.length < 1000) (o7 o8 o9 o10 o11 o12 o13 : Option O) {n : Nat} {w : DS} (ok : DsOk (n + 6 * k) w) : ∃ (line : List (Option (List Nat))) (p9 p10 p11 : Option O) (w' : DS),
    OB (eR P L many k size (some (fO rows)) o7 o8 o9 o10 o11 o12 o13) w = some (.nx (eR P L many k size (some (fO (rows ++ [line]))) o7 none p9 p10 p11 o12 o13) w') ∧ line.length = k ∧ (∀ r ∈ line, GR many r) ∧ DsOk n w' := by
  have a1 : sOwn 8 (mLs mNil) (eR P L many k size (some (fO rows)) o7 o8 o9 o10 o11 o12 o13) w = some (.nx (eR P L many k size (some (fO rows)) o7 (some (.lst [])) o9 o10 o11 o12 o13) w) := rfl
  obtain ⟨ρ', w', h1, l, p9, p10, p11, rfl, h3, h4, h5⟩ := sFor_rng (bd := bdN 9) (body := IB) (fun i ρ w => ∃ (l : List (Option (List Nat))) (p9 p10 p11 : Option O), ρ = eR P L many k size (some (fO rows)) o7 (some (.lst (l.map dR))) p9 p10 p11 o12 o13 ∧ l.length = i ∧ (∀ r ∈ l, GR many r) ∧ DsOk (n + 6 * (k - i)) w) k
    (fun i ρ w hi ⟨l, p9, p10, p11, hρ, hl, hg, hok⟩ => by
      subst hρ
      obtain ⟨r, q10, q11, w', e, g, ok'⟩ := IB_ok P L many k size hm hs l (by omega) (some (fO rows)) o7 (some (.frz (.int i))) p10 p11 o12 o13 (n := n + 6 * (k - (i + 1))) (w := w) (okl hok (by omega))
      refine ⟨_, rfl, _, w', e, l ++ [r], _, q10, q11, rfl, by rw [List.length_append, hl]; rfl, fun x hx => ?_, ok'⟩
      rcases List.mem_append.mp hx with hx | hx
      · exact hg x hx
      · rw [List.mem_singleton.mp hx]
        exact g) (ρ := eR P L many k size (some (fO rows)) o7 (some (.lst [])) o9 o10 o11 o12 o13) (w := w) ⟨[], o9, o10, o11, rfl, rfl, (fun r hr => by cases hr), ok⟩
  have a2 : sForM (m1 (fun ds => pu (D.rng1 ds)) (mCons (mVar 4) mNil)) (bdN 9) IB (eR P L many k size (some (fO rows)) o7 (some (.lst [])) o9 o10 o11 o12 o13) w = some (.nx (eR P L many k size (some (fO rows)) o7 (some (.lst (l.map dR))) p9 p10 p11 o12 o13) w') := by
    rw [sForM_ok (src_rng (v := k) rfl (by omega))]
    exact h1
  have a3 : sMov 6 8 (eR P L many k size (some (fO rows)) o7 (some (.lst (l.map dR))) p9 p10 p11 o12 o13) w' = some (.nx (eR P L many k size (some (fO (rows ++ [l]))) o7 none p9 p10 p11 o12 o13) w') := by
    have m1 : matOf (some (some (fO rows))) = some (rows.map fun l => l.map dR) := by
      unfold fO
      cases rows with
      | nil => rfl
      | cons a b => rfl
    have m2 : fO (rows ++ [l]) = .mat (rows.map (fun l => l.map dR) ++ [l.map dR]) := by
      unfold fO
      cases rows with
      | nil => rfl
      | cons a b => simp
    unfold sMov
    have e6 : (eR P L many k size (some (fO rows)) o7 (some (.lst (l.map dR))) p9 p10 p11 o12 o13)[6]? = some (some (fO rows)) := rfl
    have e8 : (eR P L many k size (some (fO rows)) o7 (some (.lst (l.map dR))) p9 p10 p11 o12 o13)[8]? = some (some (.lst (l.map dR))) := rfl
    rw [e6, e8, m1, m2]
    simp only [lsOf]
    rw [if_pos ⟨by decide, by rw [List.length_map]; omega⟩]
    rfl
  refine ⟨l, p9, p10, p11, w', ?_, h3, h4, okl h5 (by omega)⟩
  unfold OB
  rw [sSeq_nx a1, sSeq_nx a2, sSeq_nx a3]
  rfl
end
theorem ixN_nat {n a : Nat} (h : a < n) : ixN n (a : Int) = some a := by
  unfold ixN
  rw [if_pos (by omega), if_pos (by omega)]
  simp
/-- the rows mended up to i: those that are not in lv got an empty rule -/
structure Fx (R : Rl) (lv : List Nat) (many k i : Nat) (R' : Rl) : Prop where
  len : R'.length = R.length
  old : ∀ a, (i ≤ a ∨ a ∈ lv) → R'[a]? = R[a]?
  row : ∀ (a : Nat) l, R'[a]? = some l → l.length = k ∧ ∀ r ∈ l, GR many r
  new : ∀ (a : Nat) l, a < i → a ∉ lv → R'[a]? = some l → some [] ∈ l
section
variable (P L many k size : Nat) (hm : 0 < many ∧ many ≤ 12) (hk : 0 < k ∧ k ≤ 6)
include hm hk
theorem FB_ok {R R' : Rl} {lv : List Nat} {a : Nat} (F : Fx R lv many k a R') (ha : a < R.length) (hl : R.length ≤ 100) (o8 o9 o10 o11 o13 : Option O) {n : Nat} {w : DS} (ok : DsOk (n + 1) w) : ∃ (R2 : Rl) (p13 : Option O) (w' : DS),
    FB (eR P L many k size (some (.mat (R'.map fun l => l.map dR))) (some (.frz (.int a))) o8 o9 o10 o11 (some (.frz (.lst (dn lv)))) o13) w = some (.nx (eR P L many k size (some (.mat (R2.map fun l => l.map dR))) (some (.frz (.int a))) o8 o9 o10 o11 (some (.frz (.lst (dn lv)))) p13) w') ∧ Fx R lv many k (a + 1) R2 ∧ DsOk n w' := by
  have kn := nin_dn a lv
  by_cases hv : a ∈ lv
  · refine ⟨R', o13, w, ?_, ⟨F.len, fun b hb => F.old b (hb.imp (fun z => by omega) id), F.row, fun b l hb hn e => F.new b l (by
      have : b ≠ a := fun z => hn (z ▸ hv)
      omega) hn e⟩, okl ok (by omega)⟩
    rw [decide_eq_true hv] at kn
    simp [sSeq, sIf, sB, sNext, sAsg, sDrop, sRet, sOwn, sMov, sSt2, mSt, sParP, mB, mNot, mOr, mAnd, mOrV, mAndV, mIf, m1, m2, mCons, mNil, mConsD, mConsL, mNilP, setP, Pz.o, mC, mVar, rdV, mTup, mLs, mFz, mItems, mSM, lsOf, matOf, mCh, mCall, mCallN, mBor, mBorF, mBorN, fzE, pu, pu1, pu2, bnd, bdN, bdT, bdL, D.tr, D.isN, D.notN, outF, outN, O.toD, mStar, D.toI, mP, mNoP, mSlL, mSlT, kn]
  · obtain ⟨v, w', e1, v1, ok'⟩ := draw_nat ok hk.1 (by omega)
    have hlt : a < R'.length := by rw [F.len]; exact ha
    have row := F.row a R'[a] (List.getElem?_eq_getElem hlt)
    rw [decide_eq_false hv] at kn
    refine ⟨R'.set a (R'[a].set v (some [])), some (.frz (.int v)), w', ?_, ⟨by rw [List.length_set, F.len], fun b hb => ?_, fun b l hb => ?_, fun b l hb hn e => ?_⟩, ok'⟩
    · have st : sSt2 6 7 13 (mTup mNil) (eR P L many k size (some (.mat (R'.map fun l => l.map dR))) (some (.frz (.int a))) o8 o9 o10 o11 (some (.frz (.lst (dn lv)))) (some (.frz (.int v)))) w' =
          some (.nx (eR P L many k size (some (.mat ((R'.set a (R'[a].set v (some []))).map fun l => l.map dR))) (some (.frz (.int a))) o8 o9 o10 o11 (some (.frz (.lst (dn lv)))) (some (.frz (.int v)))) w') := by
        have x1 : ixN (R'.map fun l => l.map dR).length (a : Int) = some a := ixN_nat (by rw [List.length_map]; exact hlt)
        have x2 : (R'.map fun l => l.map dR)[a]? = some (R'[a].map dR) := by rw [List.getElem?_map, List.getElem?_eq_getElem hlt]; rfl
        have x3 : ixN (R'[a].map dR).length (v : Int) = some v := ixN_nat (by rw [List.length_map, row.1]; exact v1)
        have x4 : (R'.set a (R'[a].set v (some []))).map (fun l => l.map dR) = (R'.map fun l => l.map dR).set a ((R'[a].map dR).set v (.tup [])) := by
          rw [List.map_set, List.map_set]
          rfl
        rw [x4]
        unfold sSt2
        show sB ((mTup mNil) (eR P L many k size (some (.mat (R'.map fun l => l.map dR))) (some (.frz (.int a))) o8 o9 o10 o11 (some (.frz (.lst (dn lv)))) (some (.frz (.int v)))) w') _ = _
        have e0 : (mTup mNil : M DS D) (eR P L many k size (some (.mat (R'.map fun l => l.map dR))) (some (.frz (.int a))) o8 o9 o10 o11 (some (.frz (.lst (dn lv)))) (some (.frz (.int v)))) w' = some (.ok (.tup []) (eR P L many k size (some (.mat (R'.map fun l => l.map dR))) (some (.frz (.int a))) o8 o9 o10 o11 (some (.frz (.lst (dn lv)))) (some (.frz (.int v)))) w') := rfl
        rw [e0]
        simp only [sB, List.getElem?_cons_succ, List.getElem?_cons_zero, matOf, x1, x2, x3]
        rfl
      unfold FB
      have t : mB (m2 (pu2 D.ninD) (mVar 7) (mVar 12)) (eR P L many k size (some (.mat (R'.map fun l => l.map dR))) (some (.frz (.int a))) o8 o9 o10 o11 (some (.frz (.lst (dn lv)))) o13) w = some (.ok true (eR P L many k size (some (.mat (R'.map fun l => l.map dR))) (some (.frz (.int a))) o8 o9 o10 o11 (some (.frz (.lst (dn lv)))) o13) w) := by
        simp [sSeq, sIf, sB, sNext, sAsg, sDrop, sRet, sOwn, sMov, sSt2, mSt, sParP, mB, mNot, mOr, mAnd, mOrV, mAndV, mIf, m1, m2, mCons, mNil, mConsD, mConsL, mNilP, setP, Pz.o, mC, mVar, rdV, mTup, mLs, mFz, mItems, mSM, lsOf, matOf, mCh, mCall, mCallN, mBor, mBorF, mBorN, fzE, pu, pu1, pu2, bnd, bdN, bdT, bdL, D.tr, D.isN, D.notN, outF, outN, O.toD, mStar, D.toI, mP, mNoP, mSlL, mSlT, kn]
      have d : sAsg (mCall 2 g__law_draw [] (mCons (mVar 0) (mCons (mVar 4) mNil))) (bdN 13) (eR P L many k size (some (.mat (R'.map fun l => l.map dR))) (some (.frz (.int a))) o8 o9 o10 o11 (some (.frz (.lst (dn lv)))) o13) w = some (.nx (eR P L many k size (some (.mat (R'.map fun l => l.map dR))) (some (.frz (.int a))) o8 o9 o10 o11 (some (.frz (.lst (dn lv)))) (some (.frz (.int v)))) w') := by
        simp [sSeq, sIf, sB, sNext, sAsg, sDrop, sRet, sOwn, sMov, sSt2, mSt, sParP, mB, mNot, mOr, mAnd, mOrV, mAndV, mIf, m1, m2, mCons, mNil, mConsD, mConsL, mNilP, setP, Pz.o, mC, mVar, rdV, mTup, mLs, mFz, mItems, mSM, lsOf, matOf, mCh, mCall, mCallN, mBor, mBorF, mBorN, fzE, pu, pu1, pu2, bnd, bdN, bdT, bdL, D.tr, D.isN, D.notN, outF, outN, O.toD, mStar, D.toI, mP, mNoP, mSlL, mSlT, e1]
      have i1 : sIf (mB (m2 (pu2 D.ninD) (mVar 7) (mVar 12))) (sSeq (sAsg (mCall 2 g__law_draw [] (mCons (mVar 0) (mCons (mVar 4) mNil))) (bdN 13)) (sSeq (sSt2 6 7 13 (mTup mNil)) sNext)) sNext (eR P L many k size (some (.mat (R'.map fun l => l.map dR))) (some (.frz (.int a))) o8 o9 o10 o11 (some (.frz (.lst (dn lv)))) o13) w = some (.nx (eR P L many k size (some (.mat ((R'.set a (R'[a].set v (some []))).map fun l => l.map dR))) (some (.frz (.int a))) o8 o9 o10 o11 (some (.frz (.lst (dn lv)))) (some (.frz (.int v)))) w') := by
        unfold sIf
        rw [t]
        show sSeq _ _ _ _ = _
        rw [sSeq_nx d, sSeq_nx st]
        rfl
      rw [sSeq_nx i1]
      rfl
    · have : b ≠ a := fun z => by
        rcases hb with hb | hb
        · omega
        · exact hv (z ▸ hb)
      rw [List.getElem?_set_ne (Ne.symm this)]
      exact F.old b (hb.imp (fun z => by omega) id)
    · by_cases hba : b = a
      · subst hba
        rw [List.getElem?_set_self hlt] at hb
        cases hb
        refine ⟨by rw [List.length_set]; exact row.1, fun r hr => ?_⟩
        rcases List.mem_or_eq_of_mem_set hr with hr | rfl
        · exact row.2 r hr
        · intro c hc
          cases hc
          exact ⟨(fun x hx => by cases hx), by simp⟩
      · rw [List.getElem?_set_ne (Ne.symm hba)] at hb
        exact F.row b l hb
    · by_cases hba : b = a
      · subst hba
        rw [List.getElem?_set_self hlt] at e
        cases e
        exact List.mem_iff_getElem?.mpr ⟨v, List.getElem?_set_self (by rw [row.1]; exact v1)⟩
      · rw [List.getElem?_set_ne (Ne.symm hba)] at e
        exact F.new b l (by omega) hn e
end
/-- a program that was drawn: k letters, m procedures at most, short rules, all live -/
structure Prog (R : Rl) (m k : Nat) : Prop where
  len : 0 < R.length ∧ R.length ≤ m
  kk : 0 < k ∧ k ≤ 6
  row : ∀ l ∈ R, l.length = k ∧ ∀ r ∈ l, GR R.length r
  live : Live R
theorem fx_live {R R' : Rl} {many k : Nat} (hn : R.length = many) (hc : Calls R R.length) (F : Fx R (lvs R R.length) many k many R') : Live R' := by
  have up : ∀ n, n ≤ R.length → ∀ a, a < R.length → lvN R n a = true → lvN R' n a = true := by
    intro n
    induction n with
    | zero => intro _ a _ h; cases h
    | succ n ih =>
      intro hle a ha h
      have hv : a ∈ lvs R R.length := mem_lvs.mpr ⟨ha, lvN_le hle h⟩
      unfold lvN at h ⊢
      rw [F.old a (.inr hv)]
      rw [List.any_eq_true] at h ⊢
      obtain ⟨r, h1, h2⟩ := h
      refine ⟨r, h1, ?_⟩
      cases r with
      | none => cases h2
      | some c =>
        simp only at h2 ⊢
        rw [List.all_eq_true] at h2 ⊢
        have hrow : R[a]? = some R[a] := List.getElem?_eq_getElem ha
        rw [hrow] at h1
        exact fun b hb => ih (by omega) b (hc _ (List.getElem_mem ha) _ h1 c rfl b hb) (h2 b hb)
  intro a ha
  rw [F.len] at ha
  by_cases hv : a ∈ lvs R R.length
  · exact ⟨_, up _ (Nat.le_refl _) a ha (mem_lvs.mp hv).2⟩
  · have hlt : a < R'.length := by rw [F.len]; exact ha
    have hn' := F.new a R'[a] (by omega) hv (List.getElem?_eq_getElem hlt)
    refine ⟨1, ?_⟩
    unfold lvN
    rw [List.getElem?_eq_getElem hlt, List.any_eq_true]
    exact ⟨some [], hn', rfl⟩
def cost (P L : Nat) : Nat := 10 + 6 * (L * P) + P
def RT : M DS (List D) := (mLc (mIts (mVar 6)) [8] (bdN 8) mTrue (m1 (pu1 D.tupF) (mCons (mVar 8) mNil)))
theorem sk_rules_ok {P L : Nat} (hP : 0 < P ∧ P ≤ 12) (hL : 0 < L ∧ L ≤ 6) {n : Nat} {w : DS} (ok : DsOk (n + 1000) w) : ∃ (R : Rl) (k : Nat) (w' : DS), g__law_sk_rules [.wld, .int P, .int L] w = some (.ok (dRules R) w') ∧ Prog R P k ∧ k ≤ L ∧ DsOk n w' := by
  obtain ⟨v1, w1, e1, b1, ok1⟩ := draw_nat (n := n + 999) ok hP.1 (by omega)
  obtain ⟨v2, w2, e2, b2, ok2⟩ := draw_nat (n := n + 998) ok1 hL.1 (by omega)
  obtain ⟨d, w3, e3, b3, ok3⟩ := pick_ok (n := n + 997) ok2 (xs := [.int 2, .int 3, .int 3, .int 4]) (by simp) (by simp)
  obtain ⟨size, hsz, rfl⟩ : ∃ s : Nat, (0 < s ∧ s ≤ 4) ∧ d = .int s := by
    simp only [List.mem_cons, List.not_mem_nil, or_false] at b3
    rcases b3 with rfl | rfl | rfl | rfl
    · exact ⟨2, by decide, rfl⟩
    · exact ⟨3, by decide, rfl⟩
    · exact ⟨3, by decide, rfl⟩
    · exact ⟨4, by decide, rfl⟩
  have hm : 0 < v1 + 1 ∧ v1 + 1 ≤ 12 := by omega
  have hk : 0 < v2 + 1 ∧ v2 + 1 ≤ 6 := by omega
  have s1 : ∀ v : Nat, D.add (.int 1) (.int v) = some (.int ((v + 1 : Nat) : Int)) := fun v => by
    show some (D.int (1 + (v : Int))) = _
    congr 2
    omega
  have hm0 : m__law_sk_rules = (sSeq (sAsg (mTup (mCons (m2 (pu2 D.add) (mC (.int 1)) (mCall 2 g__law_draw [] (mCons (mVar 0) (mCons (mVar 1) mNil)))) (mCons (m2 (pu2 D.add) (mC (.int 1)) (mCall 2 g__law_draw [] (mCons (mVar 0) (mCons (mVar 2) mNil)))) (mCons (mCall 2 g__law_pick [] (mCons (mVar 0) (mCons (mFz (mLs (mCons (mC (.int 2)) (mCons (mC (.int 3)) (mCons (mC (.int 3)) (mCons (mC (.int 4)) mNil)))))) mNil))) mNil)))) (bdT [(bdN 3), (bdN 4), (bdN 5)])) (sSeq (sOwn 6 (mLs mNil)) (sSeq (sForM (m1 (fun ds => pu (D.rng1 ds)) (mCons (mVar 3) mNil)) (bdN 7) OB) (sSeq (sAsg (mFz (mBorN (mCallN 1 gn__law_sk_live [] (mCons (mVar 6) mNil)))) (bdN 12)) (sSeq (sForM (m1 (fun ds => pu (D.rng1 ds)) (mCons (mVar 3) mNil)) (bdN 7) FB) (sSeq (sRet (m1 (pu1 D.tupF) (mCons (mFz RT) mNil))) sNext)))))) := rfl
  have hs0 : startE 15 [.wld, .int P, .int L] = [some (.frz .wld), some (.frz (.int P)), some (.frz (.int L)), none, none, none, none, none, none, none, none, none, none, none, none] := rfl
  have a1 : sAsg (mTup (mCons (m2 (pu2 D.add) (mC (.int 1)) (mCall 2 g__law_draw [] (mCons (mVar 0) (mCons (mVar 1) mNil)))) (mCons (m2 (pu2 D.add) (mC (.int 1)) (mCall 2 g__law_draw [] (mCons (mVar 0) (mCons (mVar 2) mNil)))) (mCons (mCall 2 g__law_pick [] (mCons (mVar 0) (mCons (mFz (mLs (mCons (mC (.int 2)) (mCons (mC (.int 3)) (mCons (mC (.int 3)) (mCons (mC (.int 4)) mNil)))))) mNil))) mNil)))) (bdT [(bdN 3), (bdN 4), (bdN 5)]) [some (.frz .wld), some (.frz (.int P)), some (.frz (.int L)), none, none, none, none, none, none, none, none, none, none, none, none] w =
      some (.nx (eR P L (v1 + 1) (v2 + 1) size none none none none none none none none) w3) := by
    have t1 := s1 v1
    have t2 := s1 v2
    generalize hx : ((v1 + 1 : Nat) : Int) = x at t1 ⊢
    generalize hy : ((v2 + 1 : Nat) : Int) = y at t2 ⊢
    simp [sSeq, sIf, sB, sNext, sAsg, sDrop, sRet, sOwn, sMov, sSt2, mSt, sParP, mB, mNot, mOr, mAnd, mOrV, mAndV, mIf, m1, m2, mCons, mNil, mConsD, mConsL, mNilP, setP, Pz.o, mC, mVar, rdV, mTup, mLs, mFz, mItems, mSM, lsOf, matOf, mCh, mCall, mCallN, mBor, mBorF, mBorN, fzE, pu, pu1, pu2, bnd, bdN, bdT, bdL, D.tr, D.isN, D.notN, outF, outN, O.toD, mStar, D.toI, mP, mNoP, mSlL, mSlT, e1, e2, e3, t1, t2]
    omega
  have a2 : sOwn 6 (mLs mNil) (eR P L (v1 + 1) (v2 + 1) size none none none none none none none none) w3 = some (.nx (eR P L (v1 + 1) (v2 + 1) size (some (fO [])) none none none none none none none) w3) := rfl
  obtain ⟨ρ', w4, f1, R, p7, p8, p9, p10, p11, rfl, f2, f3, ok4⟩ := sFor_rng (bd := bdN 7) (body := OB) (fun i ρ w => ∃ (rows : Rl) (p7 p8 p9 p10 p11 : Option O), ρ = eR P L (v1 + 1) (v2 + 1) size (some (fO rows)) p7 p8 p9 p10 p11 none none ∧ rows.length = i ∧ (∀ l ∈ rows, l.length = v2 + 1 ∧ ∀ r ∈ l, GR (v1 + 1) r) ∧ DsOk (n + 500 + 36 * (12 - i)) w) (v1 + 1)
    (fun i ρ w hi ⟨rows, p7, p8, p9, p10, p11, hρ, hl, hg, hok⟩ => by
      subst hρ
      obtain ⟨line, q9, q10, q11, w', e, g1, g2, ok'⟩ := OB_ok P L (v1 + 1) (v2 + 1) size hm hk hsz rows (by omega) (some (.frz (.int i))) p8 p9 p10 p11 none none (n := n + 500 + 36 * (12 - (i + 1))) (w := w) (okl hok (by omega))
      refine ⟨_, rfl, _, w', e, rows ++ [line], _, _, q9, q10, q11, rfl, by rw [List.length_append, hl]; rfl, fun x hx => ?_, ok'⟩
      rcases List.mem_append.mp hx with hx | hx
      · exact hg x hx
      · rw [List.mem_singleton.mp hx]
        exact ⟨g1, g2⟩) (ρ := eR P L (v1 + 1) (v2 + 1) size (some (fO [])) none none none none none none none) (w := w3) ⟨[], none, none, none, none, none, rfl, rfl, (fun l h => by cases h), okl ok3 (by omega)⟩
  have a3 : sForM (m1 (fun ds => pu (D.rng1 ds)) (mCons (mVar 3) mNil)) (bdN 7) OB (eR P L (v1 + 1) (v2 + 1) size (some (fO [])) none none none none none none none) w3 = some (.nx (eR P L (v1 + 1) (v2 + 1) size (some (fO R)) p7 p8 p9 p10 p11 none none) w4) := by
    rw [sForM_ok (src_rng (v := v1 + 1) rfl (by omega))]
    exact f1
  have hne : R ≠ [] := by
    intro z
    rw [z] at f2
    cases f2
  have fR : fO R = .mat (R.map fun l => l.map dR) := by
    cases R with
    | nil => exact absurd rfl hne
    | cons a b => rfl
  have hcalls : Calls R R.length := fun l hl r hr c hc b hb => by
    rw [f2]
    exact ((f3 l hl).2 r hr c hc).1 b hb
  have hSz : Sz R := ⟨by omega, fun l hl => ⟨by rw [(f3 l hl).1]; omega, fun r hr c hc => Nat.le_trans ((f3 l hl).2 r hr c hc).2 (by omega)⟩⟩
  have a4 : sAsg (mFz (mBorN (mCallN 1 gn__law_sk_live [] (mCons (mVar 6) mNil)))) (bdN 12) (eR P L (v1 + 1) (v2 + 1) size (some (fO R)) p7 p8 p9 p10 p11 none none) w4 = some (.nx (eR P L (v1 + 1) (v2 + 1) size (some (.mat (R.map fun l => l.map dR))) p7 p8 p9 p10 p11 (some (.frz (.lst (dn (lvs R R.length))))) none) w4) := by
    have k := sk_live_ok hSz hcalls w4
    have kf := flat_dn (lvs R R.length)
    have kx : (O.mat (R.map fun l => l.map dR)).toD = XL R := by
      show D.lst ((R.map fun l => l.map dR).map D.lst) = _
      rw [List.map_map]
      rfl
    rw [fR]
    have c1 : (mCallN 1 gn__law_sk_live [] (mCons (mVar 6) mNil)) (fzE (eR P L (v1 + 1) (v2 + 1) size (some (.mat (R.map fun l => l.map dR))) p7 p8 p9 p10 p11 none none)) w4 = some (.ok (dn (lvs R R.length)) (fzE (eR P L (v1 + 1) (v2 + 1) size (some (.mat (R.map fun l => l.map dR))) p7 p8 p9 p10 p11 none none)) w4) := by
      have g6 : (fzE (eR P L (v1 + 1) (v2 + 1) size (some (.mat (R.map fun l => l.map dR))) p7 p8 p9 p10 p11 none none))[6]? = some (some (.frz (O.mat (R.map fun l => l.map dR)).toD)) := rfl
      generalize fzE (eR P L (v1 + 1) (v2 + 1) size (some (.mat (R.map fun l => l.map dR))) p7 p8 p9 p10 p11 none none) = ρf at g6 ⊢
      rw [kx] at g6
      simp [mCallN, m1, mCons, m2, mVar, rdV, g6, bnd, mNil, pu, k]
    have c2 : mBorN (mCallN 1 gn__law_sk_live [] (mCons (mVar 6) mNil)) (eR P L (v1 + 1) (v2 + 1) size (some (.mat (R.map fun l => l.map dR))) p7 p8 p9 p10 p11 none none) w4 = some (.ok (dn (lvs R R.length)) (eR P L (v1 + 1) (v2 + 1) size (some (.mat (R.map fun l => l.map dR))) p7 p8 p9 p10 p11 none none) w4) := by
      unfold mBorN
      rw [c1]
      simp only
      rw [if_pos kf]
    unfold sAsg mFz m1 sB
    rw [c2]
    rfl
  obtain ⟨ρ2, w5, h1, R', q7, q13, rfl, F, ok5⟩ := sFor_rng (bd := bdN 7) (body := FB) (fun i ρ w => ∃ (R' : Rl) (q7 q13 : Option O), ρ = eR P L (v1 + 1) (v2 + 1) size (some (.mat (R'.map fun l => l.map dR))) q7 p8 p9 p10 p11 (some (.frz (.lst (dn (lvs R R.length))))) q13 ∧ Fx R (lvs R R.length) (v1 + 1) (v2 + 1) i R' ∧ DsOk (n + (12 - i)) w) (v1 + 1)
    (fun i ρ w hi ⟨R', q7, q13, hρ, F, hok⟩ => by
      subst hρ
      obtain ⟨R2, p13, w', e, F2, ok'⟩ := FB_ok P L (v1 + 1) (v2 + 1) size hm hk F (by omega) hSz.1 p8 p9 p10 p11 q13 (n := n + (12 - (i + 1))) (w := w) (okl hok (by omega))
      exact ⟨_, rfl, _, w', e, R2, _, p13, rfl, F2, ok'⟩) (ρ := eR P L (v1 + 1) (v2 + 1) size (some (.mat (R.map fun l => l.map dR))) p7 p8 p9 p10 p11 (some (.frz (.lst (dn (lvs R R.length))))) none) (w := w4)
      ⟨R, p7, none, rfl, ⟨rfl, fun _ _ => rfl, fun a l h => f3 l (List.mem_of_getElem? h), fun a l h => by omega⟩, okl ok4 (by omega)⟩
  have a5 : sForM (m1 (fun ds => pu (D.rng1 ds)) (mCons (mVar 3) mNil)) (bdN 7) FB (eR P L (v1 + 1) (v2 + 1) size (some (.mat (R.map fun l => l.map dR))) p7 p8 p9 p10 p11 (some (.frz (.lst (dn (lvs R R.length))))) none) w4 = some (.nx (eR P L (v1 + 1) (v2 + 1) size (some (.mat (R'.map fun l => l.map dR))) q7 p8 p9 p10 p11 (some (.frz (.lst (dn (lvs R R.length))))) q13) w5) := by
    rw [sForM_ok (src_rng (v := v1 + 1) rfl (by omega))]
    exact h1
  have a6 : RT (eR P L (v1 + 1) (v2 + 1) size (some (.mat (R'.map fun l => l.map dR))) q7 p8 p9 p10 p11 (some (.frz (.lst (dn (lvs R R.length))))) q13) w5 =
      some (.ok (R'.map fun l => .tup (l.map dR)) (eR P L (v1 + 1) (v2 + 1) size (some (.frz (XL R'))) q7 p8 p9 p10 p11 (some (.frz (.lst (dn (lvs R R.length))))) q13) w5) := by
    refine mLc_all R' (fun l => D.lst (l.map dR)) (fun l => .tup (l.map dR)) ?_ (by rw [F.len]; omega) fun l hl => ?_
    · have kx : (O.mat (R'.map fun l => l.map dR)).toD = XL R' := by
        show D.lst ((R'.map fun l => l.map dR).map D.lst) = _
        rw [List.map_map]
        rfl
      have ki : (XL R').its = some (R'.map fun l => D.lst (l.map dR)) := rfl
      have g6 : (eR P L (v1 + 1) (v2 + 1) size (some (.mat (R'.map fun l => l.map dR))) q7 p8 p9 p10 p11 (some (.frz (.lst (dn (lvs R R.length))))) q13)[6]? = some (some (.mat (R'.map fun l => l.map dR))) := rfl
      unfold mIts m1 mVar
      rw [g6]
      unfold rdV
      simp only
      rw [kx, bnd_ok]
      unfold pu
      rw [ki]
      rfl
    · exact ⟨_, rfl, _, rfl⟩
  refine ⟨R', v2 + 1, w5, ?_, ⟨by rw [F.len, f2]; omega, hk, fun l hl => ?_, fx_live f2 hcalls F⟩, by omega, okl ok5 (by omega)⟩
  · unfold g__law_sk_rules
    rw [hm0, hs0, sSeq_nx a1, sSeq_nx a2, sSeq_nx a3, sSeq_nx a4, sSeq_nx a5]
    have kt : D.tupF [.lst (R'.map fun l => .tup (l.map dR))] = some (dRules R') := rfl
    simp [sSeq, sIf, sB, sNext, sAsg, sDrop, sRet, sOwn, sMov, sSt2, mSt, sParP, mB, mNot, mOr, mAnd, mOrV, mAndV, mIf, m1, m2, mCons, mNil, mConsD, mConsL, mNilP, setP, Pz.o, mC, mVar, rdV, mTup, mLs, mFz, mItems, mSM, lsOf, matOf, mCh, mCall, mCallN, mBor, mBorF, mBorN, fzE, pu, pu1, pu2, bnd, bdN, bdT, bdL, D.tr, D.isN, D.notN, outF, outN, O.toD, mStar, D.toI, mP, mNoP, mSlL, mSlT, a6, kt]
  · obtain ⟨a, ha⟩ := List.mem_iff_getElem?.mp hl
    have := F.row a l ha
    rw [F.len, f2]
    exact this
end K03
set_option maxRecDepth 100000
set_option maxHeartbeats 4000000
namespace K03
open PySem PySem.Spec PyProof.Rows L2 FL
/-! ### Program(k, rules) of good live rules -/
def G6 (m : Nat) (r : Option (List Nat)) : Prop := ∀ c, r = some c → (∀ b ∈ c, b < m) ∧ c.length ≤ 6
structure Pg (R : Rl) (k : Nat) : Prop where
  len : 0 < R.length ∧ R.length ≤ 12
  kk : 0 < k ∧ k ≤ 6
  row : ∀ l ∈ R, l.length = k ∧ ∀ r ∈ l, G6 R.length r
  live : Live R
theorem Prog.pg {R : Rl} {m k : Nat} (h : Prog R m k) (hm : m ≤ 12) : Pg R k := ⟨⟨h.len.1, Nat.le_trans h.len.2 hm⟩, h.kk, fun l hl => ⟨(h.row l hl).1, fun r hr c hc => ⟨((h.row l hl).2 r hr c hc).1, Nat.le_trans ((h.row l hl).2 r hr c hc).2 (by omega)⟩⟩, h.live⟩
theorem Pg.calls {R : Rl} {k : Nat} (h : Pg R k) : Calls R R.length := fun l hl r hr c hc b hb => ((h.row l hl).2 r hr c hc).1 b hb
theorem Pg.sz {R : Rl} {k : Nat} (h : Pg R k) : Sz R := ⟨by have := h.len; omega, fun l hl => ⟨by rw [(h.row l hl).1]; have := h.kk; omega, fun r hr c hc => Nat.le_trans ((h.row l hl).2 r hr c hc).2 (by omega)⟩⟩
theorem Pg.good {R : Rl} {k : Nat} (h : Pg R k) : GoodR R R.length k := fun a ha x hx => by
  have e : R[a]? = some R[a] := List.getElem?_eq_getElem ha
  have row := h.row R[a] (List.getElem_mem ha)
  have hx' : x < R[a].length := by rw [row.1]; exact hx
  refine ⟨R[a][x], ?_, fun l hl => row.2 _ (List.getElem_mem hx') l hl⟩
  unfold rl
  rw [e]
  exact List.getElem?_eq_getElem hx'
/-- rows in tuples or lists -/
def bD (b : Bool) (xs : List D) : D := if b then .tup xs else .lst xs
def XR (o i : Bool) (R : Rl) : D := bD o (R.map fun l => bD i (l.map dR))
theorem bD_its (b : Bool) (xs : List D) : (bD b xs).its = some xs := by cases b <;> rfl
theorem bD_len (b : Bool) (xs : List D) : D.lenL [bD b xs] = some (.int xs.length) := by cases b <;> rfl
theorem bD_isl (b : Bool) (xs : List D) (w : DS) : g_is_list [bD b xs] w = some (.ok (.bl true) w) := by cases b <;> rfl
theorem bls_map {α : Type} (f : α → Bool) : ∀ (l : List α), D.bls (l.map fun a => D.bl (f a)) = some (l.map f)
  | [] => rfl
  | a :: r => by
    show (D.bls (r.map fun a => D.bl (f a))).map (f a :: ·) = _
    rw [bls_map f r]
    rfl
theorem all_map {α : Type} (f : α → Bool) (l : List α) : D.allL [.lst (l.map fun a => D.bl (f a))] = some (.bl (l.all f)) := by
  unfold D.allL
  simp only
  rw [bls_map]
  show some (D.bl ((l.map f).all id)) = _
  rw [List.all_map]
  rfl
theorem any_map {α : Type} (f : α → Bool) (l : List α) : D.anyL [.lst (l.map fun a => D.bl (f a))] = some (.bl (l.any f)) := by
  unfold D.anyL
  simp only
  rw [bls_map]
  show some (D.bl ((l.map f).any id)) = _
  rw [List.any_map]
  rfl
theorem all_tt {α : Type} (l : List α) : D.allL [.lst (l.map fun _ => D.bl true)] = some (.bl true) := by
  rw [all_map (fun _ => true), List.all_eq_true.mpr fun _ _ => rfl]
def QR : M DS (List D) := (mLc (mIts (mVar 1)) [2] (bdN 2) mTrue (mCall 3 g_is_between [] (mCons (mVar 2) (mCons (mC (.int 0)) (mCons (m2 (pu2 D.sub) (mVar 0) (mC (.int 1))) mNil)))))
theorem rule_right_ok {m : Nat} {r : Option (List Nat)} (h : G6 m r) (w : DS) : g_rule_right [.int m, dR r] w = some (.ok (.bl true) w) := by
  cases r with
  | none => rfl
  | some l =>
    obtain ⟨h1, h2⟩ := h l rfl
    have hm : m_rule_right = (sSeq (sIf (mB (m2 (pu2 D.isN) (mVar 1) (mC .non))) (sSeq (sRet (mC (.bl true))) sNext) sNext) (sSeq (sIf (mOr (mNot (mB (m1 (pu1 D.isi) (mCons (mVar 1) (mCons (mC (.ty "tuple")) mNil))))) (mB (m2 (pu2 D.gt) (m1 (pu1 D.lenL) (mCons (mVar 1) mNil)) (mC (.int 6))))) (sSeq (sRet (mC (.bl false))) sNext) sNext) (sSeq (sRet (m1 (pu1 D.allL) (mCons (mFz QR) mNil))) sNext))) := rfl
    have hs : startE 3 [.int m, dR (some l)] = [some (.frz (.int m)), some (.frz (.tup (dn l))), none] := rfl
    have q : QR [some (.frz (.int m)), some (.frz (.tup (dn l))), none] w = some (.ok (l.map fun _ => .bl true) [some (.frz (.int m)), some (.frz (.tup (dn l))), none] w) := by
      refine mLc_all l (fun (n : Nat) => D.int n) (fun _ => .bl true) rfl (by omega) fun a ha => ?_
      have kb := between_in (h1 a ha) w
      refine ⟨[some (.frz (.int m)), some (.frz (.tup (dn l))), some (.frz (.int a))], rfl, [some (.frz (.int m)), some (.frz (.tup (dn l))), some (.frz (.int a))], ?_⟩
      simp [sSeq, sIf, sB, sNext, sAsg, sDrop, sRet, sOwn, sMov, sSt2, mSt, sParP, mB, mNot, mOr, mAnd, mOrV, mAndV, mIf, m1, m2, mCons, mNil, mConsD, mConsL, mNilP, setP, Pz.o, mC, mVar, rdV, mTup, mLs, mFz, mItems, mSM, lsOf, matOf, mCh, mCall, mCallN, mBor, mBorF, mBorN, fzE, pu, pu1, pu2, bnd, bdN, bdT, bdL, D.tr, D.isN, D.notN, outF, outN, O.toD, mStar, D.toI, mP, mNoP, mSlL, mSlT, D.sub, kb]
    have k1 : D.isi [.tup (dn l), .ty "tuple"] = some (.bl true) := rfl
    have k2 : D.lenL [.tup (dn l)] = some (.int l.length) := by
      show some (D.int ((dn l).length : Nat)) = _
      unfold dn
      rw [List.length_map]
    have k3 : D.gt (.int l.length) (.int 6) = some (.bl false) := by
      show some (D.bl (decide ((l.length : Int) > 6))) = _
      rw [decide_eq_false (by omega)]
    have k4 := all_tt l
    unfold g_rule_right
    rw [hm, hs]
    simp [sSeq, sIf, sB, sNext, sAsg, sDrop, sRet, sOwn, sMov, sSt2, mSt, sParP, mB, mNot, mOr, mAnd, mOrV, mAndV, mIf, m1, m2, mCons, mNil, mConsD, mConsL, mNilP, setP, Pz.o, mC, mVar, rdV, mTup, mLs, mFz, mItems, mSM, lsOf, matOf, mCh, mCall, mCallN, mBor, mBorF, mBorN, fzE, pu, pu1, pu2, bnd, bdN, bdT, bdL, D.tr, D.isN, D.notN, outF, outN, O.toD, mStar, D.toI, mP, mNoP, mSlL, mSlT, q, k1, k2, k3, k4]
theorem eqD_nat (a b : Nat) : D.eqD (.int a) (.int b) = some (.bl (decide (a = b))) := by
  show some (D.bl ((a : Int) == (b : Int))) = _
  congr 2
  rw [Bool.eq_iff_iff, beq_iff_eq, decide_eq_true_iff]
  omega
def Q1 : M DS (List D) := (mLc (mIts (mVar 1)) [2] (bdN 2) mTrue (mAndV (mCall 1 g_is_list [] (mCons (mVar 2) mNil)) (m2 (pu2 D.eqD) (m1 (pu1 D.lenL) (mCons (mVar 2) mNil)) (mVar 0))))
def Q3 : M DS (List D) := (mLc (mIts (mVar 2)) [3] (bdN 3) mTrue (mCall 2 g_rule_right [] (mCons (m1 (pu1 D.lenL) (mCons (mVar 1) mNil)) (mCons (mVar 3) mNil))))
def Q2 : M DS (List D) := (mLc (mIts (mVar 1)) [2] (bdN 2) mTrue (m1 (pu1 D.allL) (mCons (mFz Q3) mNil)))
theorem XR_its (o i : Bool) (R : Rl) : (XR o i R).its = some (R.map fun l => bD i (l.map dR)) := bD_its o _
theorem XR_len (o i : Bool) (R : Rl) : D.lenL [XR o i R] = some (.int R.length) := by
  unfold XR
  rw [bD_len, List.length_map]
theorem rules_right_ok {R : Rl} {k : Nat} (h : Pg R k) (o i : Bool) (w : DS) : g_rules_right [.int k, XR o i R] w = some (.ok (.bl true) w) := by
  have hm : m_rules_right = (sSeq (sIf (mOr (mNot (mB (mCall 1 g_is_list [] (mCons (mVar 1) mNil)))) (mNot (mB (mCh (pu2 D.le) (pu2 D.le) (mC (.int 1)) (m1 (pu1 D.lenL) (mCons (mVar 1) mNil)) (mC (.int 12)))))) (sSeq (sRet (mC (.bl false))) sNext) sNext) (sSeq (sIf (mNot (mB (m1 (pu1 D.allL) (mCons (mFz Q1) mNil)))) (sSeq (sRet (mC (.bl false))) sNext) sNext) (sSeq (sRet (m1 (pu1 D.allL) (mCons (mFz Q2) mNil))) sNext))) := rfl
  have hs : startE 4 [.int k, XR o i R] = [some (.frz (.int k)), some (.frz (XR o i R)), none, none] := rfl
  have k0 : g_is_list [XR o i R] w = some (.ok (.bl true) w) := bD_isl o _ w
  have k1 := XR_len o i R
  have k2 : D.le (.int 1) (.int R.length) = some (.bl true) := by
    show some (D.bl (decide ((1 : Int) ≤ (R.length : Int)))) = _
    rw [decide_eq_true (by have := h.len; omega)]
  have k3 : D.le (.int R.length) (.int 12) = some (.bl true) := by
    show some (D.bl (decide ((R.length : Int) ≤ 12))) = _
    rw [decide_eq_true (by have := h.len; omega)]
  have q1 : Q1 [some (.frz (.int k)), some (.frz (XR o i R)), none, none] w = some (.ok (R.map fun _ => .bl true) [some (.frz (.int k)), some (.frz (XR o i R)), none, none] w) := by
    refine mLc_all R (fun l => bD i (l.map dR)) (fun _ => .bl true) ?_ (by have := h.len; omega) fun l hl => ?_
    · have := XR_its o i R
      simp [sSeq, sIf, sB, sNext, sAsg, sDrop, sRet, sOwn, sMov, sSt2, mSt, sParP, mB, mNot, mOr, mAnd, mOrV, mAndV, mIf, m1, m2, mCons, mNil, mConsD, mConsL, mNilP, setP, Pz.o, mC, mVar, rdV, mTup, mLs, mFz, mItems, mSM, lsOf, matOf, mCh, mCall, mCallN, mBor, mBorF, mBorN, fzE, pu, pu1, pu2, bnd, bdN, bdT, bdL, D.tr, D.isN, D.notN, outF, outN, O.toD, mStar, D.toI, mP, mNoP, mSlL, mSlT, mIts, this]
    · have z1 := bD_isl i (l.map dR) w
      have z2 := bD_len i (l.map dR)
      have z3 : D.eqD (.int (l.map dR).length) (.int k) = some (.bl true) := by
        rw [eqD_nat, decide_eq_true (by rw [List.length_map, (h.row l hl).1])]
      refine ⟨[some (.frz (.int k)), some (.frz (XR o i R)), some (.frz (bD i (l.map dR))), none], rfl, [some (.frz (.int k)), some (.frz (XR o i R)), some (.frz (bD i (l.map dR))), none], ?_⟩
      generalize ((l.map dR).length : Int) = ll at z2 z3
      simp [sSeq, sIf, sB, sNext, sAsg, sDrop, sRet, sOwn, sMov, sSt2, mSt, sParP, mB, mNot, mOr, mAnd, mOrV, mAndV, mIf, m1, m2, mCons, mNil, mConsD, mConsL, mNilP, setP, Pz.o, mC, mVar, rdV, mTup, mLs, mFz, mItems, mSM, lsOf, matOf, mCh, mCall, mCallN, mBor, mBorF, mBorN, fzE, pu, pu1, pu2, bnd, bdN, bdT, bdL, D.tr, D.isN, D.notN, outF, outN, O.toD, mStar, D.toI, mP, mNoP, mSlL, mSlT, z1, z2, z3]
  have q2 : Q2 [some (.frz (.int k)), some (.frz (XR o i R)), none, none] w = some (.ok (R.map fun _ => .bl true) [some (.frz (.int k)), some (.frz (XR o i R)), none, none] w) := by
    refine mLc_all R (fun l => bD i (l.map dR)) (fun _ => .bl true) ?_ (by have := h.len; omega) fun l hl => ?_
    · have := XR_its o i R
      simp [sSeq, sIf, sB, sNext, sAsg, sDrop, sRet, sOwn, sMov, sSt2, mSt, sParP, mB, mNot, mOr, mAnd, mOrV, mAndV, mIf, m1, m2, mCons, mNil, mConsD, mConsL, mNilP, setP, Pz.o, mC, mVar, rdV, mTup, mLs, mFz, mItems, mSM, lsOf, matOf, mCh, mCall, mCallN, mBor, mBorF, mBorN, fzE, pu, pu1, pu2, bnd, bdN, bdT, bdL, D.tr, D.isN, D.notN, outF, outN, O.toD, mStar, D.toI, mP, mNoP, mSlL, mSlT, mIts, this]
    · have z0 := bD_its i (l.map dR)
      have q3 : Q3 [some (.frz (.int k)), some (.frz (XR o i R)), some (.frz (bD i (l.map dR))), none] w = some (.ok (l.map fun _ => .bl true) [some (.frz (.int k)), some (.frz (XR o i R)), some (.frz (bD i (l.map dR))), none] w) := by
        refine mLc_all l dR (fun _ => .bl true) ?_ (by rw [(h.row l hl).1]; have := h.kk; omega) fun r hr => ?_
        · simp [sSeq, sIf, sB, sNext, sAsg, sDrop, sRet, sOwn, sMov, sSt2, mSt, sParP, mB, mNot, mOr, mAnd, mOrV, mAndV, mIf, m1, m2, mCons, mNil, mConsD, mConsL, mNilP, setP, Pz.o, mC, mVar, rdV, mTup, mLs, mFz, mItems, mSM, lsOf, matOf, mCh, mCall, mCallN, mBor, mBorF, mBorN, fzE, pu, pu1, pu2, bnd, bdN, bdT, bdL, D.tr, D.isN, D.notN, outF, outN, O.toD, mStar, D.toI, mP, mNoP, mSlL, mSlT, mIts, z0]
        · have z1 := rule_right_ok ((h.row l hl).2 r hr) w
          refine ⟨[some (.frz (.int k)), some (.frz (XR o i R)), some (.frz (bD i (l.map dR))), some (.frz (dR r))], rfl, [some (.frz (.int k)), some (.frz (XR o i R)), some (.frz (bD i (l.map dR))), some (.frz (dR r))], ?_⟩
          simp [sSeq, sIf, sB, sNext, sAsg, sDrop, sRet, sOwn, sMov, sSt2, mSt, sParP, mB, mNot, mOr, mAnd, mOrV, mAndV, mIf, m1, m2, mCons, mNil, mConsD, mConsL, mNilP, setP, Pz.o, mC, mVar, rdV, mTup, mLs, mFz, mItems, mSM, lsOf, matOf, mCh, mCall, mCallN, mBor, mBorF, mBorN, fzE, pu, pu1, pu2, bnd, bdN, bdT, bdL, D.tr, D.isN, D.notN, outF, outN, O.toD, mStar, D.toI, mP, mNoP, mSlL, mSlT, k1, z1]
      have z2 := all_tt l
      refine ⟨[some (.frz (.int k)), some (.frz (XR o i R)), some (.frz (bD i (l.map dR))), none], rfl, [some (.frz (.int k)), some (.frz (XR o i R)), some (.frz (bD i (l.map dR))), none], ?_⟩
      simp [sSeq, sIf, sB, sNext, sAsg, sDrop, sRet, sOwn, sMov, sSt2, mSt, sParP, mB, mNot, mOr, mAnd, mOrV, mAndV, mIf, m1, m2, mCons, mNil, mConsD, mConsL, mNilP, setP, Pz.o, mC, mVar, rdV, mTup, mLs, mFz, mItems, mSM, lsOf, matOf, mCh, mCall, mCallN, mBor, mBorF, mBorN, fzE, pu, pu1, pu2, bnd, bdN, bdT, bdL, D.tr, D.isN, D.notN, outF, outN, O.toD, mStar, D.toI, mP, mNoP, mSlL, mSlT, q3, z2]
  have k4 := all_tt R
  unfold g_rules_right
  rw [hm, hs]
  simp [sSeq, sIf, sB, sNext, sAsg, sDrop, sRet, sOwn, sMov, sSt2, mSt, sParP, mB, mNot, mOr, mAnd, mOrV, mAndV, mIf, m1, m2, mCons, mNil, mConsD, mConsL, mNilP, setP, Pz.o, mC, mVar, rdV, mTup, mLs, mFz, mItems, mSM, lsOf, matOf, mCh, mCall, mCallN, mBor, mBorF, mBorN, fzE, pu, pu1, pu2, bnd, bdN, bdT, bdL, D.tr, D.isN, D.notN, outF, outN, O.toD, mStar, D.toI, mP, mNoP, mSlL, mSlT, k0, k1, k2, k3, q1, q2, k4]
theorem need_parts_ok {R : Rl} {k : Nat} (h : Pg R k) (o i : Bool) (w : DS) : g_need_parts [.int k, XR o i R] w = some (.ok .non w) := by
  have k1 : g_is_between [.int k, .int 1, .int 6] w = some (.ok (.bl true) w) := by
    rw [is_between_int, decide_eq_true (by have := h.kk; omega), decide_eq_true (by have := h.kk; omega)]
    rfl
  have k2 := rules_right_ok h o i w
  have hs : startE 2 [.int k, XR o i R] = [some (.frz (.int k)), some (.frz (XR o i R))] := rfl
  unfold g_need_parts m_need_parts
  rw [hs]
  simp [sSeq, sIf, sB, sNext, sAsg, sDrop, sRet, sOwn, sMov, sSt2, mSt, sParP, mB, mNot, mOr, mAnd, mOrV, mAndV, mIf, m1, m2, mCons, mNil, mConsD, mConsL, mNilP, setP, Pz.o, mC, mVar, rdV, mTup, mLs, mFz, mItems, mSM, lsOf, matOf, mCh, mCall, mCallN, mBor, mBorF, mBorN, fzE, pu, pu1, pu2, bnd, bdN, bdT, bdL, D.tr, D.isN, D.notN, outF, outN, O.toD, mStar, D.toI, mP, mNoP, mSlL, mSlT, k1, k2]
/-! the live ones -/
def dF (F : List Nat) : D := .dK (F.map fun (a : Nat) => .inl (a : Int)) (F.map fun _ => .non)
theorem in_dF (a : Nat) (F : List Nat) : D.inD (.int a) (dF F) = some (.bl (decide (a ∈ F))) := by
  unfold D.inD D.inQ D.inS dF
  simp only [D.key]
  show some (D.bl (List.any _ _)) = _
  congr 2
  rw [Bool.eq_iff_iff, List.any_eq_true, decide_eq_true_iff]
  constructor
  · rintro ⟨x, h1, h2⟩
    obtain ⟨b, h3, rfl⟩ := List.mem_map.mp h1
    have : (b : Int) = a := by simpa using h2
    have : b = a := by omega
    exact this ▸ h3
  · exact fun h => ⟨.inl (a : Int), List.mem_map.mpr ⟨a, h, rfl⟩, by simp⟩
def B3 : M DS (List D) := (mLc (mIts (mVar 2)) [3] (bdN 3) mTrue (m2 (pu2 D.inD) (mVar 3) (mVar 1)))
def B2 : M DS (List D) := (mLc (mIts (mVar 0)) [2] (bdN 2) mTrue (mAndV (m2 (pu2 D.notN) (mVar 2) (mC .non)) (m1 (pu1 D.allL) (mCons (mFz B3) mNil))))
theorem is_live_by_ok {R : Rl} {k : Nat} (h : Pg R k) {l : List (Option (List Nat))} (hl : l ∈ R) (i : Bool) (F : List Nat) (w : DS) : g_is_live_by [bD i (l.map dR), dF F] w = some (.ok (.bl (stepB F l)) w) := by
  have hm : m_is_live_by = (sSeq (sRet (m1 (pu1 D.anyL) (mCons (mFz B2) mNil))) sNext) := rfl
  have hs : startE 4 [bD i (l.map dR), dF F] = [some (.frz (bD i (l.map dR))), some (.frz (dF F)), none, none] := rfl
  have b2 : B2 [some (.frz (bD i (l.map dR))), some (.frz (dF F)), none, none] w = some (.ok (l.map fun r => .bl (ruleB F r)) [some (.frz (bD i (l.map dR))), some (.frz (dF F)), none, none] w) := by
    refine mLc_all l dR (fun r => .bl (ruleB F r)) ?_ (by rw [(h.row l hl).1]; have := h.kk; omega) fun r hr => ?_
    · have := bD_its i (l.map dR)
      simp [sSeq, sIf, sB, sNext, sAsg, sDrop, sRet, sOwn, sMov, sSt2, mSt, sParP, mB, mNot, mOr, mAnd, mOrV, mAndV, mIf, m1, m2, mCons, mNil, mConsD, mConsL, mNilP, setP, Pz.o, mC, mVar, rdV, mTup, mLs, mFz, mItems, mSM, lsOf, matOf, mCh, mCall, mCallN, mBor, mBorF, mBorN, fzE, pu, pu1, pu2, bnd, bdN, bdT, bdL, D.tr, D.isN, D.notN, outF, outN, O.toD, mStar, D.toI, mP, mNoP, mSlL, mSlT, mIts, this]
    · refine ⟨[some (.frz (bD i (l.map dR))), some (.frz (dF F)), some (.frz (dR r)), none], rfl, [some (.frz (bD i (l.map dR))), some (.frz (dF F)), some (.frz (dR r)), none], ?_⟩
      cases r with
      | none => rfl
      | some c =>
        have b3 : B3 [some (.frz (bD i (l.map dR))), some (.frz (dF F)), some (.frz (dR (some c))), none] w = some (.ok (c.map fun a => .bl (decide (a ∈ F))) [some (.frz (bD i (l.map dR))), some (.frz (dF F)), some (.frz (dR (some c))), none] w) := by
          refine mLc_all c (fun (n : Nat) => D.int n) (fun a => .bl (decide (a ∈ F))) rfl (by have := ((h.row l hl).2 _ hr c rfl).2; omega) fun a ha => ?_
          have z := in_dF a F
          refine ⟨[some (.frz (bD i (l.map dR))), some (.frz (dF F)), some (.frz (dR (some c))), some (.frz (.int a))], rfl, [some (.frz (bD i (l.map dR))), some (.frz (dF F)), some (.frz (dR (some c))), some (.frz (.int a))], ?_⟩
          simp [sSeq, sIf, sB, sNext, sAsg, sDrop, sRet, sOwn, sMov, sSt2, mSt, sParP, mB, mNot, mOr, mAnd, mOrV, mAndV, mIf, m1, m2, mCons, mNil, mConsD, mConsL, mNilP, setP, Pz.o, mC, mVar, rdV, mTup, mLs, mFz, mItems, mSM, lsOf, matOf, mCh, mCall, mCallN, mBor, mBorF, mBorN, fzE, pu, pu1, pu2, bnd, bdN, bdT, bdL, D.tr, D.isN, D.notN, outF, outN, O.toD, mStar, D.toI, mP, mNoP, mSlL, mSlT, z]
        have z := all_map (fun a => decide (a ∈ F)) c
        have z2 : ruleB F (some c) = c.all fun a => decide (a ∈ F) := rfl
        have z3 : dR (some c) = .tup (dn c) := rfl
        rw [z2]
        rw [z3] at b3 ⊢
        simp [sSeq, sIf, sB, sNext, sAsg, sDrop, sRet, sOwn, sMov, sSt2, mSt, sParP, mB, mNot, mOr, mAnd, mOrV, mAndV, mIf, m1, m2, mCons, mNil, mConsD, mConsL, mNilP, setP, Pz.o, mC, mVar, rdV, mTup, mLs, mFz, mItems, mSM, lsOf, matOf, mCh, mCall, mCallN, mBor, mBorF, mBorN, fzE, pu, pu1, pu2, bnd, bdN, bdT, bdL, D.tr, D.isN, D.notN, outF, outN, O.toD, mStar, D.toI, mP, mNoP, mSlL, mSlT, b3, z]
  have k := any_map (ruleB F) l
  unfold g_is_live_by stepB
  rw [hm, hs]
  simp [sSeq, sIf, sB, sNext, sAsg, sDrop, sRet, sOwn, sMov, sSt2, mSt, sParP, mB, mNot, mOr, mAnd, mOrV, mAndV, mIf, m1, m2, mCons, mNil, mConsD, mConsL, mNilP, setP, Pz.o, mC, mVar, rdV, mTup, mLs, mFz, mItems, mSM, lsOf, matOf, mCh, mCall, mCallN, mBor, mBorF, mBorN, fzE, pu, pu1, pu2, bnd, bdN, bdT, bdL, D.tr, D.isN, D.notN, outF, outN, O.toD, mStar, D.toI, mP, mNoP, mSlL, mSlT, b2, k]
/-- a dict comprehension over a list told by its members -/
theorem mDc_of {α : Type} {src : M DS (List D)} {vs : List Nat} {bd : Bd} {c : M DS Bool} {mk e : M DS D} {ρ ρ' : Ev} {w0 w : DS} (L : List α) (emb : α → D) (p : α → Bool) (f : α → D) (g : α → D) (key : α → Key) (hk : ∀ a, (f a).key = some (key a)) (hs : src ρ w0 = some (.ok (L.map emb) ρ' w)) (hl : L.length ≤ 16777216) (hnd : (L.map key).Nodup)
    (h : ∀ a ∈ L, ∃ ρ1 ρ2, bd (emb a) (hidE vs 0 ρ') = some ρ1 ∧ c ρ1 w = some (.ok (p a) ρ2 w) ∧ (p a = true → ∃ ρ3, mk ρ2 w = some (.ok (f a) ρ3 w) ∧ ∃ ρ4, e ρ3 w = some (.ok (g a) ρ4 w))) : mDc src vs bd c mk e ρ w0 = some (.ok (.dK ((L.filter p).map key) ((L.filter p).map g)) ρ' w) := by
  have go : ∀ (L : List α) (ks : List Key) (acc : List D), (∀ a ∈ L, key a ∉ ks) → (L.map key).Nodup → (∀ a ∈ L, ∃ ρ1 ρ2, bd (emb a) (hidE vs 0 ρ') = some ρ1 ∧ c ρ1 w = some (.ok (p a) ρ2 w) ∧ (p a = true → ∃ ρ3, mk ρ2 w = some (.ok (f a) ρ3 w) ∧ ∃ ρ4, e ρ3 w = some (.ok (g a) ρ4 w))) →
      dcGo bd c mk e ρ' (hidE vs 0 ρ') (L.map emb) ks acc w = some (.ok (.dK (ks ++ (L.filter p).map key) (acc ++ (L.filter p).map g)) ρ' w) := by
    intro L
    induction L with
    | nil =>
      intro ks acc _ _ _
      unfold dcGo
      simp
    | cons a L ih =>
      intro ks acc hks hnd h
      obtain ⟨ρ1, ρ2, h1, h2, h3⟩ := h a List.mem_cons_self
      rw [List.map_cons, List.nodup_cons] at hnd
      rw [List.map_cons]
      unfold dcGo
      rw [h1]
      simp only [h2]
      cases hp : p a with
      | false =>
        simp only
        rw [ih ks acc (fun x hx => hks x (List.mem_cons_of_mem _ hx)) hnd.2 fun x hx => h x (List.mem_cons_of_mem _ hx), List.filter_cons_of_neg (by rw [hp]; simp)]
      | true =>
        obtain ⟨ρ3, h4, ρ4, h5⟩ := h3 hp
        simp only [h4, h5, hk a]
        rw [if_neg ?_, ih (ks ++ [key a]) (acc ++ [g a]) (fun x hx z => ?_) hnd.2 fun x hx => h x (List.mem_cons_of_mem _ hx), List.filter_cons_of_pos hp, List.map_cons, List.map_cons, List.append_assoc, List.append_assoc]
        · rfl
        · rcases List.mem_append.mp z with z | z
          · exact hks x (List.mem_cons_of_mem _ hx) z
          · exact hnd.1 (List.mem_map.mpr ⟨x, hx, List.mem_singleton.mp z⟩)
        · intro z
          obtain ⟨j, z1, z2⟩ := List.any_eq_true.mp z
          exact hks a List.mem_cons_self (by rw [← of_decide_eq_true z2]; exact z1)
  unfold mDc
  rw [hs, bnd_ok, if_pos (by rw [List.length_map]; exact hl), go L [] [] (fun _ _ h => by cases h) hnd h]
  rfl
def WD : M DS D := (mDc (m1 (fun ds => pu (D.enumA ds)) (mCons (mVar 0) mNil)) [3, 4] (bdT [(bdN 3), (bdN 4)]) (mOr (mB (m2 (pu2 D.inD) (mVar 3) (mVar 1))) (mB (mCall 2 g_is_live_by [] (mCons (mVar 4) (mCons (mVar 1) mNil))))) (mVar 3) (mC .non))
def WB : SM DS := (sSeq (sAsg (m1 (pu1 D.lenL) (mCons (mVar 1) mNil)) (bdN 2)) (sSeq (sAsg WD (bdN 1)) sNext))
def WT : M DS Bool := (mB (m2 (pu2 D.neD) (m1 (pu1 D.lenL) (mCons (mVar 1) mNil)) (mVar 2)))
theorem lvs_nodup (R : Rl) (n : Nat) : (lvs R n).Nodup := List.Nodup.sublist List.filter_sublist List.nodup_range
theorem enum_XR (o i : Bool) (R : Rl) : D.enumA [XR o i R] = some ((R.zipIdx).map fun p => .tup [.int p.2, bD i (p.1.map dR)]) := by
  unfold D.enumA
  simp only
  rw [XR_its]
  show some (enumD (R.map fun l => bD i (l.map dR))) = _
  have : enumD (R.map fun l => bD i (l.map dR)) = ((R.map fun l => bD i (l.map dR)).zipIdx 0).map fun p => D.tup [.int p.2, p.1] := rfl
  rw [this, List.zipIdx_map, List.map_map]
  rfl
theorem WD_ok {R : Rl} {k : Nat} (h : Pg R k) (o i : Bool) (n : Nat) (o2 : D) (w : DS) : WD [some (.frz (XR o i R)), some (.frz (dF (lvs R n))), some (.frz o2), none, none] w = some (.ok (dF (lvs R (n + 1))) [some (.frz (XR o i R)), some (.frz (dF (lvs R n))), some (.frz o2), none, none] w) := by
  have e0 : lvs R (n + 1) = (R.zipIdx.filter fun p => stepB (lvs R n) p.1).map (·.2) := by
    show (List.range R.length).filter (fun a => lvN R (n + 1) a) = _
    rw [List.range_eq_range', zipIdx_filter (stepB (lvs R n)) (fun a => lvN R (n + 1) a) R 0 fun i a h' => by
      rw [Nat.zero_add]
      exact (step_lv h.calls h').symm]
  have e1 : dF (lvs R (n + 1)) = .dK ((R.zipIdx.filter fun p => stepB (lvs R n) p.1).map fun p => .inl (p.2 : Int)) ((R.zipIdx.filter fun p => stepB (lvs R n) p.1).map fun _ => .non) := by
    unfold dF
    rw [e0, List.map_map, List.map_map]
    rfl
  rw [e1]
  refine mDc_of R.zipIdx (fun p => .tup [.int p.2, bD i (p.1.map dR)]) (fun p => stepB (lvs R n) p.1) (fun p => .int p.2) (fun _ => .non) (fun p => .inl (p.2 : Int)) (fun _ => rfl) ?_ (by rw [List.length_zipIdx]; have := h.len; omega) ?_ fun p hp => ?_
  · have k := enum_XR o i R
    simp [sSeq, sIf, sB, sNext, sAsg, sDrop, sRet, sOwn, sMov, sSt2, mSt, sParP, mB, mNot, mOr, mAnd, mOrV, mAndV, mIf, m1, m2, mCons, mNil, mConsD, mConsL, mNilP, setP, Pz.o, mC, mVar, rdV, mTup, mLs, mFz, mItems, mSM, lsOf, matOf, mCh, mCall, mCallN, mBor, mBorF, mBorN, fzE, pu, pu1, pu2, bnd, bdN, bdT, bdL, D.tr, D.isN, D.notN, outF, outN, O.toD, mStar, D.toI, mP, mNoP, mSlL, mSlT, k]
  · have z : (R.zipIdx.map fun p => (Sum.inl (p.2 : Int) : Key)) = (List.range' 0 R.length).map fun (a : Nat) => (Sum.inl (a : Int) : Key) := by
      have : (List.range' 0 R.length) = R.zipIdx.map (·.2) := by
        rw [List.zipIdx_map_snd]
      rw [this, List.map_map]
      rfl
    rw [z]
    have inj : ∀ a b : Nat, (Sum.inl (a : Int) : Key) = .inl (b : Int) → a = b := fun a b h => by
      have := Sum.inl.inj h
      omega
    exact List.Pairwise.map _ (fun a b hab z => hab (inj a b z)) List.nodup_range'
  · obtain ⟨line, a⟩ := p
    have hp' := List.mem_zipIdx hp
    simp at hp'
    have hm : line ∈ R := by
      rw [hp'.2]
      exact List.getElem_mem _
    have z1 := in_dF a (lvs R n)
    have z2 := is_live_by_ok h hm i (lvs R n) w
    have ha : R[a]? = some line := by
      rw [hp'.2]
      exact List.getElem?_eq_getElem _
    have st := step_lv h.calls (n := n) ha
    refine ⟨[some (.frz (XR o i R)), some (.frz (dF (lvs R n))), some (.frz o2), some (.frz (.int a)), some (.frz (bD i (line.map dR)))], [some (.frz (XR o i R)), some (.frz (dF (lvs R n))), some (.frz o2), some (.frz (.int a)), some (.frz (bD i (line.map dR)))], rfl, ?_, fun _ => ⟨_, rfl, _, rfl⟩⟩
    by_cases hv : a ∈ lvs R n
    · have : stepB (lvs R n) line = true := by
        rw [st]
        exact lvN_mono (mem_lvs.mp hv).2
      simp only [this]
      rw [decide_eq_true hv] at z1
      simp [sSeq, sIf, sB, sNext, sAsg, sDrop, sRet, sOwn, sMov, sSt2, mSt, sParP, mB, mNot, mOr, mAnd, mOrV, mAndV, mIf, m1, m2, mCons, mNil, mConsD, mConsL, mNilP, setP, Pz.o, mC, mVar, rdV, mTup, mLs, mFz, mItems, mSM, lsOf, matOf, mCh, mCall, mCallN, mBor, mBorF, mBorN, fzE, pu, pu1, pu2, bnd, bdN, bdT, bdL, D.tr, D.isN, D.notN, outF, outN, O.toD, mStar, D.toI, mP, mNoP, mSlL, mSlT, z1]
    · rw [decide_eq_false hv] at z1
      simp [sSeq, sIf, sB, sNext, sAsg, sDrop, sRet, sOwn, sMov, sSt2, mSt, sParP, mB, mNot, mOr, mAnd, mOrV, mAndV, mIf, m1, m2, mCons, mNil, mConsD, mConsL, mNilP, setP, Pz.o, mC, mVar, rdV, mTup, mLs, mFz, mItems, mSM, lsOf, matOf, mCh, mCall, mCallN, mBor, mBorF, mBorN, fzE, pu, pu1, pu2, bnd, bdN, bdT, bdL, D.tr, D.isN, D.notN, outF, outN, O.toD, mStar, D.toI, mP, mNoP, mSlL, mSlT, z1, z2]
theorem lenF (F : List Nat) : D.lenL [dF F] = some (.int F.length) := by
  show some (D.int ((F.map fun (a : Nat) => (Sum.inl (a : Int) : Key)).length : Nat)) = _
  rw [List.length_map]
theorem WB_ok {R : Rl} {k : Nat} (h : Pg R k) (o i : Bool) (n : Nat) (o2 : D) (w : DS) : WB [some (.frz (XR o i R)), some (.frz (dF (lvs R n))), some (.frz o2), none, none] w = some (.nx [some (.frz (XR o i R)), some (.frz (dF (lvs R (n + 1)))), some (.frz (.int (lvs R n).length)), none, none] w) := by
  have k1 := lenF (lvs R n)
  have k2 := WD_ok h o i n (.int (lvs R n).length) w
  unfold WB
  simp [sSeq, sIf, sB, sNext, sAsg, sDrop, sRet, sOwn, sMov, sSt2, mSt, sParP, mB, mNot, mOr, mAnd, mOrV, mAndV, mIf, m1, m2, mCons, mNil, mConsD, mConsL, mNilP, setP, Pz.o, mC, mVar, rdV, mTup, mLs, mFz, mItems, mSM, lsOf, matOf, mCh, mCall, mCallN, mBor, mBorF, mBorN, fzE, pu, pu1, pu2, bnd, bdN, bdT, bdL, D.tr, D.isN, D.notN, outF, outN, O.toD, mStar, D.toI, mP, mNoP, mSlL, mSlT, k1, k2]
theorem neD_int (a b : Int) : D.neD (.int a) (.int b) = some (.bl (!(a == b))) := rfl
theorem filter_sub {α : Type} {p q : α → Bool} (h : ∀ a, p a = true → q a = true) : ∀ (l : List α), (l.filter p).Sublist (l.filter q)
  | [] => List.Sublist.refl _
  | a :: l => by
    have ih := filter_sub h l
    cases hp : p a with
    | true =>
      rw [List.filter_cons_of_pos hp, List.filter_cons_of_pos (h a hp)]
      exact ih.cons₂ a
    | false =>
      rw [List.filter_cons_of_neg (by rw [hp]; simp)]
      cases hq : q a with
      | true =>
        rw [List.filter_cons_of_pos hq]
        exact ih.cons a
      | false =>
        rw [List.filter_cons_of_neg (by rw [hq]; simp)]
        exact ih
theorem lvs_sub {R : Rl} {m n : Nat} (l : m ≤ n) : (lvs R m).Sublist (lvs R n) := by
  unfold lvs
  exact filter_sub (fun a => lvN_le l) _
theorem lvs_same {R : Rl} (hc : Calls R R.length) {n : Nat} (e : lvs R (n + 1) = lvs R n) : ∀ j, lvs R (n + j) = lvs R n
  | 0 => rfl
  | j + 1 => by
    have ih := lvs_same hc e j
    rw [← e]
    unfold lvs
    refine List.filter_congr fun a ha => ?_
    have hl := List.mem_range.mp ha
    have r : R[a]? = some R[a] := List.getElem?_eq_getElem hl
    rw [show n + (j + 1) = n + j + 1 by omega, ← step_lv hc r, ← step_lv hc r, ih]
theorem live_end {R : Rl} {k : Nat} (h : Pg R k) {n : Nat} (e : (lvs R (n + 1)).length = (lvs R n).length) : (lvs R (n + 1)).length = R.length := by
  have e2 : lvs R (n + 1) = lvs R n := ((lvs_sub (Nat.le_succ n)).eq_of_length e.symm).symm
  have all : lvs R n = List.range R.length := by
    unfold lvs
    rw [List.filter_eq_self]
    intro a ha
    have hl := List.mem_range.mp ha
    obtain ⟨m, hm⟩ := h.live a hl
    have z : a ∈ lvs R (n + m) := mem_lvs.mpr ⟨hl, lvN_le (by omega) hm⟩
    rw [lvs_same h.calls e2] at z
    exact (mem_lvs.mp z).2
  rw [e2, all, List.length_range]
theorem live_loop {R : Rl} {k : Nat} (h : Pg R k) (o i : Bool) (w : DS) : ∀ (fuel j : Nat), 15 ≤ fuel + j → j ≤ (lvs R j).length → ∃ n p, (lvs R n).length = R.length ∧ sWh WT WB fuel [some (.frz (XR o i R)), some (.frz (dF (lvs R (j + 1)))), some (.frz (.int (lvs R j).length)), none, none] w = some (.nx [some (.frz (XR o i R)), some (.frz (dF (lvs R n))), some (.frz p), none, none] w)
  | 0, j, hf, hj => by
    have : (lvs R j).length ≤ R.length := by
      have := (List.filter_sublist (l := List.range R.length) (p := fun a => lvN R j a)).length_le
      rw [List.length_range] at this
      exact this
    have := h.len
    omega
  | fuel + 1, j, hf, hj => by
    have k1 := lenF (lvs R (j + 1))
    have k2 := neD_int (lvs R (j + 1)).length (lvs R j).length
    by_cases c : (lvs R (j + 1)).length = (lvs R j).length
    · refine ⟨j + 1, .int (lvs R j).length, live_end h c, ?_⟩
      refine sWh_end ?_
      rw [c] at k1 k2
      unfold WT
      simp at k2
      simp [sSeq, sIf, sB, sNext, sAsg, sDrop, sRet, sOwn, sMov, sSt2, mSt, sParP, mB, mNot, mOr, mAnd, mOrV, mAndV, mIf, m1, m2, mCons, mNil, mConsD, mConsL, mNilP, setP, Pz.o, mC, mVar, rdV, mTup, mLs, mFz, mItems, mSM, lsOf, matOf, mCh, mCall, mCallN, mBor, mBorF, mBorN, fzE, pu, pu1, pu2, bnd, bdN, bdT, bdL, D.tr, D.isN, D.notN, outF, outN, O.toD, mStar, D.toI, mP, mNoP, mSlL, mSlT, k1, k2]
    · have lt : (lvs R j).length ≤ (lvs R (j + 1)).length := (lvs_sub (Nat.le_succ j)).length_le
      have ne : (((lvs R (j + 1)).length : Int) == ((lvs R j).length : Int)) = false := beq_eq_false_iff_ne.mpr (by omega)
      rw [ne] at k2
      obtain ⟨n, p, g1, g2⟩ := live_loop h o i w fuel (j + 1) (by omega) (by omega)
      refine ⟨n, p, g1, ?_⟩
      have t : WT [some (.frz (XR o i R)), some (.frz (dF (lvs R (j + 1)))), some (.frz (.int (lvs R j).length)), none, none] w = some (.ok true [some (.frz (XR o i R)), some (.frz (dF (lvs R (j + 1)))), some (.frz (.int (lvs R j).length)), none, none] w) := by
        unfold WT
        simp [sSeq, sIf, sB, sNext, sAsg, sDrop, sRet, sOwn, sMov, sSt2, mSt, sParP, mB, mNot, mOr, mAnd, mOrV, mAndV, mIf, m1, m2, mCons, mNil, mConsD, mConsL, mNilP, setP, Pz.o, mC, mVar, rdV, mTup, mLs, mFz, mItems, mSM, lsOf, matOf, mCh, mCall, mCallN, mBor, mBorF, mBorN, fzE, pu, pu1, pu2, bnd, bdN, bdT, bdL, D.tr, D.isN, D.notN, outF, outN, O.toD, mStar, D.toI, mP, mNoP, mSlL, mSlT, k1, k2]
      rw [sWh_go t (WB_ok h o i (j + 1) _ w)]
      exact g2
theorem live_in_ok {R : Rl} {k : Nat} (h : Pg R k) (o i : Bool) (w : DS) : ∃ F : List Nat, F.length = R.length ∧ g_live_in [XR o i R] w = some (.ok (dF F) w) := by
  have hm : m_live_in = (sSeq (sAsg (mTup (mCons (mC (.dK [] [])) (mCons (m1 (fun d => pu d.neg) (mC (.int 1))) mNil))) (bdT [(bdN 1), (bdN 2)])) (sSeq (sWh WT WB fuel_live_in) (sSeq (sRet (mVar 1)) sNext))) := rfl
  have hs : startE 5 [XR o i R] = [some (.frz (XR o i R)), none, none, none, none] := rfl
  have z0 : lvs R 0 = [] := List.filter_eq_nil_iff.mpr fun a _ => by simp [lvN]
  have a1 : sAsg (mTup (mCons (mC (.dK [] [])) (mCons (m1 (fun d => pu d.neg) (mC (.int 1))) mNil))) (bdT [(bdN 1), (bdN 2)]) [some (.frz (XR o i R)), none, none, none, none] w = some (.nx [some (.frz (XR o i R)), some (.frz (dF (lvs R 0))), some (.frz (.int (-1))), none, none] w) := by
    rw [z0]
    rfl
  obtain ⟨n, p, g1, g2⟩ := live_loop h o i w 39 0 (by omega) (by omega)
  have t : WT [some (.frz (XR o i R)), some (.frz (dF (lvs R 0))), some (.frz (.int (-1))), none, none] w = some (.ok true [some (.frz (XR o i R)), some (.frz (dF (lvs R 0))), some (.frz (.int (-1))), none, none] w) := by
    rw [z0]
    rfl
  have a2 : sWh WT WB fuel_live_in [some (.frz (XR o i R)), some (.frz (dF (lvs R 0))), some (.frz (.int (-1))), none, none] w = some (.nx [some (.frz (XR o i R)), some (.frz (dF (lvs R n))), some (.frz p), none, none] w) := by
    show sWh WT WB (39 + 1) _ w = _
    rw [sWh_go t (WB_ok h o i 0 _ w)]
    exact g2
  refine ⟨lvs R n, g1, ?_⟩
  unfold g_live_in
  rw [hm, hs, sSeq_nx a1, sSeq_nx a2]
  rfl
def PX : M DS (List D) := (mLc (mIts (mVar 2)) [3] (bdN 3) mTrue (m1 (pu1 D.tupF) (mCons (mVar 3) mNil)))
theorem bD_tup (b : Bool) (xs : List D) : D.tupF [bD b xs] = some (.tup xs) := by cases b <;> rfl
theorem program_ok {R : Rl} {k : Nat} (h : Pg R k) (o i : Bool) (w : DS) : g_Program [.int k, XR o i R] w = some (.ok (PD k R) w) := by
  have hm : m_Program_init = (sSeq (sDrop (mCall 2 g_need_parts [] (mCons (mVar 1) (mCons (mVar 2) mNil)))) (sSeq (sIf (mB (m2 (pu2 D.lt) (m1 (pu1 D.lenL) (mCons (mCall 1 g_live_in [] (mCons (mVar 2) mNil)) mNil)) (m1 (pu1 D.lenL) (mCons (mVar 2) mNil)))) (sSeq sNo sNext) sNext) (sSeq (sFldI 0 "Program" "own_letters" (mVar 1)) (sSeq (sFldI 0 "Program" "own_rules" (m1 (pu1 D.tupF) (mCons (mFz PX) mNil))) sNext)))) := rfl
  have hs : startI 4 "Program" 0 [.int k, XR o i R] = [some (.ins 0 "Program" [] []), some (.frz (.int k)), some (.frz (XR o i R)), none] := rfl
  have k1 := need_parts_ok h o i w
  obtain ⟨F, hF, k2⟩ := live_in_ok h o i w
  have k3 := lenF F
  have k4 := XR_len o i R
  have k5 : D.lt (.int F.length) (.int R.length) = some (.bl false) := by
    show some (D.bl (decide ((F.length : Int) < R.length))) = _
    rw [decide_eq_false (by omega)]
  have px : ∀ ns ds, PX [some (.ins 0 "Program" ns ds), some (.frz (.int k)), some (.frz (XR o i R)), none] w = some (.ok (R.map fun l => .tup (l.map dR)) [some (.ins 0 "Program" ns ds), some (.frz (.int k)), some (.frz (XR o i R)), none] w) := fun ns ds => by
    refine mLc_all R (fun l => bD i (l.map dR)) (fun l => .tup (l.map dR)) ?_ (by have := h.len; omega) fun l hl => ?_
    · have := XR_its o i R
      simp [sSeq, sIf, sB, sNext, sAsg, sDrop, sRet, sOwn, sMov, sSt2, mSt, sParP, mB, mNot, mOr, mAnd, mOrV, mAndV, mIf, m1, m2, mCons, mNil, mConsD, mConsL, mNilP, setP, Pz.o, mC, mVar, rdV, mTup, mLs, mFz, mItems, mSM, lsOf, matOf, mCh, mCall, mCallN, mBor, mBorF, mBorN, fzE, pu, pu1, pu2, bnd, bdN, bdT, bdL, D.tr, D.isN, D.notN, outF, outN, O.toD, mStar, D.toI, mP, mNoP, mSlL, mSlT, mIts, this]
    · have z := bD_tup i (l.map dR)
      refine ⟨[none, some (.frz (.int k)), some (.frz (XR o i R)), some (.frz (bD i (l.map dR)))], rfl, [none, some (.frz (.int k)), some (.frz (XR o i R)), some (.frz (bD i (l.map dR)))], ?_⟩
      simp [sSeq, sIf, sB, sNext, sAsg, sDrop, sRet, sOwn, sMov, sSt2, mSt, sParP, mB, mNot, mOr, mAnd, mOrV, mAndV, mIf, m1, m2, mCons, mNil, mConsD, mConsL, mNilP, setP, Pz.o, mC, mVar, rdV, mTup, mLs, mFz, mItems, mSM, lsOf, matOf, mCh, mCall, mCallN, mBor, mBorF, mBorN, fzE, pu, pu1, pu2, bnd, bdN, bdT, bdL, D.tr, D.isN, D.notN, outF, outN, O.toD, mStar, D.toI, mP, mNoP, mSlL, mSlT, z]
  have kt : D.tupF [.lst (R.map fun l => .tup (l.map dR))] = some (dRules R) := rfl
  unfold g_Program
  rw [hm, hs]
  generalize (F.length : Int) = lf at k3 k5
  generalize (R.length : Int) = lr at k4 k5
  have px1 := px ["own_letters"] [.int k]
  have ks : (Str.ofString "own_rules" = Str.ofString "own_letters") = False := eq_false (by decide)
  simp [sSeq, sIf, sB, sNext, sAsg, sDrop, sRet, sOwn, sMov, sSt2, mSt, sParP, mB, mNot, mOr, mAnd, mOrV, mAndV, mIf, m1, m2, mCons, mNil, mConsD, mConsL, mNilP, setP, Pz.o, mC, mVar, rdV, mTup, mLs, mFz, mItems, mSM, lsOf, matOf, mCh, mCall, mCallN, mBor, mBorF, mBorN, fzE, pu, pu1, pu2, bnd, bdN, bdT, bdL, D.tr, D.isN, D.notN, outF, outN, O.toD, mStar, D.toI, mP, mNoP, mSlL, mSlT, k1, k2, k3, k4, k5, sFldI, px1, kt, outI, PD, ks]
end K03
set_option maxRecDepth 100000
set_option maxHeartbeats 4000000
namespace K03
open PySem PySem.Spec PyProof.Rows L2 FL
/-! ### drawn rows, texts; the law's own reading -/
theorem dn_len (l : List Nat) : (dn l).length = l.length := by
  unfold dn
  rw [List.length_map]
theorem len_dn (l : List Nat) : D.lenL [.tup (dn l)] = some (.int l.length) := by
  show some (D.int ((dn l).length : Nat)) = _
  rw [dn_len]
theorem len_R (R : Rl) : D.lenL [dRules R] = some (.int R.length) := by
  show some (D.int ((R.map fun l => D.tup (l.map dR)).length : Nat)) = _
  rw [List.length_map]
theorem add_nat (a b : Nat) : D.add (.int a) (.int b) = some (.int ((a + b : Nat) : Int)) := by
  show some (D.int ((a : Int) + (b : Int))) = _
  congr 2
def RW : M DS (List D) := (mLc (m1 (fun ds => pu (D.rng1 ds)) (mCons (mCall 2 g__law_draw [] (mCons (mVar 0) (mCons (m2 (pu2 D.add) (mVar 2) (mC (.int 1))) mNil))) mNil)) [3] (bdN 3) mTrue (mCall 2 g__law_draw [] (mCons (mVar 0) (mCons (m1 (pu1 D.lenL) (mCons (mVar 1) mNil)) mNil))))
theorem sk_row_ok {R : Rl} (h0 : 0 < R.length ∧ R.length ≤ 12) {most : Nat} (hmo : most ≤ 100) {n : Nat} {w : DS} (ok : DsOk (n + 200) w) : ∃ (row : List Nat) (w' : DS), g__law_sk_row [.wld, dRules R, .int most] w = some (.ok (.tup (dn row)) w') ∧ (∀ a ∈ row, a < R.length) ∧ row.length ≤ most ∧ DsOk n w' := by
  have hm : m__law_sk_row = (sSeq (sRet (m1 (pu1 D.tupF) (mCons (mFz RW) mNil))) sNext) := rfl
  have hs : startE 4 [.wld, dRules R, .int most] = [some (.frz .wld), some (.frz (dRules R)), some (.frz (.int most)), none] := rfl
  obtain ⟨v, w1, e1, v1, ok1⟩ := draw_nat (n := n + 199) ok (room := most + 1) (by omega) (by omega)
  have ka : D.add (.int most) (.int 1) = some (.int ((most + 1 : Nat) : Int)) := add_nat most 1
  have kl := len_R R
  have hsrc : (mCons (mCall 2 g__law_draw [] (mCons (mVar 0) (mCons (m2 (pu2 D.add) (mVar 2) (mC (.int 1))) mNil))) mNil) [some (.frz .wld), some (.frz (dRules R)), some (.frz (.int most)), none] w = some (.ok [.int v] [some (.frz .wld), some (.frz (dRules R)), some (.frz (.int most)), none] w1) := by
    generalize ((most + 1 : Nat) : Int) = mm at ka e1
    simp [sSeq, sIf, sB, sNext, sAsg, sDrop, sRet, sOwn, sMov, sSt2, mSt, sParP, mB, mNot, mOr, mAnd, mOrV, mAndV, mIf, m1, m2, mCons, mNil, mConsD, mConsL, mNilP, setP, Pz.o, mC, mVar, rdV, mTup, mLs, mFz, mItems, mSM, lsOf, matOf, mCh, mCall, mCallN, mBor, mBorF, mBorN, fzE, pu, pu1, pu2, bnd, bdN, bdT, bdL, D.tr, D.isN, D.notN, outF, outN, O.toD, mStar, D.toI, mP, mNoP, mSlL, mSlT, ka, e1]
  obtain ⟨row, w2, h1, h2, h3, h4⟩ := mLc_dr (vs := [3]) (bd := bdN 3) (e := mCall 2 g__law_draw [] (mCons (mVar 0) (mCons (m1 (pu1 D.lenL) (mCons (mVar 1) mNil)) mNil))) (fun (n : Nat) => D.int n) (fun a => a < R.length) 1 n (src_rng hsrc (by omega)) (by rw [List.length_map, List.length_range]; omega) (okl ok1 (by rw [List.length_map, List.length_range]; omega)) fun d hd => by
    refine ⟨[some (.frz .wld), some (.frz (dRules R)), some (.frz (.int most)), some (.frz d)], rfl, fun n w ok => ?_⟩
    obtain ⟨v, w', e, v1, ok'⟩ := draw_nat ok h0.1 (by omega)
    refine ⟨v, [some (.frz .wld), some (.frz (dRules R)), some (.frz (.int most)), some (.frz d)], w', ?_, v1, ok'⟩
    generalize dRules R = X at kl ⊢
    generalize (R.length : Int) = rl at kl e
    simp [sSeq, sIf, sB, sNext, sAsg, sDrop, sRet, sOwn, sMov, sSt2, mSt, sParP, mB, mNot, mOr, mAnd, mOrV, mAndV, mIf, m1, m2, mCons, mNil, mConsD, mConsL, mNilP, setP, Pz.o, mC, mVar, rdV, mTup, mLs, mFz, mItems, mSM, lsOf, matOf, mCh, mCall, mCallN, mBor, mBorF, mBorN, fzE, pu, pu1, pu2, bnd, bdN, bdT, bdL, D.tr, D.isN, D.notN, outF, outN, O.toD, mStar, D.toI, mP, mNoP, mSlL, mSlT, kl, e]
  have h3 : RW [some (.frz .wld), some (.frz (dRules R)), some (.frz (.int most)), none] w = _ := h3
  refine ⟨row, w2, ?_, h2, by rw [h1, List.length_map, List.length_range]; omega, h4⟩
  have kt : D.tupF [.lst (row.map fun (n : Nat) => D.int n)] = some (.tup (dn row)) := rfl
  unfold g__law_sk_row
  rw [hm, hs]
  generalize dRules R = X at h3 ⊢
  simp [sSeq, sIf, sB, sNext, sAsg, sDrop, sRet, sOwn, sMov, sSt2, mSt, sParP, mB, mNot, mOr, mAnd, mOrV, mAndV, mIf, m1, m2, mCons, mNil, mConsD, mConsL, mNilP, setP, Pz.o, mC, mVar, rdV, mTup, mLs, mFz, mItems, mSM, lsOf, matOf, mCh, mCall, mCallN, mBor, mBorF, mBorN, fzE, pu, pu1, pu2, bnd, bdN, bdT, bdL, D.tr, D.isN, D.notN, outF, outN, O.toD, mStar, D.toI, mP, mNoP, mSlL, mSlT, h3, kt]
/-! #### the law's own reading -/
def SA : SM DS := (sAsg (mIf (mB (m2 (pu2 D.neD) (mVar 3) (mFz (mLs mNil)))) (m2 (pu2 D.ix) (m2 (pu2 D.ix) (mVar 0) (m2 (pu2 D.ix) (mVar 3) (mC (.int 0)))) (mVar 5)) (mC .non)) (bdN 6))
def SB : SM DS := (sSeq SA (sSeq (sIf (mB (m2 (pu2 D.isN) (mVar 6) (mC .non))) (sSeq (sRet (mTup (mCons (mC .non) (mCons (mVar 4) mNil)))) sNext) sNext) (sSeq (sAsg (m2 (pu2 D.add) (mFz (mItems (mCons (mVar 6) mNil))) (mFz (mSlL (mVar 3) (mP (mC (.int 1))) mNoP))) (bdN 3)) sNext)))
abbrev eS (R : Rl) (d1 d2 : D) (row : List Nat) (o4 o5 o6 : Option O) : Ev := [some (.frz (dRules R)), some (.frz d1), some (.frz d2), some (.frz (.lst (dn row))), o4, o5, o6]
theorem ne_dn (l : List Nat) : D.neD (.lst (dn l)) (.lst []) = some (.bl (!l.isEmpty)) := by
  rw [ne_nilL (dn_ok l) (by decide)]
  unfold dn
  cases l <;> rfl
theorem SB_nil (R : Rl) (d1 d2 : D) (i x : Int) (o6 : Option O) (w : DS) : SB (eS R d1 d2 [] (some (.frz (.int i))) (some (.frz (.int x))) o6) w = some (.rt (.tup [.non, .int i]) w) := rfl
theorem SA_cons {R : Rl} {d1 d2 : D} {a x : Nat} {r : List Nat} {o : Option (List Nat)} {i : Int} {o6 : Option O} (w : DS) (h : rl R a x = some o) : SA (eS R d1 d2 (a :: r) (some (.frz (.int i))) (some (.frz (.int x))) o6) w = some (.nx (eS R d1 d2 (a :: r) (some (.frz (.int i))) (some (.frz (.int x))) (some (.frz (dR o)))) w) := by
  obtain ⟨row, k1, k2⟩ := rl_ix h
  have k3 := ne_dn (a :: r)
  have k4 : D.ix (.lst (dn (a :: r))) (.int 0) = some (.int a) := atI_nat (xs := dn (a :: r)) (j := 0) rfl
  have k5 : (a :: r).isEmpty = false := rfl
  rw [k5] at k3
  unfold SA
  simp [sSeq, sIf, sB, sNext, sAsg, sDrop, sRet, sOwn, sMov, sSt2, mSt, sParP, mB, mNot, mOr, mAnd, mOrV, mAndV, mIf, m1, m2, mCons, mNil, mConsD, mConsL, mNilP, setP, Pz.o, mC, mVar, rdV, mTup, mLs, mFz, mItems, mSM, lsOf, matOf, mCh, mCall, mCallN, mBor, mBorF, mBorN, fzE, pu, pu1, pu2, bnd, bdN, bdT, bdL, D.tr, D.isN, D.notN, outF, outN, O.toD, mStar, D.toI, mP, mNoP, mSlL, mSlT, k1, k2, k3, k4]
theorem SB_none {R : Rl} {d1 d2 : D} {a x : Nat} {r : List Nat} {i : Int} {o6 : Option O} (w : DS) (h : rl R a x = some none) : SB (eS R d1 d2 (a :: r) (some (.frz (.int i))) (some (.frz (.int x))) o6) w = some (.rt (.tup [.non, .int i]) w) := by
  unfold SB
  rw [sSeq_nx (SA_cons w h)]
  rfl
theorem cut1 (a : Nat) (r : List Nat) : FL.cutD (dn (a :: r)) (some 1) none = dn r := by
  have e : HT.sIx (dn (a :: r)).length 0 (some 1) = 1 := by
    rw [show (some 1 : Option Int) = some ((1 : Nat) : Int) from rfl, HT.sIx_nat, dn_len, List.length_cons]
    omega
  unfold FL.cutD
  rw [HT.sIx_none, e, dn_len, List.length_cons]
  show (dn r).take _ = _
  rw [List.take_of_length_le (by rw [dn_len]; omega)]
theorem SB_some {R : Rl} {d1 d2 : D} {a x : Nat} {r l : List Nat} {i : Int} {o6 : Option O} (w : DS) (h : rl R a x = some (some l)) (hl : l.length + r.length ≤ 16777216) : SB (eS R d1 d2 (a :: r) (some (.frz (.int i))) (some (.frz (.int x))) o6) w = some (.nx (eS R d1 d2 (l ++ r) (some (.frz (.int i))) (some (.frz (.int x))) (some (.frz (.tup (dn l))))) w) := by
  unfold SB
  rw [sSeq_nx (SA_cons w h)]
  have k1 := cut1 a r
  have k2 : D.add (.lst (dn l)) (.lst (dn r)) = some (.lst (dn (l ++ r))) := by
    show (if (dn l).length + (dn r).length ≤ 16777216 then some (D.lst (dn l ++ dn r)) else none) = _
    rw [if_pos (by rw [dn_len, dn_len]; exact hl)]
    unfold dn
    rw [List.map_append]
  have k3 : dR (some l) = .tup (dn l) := rfl
  have k4 : (D.tup (dn l)).its = some (dn l) := rfl
  rw [k3]
  simp [sSeq, sIf, sB, sNext, sAsg, sDrop, sRet, sOwn, sMov, sSt2, mSt, sParP, mB, mNot, mOr, mAnd, mOrV, mAndV, mIf, m1, m2, mCons, mNil, mConsD, mConsL, mNilP, setP, Pz.o, mC, mVar, rdV, mTup, mLs, mFz, mItems, mSM, lsOf, matOf, mCh, mCall, mCallN, mBor, mBorF, mBorN, fzE, pu, pu1, pu2, bnd, bdN, bdT, bdL, D.tr, D.isN, D.notN, outF, outN, O.toD, mStar, D.toI, mP, mNoP, mSlL, mSlT, k1, k2, k4]
theorem sk_gone_loop {R : Rl} {m n : Nat} (hR : GoodR R m n) (d1 d2 : D) (w : DS) : ∀ (text : List Nat) (i : Nat) (row : List Nat) (o4 o5 o6 : Option O), (∀ a ∈ row, a < m) → (∀ x ∈ text, x < n) → row.length + 6 * text.length ≤ 16000000 →
    ∃ p4 p5 p6, sFor SB (bdT [(bdN 4), (bdN 5)]) (((dn text).zipIdx i).map fun p => .tup [.int p.2, p.1]) (eS R d1 d2 row o4 o5 o6) w = (match goneM R row i text with
      | (some row', _) => some (.nx (eS R d1 d2 row' p4 p5 p6) w)
      | (none, j) => some (.rt (.tup [.non, .int j]) w))
  | [], i, row, o4, o5, o6, _, _, _ => ⟨o4, o5, o6, by cases row <;> rfl⟩
  | x :: xs, i, [], o4, o5, o6, _, _, _ => ⟨none, none, none, by
      have e : ((dn (x :: xs)).zipIdx i).map (fun p => D.tup [.int p.2, p.1]) = .tup [.int i, .int x] :: ((dn xs).zipIdx (i + 1)).map (fun p => D.tup [.int p.2, p.1]) := by
        unfold dn
        rw [List.map_cons, List.zipIdx_cons, List.map_cons]
      rw [e, sFor_rt (ρ1 := eS R d1 d2 [] (some (.frz (.int i))) (some (.frz (.int x))) o6) rfl (SB_nil R d1 d2 i x o6 w)]
      rfl⟩
  | x :: xs, i, a :: r, o4, o5, o6, h1, h2, h3 => by
    have e : ((dn (x :: xs)).zipIdx i).map (fun p => D.tup [.int p.2, p.1]) = .tup [.int i, .int x] :: ((dn xs).zipIdx (i + 1)).map (fun p => D.tup [.int p.2, p.1]) := by
      unfold dn
      rw [List.map_cons, List.zipIdx_cons, List.map_cons]
    obtain ⟨o, ho, hl⟩ := hR a (h1 a List.mem_cons_self) x (h2 x List.mem_cons_self)
    rw [List.length_cons] at h3
    cases o with
    | none =>
      refine ⟨none, none, none, ?_⟩
      rw [e, sFor_rt (ρ1 := eS R d1 d2 (a :: r) (some (.frz (.int i))) (some (.frz (.int x))) o6) rfl (SB_none w ho)]
      conv => rhs; unfold goneM
      rw [ho]
    | some l =>
      have ll := hl l rfl
      obtain ⟨p4, p5, p6, ih⟩ := sk_gone_loop hR d1 d2 w xs (i + 1) (l ++ r) (some (.frz (.int i))) (some (.frz (.int x))) (some (.frz (.tup (dn l)))) (fun b hb => by
        rcases List.mem_append.mp hb with hb | hb
        · exact ll.1 b hb
        · exact h1 b (List.mem_cons_of_mem _ hb)) (fun y hy => h2 y (List.mem_cons_of_mem _ hy)) (by rw [List.length_append]; rw [List.length_cons] at h3; omega)
      refine ⟨p4, p5, p6, ?_⟩
      rw [e, sFor_nx (ρ1 := eS R d1 d2 (a :: r) (some (.frz (.int i))) (some (.frz (.int x))) o6) rfl (SB_some w ho (by rw [List.length_cons] at h3; omega)), ih]
      conv => rhs; unfold goneM
      rw [ho]
theorem sk_gone_ok {R : Rl} {m n : Nat} (hR : GoodR R m n) {row text : List Nat} (h1 : ∀ a ∈ row, a < m) (h2 : ∀ x ∈ text, x < n) (h3 : row.length + 6 * text.length ≤ 16000000) (w : DS) : g__law_sk_gone [dRules R, .tup (dn row), .tup (dn text)] w = some (.ok (.tup [dR (goneM R row 0 text).1, .int ((goneM R row 0 text).2 : Nat)]) w) := by
  have hm : m__law_sk_gone = (sSeq (sAsg (mFz (mItems (mCons (mVar 1) mNil))) (bdN 3)) (sSeq (sForM (m1 (fun ds => pu (D.enumA ds)) (mCons (mVar 2) mNil)) (bdT [(bdN 4), (bdN 5)]) SB) (sSeq (sRet (mTup (mCons (m1 (pu1 D.tupF) (mCons (mVar 3) mNil)) (mCons (m1 (pu1 D.lenL) (mCons (mVar 2) mNil)) mNil)))) sNext))) := rfl
  have hs : startE 7 [dRules R, .tup (dn row), .tup (dn text)] = [some (.frz (dRules R)), some (.frz (.tup (dn row))), some (.frz (.tup (dn text))), none, none, none, none] := rfl
  have a1 : sAsg (mFz (mItems (mCons (mVar 1) mNil))) (bdN 3) [some (.frz (dRules R)), some (.frz (.tup (dn row))), some (.frz (.tup (dn text))), none, none, none, none] w = some (.nx (eS R (.tup (dn row)) (.tup (dn text)) row none none none) w) := rfl
  obtain ⟨p4, p5, p6, e⟩ := sk_gone_loop hR (.tup (dn row)) (.tup (dn text)) w text 0 row none none none h1 h2 h3
  have a2 : sForM (m1 (fun ds => pu (D.enumA ds)) (mCons (mVar 2) mNil)) (bdT [(bdN 4), (bdN 5)]) SB (eS R (.tup (dn row)) (.tup (dn text)) row none none none) w = sFor SB (bdT [(bdN 4), (bdN 5)]) (((dn text).zipIdx 0).map fun p => .tup [.int p.2, p.1]) (eS R (.tup (dn row)) (.tup (dn text)) row none none none) w := by
    rw [sForM_ok (ds := ((dn text).zipIdx 0).map fun p => .tup [.int p.2, p.1]) (ρ' := eS R (.tup (dn row)) (.tup (dn text)) row none none none) (w' := w) rfl]
  unfold g__law_sk_gone
  rw [hm, hs, sSeq_nx a1]
  cases hg : goneM R row 0 text with
  | mk o j =>
    rw [hg] at e
    cases o with
    | none =>
      rw [sSeq_rt (a2.trans e)]
      rfl
    | some row' =>
      have hj : j = text.length := by
        have := goneM_idx R text row 0 j row' hg
        omega
      rw [sSeq_nx (a2.trans e)]
      have k := len_dn text
      subst hj
      have kt : D.tupF [.lst (dn row')] = some (.tup (dn row')) := rfl
      generalize dn text = dt at k ⊢
      simp [sSeq, sIf, sB, sNext, sAsg, sDrop, sRet, sOwn, sMov, sSt2, mSt, sParP, mB, mNot, mOr, mAnd, mOrV, mAndV, mIf, m1, m2, mCons, mNil, mConsD, mConsL, mNilP, setP, Pz.o, mC, mVar, rdV, mTup, mLs, mFz, mItems, mSM, lsOf, matOf, mCh, mCall, mCallN, mBor, mBorF, mBorN, fzE, pu, pu1, pu2, bnd, bdN, bdT, bdL, D.tr, D.isN, D.notN, outF, outN, O.toD, mStar, D.toI, mP, mNoP, mSlL, mSlT, k, kt, dR]
end K03
set_option maxRecDepth 100000
set_option maxHeartbeats 4000000
namespace K03
open PySem PySem.Spec PyProof.Rows L2 FL
/-! ### drawn texts -/
def TC : M DS (List D) := (mLc (m1 (fun ds => pu (D.enumA ds)) (mCons (m2 (pu2 D.ix) (mVar 1) (m2 (pu2 D.ix) (mVar 6) (mC (.int 0)))) mNil)) [9, 10] (bdT [(bdN 9), (bdN 10)]) (mB (m2 (pu2 D.notN) (mVar 10) (mC .non))) (mVar 9))
def TS : SM DS := (sAsg (mIf (mB (m2 (pu2 D.neD) (mVar 6) (mTup mNil))) (mFz TC) (mFz (mLs mNil))) (bdN 8))
def TA : SM DS := (sSeq (sDrop (mSM 5 fApp (mCons (mCall 2 g__law_draw [] (mCons (mVar 0) (mCons (m1 (pu1 D.lenL) (mCons (m2 (pu2 D.ix) (mVar 1) (mC (.int 0))) mNil)) mNil))) mNil))) (sSeq (sAsg (mTup mNil) (bdN 6)) sNext))
def TB : SM DS := (sSeq (sAsg (mCall 2 g__law_pick [] (mCons (mVar 0) (mCons (mVar 8) mNil))) (bdN 9)) (sSeq (sDrop (mSM 5 fApp (mCons (mVar 9) mNil))) (sSeq (sAsg (m2 (pu2 D.add) (m2 (pu2 D.ix) (m2 (pu2 D.ix) (mVar 1) (m2 (pu2 D.ix) (mVar 6) (mC (.int 0)))) (mVar 9)) (mSlT (mVar 6) (mP (mC (.int 1))) mNoP)) (bdN 6)) sNext)))
def TI : SM DS := (sIf (mOr (mB (m2 (pu2 D.eqD) (mVar 4) (mC (.int 3)))) (mB (m2 (pu2 D.eqD) (mVar 8) (mFz (mLs mNil))))) TA TB)
def TL : SM DS := (sSeq TS (sSeq TI sNext))
def TE : SM DS := (sIf (mBor (mAnd (mB (m2 (pu2 D.eqD) (mVar 4) (mC (.int 2)))) (mB (m2 (pu2 D.neD) (mVar 5) (mFz (mLs mNil)))))) (sSeq (mSt 5 (mCall 2 g__law_draw [] (mCons (mVar 0) (mCons (m1 (pu1 D.lenL) (mCons (m2 (pu2 D.ix) (mVar 1) (mC (.int 0))) mNil)) mNil))) (mBorF (mCall 2 g__law_draw [] (mCons (mVar 0) (mCons (m1 (pu1 D.lenL) (mCons (mVar 5) mNil)) mNil))))) sNext) sNext)
abbrev eT (R : Rl) (row : List Nat) (most way : Nat) (t l : List Nat) (o7 o8 o9 o10 : Option O) : Ev := [some (.frz .wld), some (.frz (dRules R)), some (.frz (.tup (dn row))), some (.frz (.int most)), some (.frz (.int way)), some (.lst (dn t)), some (.frz (.tup (dn l))), o7, o8, o9, o10]
theorem ix_R {R : Rl} {a : Nat} {line : List (Option (List Nat))} (h : R[a]? = some line) : D.ix (dRules R) (.int a) = some (.tup (line.map dR)) := by
  show atI (R.map fun l => D.tup (l.map dR)) (a : Int) = _
  exact atI_nat (by rw [List.getElem?_map, h]; rfl)
theorem ix_row {line : List (Option (List Nat))} {x : Nat} {r : Option (List Nat)} (h : line[x]? = some r) : D.ix (.tup (line.map dR)) (.int x) = some (dR r) := by
  show atI (line.map dR) (x : Int) = _
  exact atI_nat (by rw [List.getElem?_map, h]; rfl)
def opens (line : List (Option (List Nat))) : List Nat := (line.zipIdx.filter fun p => p.1.isSome).map (·.2)
theorem mem_opens {line : List (Option (List Nat))} {x : Nat} (h : x ∈ opens line) : ∃ c, line[x]? = some (some c) := by
  unfold opens at h
  obtain ⟨p, h1, rfl⟩ := List.mem_map.mp h
  rw [List.mem_filter] at h1
  obtain ⟨r, i⟩ := p
  have h2 := List.mem_zipIdx h1.1
  simp at h2
  obtain ⟨c, hc⟩ := Option.isSome_iff_exists.mp h1.2
  refine ⟨c, ?_⟩
  have hc : r = some c := hc
  show line[i]? = _
  rw [List.getElem?_eq_getElem h2.1, ← h2.2, hc]
theorem ne_dnT (l : List Nat) : D.neD (.tup (dn l)) (.tup []) = some (.bl (!l.isEmpty)) := by
  have k := eq_nilT (dn_ok l) (by decide)
  unfold D.eqD at k
  unfold D.neD
  cases z : D.eq (.tup (dn l)) (.tup []) with
  | none =>
    rw [z] at k
    cases k
  | some b =>
    rw [z] at k
    have : b = (dn l).isEmpty := by
      have := Option.some.inj k
      cases this
      rfl
    rw [this]
    cases l <;> rfl
section
variable {R : Rl} {k : Nat} (h : Pg R k) (row : List Nat) (most way : Nat)
include h
theorem TC_ok {a : Nat} {l : List Nat} {line : List (Option (List Nat))} (ha : R[a]? = some line) (t : List Nat) (o7 o8 o9 o10 : Option O) (w : DS) : TC (eT R row most way t (a :: l) o7 o8 o9 o10) w = some (.ok (dn (opens line)) (eT R row most way t (a :: l) o7 o8 o9 o10) w) := by
  have e : dn (opens line) = (line.zipIdx.filter fun p => p.1.isSome).map fun p => .int p.2 := by
    unfold dn opens
    rw [List.map_map]
    rfl
  rw [e]
  have hl := List.mem_of_getElem? ha
  refine mLc_of line.zipIdx (fun p => .tup [.int p.2, dR p.1]) (fun p => p.1.isSome) (fun p => .int p.2) ?_ (by rw [List.length_zipIdx, (h.row line hl).1]; have := h.kk; omega) fun p hp => ?_
  · have k1 := ix_R ha
    have k2 : D.ix (.tup (dn (a :: l))) (.int 0) = some (.int a) := atI_nat (xs := dn (a :: l)) (j := 0) rfl
    have k3 : D.enumA [.tup (line.map dR)] = some (line.zipIdx.map fun p => .tup [.int p.2, dR p.1]) := by
      show some (enumD (line.map dR)) = _
      have : enumD (line.map dR) = ((line.map dR).zipIdx 0).map fun p => D.tup [.int p.2, p.1] := rfl
      rw [this, List.zipIdx_map, List.map_map]
      rfl
    simp [sSeq, sIf, sB, sNext, sAsg, sDrop, sRet, sOwn, sMov, sSt2, mSt, sParP, mB, mNot, mOr, mAnd, mOrV, mAndV, mIf, m1, m2, mCons, mNil, mConsD, mConsL, mNilP, setP, Pz.o, mC, mVar, rdV, mTup, mLs, mFz, mItems, mSM, lsOf, matOf, mCh, mCall, mCallN, mBor, mBorF, mBorN, fzE, pu, pu1, pu2, bnd, bdN, bdT, bdL, D.tr, D.isN, D.notN, outF, outN, O.toD, mStar, D.toI, mP, mNoP, mSlL, mSlT, k1, k2, k3]
  · obtain ⟨r, x⟩ := p
    refine ⟨[some (.frz .wld), some (.frz (dRules R)), some (.frz (.tup (dn row))), some (.frz (.int most)), some (.frz (.int way)), none, some (.frz (.tup (dn (a :: l)))), hidO o7, hidO o8, some (.frz (.int x)), some (.frz (dR r))], [some (.frz .wld), some (.frz (dRules R)), some (.frz (.tup (dn row))), some (.frz (.int most)), some (.frz (.int way)), none, some (.frz (.tup (dn (a :: l)))), hidO o7, hidO o8, some (.frz (.int x)), some (.frz (dR r))], rfl, ?_, fun _ => ⟨_, rfl⟩⟩
    cases r <;> rfl
theorem TL_ok {t l : List Nat} (ht : t.length < 1000) (hl : ∀ a ∈ l, a < R.length) (hll : l.length ≤ 10000) (o7 o8 o9 o10 : Option O) {n : Nat} {w : DS} (ok : DsOk (n + 1) w) : ∃ (x : Nat) (l' : List Nat) (p8 p9 : Option O) (w' : DS),
    TL (eT R row most way t l o7 o8 o9 o10) w = some (.nx (eT R row most way (t ++ [x]) l' o7 p8 p9 o10) w') ∧ x < k ∧ (∀ a ∈ l', a < R.length) ∧ l'.length ≤ l.length + 6 ∧ DsOk n w' := by
  obtain ⟨S, hSl, hS1, hS2⟩ : ∃ S : List Nat, S.length ≤ 16 ∧ (∀ x ∈ S, ∃ a r c, l = a :: r ∧ rl R a x = some (some c)) ∧ TS (eT R row most way t l o7 o8 o9 o10) w = some (.nx (eT R row most way t l o7 (some (.frz (.lst (dn S)))) o9 o10) w) := by
    cases l with
    | nil => exact ⟨[], by decide, (fun x hx => by cases hx), rfl⟩
    | cons a r =>
      have ha : R[a]? = some (R[a]'(hl a List.mem_cons_self)) := List.getElem?_eq_getElem _
      refine ⟨opens (R[a]'(hl a List.mem_cons_self)), ?_, fun x hx => ?_, ?_⟩
      · unfold opens
        rw [List.length_map]
        refine Nat.le_trans (List.length_filter_le _ _) ?_
        rw [List.length_zipIdx, (h.row _ (List.getElem_mem _)).1]
        have := h.kk
        omega
      · obtain ⟨c, hc⟩ := mem_opens hx
        refine ⟨a, r, c, rfl, ?_⟩
        unfold rl
        rw [ha]
        exact hc
      · have k1 := TC_ok h row most way (l := r) ha t o7 o8 o9 o10 w
        have k2 := ne_dnT (a :: r)
        have k3 : (a :: r).isEmpty = false := rfl
        rw [k3] at k2
        unfold TS
        simp [sSeq, sIf, sB, sNext, sAsg, sDrop, sRet, sOwn, sMov, sSt2, mSt, sParP, mB, mNot, mOr, mAnd, mOrV, mAndV, mIf, m1, m2, mCons, mNil, mConsD, mConsL, mNilP, setP, Pz.o, mC, mVar, rdV, mTup, mLs, mFz, mItems, mSM, lsOf, matOf, mCh, mCall, mCallN, mBor, mBorF, mBorN, fzE, pu, pu1, pu2, bnd, bdN, bdT, bdL, D.tr, D.isN, D.notN, outF, outN, O.toD, mStar, D.toI, mP, mNoP, mSlL, mSlT, k1, k2]
  have k0 : R[0]? = some (R[0]'h.len.1) := List.getElem?_eq_getElem _
  have r0 := ix_R k0
  have r0 : D.ix (dRules R) (.int 0) = some (.tup ((R[0]'h.len.1).map dR)) := r0
  have l0 : D.lenL [.tup ((R[0]'h.len.1).map dR)] = some (.int k) := by
    show some (D.int (((R[0]'h.len.1).map dR).length : Nat)) = _
    rw [List.length_map, (h.row _ (List.getElem_mem _)).1]
  have app : ∀ d, fApp (dn t) [d] = some (.non, dn t ++ [d]) := fun d => by
    unfold fApp
    simp only
    rw [if_pos (by rw [dn_len]; omega)]
  have tadd : ∀ x : Nat, dn t ++ [.int x] = dn (t ++ [x]) := fun x => by
    unfold dn
    rw [List.map_append]
    rfl
  have kw : D.eqD (.int way) (.int 3) = some (.bl (decide (way = 3))) := eqD_nat way 3
  have ks : D.eqD (.lst (dn S)) (.lst []) = some (.bl S.isEmpty) := eqD_nil S
  by_cases hc : way = 3 ∨ S = []
  · obtain ⟨x, w', e1, x1, ok'⟩ := draw_nat ok h.kk.1 (by have := h.kk; omega)
    refine ⟨x, [], some (.frz (.lst (dn S))), o9, w', ?_, x1, (fun a ha => by cases ha), by simp, ok'⟩
    unfold TL
    rw [sSeq_nx hS2]
    have t1 : (mOr (mB (m2 (pu2 D.eqD) (mVar 4) (mC (.int 3)))) (mB (m2 (pu2 D.eqD) (mVar 8) (mFz (mLs mNil)))) : M DS Bool) (eT R row most way t l o7 (some (.frz (.lst (dn S)))) o9 o10) w = some (.ok true (eT R row most way t l o7 (some (.frz (.lst (dn S)))) o9 o10) w) := by
      by_cases h3 : way = 3
      · rw [decide_eq_true h3] at kw
        simp [sSeq, sIf, sB, sNext, sAsg, sDrop, sRet, sOwn, sMov, sSt2, mSt, sParP, mB, mNot, mOr, mAnd, mOrV, mAndV, mIf, m1, m2, mCons, mNil, mConsD, mConsL, mNilP, setP, Pz.o, mC, mVar, rdV, mTup, mLs, mFz, mItems, mSM, lsOf, matOf, mCh, mCall, mCallN, mBor, mBorF, mBorN, fzE, pu, pu1, pu2, bnd, bdN, bdT, bdL, D.tr, D.isN, D.notN, outF, outN, O.toD, mStar, D.toI, mP, mNoP, mSlL, mSlT, kw]
      · rw [decide_eq_false h3] at kw
        have hS : S = [] := hc.resolve_left h3
        rw [hS] at ks ⊢
        have ks : D.eqD (.lst (dn [])) (.lst []) = some (.bl true) := ks
        simp [sSeq, sIf, sB, sNext, sAsg, sDrop, sRet, sOwn, sMov, sSt2, mSt, sParP, mB, mNot, mOr, mAnd, mOrV, mAndV, mIf, m1, m2, mCons, mNil, mConsD, mConsL, mNilP, setP, Pz.o, mC, mVar, rdV, mTup, mLs, mFz, mItems, mSM, lsOf, matOf, mCh, mCall, mCallN, mBor, mBorF, mBorN, fzE, pu, pu1, pu2, bnd, bdN, bdT, bdL, D.tr, D.isN, D.notN, outF, outN, O.toD, mStar, D.toI, mP, mNoP, mSlL, mSlT, kw, ks]
    have a1 : TA (eT R row most way t l o7 (some (.frz (.lst (dn S)))) o9 o10) w = some (.nx (eT R row most way (t ++ [x]) [] o7 (some (.frz (.lst (dn S)))) o9 o10) w') := by
      have ta := tadd x
      have d0 : (dn [] : List D) = [] := rfl
      unfold TA
      simp [sSeq, sIf, sB, sNext, sAsg, sDrop, sRet, sOwn, sMov, sSt2, mSt, sParP, mB, mNot, mOr, mAnd, mOrV, mAndV, mIf, m1, m2, mCons, mNil, mConsD, mConsL, mNilP, setP, Pz.o, mC, mVar, rdV, mTup, mLs, mFz, mItems, mSM, lsOf, matOf, mCh, mCall, mCallN, mBor, mBorF, mBorN, fzE, pu, pu1, pu2, bnd, bdN, bdT, bdL, D.tr, D.isN, D.notN, outF, outN, O.toD, mStar, D.toI, mP, mNoP, mSlL, mSlT, r0, l0, e1, app, ta, d0]
    have i1 : TI (eT R row most way t l o7 (some (.frz (.lst (dn S)))) o9 o10) w = some (.nx (eT R row most way (t ++ [x]) [] o7 (some (.frz (.lst (dn S)))) o9 o10) w') := by
      unfold TI sIf sB
      rw [t1]
      exact a1
    rw [sSeq_nx i1]
    rfl
  · have h3 : way ≠ 3 := fun z => hc (.inl z)
    have hS : S ≠ [] := fun z => hc (.inr z)
    rw [decide_eq_false h3] at kw
    have hSe : S.isEmpty = false := by cases S; exact absurd rfl hS; rfl
    rw [hSe] at ks
    obtain ⟨d, w', e1, d1, ok'⟩ := pick_ok ok (xs := dn S) (fun z => hS (by
      cases S with
      | nil => rfl
      | cons a b => cases z)) (by rw [dn_len]; omega)
    unfold dn at d1
    obtain ⟨x, hx, rfl⟩ := List.mem_map.mp d1
    obtain ⟨a, r, c, rfl, hrl⟩ := hS1 x hx
    obtain ⟨lrow, i1, i2⟩ := rl_ix hrl
    have gr : x < k ∧ (∀ b ∈ c, b < R.length) ∧ c.length ≤ 6 := by
      unfold rl at hrl
      have ha : R[a]? = some (R[a]'(hl a List.mem_cons_self)) := List.getElem?_eq_getElem _
      rw [ha] at hrl
      have hrl : (R[a]'(hl a List.mem_cons_self))[x]? = some (some c) := hrl
      have row := h.row _ (List.getElem_mem (hl a List.mem_cons_self))
      have hx := (List.getElem?_eq_some_iff.mp hrl).1
      exact ⟨by rw [← row.1]; exact hx, row.2 _ (List.mem_of_getElem? hrl) c rfl⟩
    refine ⟨x, c ++ r, some (.frz (.lst (dn S))), some (.frz (.int x)), w', ?_, gr.1, fun b hb => ?_, by rw [List.length_append, List.length_cons]; omega, ok'⟩
    · unfold TL
      rw [sSeq_nx hS2]
      have t1 : (mOr (mB (m2 (pu2 D.eqD) (mVar 4) (mC (.int 3)))) (mB (m2 (pu2 D.eqD) (mVar 8) (mFz (mLs mNil)))) : M DS Bool) (eT R row most way t (a :: r) o7 (some (.frz (.lst (dn S)))) o9 o10) w = some (.ok false (eT R row most way t (a :: r) o7 (some (.frz (.lst (dn S)))) o9 o10) w) := by
        simp [sSeq, sIf, sB, sNext, sAsg, sDrop, sRet, sOwn, sMov, sSt2, mSt, sParP, mB, mNot, mOr, mAnd, mOrV, mAndV, mIf, m1, m2, mCons, mNil, mConsD, mConsL, mNilP, setP, Pz.o, mC, mVar, rdV, mTup, mLs, mFz, mItems, mSM, lsOf, matOf, mCh, mCall, mCallN, mBor, mBorF, mBorN, fzE, pu, pu1, pu2, bnd, bdN, bdT, bdL, D.tr, D.isN, D.notN, outF, outN, O.toD, mStar, D.toI, mP, mNoP, mSlL, mSlT, kw, ks]
      have a1 : TB (eT R row most way t (a :: r) o7 (some (.frz (.lst (dn S)))) o9 o10) w = some (.nx (eT R row most way (t ++ [x]) (c ++ r) o7 (some (.frz (.lst (dn S)))) (some (.frz (.int x))) o10) w') := by
        have ta := tadd x
        have k2 : D.ix (.tup (dn (a :: r))) (.int 0) = some (.int a) := atI_nat (xs := dn (a :: r)) (j := 0) rfl
        have k3 := cut1 a r
        have k4 : D.add (.tup (dn c)) (.tup (dn r)) = some (.tup (dn (c ++ r))) := by
          show (if (dn c).length + (dn r).length ≤ 16777216 then some (D.tup (dn c ++ dn r)) else none) = _
          rw [List.length_cons] at hll
          rw [if_pos (by rw [dn_len, dn_len]; omega)]
          unfold dn
          rw [List.map_append]
        have k5 : dR (some c) = .tup (dn c) := rfl
        rw [k5] at i2
        unfold TB
        simp [sSeq, sIf, sB, sNext, sAsg, sDrop, sRet, sOwn, sMov, sSt2, mSt, sParP, mB, mNot, mOr, mAnd, mOrV, mAndV, mIf, m1, m2, mCons, mNil, mConsD, mConsL, mNilP, setP, Pz.o, mC, mVar, rdV, mTup, mLs, mFz, mItems, mSM, lsOf, matOf, mCh, mCall, mCallN, mBor, mBorF, mBorN, fzE, pu, pu1, pu2, bnd, bdN, bdT, bdL, D.tr, D.isN, D.notN, outF, outN, O.toD, mStar, D.toI, mP, mNoP, mSlL, mSlT, e1, app, ta, k2, k3, k4, i1, i2]
      have i1 : TI (eT R row most way t (a :: r) o7 (some (.frz (.lst (dn S)))) o9 o10) w = some (.nx (eT R row most way (t ++ [x]) (c ++ r) o7 (some (.frz (.lst (dn S)))) (some (.frz (.int x))) o10) w') := by
        unfold TI sIf sB
        rw [t1]
        exact a1
      rw [sSeq_nx i1]
      rfl
    · rcases List.mem_append.mp hb with hb | hb
      · exact gr.2.1 b hb
      · exact hl b (List.mem_cons_of_mem _ hb)
theorem TE_ok {t l : List Nat} (htk : ∀ x ∈ t, x < k) (ht : t.length < 1000) (o7 o8 o9 o10 : Option O) {n : Nat} {w : DS} (ok : DsOk (n + 2) w) : ∃ (t' : List Nat) (w' : DS), TE (eT R row most way t l o7 o8 o9 o10) w = some (.nx (eT R row most way t' l o7 o8 o9 o10) w') ∧ (∀ x ∈ t', x < k) ∧ t'.length = t.length ∧ DsOk n w' := by
  have kw : D.eqD (.int way) (.int 2) = some (.bl (decide (way = 2))) := eqD_nat way 2
  have kt := ne_dn t
  have tb : (mBor (mAnd (mB (m2 (pu2 D.eqD) (mVar 4) (mC (.int 2)))) (mB (m2 (pu2 D.neD) (mVar 5) (mFz (mLs mNil))))) : M DS Bool) (eT R row most way t l o7 o8 o9 o10) w = some (.ok (decide (way = 2) && !t.isEmpty) (eT R row most way t l o7 o8 o9 o10) w) := by
    have e : fzE (eT R row most way t l o7 o8 o9 o10) = [some (.frz .wld), some (.frz (dRules R)), some (.frz (.tup (dn row))), some (.frz (.int most)), some (.frz (.int way)), some (.frz (.lst (dn t))), some (.frz (.tup (dn l))), o7.map fun o => .frz o.toD, o8.map fun o => .frz o.toD, o9.map fun o => .frz o.toD, o10.map fun o => .frz o.toD] := rfl
    unfold mBor
    rw [e]
    by_cases h2 : way = 2
    · rw [decide_eq_true h2] at kw ⊢
      simp [sSeq, sIf, sB, sNext, sAsg, sDrop, sRet, sOwn, sMov, sSt2, mSt, sParP, mB, mNot, mOr, mAnd, mOrV, mAndV, mIf, m1, m2, mCons, mNil, mConsD, mConsL, mNilP, setP, Pz.o, mC, mVar, rdV, mTup, mLs, mFz, mItems, mSM, lsOf, matOf, mCh, mCall, mCallN, mBor, mBorF, mBorN, fzE, pu, pu1, pu2, bnd, bdN, bdT, bdL, D.tr, D.isN, D.notN, outF, outN, O.toD, mStar, D.toI, mP, mNoP, mSlL, mSlT, kw, kt]
    · rw [decide_eq_false h2] at kw ⊢
      simp [sSeq, sIf, sB, sNext, sAsg, sDrop, sRet, sOwn, sMov, sSt2, mSt, sParP, mB, mNot, mOr, mAnd, mOrV, mAndV, mIf, m1, m2, mCons, mNil, mConsD, mConsL, mNilP, setP, Pz.o, mC, mVar, rdV, mTup, mLs, mFz, mItems, mSM, lsOf, matOf, mCh, mCall, mCallN, mBor, mBorF, mBorN, fzE, pu, pu1, pu2, bnd, bdN, bdT, bdL, D.tr, D.isN, D.notN, outF, outN, O.toD, mStar, D.toI, mP, mNoP, mSlL, mSlT, kw]
  by_cases hc : way = 2 ∧ t ≠ []
  · obtain ⟨x, w1, e1, x1, ok1⟩ := draw_nat (n := n + 1) ok h.kk.1 (by have := h.kk; omega)
    have ht0 : 0 < t.length := by
      cases t with
      | nil => exact absurd rfl hc.2
      | cons a b => simp
    obtain ⟨y, w2, e2, y1, ok2⟩ := draw_nat (n := n) ok1 ht0 (by omega)
    have tt : (decide (way = 2) && !t.isEmpty) = true := by
      rw [decide_eq_true hc.1]
      cases t with
      | nil => exact absurd rfl hc.2
      | cons a b => rfl
    rw [tt] at tb
    have k0 : R[0]? = some (R[0]'h.len.1) := List.getElem?_eq_getElem _
    have r0 : D.ix (dRules R) (.int 0) = some (.tup ((R[0]'h.len.1).map dR)) := ix_R k0
    have l0 : D.lenL [.tup ((R[0]'h.len.1).map dR)] = some (.int k) := by
      show some (D.int (((R[0]'h.len.1).map dR).length : Nat)) = _
      rw [List.length_map, (h.row _ (List.getElem_mem _)).1]
    have e : fzE (eT R row most way t l o7 o8 o9 o10) = [some (.frz .wld), some (.frz (dRules R)), some (.frz (.tup (dn row))), some (.frz (.int most)), some (.frz (.int way)), some (.frz (.lst (dn t))), some (.frz (.tup (dn l))), o7.map fun o => .frz o.toD, o8.map fun o => .frz o.toD, o9.map fun o => .frz o.toD, o10.map fun o => .frz o.toD] := rfl
    have lt : D.lenL [.lst (dn t)] = some (.int t.length) := by
      show some (D.int ((dn t).length : Nat)) = _
      rw [dn_len]
    have mi : mBorF (mCall 2 g__law_draw [] (mCons (mVar 0) (mCons (m1 (pu1 D.lenL) (mCons (mVar 5) mNil)) mNil))) (eT R row most way t l o7 o8 o9 o10) w1 = some (.ok (.int y) (eT R row most way t l o7 o8 o9 o10) w2) := by
      have z : (mCall 2 g__law_draw [] (mCons (mVar 0) (mCons (m1 (pu1 D.lenL) (mCons (mVar 5) mNil)) mNil)) : M DS D) (fzE (eT R row most way t l o7 o8 o9 o10)) w1 = some (.ok (.int y) (fzE (eT R row most way t l o7 o8 o9 o10)) w2) := by
        rw [e]
        simp [sSeq, sIf, sB, sNext, sAsg, sDrop, sRet, sOwn, sMov, sSt2, mSt, sParP, mB, mNot, mOr, mAnd, mOrV, mAndV, mIf, m1, m2, mCons, mNil, mConsD, mConsL, mNilP, setP, Pz.o, mC, mVar, rdV, mTup, mLs, mFz, mItems, mSM, lsOf, matOf, mCh, mCall, mCallN, mBor, mBorF, mBorN, fzE, pu, pu1, pu2, bnd, bdN, bdT, bdL, D.tr, D.isN, D.notN, outF, outN, O.toD, mStar, D.toI, mP, mNoP, mSlL, mSlT, lt, e2]
      unfold mBorF
      rw [z]
      rfl
    have mv : (mCall 2 g__law_draw [] (mCons (mVar 0) (mCons (m1 (pu1 D.lenL) (mCons (m2 (pu2 D.ix) (mVar 1) (mC (.int 0))) mNil)) mNil)) : M DS D) (eT R row most way t l o7 o8 o9 o10) w = some (.ok (.int x) (eT R row most way t l o7 o8 o9 o10) w1) := by
      simp [sSeq, sIf, sB, sNext, sAsg, sDrop, sRet, sOwn, sMov, sSt2, mSt, sParP, mB, mNot, mOr, mAnd, mOrV, mAndV, mIf, m1, m2, mCons, mNil, mConsD, mConsL, mNilP, setP, Pz.o, mC, mVar, rdV, mTup, mLs, mFz, mItems, mSM, lsOf, matOf, mCh, mCall, mCallN, mBor, mBorF, mBorN, fzE, pu, pu1, pu2, bnd, bdN, bdT, bdL, D.tr, D.isN, D.notN, outF, outN, O.toD, mStar, D.toI, mP, mNoP, mSlL, mSlT, r0, l0, e1]
    have g5 : (eT R row most way t l o7 o8 o9 o10)[5]? = some (some (.lst (dn t))) := rfl
    have ix : ixN (dn t).length (y : Int) = some y := ixN_nat (by rw [dn_len]; exact y1)
    have st : (dn t).set y (.int x) = dn (t.set y x) := by
      unfold dn
      rw [List.map_set]
    refine ⟨t.set y x, w2, ?_, fun z hz => ?_, by rw [List.length_set], ok2⟩
    · unfold TE sIf sB
      rw [tb]
      show sSeq _ _ _ _ = _
      have ms : mSt 5 (mCall 2 g__law_draw [] (mCons (mVar 0) (mCons (m1 (pu1 D.lenL) (mCons (m2 (pu2 D.ix) (mVar 1) (mC (.int 0))) mNil)) mNil))) (mBorF (mCall 2 g__law_draw [] (mCons (mVar 0) (mCons (m1 (pu1 D.lenL) (mCons (mVar 5) mNil)) mNil)))) (eT R row most way t l o7 o8 o9 o10) w = some (.nx (eT R row most way (t.set y x) l o7 o8 o9 o10) w2) := by
        unfold mSt
        rw [mv]
        unfold sB
        simp only
        rw [g5]
        simp only [lsOf]
        rw [mi]
        simp only
        rw [g5]
        simp only [lsOf, ix, st]
        rfl
      rw [sSeq_nx ms]
      rfl
    · rcases List.mem_or_eq_of_mem_set hz with hz | rfl
      · exact htk z hz
      · exact x1
  · refine ⟨t, w, ?_, htk, rfl, okl ok (by omega)⟩
    have tt : (decide (way = 2) && !t.isEmpty) = false := by
      by_cases h2 : way = 2
      · have : t = [] := Classical.byContradiction fun z => hc ⟨h2, z⟩
        rw [this]
        simp
      · rw [decide_eq_false h2]
        rfl
    rw [tt] at tb
    unfold TE sIf sB
    rw [tb]
    rfl
theorem sk_text_ok (hrow : ∀ a ∈ row, a < R.length) (hr : row.length ≤ 1000) (hmo : most ≤ 100) {n : Nat} {w : DS} (ok : DsOk (n + 200) w) : ∃ (t : List Nat) (w' : DS), g__law_sk_text [.wld, dRules R, .tup (dn row), .int most] w = some (.ok (.tup (dn t)) w') ∧ (∀ x ∈ t, x < k) ∧ t.length ≤ most ∧ DsOk n w' := by
  have hm : m__law_sk_text = (sSeq (sParP [4, 5, 6] (mConsD (mCall 2 g__law_draw [] (mCons (mVar 0) (mCons (mC (.int 4)) mNil))) (mConsL (mLs mNil) (mConsD (m1 (pu1 D.tupF) (mCons (mVar 2) mNil)) mNilP)))) (sSeq (sForM (m1 (fun ds => pu (D.rng1 ds)) (mCons (mCall 2 g__law_draw [] (mCons (mVar 0) (mCons (m2 (pu2 D.add) (mVar 3) (mC (.int 1))) mNil))) mNil)) (bdN 7) TL) (sSeq TE (sSeq (sRet (m1 (pu1 D.tupF) (mCons (mVar 5) mNil))) sNext)))) := rfl
  have hs : startE 11 [.wld, dRules R, .tup (dn row), .int most] = [some (.frz .wld), some (.frz (dRules R)), some (.frz (.tup (dn row))), some (.frz (.int most)), none, none, none, none, none, none, none] := rfl
  obtain ⟨way, w1, e1, x1, ok1⟩ := draw_nat (n := n + 199) ok (room := 4) (by decide) (by decide)
  obtain ⟨v, w2, e2, x2, ok2⟩ := draw_nat (n := n + 198) ok1 (room := most + 1) (by omega) (by omega)
  have e1 : g__law_draw [.wld, .int 4] w = some (.ok (.int way) w1) := e1
  have a1 : sParP [4, 5, 6] (mConsD (mCall 2 g__law_draw [] (mCons (mVar 0) (mCons (mC (.int 4)) mNil))) (mConsL (mLs mNil) (mConsD (m1 (pu1 D.tupF) (mCons (mVar 2) mNil)) mNilP))) [some (.frz .wld), some (.frz (dRules R)), some (.frz (.tup (dn row))), some (.frz (.int most)), none, none, none, none, none, none, none] w = some (.nx (eT R row most way [] row none none none none) w1) := by
    have kt : D.tupF [.tup (dn row)] = some (.tup (dn row)) := rfl
    have d0 : (dn [] : List D) = [] := rfl
    dsimp only [eT]
    rw [d0]
    generalize dRules R = X
    generalize dn row = Y at kt ⊢
    simp [sSeq, sIf, sB, sNext, sAsg, sDrop, sRet, sOwn, sMov, sSt2, mSt, sParP, mB, mNot, mOr, mAnd, mOrV, mAndV, mIf, m1, m2, mCons, mNil, mConsD, mConsL, mNilP, setP, Pz.o, mC, mVar, rdV, mTup, mLs, mFz, mItems, mSM, lsOf, matOf, mCh, mCall, mCallN, mBor, mBorF, mBorN, fzE, pu, pu1, pu2, bnd, bdN, bdT, bdL, D.tr, D.isN, D.notN, outF, outN, O.toD, mStar, D.toI, mP, mNoP, mSlL, mSlT, e1, kt]
  have ka : D.add (.int most) (.int 1) = some (.int ((most + 1 : Nat) : Int)) := add_nat most 1
  have a2 : (mCons (mCall 2 g__law_draw [] (mCons (mVar 0) (mCons (m2 (pu2 D.add) (mVar 3) (mC (.int 1))) mNil))) mNil) (eT R row most way [] row none none none none) w1 = some (.ok [.int v] (eT R row most way [] row none none none none) w2) := by
    generalize ((most + 1 : Nat) : Int) = mm at ka e2
    simp [sSeq, sIf, sB, sNext, sAsg, sDrop, sRet, sOwn, sMov, sSt2, mSt, sParP, mB, mNot, mOr, mAnd, mOrV, mAndV, mIf, m1, m2, mCons, mNil, mConsD, mConsL, mNilP, setP, Pz.o, mC, mVar, rdV, mTup, mLs, mFz, mItems, mSM, lsOf, matOf, mCh, mCall, mCallN, mBor, mBorF, mBorN, fzE, pu, pu1, pu2, bnd, bdN, bdT, bdL, D.tr, D.isN, D.notN, outF, outN, O.toD, mStar, D.toI, mP, mNoP, mSlL, mSlT, ka, e2]
  obtain ⟨ρ3, w3, l1, t, l, p7, p8, p9, p10, rfl, t1, t2, l2, l3, ok3⟩ := sFor_rng (bd := bdN 7) (body := TL) (fun i ρ w => ∃ (t l : List Nat) (p7 p8 p9 p10 : Option O), ρ = eT R row most way t l p7 p8 p9 p10 ∧ t.length = i ∧ (∀ x ∈ t, x < k) ∧ (∀ a ∈ l, a < R.length) ∧ l.length ≤ row.length + 6 * i ∧ DsOk (n + 2 + (v - i)) w) v (fun i ρ w hi hI => by
    obtain ⟨t, l, p7, p8, p9, p10, rfl, t1, t2, l2, l3, ok⟩ := hI
    obtain ⟨x, l', q8, q9, w', e, x1, l4, l5, ok'⟩ := TL_ok (n := n + 2 + (v - (i + 1))) h row most way (t := t) (l := l) (by omega) l2 (by omega) (some (.frz (.int i))) p8 p9 p10 (okl ok (by omega))
    refine ⟨eT R row most way t l (some (.frz (.int i))) p8 p9 p10, rfl, _, w', e, t ++ [x], l', _, _, _, _, rfl, by rw [List.length_append, t1]; rfl, fun y hy => ?_, l4, by omega, ok'⟩
    rcases List.mem_append.mp hy with hy | hy
    · exact t2 y hy
    · rw [List.mem_singleton] at hy
      exact hy ▸ x1) ⟨[], row, none, none, none, none, rfl, rfl, (fun x hx => by cases hx), hrow, by omega, okl ok2 (by omega)⟩
  obtain ⟨t', w4, e4, t3, t4, ok4⟩ := TE_ok h row most way (l := l) (n := n) t2 (by omega) p7 p8 p9 p10 (okl ok3 (by omega))
  refine ⟨t', w4, ?_, t3, by omega, ok4⟩
  unfold g__law_sk_text
  rw [hm, hs, sSeq_nx a1, sSeq_nx ((sForM_ok (src_rng a2 (by omega))).trans l1), sSeq_nx e4]
  rfl
end
end K03
set_option maxRecDepth 100000
set_option maxHeartbeats 4000000
namespace K03
open PySem PySem.Spec PyProof.Rows L2 FL
/-! ### two programs joined -/
def shR (s : Nat) : Option (List Nat) → Option (List Nat) := Option.map fun l => l.map (· + s)
def padN (k s : Nat) (line : List (Option (List Nat))) : List (Option (List Nat)) := line.map (shR s) ++ List.replicate (k - line.length) none
def JR (A B : Rl) (k : Nat) : Rl := A.map (padN k 0) ++ B.map (padN k A.length)
theorem shR_zero (r : Option (List Nat)) : shR 0 r = r := by
  unfold shR
  cases r with
  | none => rfl
  | some l => simp
theorem padN_zero (k : Nat) (line : List (Option (List Nat))) : padN k 0 line = line ++ List.replicate (k - line.length) none := by
  unfold padN
  have : shR 0 = id := funext shR_zero
  rw [this, List.map_id]
theorem padN_len {k s : Nat} {line : List (Option (List Nat))} (h : line.length ≤ k) : (padN k s line).length = k := by
  unfold padN
  rw [List.length_append, List.length_map, List.length_replicate]
  omega
theorem mem_padN {k s : Nat} {line : List (Option (List Nat))} {r : Option (List Nat)} (h : r ∈ padN k s line) {c : List Nat} (hc : r = some c) : ∃ d, some d ∈ line ∧ c = d.map (· + s) := by
  unfold padN at h
  rcases List.mem_append.mp h with h | h
  · obtain ⟨q, h1, h2⟩ := List.mem_map.mp h
    rw [hc] at h2
    cases q with
    | none => cases h2
    | some d =>
      refine ⟨d, h1, ?_⟩
      have h2 : some (d.map (· + s)) = some c := h2
      cases h2
      rfl
  · have := List.eq_of_mem_replicate h
    rw [hc] at this
    cases this
theorem padN_mem {k s : Nat} {line : List (Option (List Nat))} {d : List Nat} (h : some d ∈ line) : some (d.map (· + s)) ∈ padN k s line := by
  unfold padN
  exact List.mem_append_left _ (List.mem_map.mpr ⟨some d, h, rfl⟩)
theorem JR_len (A B : Rl) (k : Nat) : (JR A B k).length = A.length + B.length := by
  unfold JR
  rw [List.length_append, List.length_map, List.length_map]
theorem JR_left {A B : Rl} {k a : Nat} (h : a < A.length) : (JR A B k)[a]? = some (padN k 0 A[a]) := by
  unfold JR
  rw [List.getElem?_append_left (by rw [List.length_map]; exact h), List.getElem?_map, List.getElem?_eq_getElem h]
  rfl
theorem JR_right {A B : Rl} {k b : Nat} (h : b < B.length) : (JR A B k)[b + A.length]? = some (padN k A.length B[b]) := by
  unfold JR
  rw [List.getElem?_append_right (by rw [List.length_map]; omega), List.length_map, Nat.add_sub_cancel, List.getElem?_map, List.getElem?_eq_getElem h]
  rfl
theorem live_left {A B : Rl} {k : Nat} (hc : Calls A A.length) : ∀ n a, a < A.length → lvN A n a = true → lvN (JR A B k) n a = true
  | 0, a, _, h => by cases h
  | n + 1, a, ha, h => by
    unfold lvN at h ⊢
    rw [JR_left ha]
    rw [List.getElem?_eq_getElem ha] at h
    rw [List.any_eq_true] at h ⊢
    obtain ⟨r, h1, h2⟩ := h
    cases r with
    | none => cases h2
    | some l =>
      refine ⟨some (l.map (· + 0)), padN_mem h1, ?_⟩
      simp only at h2 ⊢
      rw [List.all_eq_true] at h2 ⊢
      intro b hb
      obtain ⟨c, hc1, rfl⟩ := List.mem_map.mp hb
      exact live_left hc n _ (hc _ (List.getElem_mem ha) _ h1 l rfl c hc1) (h2 c hc1)
theorem live_right {A B : Rl} {k : Nat} (hc : Calls B B.length) : ∀ n b, b < B.length → lvN B n b = true → lvN (JR A B k) n (b + A.length) = true
  | 0, a, _, h => by cases h
  | n + 1, a, ha, h => by
    unfold lvN at h ⊢
    rw [JR_right ha]
    rw [List.getElem?_eq_getElem ha] at h
    rw [List.any_eq_true] at h ⊢
    obtain ⟨r, h1, h2⟩ := h
    cases r with
    | none => cases h2
    | some l =>
      refine ⟨some (l.map (· + A.length)), padN_mem h1, ?_⟩
      simp only at h2 ⊢
      rw [List.all_eq_true] at h2 ⊢
      intro b hb
      obtain ⟨c, hc1, rfl⟩ := List.mem_map.mp hb
      exact live_right hc n _ (hc _ (List.getElem_mem ha) _ h1 l rfl c hc1) (h2 c hc1)
theorem JR_pg {A B : Rl} {ka kb k : Nat} (hA : Pg A ka) (hB : Pg B kb) (h1 : ka ≤ k) (h2 : kb ≤ k) (h3 : k ≤ 6) (hl : A.length + B.length ≤ 12) : Pg (JR A B k) k := by
  refine ⟨by rw [JR_len]; have := hA.len; omega, by have := hA.kk; omega, fun l hm => ?_, fun a ha => ?_⟩
  · rw [JR_len]
    unfold JR at hm
    rcases List.mem_append.mp hm with hm | hm
    · obtain ⟨q, hq, rfl⟩ := List.mem_map.mp hm
      have row := hA.row q hq
      refine ⟨padN_len (by rw [row.1]; exact h1), fun r hr c hc => ?_⟩
      obtain ⟨d, hd, rfl⟩ := mem_padN hr hc
      have g := row.2 _ hd d rfl
      refine ⟨fun b hb => ?_, by rw [List.length_map]; exact g.2⟩
      obtain ⟨x, hx, rfl⟩ := List.mem_map.mp hb
      have := g.1 x hx
      omega
    · obtain ⟨q, hq, rfl⟩ := List.mem_map.mp hm
      have row := hB.row q hq
      refine ⟨padN_len (by rw [row.1]; exact h2), fun r hr c hc => ?_⟩
      obtain ⟨d, hd, rfl⟩ := mem_padN hr hc
      have g := row.2 _ hd d rfl
      refine ⟨fun b hb => ?_, by rw [List.length_map]; exact g.2⟩
      obtain ⟨x, hx, rfl⟩ := List.mem_map.mp hb
      have := g.1 x hx
      omega
  · rw [JR_len] at ha
    by_cases hlt : a < A.length
    · obtain ⟨n, hn⟩ := hA.live a hlt
      exact ⟨n, live_left hA.calls n a hlt hn⟩
    · obtain ⟨n, hn⟩ := hB.live (a - A.length) (by omega)
      have := live_right (A := A) (k := k) hB.calls n (a - A.length) (by omega) hn
      rw [show a - A.length + A.length = a by omega] at this
      exact ⟨n, this⟩
/-! reading in the joined one -/
theorem rl_padN {R : Rl} {k s a x : Nat} {line : List (Option (List Nat))} (h : R[a]? = some (padN k s line)) (hx : x < line.length) : rl R a x = some (shR s line[x]) := by
  unfold rl padN at *
  rw [h]
  show (line.map (shR s) ++ _)[x]? = _
  rw [List.getElem?_append_left (by rw [List.length_map]; exact hx), List.getElem?_map, List.getElem?_eq_getElem hx]
  rfl
/-- a program that stands in another one, its numbers raised by s -/
def Sub (A R : Rl) (ka s : Nat) : Prop := ∀ a, a < A.length → ∀ x, x < ka → ∃ r, rl A a x = some r ∧ rl R (a + s) x = some (shR s r) ∧ ∀ c, r = some c → ∀ b ∈ c, b < A.length
theorem sub_left {A B : Rl} {ka k : Nat} (hA : Pg A ka) : Sub A (JR A B k) ka 0 := fun a ha x hx => by
  have row := hA.row _ (List.getElem_mem ha)
  have hx' : x < A[a].length := by rw [row.1]; exact hx
  refine ⟨A[a][x], ?_, rl_padN (JR_left ha) hx', fun c hc => (row.2 _ (List.getElem_mem hx') c hc).1⟩
  unfold rl
  rw [List.getElem?_eq_getElem ha]
  exact List.getElem?_eq_getElem hx'
theorem sub_right {A B : Rl} {kb k : Nat} (hB : Pg B kb) : Sub B (JR A B k) kb A.length := fun a ha x hx => by
  have row := hB.row _ (List.getElem_mem ha)
  have hx' : x < B[a].length := by rw [row.1]; exact hx
  refine ⟨B[a][x], ?_, rl_padN (JR_right ha) hx', fun c hc => (row.2 _ (List.getElem_mem hx') c hc).1⟩
  unfold rl
  rw [List.getElem?_eq_getElem ha]
  exact List.getElem?_eq_getElem hx'
theorem gone_sub {A R : Rl} {ka s : Nat} (hS : Sub A R ka s) : ∀ (text row : List Nat) (i : Nat), (∀ a ∈ row, a < A.length) → (∀ x ∈ text, x < ka) → goneM R (row.map (· + s)) i text = (shR s (goneM A row i text).1, (goneM A row i text).2)
  | [], row, i, _, _ => by
    cases row <;> rfl
  | x :: xs, [], i, _, _ => rfl
  | x :: xs, a :: r, i, h1, h2 => by
    obtain ⟨q, e1, e2, e3⟩ := hS a (h1 a List.mem_cons_self) x (h2 x List.mem_cons_self)
    rw [List.map_cons]
    unfold goneM
    rw [e1, e2]
    cases q with
    | none => rfl
    | some l =>
      have ih := gone_sub hS xs (l ++ r) (i + 1) (fun b hb => by
        rcases List.mem_append.mp hb with hb | hb
        · exact e3 l rfl b hb
        · exact h1 b (List.mem_cons_of_mem _ hb)) (fun y hy => h2 y (List.mem_cons_of_mem _ hy))
      show goneM R (l.map (· + s) ++ r.map (· + s)) (i + 1) xs = _
      rw [← List.map_append]
      exact ih
/-! widened, joined -/
def W1 : M DS (List D) := (mLc (mIts (mVar 4)) [5] (bdN 5) mTrue (m2 (pu2 D.add) (mVar 5) (mVar 2)))
def W2 : M DS (List D) := (mLc (mIts (mVar 0)) [4] (bdN 4) mTrue (mIf (mB (m2 (pu2 D.isN) (mVar 4) (mC .non))) (mC .non) (m1 (pu1 D.tupF) (mCons (mFz W1) mNil))))
theorem dn_map (l : List Nat) (s : Nat) : (l.map fun (n : Nat) => D.int ((n + s : Nat) : Int)) = dn (l.map (· + s)) := by
  unfold dn
  rw [List.map_map]
  rfl
theorem W1_ok (l : List Nat) (hl : l.length ≤ 1000) (o0 o1 o3 o5 : Option O) (s : Nat) (w : DS) : W1 [o0, o1, some (.frz (.int s)), o3, some (.frz (.tup (dn l))), o5] w = some (.ok (dn (l.map (· + s))) [o0, o1, some (.frz (.int s)), o3, some (.frz (.tup (dn l))), o5] w) := by
  rw [← dn_map]
  refine mLc_all l (fun (n : Nat) => D.int n) (fun (n : Nat) => D.int ((n + s : Nat) : Int)) ?_ (by omega) fun a _ => ?_
  · rfl
  · exact ⟨_, rfl, _, rfl⟩
theorem W2_ok (line : List (Option (List Nat))) (hn : line.length ≤ 1000) (hl : ∀ r ∈ line, ∀ c, r = some c → c.length ≤ 1000) (o1 o3 o4 o5 : Option O) (s : Nat) (w : DS) : W2 [some (.frz (.tup (line.map dR))), o1, some (.frz (.int s)), o3, o4, o5] w = some (.ok (line.map fun r => dR (shR s r)) [some (.frz (.tup (line.map dR))), o1, some (.frz (.int s)), o3, o4, o5] w) := by
  refine mLc_all line dR (fun r => dR (shR s r)) ?_ (by omega) fun r hr => ?_
  · rfl
  · cases r with
    | none => exact ⟨_, rfl, _, rfl⟩
    | some l =>
      have e := W1_ok l (hl _ hr l rfl) (some (.frz (.tup (line.map dR)))) (hidO o1) (hidO o3) (hidO o5) s w
      have kt : D.tupF [.lst (dn (l.map (· + s)))] = some (.tup (dn (l.map (· + s)))) := rfl
      have ki : dR (shR s (some l)) = .tup (dn (l.map (· + s))) := rfl
      refine ⟨[some (.frz (.tup (line.map dR))), hidO o1, some (.frz (.int s)), hidO o3, some (.frz (.tup (dn l))), hidO o5], rfl, [some (.frz (.tup (line.map dR))), hidO o1, some (.frz (.int s)), hidO o3, some (.frz (.tup (dn l))), hidO o5], ?_⟩
      rw [ki]
      simp [sSeq, sIf, sB, sNext, sAsg, sDrop, sRet, sOwn, sMov, sSt2, mSt, sParP, mB, mNot, mOr, mAnd, mOrV, mAndV, mIf, m1, m2, mCons, mNil, mConsD, mConsL, mNilP, setP, Pz.o, mC, mVar, rdV, mTup, mLs, mFz, mItems, mSM, lsOf, matOf, mCh, mCall, mCallN, mBor, mBorF, mBorN, fzE, pu, pu1, pu2, bnd, bdN, bdT, bdL, D.tr, D.isN, D.notN, outF, outN, O.toD, mStar, D.toI, mP, mNoP, mSlL, mSlT, e, kt]
theorem rep_flat {α : Type} (x : α) : ∀ n : Nat, (List.replicate n [x]).flatten = List.replicate n x
  | 0 => rfl
  | n + 1 => by rw [List.replicate_succ, List.flatten_cons, rep_flat x n, List.replicate_succ]; rfl
theorem sub_nat {a b : Nat} (h : b ≤ a) : D.sub (.int a) (.int b) = some (.int ((a - b : Nat) : Int)) := by
  show some (D.int ((a : Int) - (b : Int))) = _
  congr 2
  omega
theorem sSeq_er {a b : SM DS} {ρ : Ev} {w w1 : DS} {x : Er} (h : a ρ w = some (.er x w1)) : sSeq a b ρ w = some (.er x w1) := by simp only [sSeq, h]
theorem mStar_of {me : M DS D} {mb : M DS (List D)} {ρ ρ1 ρ2 : Ev} {w w1 w2 : DS} {d : D} {xs ds : List D} (h : me ρ w = some (.ok d ρ1 w1)) (hi : d.its = some xs) (hb : mb ρ1 w1 = some (.ok ds ρ2 w2)) : mStar me mb ρ w = some (.ok (xs ++ ds) ρ2 w2) := by
  unfold mStar
  rw [h, bnd_ok, hi]
  simp only
  rw [hb, bnd_ok]
theorem m2_of {α β γ : Type} {f : α → β → M DS γ} {ma : M DS α} {mb : M DS β} {ρ ρ1 ρ2 : Ev} {w w1 w2 : DS} {a : α} {b : β} (h : ma ρ w = some (.ok a ρ1 w1)) (hb : mb ρ1 w1 = some (.ok b ρ2 w2)) : m2 f ma mb ρ w = f a b ρ2 w2 := by
  unfold m2
  rw [h, bnd_ok, hb, bnd_ok]
theorem pu2_of {f : D → D → Option D} {a b d : D} {ρ : Ev} {w : DS} (h : f a b = some d) : (pu2 f a b : M DS D) ρ w = some (.ok d ρ w) := by
  unfold pu2 pu
  rw [h]
theorem mFz_of {ma : M DS (List D)} {ρ ρ' : Ev} {w w' : DS} {ds : List D} (h : ma ρ w = some (.ok ds ρ' w')) : mFz ma ρ w = some (.ok (.lst ds) ρ' w') := by
  unfold mFz m1
  rw [h, bnd_ok]
  rfl
theorem sRet_of {me : M DS D} {ρ ρ' : Ev} {w w' : DS} {d : D} (h : me ρ w = some (.ok d ρ' w')) : sRet me ρ w = some (.rt d w') := by
  unfold sRet sB
  rw [h]
theorem mLs_of {ma : M DS (List D)} {ρ ρ' : Ev} {w w' : DS} {ds : List D} (h : ma ρ w = some (.ok ds ρ' w')) (hl : ds.length ≤ 1000000) : mLs ma ρ w = some (.ok ds ρ' w') := by
  have hl' : ds.length ≤ 16777216 := by omega
  unfold mLs m1
  rw [h, bnd_ok]
  unfold pu
  rw [if_pos hl']
theorem mul_lst {d : D} {n : Nat} (h : n ≤ 1000) : D.mulA (.lst [d]) (.int n) = some (.lst (List.replicate n d)) := by
  have e : [d].length * (n : Int).toNat ≤ 16777216 := by
    rw [List.length_singleton, Int.toNat_natCast]
    omega
  unfold D.mulA
  simp only
  rw [if_pos ⟨by omega, by omega, e⟩]
  unfold repV
  rw [Int.toNat_natCast, rep_flat]
theorem mul_tup {d : D} {n : Nat} (h : n ≤ 1000) : D.mulA (.tup [d]) (.int n) = some (.tup (List.replicate n d)) := by
  have e : (([d].length : Nat) : Int) * (n : Int) ≤ 16777216 := by
    rw [List.length_singleton]
    omega
  unfold D.mulA
  simp only
  rw [if_pos ⟨by omega, by omega, e⟩]
  unfold repV
  rw [Int.toNat_natCast, rep_flat]
theorem widened_ok {line : List (Option (List Nat))} {k s : Nat} (h : line.length ≤ k) (hk : k ≤ 6) (hl : ∀ r ∈ line, ∀ c, r = some c → c.length ≤ 1000) (w : DS) : g_widened [.tup (line.map dR), .int k, .int s] w = some (.ok (.lst ((padN k s line).map dR)) w) := by
  have hm : m_widened = (sSeq (sAsg (mFz W2) (bdN 3)) (sSeq (sRet (mFz (mLs (mStar (mVar 3) (mStar (m2 (pu2 D.mulA) (mFz (mLs (mCons (mC .non) mNil))) (m2 (pu2 D.sub) (mVar 1) (m1 (pu1 D.lenL) (mCons (mVar 0) mNil)))) mNil))))) sNext)) := rfl
  have hs : startE 6 [.tup (line.map dR), .int k, .int s] = [some (.frz (.tup (line.map dR))), some (.frz (.int k)), some (.frz (.int s)), none, none, none] := rfl
  have e := W2_ok line (by omega) hl (some (.frz (.int k))) none none none s w
  have k1 : D.lenL [.tup (line.map dR)] = some (.int line.length) := by
    show some (D.int ((line.map dR).length : Nat)) = _
    rw [List.length_map]
  have k2 := sub_nat h
  have k3 : D.mulA (.lst [.non]) (.int ((k - line.length : Nat) : Int)) = some (.lst (List.replicate (k - line.length) .non)) := mul_lst (by omega)
  have k4 : (D.lst (List.replicate (k - line.length) .non)).its = some (List.replicate (k - line.length) .non) := rfl
  have k5 : (padN k s line).map dR = (line.map fun r => dR (shR s r)) ++ List.replicate (k - line.length) .non := by
    unfold padN
    rw [List.map_append, List.map_map, List.map_replicate]
    rfl
  have k6 : (D.lst (line.map fun r => dR (shR s r))).its = some (line.map fun r => dR (shR s r)) := rfl
  have kc : (line.map fun r => dR (shR s r)).length + (List.replicate (k - line.length) D.non).length ≤ 1000000 := by
    rw [List.length_map, List.length_replicate]
    omega
  unfold g_widened
  rw [hm, hs, k5]
  generalize ((k - line.length : Nat) : Int) = q at k2 k3
  generalize List.replicate (k - line.length) D.non = Q at k3 k4 kc ⊢
  generalize line.map (fun r => dR (shR s r)) = Z at e k6 kc ⊢
  generalize line.map dR = Y at e k1 ⊢
  have a1 : sAsg (mFz W2) (bdN 3) [some (.frz (.tup Y)), some (.frz (.int k)), some (.frz (.int s)), none, none, none] w = some (.nx [some (.frz (.tup Y)), some (.frz (.int k)), some (.frz (.int s)), some (.frz (.lst Z)), none, none] w) := by
    simp [sSeq, sIf, sB, sNext, sAsg, sDrop, sRet, sOwn, sMov, sSt2, mSt, sParP, mB, mNot, mOr, mAnd, mOrV, mAndV, mIf, m1, m2, mCons, mNil, mConsD, mConsL, mNilP, setP, Pz.o, mC, mVar, rdV, mTup, mLs, mFz, mItems, mSM, lsOf, matOf, mCh, mCall, mCallN, mBor, mBorF, mBorN, fzE, pu, pu1, pu2, bnd, bdN, bdT, bdL, D.tr, D.isN, D.notN, outF, outN, O.toD, mStar, D.toI, mP, mNoP, mSlL, mSlT, e]
  have a2 : (mLs (mCons (mC .non) mNil) : M DS (List D)) [some (.frz (.tup Y)), some (.frz (.int k)), some (.frz (.int s)), some (.frz (.lst Z)), none, none] w = some (.ok [.non] [some (.frz (.tup Y)), some (.frz (.int k)), some (.frz (.int s)), some (.frz (.lst Z)), none, none] w) := mLs_of rfl (by decide)
  have a3 : (mStar (mVar 3) (mStar (m2 (pu2 D.mulA) (mFz (mLs (mCons (mC .non) mNil))) (m2 (pu2 D.sub) (mVar 1) (m1 (pu1 D.lenL) (mCons (mVar 0) mNil)))) mNil) : M DS (List D)) [some (.frz (.tup Y)), some (.frz (.int k)), some (.frz (.int s)), some (.frz (.lst Z)), none, none] w = some (.ok (Z ++ Q) [some (.frz (.tup Y)), some (.frz (.int k)), some (.frz (.int s)), some (.frz (.lst Z)), none, none] w) := by
    have b1 : (m2 (pu2 D.sub) (mVar 1) (m1 (pu1 D.lenL) (mCons (mVar 0) mNil)) : M DS D) [some (.frz (.tup Y)), some (.frz (.int k)), some (.frz (.int s)), some (.frz (.lst Z)), none, none] w = some (.ok (.int q) [some (.frz (.tup Y)), some (.frz (.int k)), some (.frz (.int s)), some (.frz (.lst Z)), none, none] w) := by
      simp [sSeq, sIf, sB, sNext, sAsg, sDrop, sRet, sOwn, sMov, sSt2, mSt, sParP, mB, mNot, mOr, mAnd, mOrV, mAndV, mIf, m1, m2, mCons, mNil, mConsD, mConsL, mNilP, setP, Pz.o, mC, mVar, rdV, mTup, mLs, mFz, mItems, mSM, lsOf, matOf, mCh, mCall, mCallN, mBor, mBorF, mBorN, fzE, pu, pu1, pu2, bnd, bdN, bdT, bdL, D.tr, D.isN, D.notN, outF, outN, O.toD, mStar, D.toI, mP, mNoP, mSlL, mSlT, k1, k2]
    have b2 := (m2_of (f := pu2 D.mulA) (mFz_of a2) b1).trans (pu2_of k3)
    have b3 := mStar_of (mb := mNil) b2 k4 rfl
    rw [List.append_nil] at b3
    exact mStar_of (d := .lst Z) rfl k6 b3
  have a4 := mLs_of a3 (by rw [List.length_append]; exact kc)
  rw [sSeq_nx a1, sSeq_rt (sRet_of (mFz_of a4))]
  rfl
theorem need_program_ok' (k : Nat) (R : Rl) (p : D) (w : DS) : g_need_program [PD k R, p] w = some (.ok .non w) := rfl
theorem need_program_no {d : D} (h : D.isiC "Program" [d, .gl "Program"] = some (.bl false)) (p : D) (w : DS) : g_need_program [d, p] w = some (.er ⟨"NoProgram", some ("part", p)⟩ w) := by
  have hs : startE 2 [d, p] = [some (.frz d), some (.frz p)] := rfl
  unfold g_need_program m_need_program
  rw [hs]
  simp [sSeq, sIf, sB, sNext, sAsg, sDrop, sRet, sOwn, sMov, sSt2, mSt, sParP, mB, mNot, mOr, mAnd, mOrV, mAndV, mIf, m1, m2, mCons, mNil, mConsD, mConsL, mNilP, setP, Pz.o, mC, mVar, rdV, mTup, mLs, mFz, mItems, mSM, lsOf, matOf, mCh, mCall, mCallN, mBor, mBorF, mBorN, fzE, pu, pu1, pu2, bnd, bdN, bdT, bdL, D.tr, D.isN, D.notN, outF, outN, O.toD, mStar, D.toI, mP, mNoP, mSlL, mSlT, h, sRaiseF]
def J1 : M DS (List D) := (mLc (mIts (m1 (fun d => pu (d.fldS "Program" "own_rules")) (mVar 0))) [5] (bdN 5) mTrue (mCall 3 g_widened [] (mCons (mVar 5) (mCons (mVar 3) (mCons (mC (.int 0)) mNil)))))
def J2 : M DS (List D) := (mLc (mIts (m1 (fun d => pu (d.fldS "Program" "own_rules")) (mVar 1))) [5] (bdN 5) mTrue (mCall 3 g_widened [] (mCons (mVar 5) (mCons (mVar 3) (mCons (mVar 2) mNil)))))
theorem m_joined_eq : m_joined = (sSeq (sDrop (mCall 2 g_need_program [] (mCons (mVar 0) (mCons (mC (.str "one")) mNil)))) (sSeq (sDrop (mCall 2 g_need_program [] (mCons (mVar 1) (mCons (mC (.str "other")) mNil)))) (sSeq (sAsg (mTup (mCons (m1 (pu1 D.lenL) (mCons (m1 (fun d => pu (d.fldS "Program" "own_rules")) (mVar 0)) mNil)) (mCons (m1 (pu1 D.max2) (mCons (m1 (fun d => pu (d.fldS "Program" "own_letters")) (mVar 0)) (mCons (m1 (fun d => pu (d.fldS "Program" "own_letters")) (mVar 1)) mNil))) mNil))) (bdT [(bdN 2), (bdN 3)])) (sSeq (sIf (mB (m2 (pu2 D.gt) (m2 (pu2 D.add) (mVar 2) (m1 (pu1 D.lenL) (mCons (m1 (fun d => pu (d.fldS "Program" "own_rules")) (mVar 1)) mNil))) (mC (.int 12)))) (sSeq (sRaiseN "NoRoom") sNext) sNext) (sSeq (sAsg (mFz J1) (bdN 4)) (sSeq (sRet (mMake 2 g_Program (mCons (mVar 3) (mCons (mFz (mLs (mStar (mVar 4) (mStar (mFz J2) mNil)))) mNil)))) sNext)))))) := rfl
abbrev eJ (A B : Rl) (ka kb : Nat) (o2 o3 o4 o5 : Option O) : Ev := [some (.frz (PD ka A)), some (.frz (PD kb B)), o2, o3, o4, o5]
theorem max_nat (a b : Nat) : D.max2 [.int a, .int b] = some (.int (Nat.max a b : Nat)) := by
  show some (D.int (if (b : Int) > a then (b : Int) else a)) = _
  congr 2
  by_cases h : (b : Int) > a
  · rw [if_pos h]
    have : Nat.max a b = b := Nat.max_eq_right (by omega)
    rw [this]
  · rw [if_neg h]
    have : Nat.max a b = a := Nat.max_eq_left (by omega)
    rw [this]
theorem gt_nat (a b : Nat) : D.gt (.int a) (.int b) = some (.bl (decide (b < a))) := by
  show some (D.bl (decide ((b : Int) < a))) = _
  congr 2
  exact decide_eq_decide.mpr (by omega)
section
variable {A B : Rl} {ka kb : Nat} (hA : Pg A ka) (hB : Pg B kb)
include hA hB
theorem J1_ok (o2 o4 o5 : Option O) (w : DS) : J1 (eJ A B ka kb o2 (some (.frz (.int (Nat.max ka kb : Nat)))) o4 o5) w = some (.ok (A.map fun l => .lst ((padN (Nat.max ka kb) 0 l).map dR)) (eJ A B ka kb o2 (some (.frz (.int (Nat.max ka kb : Nat)))) o4 o5) w) := by
  refine mLc_all A (fun l => .tup (l.map dR)) (fun l => .lst ((padN (Nat.max ka kb) 0 l).map dR)) rfl (by have := hA.len; omega) fun l hl => ?_
  have row := hA.row l hl
  have e := widened_ok (line := l) (k := Nat.max ka kb) (s := 0) (by rw [row.1]; exact Nat.le_max_left _ _) (Nat.max_le.mpr ⟨hA.kk.2, hB.kk.2⟩) (fun r hr c hc => Nat.le_trans (row.2 r hr c hc).2 (by decide)) w
  have e : g_widened [.tup (l.map dR), .int (Nat.max ka kb : Nat), .int 0] w = _ := e
  refine ⟨[some (.frz (PD ka A)), some (.frz (PD kb B)), hidO o2, some (.frz (.int (Nat.max ka kb : Nat))), hidO o4, some (.frz (.tup (l.map dR)))], rfl, [some (.frz (PD ka A)), some (.frz (PD kb B)), hidO o2, some (.frz (.int (Nat.max ka kb : Nat))), hidO o4, some (.frz (.tup (l.map dR)))], ?_⟩
  generalize Nat.max ka kb = kk at e ⊢
  generalize D.tup (l.map dR) = X at e ⊢
  generalize D.lst ((padN kk 0 l).map dR) = Y at e ⊢
  simp [sSeq, sIf, sB, sNext, sAsg, sDrop, sRet, sOwn, sMov, sSt2, mSt, sParP, mB, mNot, mOr, mAnd, mOrV, mAndV, mIf, m1, m2, mCons, mNil, mConsD, mConsL, mNilP, setP, Pz.o, mC, mVar, rdV, mTup, mLs, mFz, mItems, mSM, lsOf, matOf, mCh, mCall, mCallN, mBor, mBorF, mBorN, fzE, pu, pu1, pu2, bnd, bdN, bdT, bdL, D.tr, D.isN, D.notN, outF, outN, O.toD, mStar, D.toI, mP, mNoP, mSlL, mSlT, e]
theorem J2_ok (s : Nat) (o4 o5 : Option O) (w : DS) : J2 (eJ A B ka kb (some (.frz (.int s))) (some (.frz (.int (Nat.max ka kb : Nat)))) o4 o5) w = some (.ok (B.map fun l => .lst ((padN (Nat.max ka kb) s l).map dR)) (eJ A B ka kb (some (.frz (.int s))) (some (.frz (.int (Nat.max ka kb : Nat)))) o4 o5) w) := by
  refine mLc_all B (fun l => .tup (l.map dR)) (fun l => .lst ((padN (Nat.max ka kb) s l).map dR)) rfl (by have := hB.len; omega) fun l hl => ?_
  have row := hB.row l hl
  have e := widened_ok (line := l) (k := Nat.max ka kb) (s := s) (by rw [row.1]; exact Nat.le_max_right _ _) (Nat.max_le.mpr ⟨hA.kk.2, hB.kk.2⟩) (fun r hr c hc => Nat.le_trans (row.2 r hr c hc).2 (by decide)) w
  refine ⟨[some (.frz (PD ka A)), some (.frz (PD kb B)), some (.frz (.int s)), some (.frz (.int (Nat.max ka kb : Nat))), hidO o4, some (.frz (.tup (l.map dR)))], rfl, [some (.frz (PD ka A)), some (.frz (PD kb B)), some (.frz (.int s)), some (.frz (.int (Nat.max ka kb : Nat))), hidO o4, some (.frz (.tup (l.map dR)))], ?_⟩
  generalize Nat.max ka kb = kk at e ⊢
  generalize D.tup (l.map dR) = X at e ⊢
  generalize D.lst ((padN kk s l).map dR) = Y at e ⊢
  simp [sSeq, sIf, sB, sNext, sAsg, sDrop, sRet, sOwn, sMov, sSt2, mSt, sParP, mB, mNot, mOr, mAnd, mOrV, mAndV, mIf, m1, m2, mCons, mNil, mConsD, mConsL, mNilP, setP, Pz.o, mC, mVar, rdV, mTup, mLs, mFz, mItems, mSM, lsOf, matOf, mCh, mCall, mCallN, mBor, mBorF, mBorN, fzE, pu, pu1, pu2, bnd, bdN, bdT, bdL, D.tr, D.isN, D.notN, outF, outN, O.toD, mStar, D.toI, mP, mNoP, mSlL, mSlT, e]
theorem joined_pre (w : DS) : ∀ (c : Fl DS) (rest : SM DS), (sIf (mB (m2 (pu2 D.gt) (m2 (pu2 D.add) (mVar 2) (m1 (pu1 D.lenL) (mCons (m1 (fun d => pu (d.fldS "Program" "own_rules")) (mVar 1)) mNil))) (mC (.int 12)))) (sSeq (sRaiseN "NoRoom") sNext) sNext) (eJ A B ka kb (some (.frz (.int A.length))) (some (.frz (.int (Nat.max ka kb : Nat)))) none none) w = some (if 12 < A.length + B.length then .er ⟨"NoRoom", none⟩ w else .nx (eJ A B ka kb (some (.frz (.int A.length))) (some (.frz (.int (Nat.max ka kb : Nat)))) none none) w) := fun c rest => by
  have k1 : D.lenL [dRules B] = some (.int B.length) := len_R B
  have k2 := add_nat A.length B.length
  have k3 := gt_nat (A.length + B.length) 12
  have k3 : D.gt (.int ((A.length + B.length : Nat) : Int)) (.int 12) = _ := k3
  have f : (PD kb B).fldS "Program" "own_rules" = some (dRules B) := rfl
  by_cases h : 12 < A.length + B.length
  · rw [if_pos h]
    rw [decide_eq_true h] at k3
    dsimp only [eJ]
    generalize PD kb B = X at f ⊢
    generalize ((A.length + B.length : Nat) : Int) = q at k2 k3
    simp [sSeq, sIf, sB, sNext, sAsg, sDrop, sRet, sOwn, sMov, sSt2, mSt, sParP, mB, mNot, mOr, mAnd, mOrV, mAndV, mIf, m1, m2, mCons, mNil, mConsD, mConsL, mNilP, setP, Pz.o, mC, mVar, rdV, mTup, mLs, mFz, mItems, mSM, lsOf, matOf, mCh, mCall, mCallN, mBor, mBorF, mBorN, fzE, pu, pu1, pu2, bnd, bdN, bdT, bdL, D.tr, D.isN, D.notN, outF, outN, O.toD, mStar, D.toI, mP, mNoP, mSlL, mSlT, k1, k2, k3, f, sRaiseN]
  · rw [if_neg h]
    rw [decide_eq_false h] at k3
    dsimp only [eJ]
    generalize PD kb B = X at f ⊢
    generalize ((A.length + B.length : Nat) : Int) = q at k2 k3
    simp [sSeq, sIf, sB, sNext, sAsg, sDrop, sRet, sOwn, sMov, sSt2, mSt, sParP, mB, mNot, mOr, mAnd, mOrV, mAndV, mIf, m1, m2, mCons, mNil, mConsD, mConsL, mNilP, setP, Pz.o, mC, mVar, rdV, mTup, mLs, mFz, mItems, mSM, lsOf, matOf, mCh, mCall, mCallN, mBor, mBorF, mBorN, fzE, pu, pu1, pu2, bnd, bdN, bdT, bdL, D.tr, D.isN, D.notN, outF, outN, O.toD, mStar, D.toI, mP, mNoP, mSlL, mSlT, k1, k2, k3, f, sRaiseN]
theorem joined_asg (w : DS) : (sAsg (mTup (mCons (m1 (pu1 D.lenL) (mCons (m1 (fun d => pu (d.fldS "Program" "own_rules")) (mVar 0)) mNil)) (mCons (m1 (pu1 D.max2) (mCons (m1 (fun d => pu (d.fldS "Program" "own_letters")) (mVar 0)) (mCons (m1 (fun d => pu (d.fldS "Program" "own_letters")) (mVar 1)) mNil))) mNil))) (bdT [(bdN 2), (bdN 3)])) (eJ A B ka kb none none none none) w = some (.nx (eJ A B ka kb (some (.frz (.int A.length))) (some (.frz (.int (Nat.max ka kb : Nat)))) none none) w) := by
  have k1 : D.lenL [dRules A] = some (.int A.length) := len_R A
  have k2 := max_nat ka kb
  have f1 : (PD ka A).fldS "Program" "own_rules" = some (dRules A) := rfl
  have f2 : (PD ka A).fldS "Program" "own_letters" = some (.int ka) := rfl
  have f3 : (PD kb B).fldS "Program" "own_letters" = some (.int kb) := rfl
  dsimp only [eJ]
  generalize PD ka A = X at f1 f2 ⊢
  generalize PD kb B = Y at f3 ⊢
  generalize ((Nat.max ka kb : Nat) : Int) = q at k2 ⊢
  simp [sSeq, sIf, sB, sNext, sAsg, sDrop, sRet, sOwn, sMov, sSt2, mSt, sParP, mB, mNot, mOr, mAnd, mOrV, mAndV, mIf, m1, m2, mCons, mNil, mConsD, mConsL, mNilP, setP, Pz.o, mC, mVar, rdV, mTup, mLs, mFz, mItems, mSM, lsOf, matOf, mCh, mCall, mCallN, mBor, mBorF, mBorN, fzE, pu, pu1, pu2, bnd, bdN, bdT, bdL, D.tr, D.isN, D.notN, outF, outN, O.toD, mStar, D.toI, mP, mNoP, mSlL, mSlT, k1, k2, f1, f2, f3]
theorem joined_room (h : 12 < A.length + B.length) (w : DS) : g_joined [PD ka A, PD kb B] w = some (.er ⟨"NoRoom", none⟩ w) := by
  have hs : startE 6 [PD ka A, PD kb B] = eJ A B ka kb none none none none := rfl
  have e1 : (sDrop (mCall 2 g_need_program [] (mCons (mVar 0) (mCons (mC (.str "one")) mNil)))) (eJ A B ka kb none none none none) w = some (.nx (eJ A B ka kb none none none none) w) := rfl
  have e2 : (sDrop (mCall 2 g_need_program [] (mCons (mVar 1) (mCons (mC (.str "other")) mNil)))) (eJ A B ka kb none none none none) w = some (.nx (eJ A B ka kb none none none none) w) := rfl
  have e4 := joined_pre hA hB w (.nx [] w) sNext
  rw [if_pos h] at e4
  unfold g_joined
  rw [m_joined_eq, hs, sSeq_nx e1, sSeq_nx e2, sSeq_nx (joined_asg hA hB w), sSeq_er e4]
  rfl
theorem joined_ok (h : A.length + B.length ≤ 12) (w : DS) : g_joined [PD ka A, PD kb B] w = some (.ok (PD (Nat.max ka kb) (JR A B (Nat.max ka kb))) w) := by
  have hs : startE 6 [PD ka A, PD kb B] = eJ A B ka kb none none none none := rfl
  have e1 : (sDrop (mCall 2 g_need_program [] (mCons (mVar 0) (mCons (mC (.str "one")) mNil)))) (eJ A B ka kb none none none none) w = some (.nx (eJ A B ka kb none none none none) w) := rfl
  have e2 : (sDrop (mCall 2 g_need_program [] (mCons (mVar 1) (mCons (mC (.str "other")) mNil)))) (eJ A B ka kb none none none none) w = some (.nx (eJ A B ka kb none none none none) w) := rfl
  have e4 := joined_pre hA hB w (.nx [] w) sNext
  rw [if_neg (by omega)] at e4
  have j1 := J1_ok hA hB (some (.frz (.int A.length))) none none w
  have e5 : (sAsg (mFz J1) (bdN 4)) (eJ A B ka kb (some (.frz (.int A.length))) (some (.frz (.int (Nat.max ka kb : Nat)))) none none) w = some (.nx (eJ A B ka kb (some (.frz (.int A.length))) (some (.frz (.int (Nat.max ka kb : Nat)))) (some (.frz (.lst (A.map fun l => .lst ((padN (Nat.max ka kb) 0 l).map dR))))) none) w) := by
    unfold sAsg sB
    rw [mFz_of j1]
    rfl
  have j2 := mFz_of (J2_ok hA hB A.length (some (.frz (.lst (A.map fun l => .lst ((padN (Nat.max ka kb) 0 l).map dR))))) none w)
  have pr := program_ok (JR_pg (k := Nat.max ka kb) hA hB (Nat.le_max_left _ _) (Nat.le_max_right _ _) (Nat.max_le.mpr ⟨hA.kk.2, hB.kk.2⟩) h) false false w
  have ex : XR false false (JR A B (Nat.max ka kb)) = .lst ((A.map fun l => .lst ((padN (Nat.max ka kb) 0 l).map dR)) ++ (B.map fun l => .lst ((padN (Nat.max ka kb) A.length l).map dR))) := by
    show D.lst ((JR A B (Nat.max ka kb)).map fun l => D.lst (l.map dR)) = _
    unfold JR
    rw [List.map_append, List.map_map, List.map_map]
    rfl
  rw [ex] at pr
  have a3 : (mStar (mVar 4) (mStar (mFz J2) mNil) : M DS (List D)) (eJ A B ka kb (some (.frz (.int A.length))) (some (.frz (.int (Nat.max ka kb : Nat)))) (some (.frz (.lst (A.map fun l => .lst ((padN (Nat.max ka kb) 0 l).map dR))))) none) w = some (.ok ((A.map fun l => .lst ((padN (Nat.max ka kb) 0 l).map dR)) ++ (B.map fun l => .lst ((padN (Nat.max ka kb) A.length l).map dR))) (eJ A B ka kb (some (.frz (.int A.length))) (some (.frz (.int (Nat.max ka kb : Nat)))) (some (.frz (.lst (A.map fun l => .lst ((padN (Nat.max ka kb) 0 l).map dR))))) none) w) := by
    dsimp only [eJ] at j2 ⊢
    generalize mFz J2 = mj at j2 ⊢
    have i1 : ∀ xs, (D.lst xs).its = some xs := fun _ => rfl
    generalize (A.map fun l => D.lst ((padN (Nat.max ka kb) 0 l).map dR)) = X at j2 ⊢
    generalize (B.map fun l => D.lst ((padN (Nat.max ka kb) A.length l).map dR)) = Y at j2 ⊢
    simp [sSeq, sIf, sB, sNext, sAsg, sDrop, sRet, sOwn, sMov, sSt2, mSt, sParP, mB, mNot, mOr, mAnd, mOrV, mAndV, mIf, m1, m2, mCons, mNil, mConsD, mConsL, mNilP, setP, Pz.o, mC, mVar, rdV, mTup, mLs, mFz, mItems, mSM, lsOf, matOf, mCh, mCall, mCallN, mBor, mBorF, mBorN, fzE, pu, pu1, pu2, bnd, bdN, bdT, bdL, D.tr, D.isN, D.notN, outF, outN, O.toD, mStar, D.toI, mP, mNoP, mSlL, mSlT, j2, i1]
  have a4 := mFz_of (mLs_of a3 (by
    rw [List.length_append, List.length_map, List.length_map]
    omega))
  unfold g_joined
  rw [m_joined_eq, hs, sSeq_nx e1, sSeq_nx e2, sSeq_nx (joined_asg hA hB w), sSeq_nx e4, sSeq_nx e5]
  have a5 : (mMake 2 g_Program (mCons (mVar 3) (mCons (mFz (mLs (mStar (mVar 4) (mStar (mFz J2) mNil)))) mNil)) : M DS D) (eJ A B ka kb (some (.frz (.int A.length))) (some (.frz (.int (Nat.max ka kb : Nat)))) (some (.frz (.lst (A.map fun l => .lst ((padN (Nat.max ka kb) 0 l).map dR))))) none) w = some (.ok (PD (Nat.max ka kb) (JR A B (Nat.max ka kb))) (eJ A B ka kb (some (.frz (.int A.length))) (some (.frz (.int (Nat.max ka kb : Nat)))) (some (.frz (.lst (A.map fun l => .lst ((padN (Nat.max ka kb) 0 l).map dR))))) none) w) := by
    dsimp only [eJ] at a4 ⊢
    generalize mFz (mLs (mStar (mVar 4) (mStar (mFz J2) mNil))) = ml at a4 ⊢
    generalize PD (Nat.max ka kb) (JR A B (Nat.max ka kb)) = Z at pr ⊢
    generalize (D.lst ((A.map fun l => .lst ((padN (Nat.max ka kb) 0 l).map dR)) ++ (B.map fun l => .lst ((padN (Nat.max ka kb) A.length l).map dR)))) = X at pr a4 ⊢
    generalize (A.map fun l => D.lst ((padN (Nat.max ka kb) 0 l).map dR)) = Y at a4 ⊢
    generalize Nat.max ka kb = kk at a4 pr ⊢
    unfold mMake
    simp [sSeq, sIf, sB, sNext, sAsg, sDrop, sRet, sOwn, sMov, sSt2, mSt, sParP, mB, mNot, mOr, mAnd, mOrV, mAndV, mIf, m1, m2, mCons, mNil, mConsD, mConsL, mNilP, setP, Pz.o, mC, mVar, rdV, mTup, mLs, mFz, mItems, mSM, lsOf, matOf, mCh, mCall, mCallN, mBor, mBorF, mBorN, fzE, pu, pu1, pu2, bnd, bdN, bdT, bdL, D.tr, D.isN, D.notN, outF, outN, O.toD, mStar, D.toI, mP, mNoP, mSlL, mSlT, a4, pr]
  rw [sSeq_rt (sRet_of a5)]
  rfl
end
theorem joined_no1 {d e : D} (h : D.isiC "Program" [d, .gl "Program"] = some (.bl false)) (w : DS) : g_joined [d, e] w = some (.er ⟨"NoProgram", some ("part", .str "one")⟩ w) := by
  have hs : startE 6 [d, e] = [some (.frz d), some (.frz e), none, none, none, none] := rfl
  have k := need_program_no h (.str "one") w
  have e1 : (sDrop (mCall 2 g_need_program [] (mCons (mVar 0) (mCons (mC (.str "one")) mNil)))) [some (.frz d), some (.frz e), none, none, none, none] w = some (.er ⟨"NoProgram", some ("part", .str "one")⟩ w) := by
    simp [sSeq, sIf, sB, sNext, sAsg, sDrop, sRet, sOwn, sMov, sSt2, mSt, sParP, mB, mNot, mOr, mAnd, mOrV, mAndV, mIf, m1, m2, mCons, mNil, mConsD, mConsL, mNilP, setP, Pz.o, mC, mVar, rdV, mTup, mLs, mFz, mItems, mSM, lsOf, matOf, mCh, mCall, mCallN, mBor, mBorF, mBorN, fzE, pu, pu1, pu2, bnd, bdN, bdT, bdL, D.tr, D.isN, D.notN, outF, outN, O.toD, mStar, D.toI, mP, mNoP, mSlL, mSlT, k]
  unfold g_joined
  rw [m_joined_eq, hs, sSeq_er e1]
  rfl
theorem joined_no2 {A : Rl} {ka : Nat} {d : D} (h : D.isiC "Program" [d, .gl "Program"] = some (.bl false)) (w : DS) : g_joined [PD ka A, d] w = some (.er ⟨"NoProgram", some ("part", .str "other")⟩ w) := by
  have hs : startE 6 [PD ka A, d] = [some (.frz (PD ka A)), some (.frz d), none, none, none, none] := rfl
  have k := need_program_no h (.str "other") w
  have e1 : (sDrop (mCall 2 g_need_program [] (mCons (mVar 0) (mCons (mC (.str "one")) mNil)))) [some (.frz (PD ka A)), some (.frz d), none, none, none, none] w = some (.nx [some (.frz (PD ka A)), some (.frz d), none, none, none, none] w) := rfl
  have e2 : (sDrop (mCall 2 g_need_program [] (mCons (mVar 1) (mCons (mC (.str "other")) mNil)))) [some (.frz (PD ka A)), some (.frz d), none, none, none, none] w = some (.er ⟨"NoProgram", some ("part", .str "other")⟩ w) := by
    simp [sSeq, sIf, sB, sNext, sAsg, sDrop, sRet, sOwn, sMov, sSt2, mSt, sParP, mB, mNot, mOr, mAnd, mOrV, mAndV, mIf, m1, m2, mCons, mNil, mConsD, mConsL, mNilP, setP, Pz.o, mC, mVar, rdV, mTup, mLs, mFz, mItems, mSM, lsOf, matOf, mCh, mCall, mCallN, mBor, mBorF, mBorN, fzE, pu, pu1, pu2, bnd, bdN, bdT, bdL, D.tr, D.isN, D.notN, outF, outN, O.toD, mStar, D.toI, mP, mNoP, mSlL, mSlT, k]
  unfold g_joined
  rw [m_joined_eq, hs, sSeq_nx e1, sSeq_er e2]
  rfl
end K03
set_option maxRecDepth 100000
set_option maxHeartbeats 4000000
namespace K03
open PySem PySem.Spec PyProof.Rows L2 FL
/-! ### the law's statements -/
def LB1 : SM DS := (sPar 3 4 (mCons (mCall 3 g__law_sk_rules [] (mCons (mVar 1) (mCons (mCall 2 g__law_pick [] (mCons (mVar 1) (mCons (mFz (mLs (mCons (mC (.int 3)) (mCons (mC (.int 8)) mNil)))) mNil))) (mCons (mC (.int 4)) mNil)))) (mCons (mCall 3 g__law_sk_rules [] (mCons (mVar 1) (mCons (mCall 2 g__law_pick [] (mCons (mVar 1) (mCons (mFz (mLs (mCons (mC (.int 3)) (mCons (mC (.int 8)) mNil)))) mNil))) (mCons (mC (.int 4)) mNil)))) mNil)))
def LB2 : SM DS := (sAsg (mTup (mCons (mMake 2 g_Program (mCons (m1 (pu1 D.lenL) (mCons (m2 (pu2 D.ix) (mVar 3) (mC (.int 0))) mNil)) (mCons (mVar 3) mNil))) (mCons (mMake 2 g_Program (mCons (m1 (pu1 D.lenL) (mCons (m2 (pu2 D.ix) (mVar 4) (mC (.int 0))) mNil)) (mCons (mVar 4) mNil))) (mCons (m1 (pu1 D.max2) (mCons (m1 (pu1 D.lenL) (mCons (m2 (pu2 D.ix) (mVar 3) (mC (.int 0))) mNil)) (mCons (m1 (pu1 D.lenL) (mCons (m2 (pu2 D.ix) (mVar 4) (mC (.int 0))) mNil)) mNil))) mNil)))) (bdT [(bdN 5), (bdN 6), (bdN 7)]))
def LB3 : SM DS := (sAsg (m1 (pu1 D.lenL) (mCons (mVar 3) mNil)) (bdN 8))
def LB4 : SM DS := (sAsg (mFz (mLc (mIts (mVar 3)) [23] (bdN 23) mTrue (m2 (pu2 D.add) (m1 (pu1 D.tupF) (mCons (mVar 23) mNil)) (m2 (pu2 D.mulA) (mTup (mCons (mC .non) mNil)) (m2 (pu2 D.sub) (mVar 7) (m1 (pu1 D.lenL) (mCons (mVar 23) mNil))))))) (bdN 9))
def LB5 : SM DS := (sAsg (m2 (pu2 D.add) (mVar 9) (mFz (mLc (mIts (mVar 4)) [23] (bdN 23) mTrue (m2 (pu2 D.add) (m1 (pu1 D.tupF) (mCons (mFz (mLc (mIts (mVar 23)) [24] (bdN 24) mTrue (mIf (mB (m2 (pu2 D.isN) (mVar 24) (mC .non))) (mC .non) (m1 (pu1 D.tupF) (mCons (mFz (mLc (mIts (mVar 24)) [25] (bdN 25) mTrue (m2 (pu2 D.add) (mVar 25) (mVar 8)))) mNil))))) mNil)) (m2 (pu2 D.mulA) (mTup (mCons (mC .non) mNil)) (m2 (pu2 D.sub) (mVar 7) (m1 (pu1 D.lenL) (mCons (mVar 23) mNil)))))))) (bdN 9))
def LB6 : SM DS := (sIf (mB (m2 (pu2 D.gt) (m1 (pu1 D.lenL) (mCons (mVar 9) mNil)) (mC (.int 12)))) (sSeq (sIf (mNot (mB (mCall 2 g__law_came [] (mCons (mCaught ["NoProgram", "NoRoom"] (mCall 2 g_joined [] (mCons (mVar 5) (mCons (mVar 6) mNil)))) (mCons (mC (.str "room")) mNil))))) (sSeq (sRet (mC (.bl false))) sNext) sNext) (sSeq sCnt sNext)) sNext)
def LB7 : SM DS := (sAsg (mCall 2 g_joined [] (mCons (mVar 5) (mCons (mVar 6) mNil))) (bdN 10))
def LB8 : SM DS := (sIf (mNot (mB (mCall 2 g__law_same [] (mCons (mFz (mLs (mCons (m1 (fun d => pu (d.fldS "Program" "own_letters")) (mVar 10)) (mCons (m1 (fun d => pu (d.fldS "Program" "own_rules")) (mVar 10)) (mCons (m1 (fun d => pu (d.fldS "Program" "own_rules")) (mCall 2 g_joined [] (m1 (fun ds => pu (if ds.length = 2 then some (pmI [1, 0] ds) else none)) (mCons (mVar 6) (mCons (mVar 5) mNil))))) mNil))))) (mCons (mFz (mLs (mCons (mVar 7) (mCons (m1 (pu1 D.tupF) (mCons (mVar 9) mNil)) (mCons (m1 (pu1 D.tupF) (mCons (mVar 9) mNil)) mNil))))) mNil))))) (sSeq (sRet (mC (.bl false))) sNext) sNext)
def LS9 : M DS (List D) := (m1 (fun ds => pu (D.rng1 ds)) (mCons (mC (.int 6)) mNil))
def LI9 : SM DS := (sSeq (sPar 12 13 (mCons (mCall 3 g__law_sk_row [] (mCons (mVar 1) (mCons (mVar 3) (mCons (mC (.int 3)) mNil)))) (mCons (mCall 3 g__law_sk_row [] (mCons (mVar 1) (mCons (mVar 4) (mCons (mC (.int 3)) mNil)))) mNil))) (sSeq (sPar 14 15 (mCons (mCall 4 g__law_sk_text [] (mCons (mVar 1) (mCons (mVar 3) (mCons (mVar 12) (mCons (mC (.int 8)) mNil))))) (mCons (mCall 4 g__law_sk_text [] (mCons (mVar 1) (mCons (mVar 4) (mCons (mVar 13) (mCons (mC (.int 8)) mNil))))) mNil))) (sSeq (sIf (mNot (mB (mCall 2 g__law_is_truth [] (mCons (mCall 3 g_reads [] (mCons (mVar 10) (mCons (mVar 12) (mCons (mVar 14) mNil)))) (mCons (m2 (pu2 D.eqD) (m2 (pu2 D.ix) (mCall 3 g__law_sk_gone [] (mCons (mVar 3) (mCons (mVar 12) (mCons (mVar 14) mNil)))) (mC (.int 0))) (mTup mNil)) mNil))))) (sSeq (sRet (mC (.bl false))) sNext) sNext) (sSeq (sIf (mNot (mB (mCall 2 g__law_is_truth [] (mCons (mCall 3 g_reads [] (mCons (mVar 10) (mCons (m1 (pu1 D.tupF) (mCons (mFz (mLc (mIts (mVar 13)) [25] (bdN 25) mTrue (m2 (pu2 D.add) (mVar 25) (mVar 8)))) mNil)) (mCons (mVar 15) mNil)))) (mCons (m2 (pu2 D.eqD) (m2 (pu2 D.ix) (mCall 3 g__law_sk_gone [] (mCons (mVar 4) (mCons (mVar 13) (mCons (mVar 15) mNil)))) (mC (.int 0))) (mTup mNil)) mNil))))) (sSeq (sRet (mC (.bl false))) sNext) sNext) sNext))))
abbrev LB9 : SM DS := sForM LS9 (bdN 11) LI9
def LB10 : SM DS := (sAsg (mCall 1 g__law_sk_no_program [] (mCons (mVar 1) mNil)) (bdN 16))
def LS11 : M DS (List D) := (mIts (mFz (mLs (mCons (mTup (mCons (mVar 16) (mCons (mVar 16) (mCons (mC (.str "one")) mNil)))) (mCons (mTup (mCons (mVar 5) (mCons (mVar 16) (mCons (mC (.str "other")) mNil)))) mNil)))))
def LI11 : SM DS := (sSeq (sAsg (mCaught ["NoProgram", "NoRoom"] (mCall 2 g_joined [] (mCons (mVar 17) (mCons (mVar 18) mNil)))) (bdN 20)) (sSeq (sIf (mOr (mNot (mB (mCall 2 g__law_came [] (mCons (mVar 20) (mCons (mC (.str "program")) mNil))))) (mNot (mB (mCall 2 g__law_same [] (mCons (m1 (fun d => pu (d.fldE "part" ["NoProgram"])) (mVar 20)) (mCons (mVar 19) mNil)))))) (sSeq (sRet (mC (.bl false))) sNext) sNext) sNext))
abbrev LB11 : SM DS := sForM LS11 (bdT [(bdN 17), (bdN 18), (bdN 19)]) LI11
def LBz : SM DS := (sSeq LB1 (sSeq LB2 (sSeq LB3 (sSeq LB4 (sSeq LB5 (sSeq LB6 (sSeq LB7 (sSeq LB8 (sSeq LB9 (sSeq LB10 (sSeq LB11 sNext)))))))))))
def LS : M DS (List D) := (m1 (fun ds => pu (D.rng1 ds)) (mCons (m2 (pu2 D.add) (mC (.int 4)) (m1 (pu1 D.min2) (mCons (m1 (pu1 D.lenL) (mCons (mVar 0) mNil)) (mCons (mC (.int 8)) mNil)))) mNil))
def LT1 : SM DS := (sAsg (mTup (mCons (mMake 2 g_Program (mCons (mC (.int 1)) (mCons (m2 (pu2 D.mulA) (mFz (mLs (mCons (mFz (mLs (mCons (mTup mNil) mNil))) mNil))) (mC (.int 6))) mNil))) (mCons (mMake 2 g_Program (mCons (mC (.int 1)) (mCons (m2 (pu2 D.mulA) (mFz (mLs (mCons (mFz (mLs (mCons (mTup mNil) mNil))) mNil))) (mC (.int 7))) mNil))) mNil))) (bdT [(bdN 21), (bdN 22)]))
def LT2 : SM DS := (sRet (mAndV (m2 (pu2 D.eqD) (m1 (pu1 D.lenL) (mCons (m1 (fun d => pu (d.fldS "Program" "own_rules")) (mCall 2 g_joined [] (mCons (mVar 21) (mCons (mVar 21) mNil)))) mNil)) (mC (.int 12))) (mCall 2 g__law_came [] (mCons (mCaught ["NoProgram", "NoRoom"] (mCall 2 g_joined [] (mCons (mVar 21) (mCons (mVar 22) mNil)))) (mCons (mC (.str "room")) mNil)))))
theorem m_law_eq : m_law = sSeq (sForM LS (bdN 2) LBz) (sSeq LT1 (sSeq LT2 sNext)) := rfl
def DrawC : M DS D := (mCall 3 g__law_sk_rules [] (mCons (mVar 1) (mCons (mCall 2 g__law_pick [] (mCons (mVar 1) (mCons (mFz (mLs (mCons (mC (.int 3)) (mCons (mC (.int 8)) mNil)))) mNil))) (mCons (mC (.int 4)) mNil))))
theorem LB1_eq : LB1 = sPar 3 4 (mCons DrawC (mCons DrawC mNil)) := rfl
theorem drawn_ok {n : Nat} {w : DS} (ok : DsOk (n + 1001) w) {ρ : Ev} (h : ρ[1]? = some (some (.frz .wld))) : ∃ (A : Rl) (ka : Nat) (w' : DS), DrawC ρ w = some (.ok (dRules A) ρ w') ∧ Pg A ka ∧ ka ≤ 4 ∧ DsOk n w' := by
  have v : ∀ w : DS, (mVar 1 : M DS D) ρ w = some (.ok .wld ρ w) := fun w => by
    unfold mVar
    rw [h]
    rfl
  obtain ⟨d, w1, e1, d1, ok1⟩ := pick_ok (n := n + 1000) ok (xs := [.int 3, .int 8]) (by simp) (by simp)
  have hd : ∃ P : Nat, d = .int P ∧ 0 < P ∧ P ≤ 12 := by
    rcases List.mem_cons.mp d1 with rfl | d1
    · exact ⟨3, rfl, by decide, by decide⟩
    · rw [List.mem_singleton] at d1
      exact ⟨8, d1, by decide, by decide⟩
  obtain ⟨P, rfl, p1⟩ := hd
  obtain ⟨A, ka, w2, e2, hp, hk, ok2⟩ := sk_rules_ok (n := n) p1 (L := 4) (by decide) ok1
  have e2 : g__law_sk_rules [.wld, .int P, .int 4] w1 = some (.ok (dRules A) w2) := e2
  refine ⟨A, ka, w2, ?_, hp.pg p1.2, hk, ok2⟩
  unfold DrawC
  simp [mCall, m1, m2, mCons, mNil, mC, mFz, mLs, bnd, pu, v, e1, e2]
theorem mCons_of {ma : M DS D} {mb : M DS (List D)} {ρ ρ1 ρ2 : Ev} {w w1 w2 : DS} {a : D} {b : List D} (h : ma ρ w = some (.ok a ρ1 w1)) (hb : mb ρ1 w1 = some (.ok b ρ2 w2)) : mCons ma mb ρ w = some (.ok (a :: b) ρ2 w2) := by
  unfold mCons m2
  rw [h, bnd_ok, hb, bnd_ok]
  rfl
theorem mNil_of (ρ : Ev) (w : DS) : (mNil : M DS (List D)) ρ w = some (.ok [] ρ w) := rfl
theorem sPar_of {i j : Nat} {ma : M DS (List D)} {ρ ρ' : Ev} {w w' : DS} {a b : D} (h : ma ρ w = some (.ok [a, b] ρ' w')) : sPar i j ma ρ w = some (.nx ((ρ'.set i (some (.frz a))).set j (some (.frz b))) w') := by
  unfold sPar sB
  rw [h]
theorem sAsg_of {me : M DS D} {bd : Bd} {ρ ρ' ρ2 : Ev} {w w' : DS} {d : D} (h : me ρ w = some (.ok d ρ' w')) (hb : bd d ρ' = some ρ2) : sAsg me bd ρ w = some (.nx ρ2 w') := by
  unfold sAsg sB
  rw [h]
  simp only
  rw [hb]
theorem add_lst {xs ys : List D} (h : xs.length + ys.length ≤ 1000000) : D.add (.lst xs) (.lst ys) = some (.lst (xs ++ ys)) := by
  have h' : xs.length + ys.length ≤ 16777216 := by omega
  show (if xs.length + ys.length ≤ 16777216 then some (D.lst (xs ++ ys)) else none) = _
  rw [if_pos h']
theorem add_tup {xs ys : List D} (h : xs.length + ys.length ≤ 1000000) : D.add (.tup xs) (.tup ys) = some (.tup (xs ++ ys)) := by
  have h' : xs.length + ys.length ≤ 16777216 := by omega
  show (if xs.length + ys.length ≤ 16777216 then some (D.tup (xs ++ ys)) else none) = _
  rw [if_pos h']
theorem eqD_str {x y : Str} {b : Bool} (hx : SeqAt.shaped (.str x) = true) (hy : SeqAt.shaped (.str y) = true) (hb : PyData.eqv (.str x) (.str y) = b) : D.eqD (.str x) (.str y) = some (.bl b) := by
  unfold D.eqD D.eq
  simp only [D.py]
  rw [if_pos ⟨hx, hy⟩, hb]
  rfl
theorem eq_rr : D.eqD (.str "room") (.str "room") = some (.bl true) := eqD_str (by decide +kernel) (by decide +kernel) (by decide +kernel)
theorem eq_rp : D.eqD (.str "room") (.str "program") = some (.bl false) := eqD_str (by decide +kernel) (by decide +kernel) (by decide +kernel)
theorem eq_pr : D.eqD (.str "program") (.str "room") = some (.bl false) := eqD_str (by decide +kernel) (by decide +kernel) (by decide +kernel)
theorem eq_pp : D.eqD (.str "program") (.str "program") = some (.bl true) := eqD_str (by decide +kernel) (by decide +kernel) (by decide +kernel)
def CM : M DS (List D) := (mLc (mIts (mFz (mLs (mCons (mC (.str "program")) (mCons (mC (.str "room")) mNil))))) [3] (bdN 3) mTrue (m2 (pu2 D.eqD) (mVar 1) (mVar 3)))
theorem CM_ok {x d k : D} {a b : Bool} (h1 : D.eqD x (.str "program") = some (.bl a)) (h2 : D.eqD x (.str "room") = some (.bl b)) (w : DS) : CM [some (.frz d), some (.frz x), some (.frz k), none] w = some (.ok [.bl a, .bl b] [some (.frz d), some (.frz x), some (.frz k), none] w) := by
  have s : (mIts (mFz (mLs (mCons (mC (.str "program")) (mCons (mC (.str "room")) mNil)))) : M DS (List D)) [some (.frz d), some (.frz x), some (.frz k), none] w = some (.ok [.str "program", .str "room"] [some (.frz d), some (.frz x), some (.frz k), none] w) := rfl
  unfold CM mLc
  rw [s, bnd_ok, if_pos (by decide)]
  generalize (D.str "program") = p at h1 ⊢
  generalize (D.str "room") = q at h2 ⊢
  generalize D.eqD = eq at h1 h2 ⊢
  simp [lcGo, hidE, hidO, bdN, mTrue, m2, mVar, rdV, bnd, pu2, pu, h1, h2]
theorem came_ok {e : Er} {x : D} {a b : Bool} (h1 : D.eqD x (.str "program") = some (.bl a)) (h2 : D.eqD x (.str "room") = some (.bl b)) (w : DS)
    (k1 : (D.isiE "NoProgram" ["NoProgram"] ["NoRoom"]) [excD e, .gl "NoProgram"] = some (.bl a)) (k2 : (D.isiE "NoRoom" ["NoRoom"] ["NoProgram"]) [excD e, .gl "NoRoom"] = some (.bl b)) : g__law_came [excD e, x] w = some (.ok (.bl true) w) := by
  have hm : m__law_came = (sSeq (sAsg (mFz (mLs (mCons (m1 (pu1 (D.isiE "NoProgram" ["NoProgram"] ["NoRoom"])) (mCons (mVar 0) (mCons (mC (.gl "NoProgram")) mNil))) (mCons (m1 (pu1 (D.isiE "NoRoom" ["NoRoom"] ["NoProgram"])) (mCons (mVar 0) (mCons (mC (.gl "NoRoom")) mNil))) mNil)))) (bdN 2)) (sSeq (sRet (m2 (pu2 D.eqD) (mVar 2) (mFz CM))) sNext)) := rfl
  have hs : startE 4 [excD e, x] = [some (.frz (excD e)), some (.frz x), none, none] := rfl
  have c := CM_ok (d := excD e) (k := .lst [.bl a, .bl b]) h1 h2 w
  have q : D.eqD (.lst [.bl a, .bl b]) (.lst [.bl a, .bl b]) = some (.bl true) := by
    cases a <;> cases b <;> rfl
  have a1 : sAsg (mFz (mLs (mCons (m1 (pu1 (D.isiE "NoProgram" ["NoProgram"] ["NoRoom"])) (mCons (mVar 0) (mCons (mC (.gl "NoProgram")) mNil))) (mCons (m1 (pu1 (D.isiE "NoRoom" ["NoRoom"] ["NoProgram"])) (mCons (mVar 0) (mCons (mC (.gl "NoRoom")) mNil))) mNil)))) (bdN 2) [some (.frz (excD e)), some (.frz x), none, none] w = some (.nx [some (.frz (excD e)), some (.frz x), some (.frz (.lst [.bl a, .bl b])), none] w) := by
    generalize excD e = z at k1 k2 ⊢
    simp [sSeq, sIf, sB, sNext, sAsg, sDrop, sRet, sOwn, sMov, sSt2, mSt, sParP, mB, mNot, mOr, mAnd, mOrV, mAndV, mIf, m1, m2, mCons, mNil, mConsD, mConsL, mNilP, setP, Pz.o, mC, mVar, rdV, mTup, mLs, mFz, mItems, mSM, lsOf, matOf, mCh, mCall, mCallN, mBor, mBorF, mBorN, fzE, pu, pu1, pu2, bnd, bdN, bdT, bdL, D.tr, D.isN, D.notN, outF, outN, O.toD, mStar, D.toI, mP, mNoP, mSlL, mSlT, k1, k2]
  unfold g__law_came
  rw [hm, hs, sSeq_nx a1]
  have r := (m2_of (f := pu2 D.eqD) (ma := mVar 2) (ρ := [some (.frz (excD e)), some (.frz x), some (.frz (.lst [.bl a, .bl b])), none]) (w := w) rfl (mFz_of c)).trans (pu2_of q)
  rw [sSeq_rt (sRet_of r)]
  rfl
theorem came_room (w : DS) : g__law_came [excD ⟨"NoRoom", none⟩, .str "room"] w = some (.ok (.bl true) w) := came_ok eq_rp eq_rr w rfl rfl
theorem came_part (p : D) (w : DS) : g__law_came [excD ⟨"NoProgram", some ("part", p)⟩, .str "program"] w = some (.ok (.bl true) w) := came_ok eq_pp eq_pr w rfl rfl

section
variable {sc : D} {o2 o3 o4 o5 o6 o7 o8 o9 o10 o11 o12 o13 o14 o15 o16 o17 o18 o19 o20 o21 o22 o23 o24 o25 : Option O}
theorem LB1_ok {n : Nat} {w : DS} (ok : DsOk (n + 2002) w) : ∃ (A : Rl) (ka : Nat) (B : Rl) (kb : Nat) (w' : DS), LB1 [some (.frz sc), some (.frz .wld), o2, o3, o4, o5, o6, o7, o8, o9, o10, o11, o12, o13, o14, o15, o16, o17, o18, o19, o20, o21, o22, o23, o24, o25] w = some (.nx [some (.frz sc), some (.frz .wld), o2, some (.frz (dRules A)), some (.frz (dRules B)), o5, o6, o7, o8, o9, o10, o11, o12, o13, o14, o15, o16, o17, o18, o19, o20, o21, o22, o23, o24, o25] w') ∧ Pg A ka ∧ Pg B kb ∧ ka ≤ 4 ∧ kb ≤ 4 ∧ DsOk n w' := by
  obtain ⟨A, ka, w1, e1, pa, ka4, ok1⟩ := drawn_ok (n := n + 1001) ok (ρ := [some (.frz sc), some (.frz .wld), o2, o3, o4, o5, o6, o7, o8, o9, o10, o11, o12, o13, o14, o15, o16, o17, o18, o19, o20, o21, o22, o23, o24, o25]) rfl
  obtain ⟨B, kb, w2, e2, pb, kb4, ok2⟩ := drawn_ok (n := n) ok1 (ρ := [some (.frz sc), some (.frz .wld), o2, o3, o4, o5, o6, o7, o8, o9, o10, o11, o12, o13, o14, o15, o16, o17, o18, o19, o20, o21, o22, o23, o24, o25]) rfl
  refine ⟨A, ka, B, kb, w2, ?_, pa, pb, ka4, kb4, ok2⟩
  rw [LB1_eq]
  exact sPar_of (mCons_of e1 (mCons_of e2 (mNil_of _ _)))
variable {A B : Rl} {ka kb : Nat} (hA : Pg A ka) (hB : Pg B kb)
include hA hB
theorem LB2_ok (w : DS) : LB2 [some (.frz sc), some (.frz .wld), o2, some (.frz (dRules A)), some (.frz (dRules B)), o5, o6, o7, o8, o9, o10, o11, o12, o13, o14, o15, o16, o17, o18, o19, o20, o21, o22, o23, o24, o25] w = some (.nx [some (.frz sc), some (.frz .wld), o2, some (.frz (dRules A)), some (.frz (dRules B)), some (.frz (PD ka A)), some (.frz (PD kb B)), some (.frz (.int (Nat.max ka kb : Nat))), o8, o9, o10, o11, o12, o13, o14, o15, o16, o17, o18, o19, o20, o21, o22, o23, o24, o25] w) := by
  have kA : A[0]? = some (A[0]'hA.len.1) := List.getElem?_eq_getElem _
  have kB : B[0]? = some (B[0]'hB.len.1) := List.getElem?_eq_getElem _
  have rA := ix_R kA
  have rB := ix_R kB
  have rA : D.ix (dRules A) (.int 0) = some (.tup ((A[0]'hA.len.1).map dR)) := rA
  have rB : D.ix (dRules B) (.int 0) = some (.tup ((B[0]'hB.len.1).map dR)) := rB
  have lA : D.lenL [.tup ((A[0]'hA.len.1).map dR)] = some (.int ka) := by
    show some (D.int (((A[0]'hA.len.1).map dR).length : Nat)) = _
    rw [List.length_map, (hA.row _ (List.getElem_mem _)).1]
  have lB : D.lenL [.tup ((B[0]'hB.len.1).map dR)] = some (.int kb) := by
    show some (D.int (((B[0]'hB.len.1).map dR).length : Nat)) = _
    rw [List.length_map, (hB.row _ (List.getElem_mem _)).1]
  have mx := max_nat ka kb
  have pA : g_Program [.int ka, dRules A] w = some (.ok (PD ka A) w) := program_ok hA true true w
  have pB : g_Program [.int kb, dRules B] w = some (.ok (PD kb B) w) := program_ok hB true true w
  generalize PD ka A = XA at pA ⊢
  generalize PD kb B = XB at pB ⊢
  generalize dRules A = YA at pA rA ⊢
  generalize dRules B = YB at pB rB ⊢
  generalize D.tup ((A[0]'hA.len.1).map dR) = ZA at rA lA
  generalize D.tup ((B[0]'hB.len.1).map dR) = ZB at rB lB
  generalize ((Nat.max ka kb : Nat) : Int) = kk at mx ⊢
  unfold LB2
  simp [sSeq, sIf, sB, sNext, sAsg, sDrop, sRet, sOwn, sMov, sSt2, mSt, sParP, mB, mNot, mOr, mAnd, mOrV, mAndV, mIf, m1, m2, mCons, mNil, mConsD, mConsL, mNilP, setP, Pz.o, mC, mVar, rdV, mTup, mLs, mFz, mItems, mSM, lsOf, matOf, mCh, mCall, mCallN, mBor, mBorF, mBorN, fzE, pu, pu1, pu2, bnd, bdN, bdT, bdL, D.tr, D.isN, D.notN, outF, outN, O.toD, mStar, D.toI, mP, mNoP, mSlL, mSlT, rA, rB, lA, lB, mx, pA, pB, mMake]
theorem LB3_ok (w : DS) : LB3 [some (.frz sc), some (.frz .wld), o2, some (.frz (dRules A)), some (.frz (dRules B)), some (.frz (PD ka A)), some (.frz (PD kb B)), some (.frz (.int (Nat.max ka kb : Nat))), o8, o9, o10, o11, o12, o13, o14, o15, o16, o17, o18, o19, o20, o21, o22, o23, o24, o25] w = some (.nx [some (.frz sc), some (.frz .wld), o2, some (.frz (dRules A)), some (.frz (dRules B)), some (.frz (PD ka A)), some (.frz (PD kb B)), some (.frz (.int (Nat.max ka kb : Nat))), some (.frz (.int A.length)), o9, o10, o11, o12, o13, o14, o15, o16, o17, o18, o19, o20, o21, o22, o23, o24, o25] w) := by
  have l := len_R A
  generalize dRules A = X at l ⊢
  generalize dRules B = Y
  generalize PD ka A = Z
  generalize PD kb B = U
  unfold LB3
  simp [sSeq, sIf, sB, sNext, sAsg, sDrop, sRet, sOwn, sMov, sSt2, mSt, sParP, mB, mNot, mOr, mAnd, mOrV, mAndV, mIf, m1, m2, mCons, mNil, mConsD, mConsL, mNilP, setP, Pz.o, mC, mVar, rdV, mTup, mLs, mFz, mItems, mSM, lsOf, matOf, mCh, mCall, mCallN, mBor, mBorF, mBorN, fzE, pu, pu1, pu2, bnd, bdN, bdT, bdL, D.tr, D.isN, D.notN, outF, outN, O.toD, mStar, D.toI, mP, mNoP, mSlL, mSlT, l]
def C4 : M DS (List D) := (mLc (mIts (mVar 3)) [23] (bdN 23) mTrue (m2 (pu2 D.add) (m1 (pu1 D.tupF) (mCons (mVar 23) mNil)) (m2 (pu2 D.mulA) (mTup (mCons (mC .non) mNil)) (m2 (pu2 D.sub) (mVar 7) (m1 (pu1 D.lenL) (mCons (mVar 23) mNil))))))
omit hA hB in
theorem len_line (l : List (Option (List Nat))) : D.lenL [.tup (l.map dR)] = some (.int l.length) := by
  show some (D.int ((l.map dR).length : Nat)) = _
  rw [List.length_map]
omit hA hB in
theorem pad_D (k s : Nat) (l : List (Option (List Nat))) : (padN k s l).map dR = ((l.map (shR s)).map dR) ++ List.replicate (k - l.length) .non := by
  unfold padN
  rw [List.map_append, List.map_replicate]
  rfl
theorem C4_ok (w : DS) : C4 [some (.frz sc), some (.frz .wld), o2, some (.frz (dRules A)), some (.frz (dRules B)), some (.frz (PD ka A)), some (.frz (PD kb B)), some (.frz (.int (Nat.max ka kb : Nat))), some (.frz (.int A.length)), o9, o10, o11, o12, o13, o14, o15, o16, o17, o18, o19, o20, o21, o22, o23, o24, o25] w = some (.ok (A.map fun l => .tup ((padN (Nat.max ka kb) 0 l).map dR)) [some (.frz sc), some (.frz .wld), o2, some (.frz (dRules A)), some (.frz (dRules B)), some (.frz (PD ka A)), some (.frz (PD kb B)), some (.frz (.int (Nat.max ka kb : Nat))), some (.frz (.int A.length)), o9, o10, o11, o12, o13, o14, o15, o16, o17, o18, o19, o20, o21, o22, o23, o24, o25] w) := by
  refine mLc_all A (fun l => .tup (l.map dR)) (fun l => .tup ((padN (Nat.max ka kb) 0 l).map dR)) rfl (by have := hA.len; omega) fun l hl => ?_
  refine ⟨[some (.frz sc), some (.frz .wld), hidO o2, some (.frz (dRules A)), some (.frz (dRules B)), some (.frz (PD ka A)), some (.frz (PD kb B)), some (.frz (.int (Nat.max ka kb : Nat))), some (.frz (.int A.length)), hidO o9, hidO o10, hidO o11, hidO o12, hidO o13, hidO o14, hidO o15, hidO o16, hidO o17, hidO o18, hidO o19, hidO o20, hidO o21, hidO o22, some (.frz (.tup (l.map dR))), hidO o24, hidO o25], rfl, [some (.frz sc), some (.frz .wld), hidO o2, some (.frz (dRules A)), some (.frz (dRules B)), some (.frz (PD ka A)), some (.frz (PD kb B)), some (.frz (.int (Nat.max ka kb : Nat))), some (.frz (.int A.length)), hidO o9, hidO o10, hidO o11, hidO o12, hidO o13, hidO o14, hidO o15, hidO o16, hidO o17, hidO o18, hidO o19, hidO o20, hidO o21, hidO o22, some (.frz (.tup (l.map dR))), hidO o24, hidO o25], ?_⟩
  have row := hA.row l hl
  have le : l.length ≤ Nat.max ka kb := by rw [row.1]; exact Nat.le_max_left _ _
  have l6 : Nat.max ka kb ≤ 6 := Nat.max_le.mpr ⟨hA.kk.2, hB.kk.2⟩
  have k1 := len_line l
  have k2 := sub_nat le
  have k3 : D.mulA (.tup [.non]) (.int ((Nat.max ka kb - l.length : Nat) : Int)) = some (.tup (List.replicate (Nat.max ka kb - l.length) .non)) := mul_tup (by omega)
  have k4 : D.tupF [.tup (l.map dR)] = some (.tup (l.map dR)) := rfl
  have k5 : D.add (.tup (l.map dR)) (.tup (List.replicate (Nat.max ka kb - l.length) .non)) = some (.tup ((padN (Nat.max ka kb) 0 l).map dR)) := by
    rw [add_tup (by rw [List.length_map, List.length_replicate]; omega), pad_D]
    have : shR 0 = id := funext shR_zero
    rw [this, List.map_id]
  generalize D.tup ((padN (Nat.max ka kb) 0 l).map dR) = R at k5 ⊢
  generalize D.tup (List.replicate (Nat.max ka kb - l.length) .non) = Q at k3 k5
  generalize ((Nat.max ka kb - l.length : Nat) : Int) = q at k2 k3
  generalize D.tup (l.map dR) = X at k1 k4 k5 ⊢
  generalize ((Nat.max ka kb : Nat) : Int) = kk at k2 ⊢
  generalize dRules A = Y
  generalize dRules B = Y2
  generalize PD ka A = Z
  generalize PD kb B = U
  have b1 : (m2 (pu2 D.sub) (mVar 7) (m1 (pu1 D.lenL) (mCons (mVar 23) mNil)) : M DS D) [some (.frz sc), some (.frz .wld), hidO o2, some (.frz Y), some (.frz Y2), some (.frz Z), some (.frz U), some (.frz (.int kk)), some (.frz (.int A.length)), hidO o9, hidO o10, hidO o11, hidO o12, hidO o13, hidO o14, hidO o15, hidO o16, hidO o17, hidO o18, hidO o19, hidO o20, hidO o21, hidO o22, some (.frz X), hidO o24, hidO o25] w = some (.ok (.int q) [some (.frz sc), some (.frz .wld), hidO o2, some (.frz Y), some (.frz Y2), some (.frz Z), some (.frz U), some (.frz (.int kk)), some (.frz (.int A.length)), hidO o9, hidO o10, hidO o11, hidO o12, hidO o13, hidO o14, hidO o15, hidO o16, hidO o17, hidO o18, hidO o19, hidO o20, hidO o21, hidO o22, some (.frz X), hidO o24, hidO o25] w) := by
    simp [sSeq, sIf, sB, sNext, sAsg, sDrop, sRet, sOwn, sMov, sSt2, mSt, sParP, mB, mNot, mOr, mAnd, mOrV, mAndV, mIf, m1, m2, mCons, mNil, mConsD, mConsL, mNilP, setP, Pz.o, mC, mVar, rdV, mTup, mLs, mFz, mItems, mSM, lsOf, matOf, mCh, mCall, mCallN, mBor, mBorF, mBorN, fzE, pu, pu1, pu2, bnd, bdN, bdT, bdL, D.tr, D.isN, D.notN, outF, outN, O.toD, mStar, D.toI, mP, mNoP, mSlL, mSlT, k1, k2]
  have b2 : (m1 (pu1 D.tupF) (mCons (mVar 23) mNil) : M DS D) [some (.frz sc), some (.frz .wld), hidO o2, some (.frz Y), some (.frz Y2), some (.frz Z), some (.frz U), some (.frz (.int kk)), some (.frz (.int A.length)), hidO o9, hidO o10, hidO o11, hidO o12, hidO o13, hidO o14, hidO o15, hidO o16, hidO o17, hidO o18, hidO o19, hidO o20, hidO o21, hidO o22, some (.frz X), hidO o24, hidO o25] w = some (.ok X [some (.frz sc), some (.frz .wld), hidO o2, some (.frz Y), some (.frz Y2), some (.frz Z), some (.frz U), some (.frz (.int kk)), some (.frz (.int A.length)), hidO o9, hidO o10, hidO o11, hidO o12, hidO o13, hidO o14, hidO o15, hidO o16, hidO o17, hidO o18, hidO o19, hidO o20, hidO o21, hidO o22, some (.frz X), hidO o24, hidO o25] w) := by
    simp [sSeq, sIf, sB, sNext, sAsg, sDrop, sRet, sOwn, sMov, sSt2, mSt, sParP, mB, mNot, mOr, mAnd, mOrV, mAndV, mIf, m1, m2, mCons, mNil, mConsD, mConsL, mNilP, setP, Pz.o, mC, mVar, rdV, mTup, mLs, mFz, mItems, mSM, lsOf, matOf, mCh, mCall, mCallN, mBor, mBorF, mBorN, fzE, pu, pu1, pu2, bnd, bdN, bdT, bdL, D.tr, D.isN, D.notN, outF, outN, O.toD, mStar, D.toI, mP, mNoP, mSlL, mSlT, k4]
  have b3 : (mTup (mCons (mC .non) mNil) : M DS D) [some (.frz sc), some (.frz .wld), hidO o2, some (.frz Y), some (.frz Y2), some (.frz Z), some (.frz U), some (.frz (.int kk)), some (.frz (.int A.length)), hidO o9, hidO o10, hidO o11, hidO o12, hidO o13, hidO o14, hidO o15, hidO o16, hidO o17, hidO o18, hidO o19, hidO o20, hidO o21, hidO o22, some (.frz X), hidO o24, hidO o25] w = some (.ok (.tup [.non]) [some (.frz sc), some (.frz .wld), hidO o2, some (.frz Y), some (.frz Y2), some (.frz Z), some (.frz U), some (.frz (.int kk)), some (.frz (.int A.length)), hidO o9, hidO o10, hidO o11, hidO o12, hidO o13, hidO o14, hidO o15, hidO o16, hidO o17, hidO o18, hidO o19, hidO o20, hidO o21, hidO o22, some (.frz X), hidO o24, hidO o25] w) := rfl
  exact (m2_of (f := pu2 D.add) b2 ((m2_of (f := pu2 D.mulA) b3 b1).trans (pu2_of k3))).trans (pu2_of k5)
theorem LB4_ok (w : DS) : LB4 [some (.frz sc), some (.frz .wld), o2, some (.frz (dRules A)), some (.frz (dRules B)), some (.frz (PD ka A)), some (.frz (PD kb B)), some (.frz (.int (Nat.max ka kb : Nat))), some (.frz (.int A.length)), o9, o10, o11, o12, o13, o14, o15, o16, o17, o18, o19, o20, o21, o22, o23, o24, o25] w = some (.nx [some (.frz sc), some (.frz .wld), o2, some (.frz (dRules A)), some (.frz (dRules B)), some (.frz (PD ka A)), some (.frz (PD kb B)), some (.frz (.int (Nat.max ka kb : Nat))), some (.frz (.int A.length)), some (.frz (.lst (A.map fun l => .tup ((padN (Nat.max ka kb) 0 l).map dR)))), o10, o11, o12, o13, o14, o15, o16, o17, o18, o19, o20, o21, o22, o23, o24, o25] w) := sAsg_of (mFz_of (C4_ok hA hB w)) rfl
def C25 : M DS (List D) := (mLc (mIts (mVar 24)) [25] (bdN 25) mTrue (m2 (pu2 D.add) (mVar 25) (mVar 8)))
def C24 : M DS (List D) := (mLc (mIts (mVar 23)) [24] (bdN 24) mTrue (mIf (mB (m2 (pu2 D.isN) (mVar 24) (mC .non))) (mC .non) (m1 (pu1 D.tupF) (mCons (mFz (mLc (mIts (mVar 24)) [25] (bdN 25) mTrue (m2 (pu2 D.add) (mVar 25) (mVar 8)))) mNil))))
def C5 : M DS (List D) := (mLc (mIts (mVar 4)) [23] (bdN 23) mTrue (m2 (pu2 D.add) (m1 (pu1 D.tupF) (mCons (mFz (mLc (mIts (mVar 23)) [24] (bdN 24) mTrue (mIf (mB (m2 (pu2 D.isN) (mVar 24) (mC .non))) (mC .non) (m1 (pu1 D.tupF) (mCons (mFz (mLc (mIts (mVar 24)) [25] (bdN 25) mTrue (m2 (pu2 D.add) (mVar 25) (mVar 8)))) mNil))))) mNil)) (m2 (pu2 D.mulA) (mTup (mCons (mC .non) mNil)) (m2 (pu2 D.sub) (mVar 7) (m1 (pu1 D.lenL) (mCons (mVar 23) mNil))))))
omit hA hB in
theorem C25_ok (c : List Nat) (hc : c.length ≤ 1000) (s : Nat) (w : DS) : C25 [some (.frz sc), some (.frz .wld), o2, o3, o4, o5, o6, o7, some (.frz (.int s)), o9, o10, o11, o12, o13, o14, o15, o16, o17, o18, o19, o20, o21, o22, o23, some (.frz (.tup (dn c))), o25] w = some (.ok (dn (c.map (· + s))) [some (.frz sc), some (.frz .wld), o2, o3, o4, o5, o6, o7, some (.frz (.int s)), o9, o10, o11, o12, o13, o14, o15, o16, o17, o18, o19, o20, o21, o22, o23, some (.frz (.tup (dn c))), o25] w) := by
  rw [← dn_map]
  refine mLc_all c (fun (n : Nat) => D.int n) (fun (n : Nat) => D.int ((n + s : Nat) : Int)) ?_ (by omega) fun a _ => ?_
  · rfl
  · exact ⟨_, rfl, _, rfl⟩
omit hA hB in
theorem C24_ok (l : List (Option (List Nat))) (hn : l.length ≤ 1000) (hl : ∀ r ∈ l, ∀ c, r = some c → c.length ≤ 1000) (s : Nat) (w : DS) : C24 [some (.frz sc), some (.frz .wld), o2, o3, o4, o5, o6, o7, some (.frz (.int s)), o9, o10, o11, o12, o13, o14, o15, o16, o17, o18, o19, o20, o21, o22, some (.frz (.tup (l.map dR))), o24, o25] w = some (.ok ((l.map (shR s)).map dR) [some (.frz sc), some (.frz .wld), o2, o3, o4, o5, o6, o7, some (.frz (.int s)), o9, o10, o11, o12, o13, o14, o15, o16, o17, o18, o19, o20, o21, o22, some (.frz (.tup (l.map dR))), o24, o25] w) := by
  rw [List.map_map]
  refine mLc_all l dR (fun r => dR (shR s r)) ?_ (by omega) fun r hr => ?_
  · rfl
  · cases r with
    | none => exact ⟨_, rfl, _, rfl⟩
    | some c =>
      have e : C25 [some (.frz sc), some (.frz .wld), hidO o2, hidO o3, hidO o4, hidO o5, hidO o6, hidO o7, some (.frz (.int s)), hidO o9, hidO o10, hidO o11, hidO o12, hidO o13, hidO o14, hidO o15, hidO o16, hidO o17, hidO o18, hidO o19, hidO o20, hidO o21, hidO o22, some (.frz (.tup (l.map dR))), some (.frz (.tup (dn c))), hidO o25] w = _ := C25_ok c (hl _ hr c rfl) s w
      have kt : D.tupF [.lst (dn (c.map (· + s)))] = some (.tup (dn (c.map (· + s)))) := rfl
      have ki : dR (shR s (some c)) = .tup (dn (c.map (· + s))) := rfl
      refine ⟨[some (.frz sc), some (.frz .wld), hidO o2, hidO o3, hidO o4, hidO o5, hidO o6, hidO o7, some (.frz (.int s)), hidO o9, hidO o10, hidO o11, hidO o12, hidO o13, hidO o14, hidO o15, hidO o16, hidO o17, hidO o18, hidO o19, hidO o20, hidO o21, hidO o22, some (.frz (.tup (l.map dR))), some (.frz (.tup (dn c))), hidO o25], rfl, [some (.frz sc), some (.frz .wld), hidO o2, hidO o3, hidO o4, hidO o5, hidO o6, hidO o7, some (.frz (.int s)), hidO o9, hidO o10, hidO o11, hidO o12, hidO o13, hidO o14, hidO o15, hidO o16, hidO o17, hidO o18, hidO o19, hidO o20, hidO o21, hidO o22, some (.frz (.tup (l.map dR))), some (.frz (.tup (dn c))), hidO o25], ?_⟩
      rw [ki]
      show (mIf (mB (m2 (pu2 D.isN) (mVar 24) (mC .non))) (mC .non) (m1 (pu1 D.tupF) (mCons (mFz C25) mNil)) : M DS D) _ _ = _
      generalize C25 = cc at e ⊢
      generalize D.tup (l.map dR) = Z at e ⊢
      simp [sSeq, sIf, sB, sNext, sAsg, sDrop, sRet, sOwn, sMov, sSt2, mSt, sParP, mB, mNot, mOr, mAnd, mOrV, mAndV, mIf, m1, m2, mCons, mNil, mConsD, mConsL, mNilP, setP, Pz.o, mC, mVar, rdV, mTup, mLs, mFz, mItems, mSM, lsOf, matOf, mCh, mCall, mCallN, mBor, mBorF, mBorN, fzE, pu, pu1, pu2, bnd, bdN, bdT, bdL, D.tr, D.isN, D.notN, outF, outN, O.toD, mStar, D.toI, mP, mNoP, mSlL, mSlT, e, kt]
theorem C5_ok (w : DS) : C5 [some (.frz sc), some (.frz .wld), o2, some (.frz (dRules A)), some (.frz (dRules B)), some (.frz (PD ka A)), some (.frz (PD kb B)), some (.frz (.int (Nat.max ka kb : Nat))), some (.frz (.int A.length)), some (.frz (.lst (A.map fun l => .tup ((padN (Nat.max ka kb) 0 l).map dR)))), o10, o11, o12, o13, o14, o15, o16, o17, o18, o19, o20, o21, o22, o23, o24, o25] w = some (.ok (B.map fun l => .tup ((padN (Nat.max ka kb) A.length l).map dR)) [some (.frz sc), some (.frz .wld), o2, some (.frz (dRules A)), some (.frz (dRules B)), some (.frz (PD ka A)), some (.frz (PD kb B)), some (.frz (.int (Nat.max ka kb : Nat))), some (.frz (.int A.length)), some (.frz (.lst (A.map fun l => .tup ((padN (Nat.max ka kb) 0 l).map dR)))), o10, o11, o12, o13, o14, o15, o16, o17, o18, o19, o20, o21, o22, o23, o24, o25] w) := by
  refine mLc_all B (fun l => .tup (l.map dR)) (fun l => .tup ((padN (Nat.max ka kb) A.length l).map dR)) rfl (by have := hB.len; omega) fun l hl => ?_
  refine ⟨[some (.frz sc), some (.frz .wld), hidO o2, some (.frz (dRules A)), some (.frz (dRules B)), some (.frz (PD ka A)), some (.frz (PD kb B)), some (.frz (.int (Nat.max ka kb : Nat))), some (.frz (.int A.length)), some (.frz (.lst (A.map fun l => .tup ((padN (Nat.max ka kb) 0 l).map dR)))), hidO o10, hidO o11, hidO o12, hidO o13, hidO o14, hidO o15, hidO o16, hidO o17, hidO o18, hidO o19, hidO o20, hidO o21, hidO o22, some (.frz (.tup (l.map dR))), hidO o24, hidO o25], rfl, [some (.frz sc), some (.frz .wld), hidO o2, some (.frz (dRules A)), some (.frz (dRules B)), some (.frz (PD ka A)), some (.frz (PD kb B)), some (.frz (.int (Nat.max ka kb : Nat))), some (.frz (.int A.length)), some (.frz (.lst (A.map fun l => .tup ((padN (Nat.max ka kb) 0 l).map dR)))), hidO o10, hidO o11, hidO o12, hidO o13, hidO o14, hidO o15, hidO o16, hidO o17, hidO o18, hidO o19, hidO o20, hidO o21, hidO o22, some (.frz (.tup (l.map dR))), hidO o24, hidO o25], ?_⟩
  have row := hB.row l hl
  have le : l.length ≤ Nat.max ka kb := by rw [row.1]; exact Nat.le_max_right _ _
  have l6 : Nat.max ka kb ≤ 6 := Nat.max_le.mpr ⟨hA.kk.2, hB.kk.2⟩
  have e : C24 [some (.frz sc), some (.frz .wld), hidO o2, some (.frz (dRules A)), some (.frz (dRules B)), some (.frz (PD ka A)), some (.frz (PD kb B)), some (.frz (.int (Nat.max ka kb : Nat))), some (.frz (.int A.length)), some (.frz (.lst (A.map fun l => .tup ((padN (Nat.max ka kb) 0 l).map dR)))), hidO o10, hidO o11, hidO o12, hidO o13, hidO o14, hidO o15, hidO o16, hidO o17, hidO o18, hidO o19, hidO o20, hidO o21, hidO o22, some (.frz (.tup (l.map dR))), hidO o24, hidO o25] w = _ := C24_ok l (by omega) (fun r hr c hc => Nat.le_trans (row.2 r hr c hc).2 (by decide)) A.length w
  have k1 := len_line l
  have k2 := sub_nat le
  have k3 : D.mulA (.tup [.non]) (.int ((Nat.max ka kb - l.length : Nat) : Int)) = some (.tup (List.replicate (Nat.max ka kb - l.length) .non)) := mul_tup (by omega)
  have k4 : D.tupF [.lst ((l.map (shR A.length)).map dR)] = some (.tup ((l.map (shR A.length)).map dR)) := rfl
  have k5 : D.add (.tup ((l.map (shR A.length)).map dR)) (.tup (List.replicate (Nat.max ka kb - l.length) .non)) = some (.tup ((padN (Nat.max ka kb) A.length l).map dR)) := by
    rw [add_tup (by rw [List.length_map, List.length_map, List.length_replicate]; omega), pad_D]
  show (m2 (pu2 D.add) (m1 (pu1 D.tupF) (mCons (mFz C24) mNil)) (m2 (pu2 D.mulA) (mTup (mCons (mC .non) mNil)) (m2 (pu2 D.sub) (mVar 7) (m1 (pu1 D.lenL) (mCons (mVar 23) mNil)))) : M DS D) _ _ = _
  generalize D.tup ((padN (Nat.max ka kb) A.length l).map dR) = R at k5 ⊢
  generalize D.tup (List.replicate (Nat.max ka kb - l.length) .non) = Q at k3 k5
  generalize ((Nat.max ka kb - l.length : Nat) : Int) = q at k2 k3
  generalize D.tup ((l.map (shR A.length)).map dR) = X2 at k4 k5
  generalize ((l.map (shR A.length)).map dR) = X3 at k4 e
  generalize D.tup (l.map dR) = X at k1 e ⊢
  generalize D.lst (A.map fun l => .tup ((padN (Nat.max ka kb) 0 l).map dR)) = V at e ⊢
  generalize ((Nat.max ka kb : Nat) : Int) = kk at k2 e ⊢
  generalize dRules A = Y at e ⊢
  generalize dRules B = Y2 at e ⊢
  generalize PD ka A = Z at e ⊢
  generalize PD kb B = U at e ⊢
  have b1 : (m2 (pu2 D.sub) (mVar 7) (m1 (pu1 D.lenL) (mCons (mVar 23) mNil)) : M DS D) [some (.frz sc), some (.frz .wld), hidO o2, some (.frz Y), some (.frz Y2), some (.frz Z), some (.frz U), some (.frz (.int kk)), some (.frz (.int A.length)), some (.frz V), hidO o10, hidO o11, hidO o12, hidO o13, hidO o14, hidO o15, hidO o16, hidO o17, hidO o18, hidO o19, hidO o20, hidO o21, hidO o22, some (.frz X), hidO o24, hidO o25] w = some (.ok (.int q) [some (.frz sc), some (.frz .wld), hidO o2, some (.frz Y), some (.frz Y2), some (.frz Z), some (.frz U), some (.frz (.int kk)), some (.frz (.int A.length)), some (.frz V), hidO o10, hidO o11, hidO o12, hidO o13, hidO o14, hidO o15, hidO o16, hidO o17, hidO o18, hidO o19, hidO o20, hidO o21, hidO o22, some (.frz X), hidO o24, hidO o25] w) := by
    simp [sSeq, sIf, sB, sNext, sAsg, sDrop, sRet, sOwn, sMov, sSt2, mSt, sParP, mB, mNot, mOr, mAnd, mOrV, mAndV, mIf, m1, m2, mCons, mNil, mConsD, mConsL, mNilP, setP, Pz.o, mC, mVar, rdV, mTup, mLs, mFz, mItems, mSM, lsOf, matOf, mCh, mCall, mCallN, mBor, mBorF, mBorN, fzE, pu, pu1, pu2, bnd, bdN, bdT, bdL, D.tr, D.isN, D.notN, outF, outN, O.toD, mStar, D.toI, mP, mNoP, mSlL, mSlT, k1, k2]
  have b2 : (m1 (pu1 D.tupF) (mCons (mFz C24) mNil) : M DS D) [some (.frz sc), some (.frz .wld), hidO o2, some (.frz Y), some (.frz Y2), some (.frz Z), some (.frz U), some (.frz (.int kk)), some (.frz (.int A.length)), some (.frz V), hidO o10, hidO o11, hidO o12, hidO o13, hidO o14, hidO o15, hidO o16, hidO o17, hidO o18, hidO o19, hidO o20, hidO o21, hidO o22, some (.frz X), hidO o24, hidO o25] w = some (.ok X2 [some (.frz sc), some (.frz .wld), hidO o2, some (.frz Y), some (.frz Y2), some (.frz Z), some (.frz U), some (.frz (.int kk)), some (.frz (.int A.length)), some (.frz V), hidO o10, hidO o11, hidO o12, hidO o13, hidO o14, hidO o15, hidO o16, hidO o17, hidO o18, hidO o19, hidO o20, hidO o21, hidO o22, some (.frz X), hidO o24, hidO o25] w) := by
    generalize C24 = cc at e ⊢
    simp [sSeq, sIf, sB, sNext, sAsg, sDrop, sRet, sOwn, sMov, sSt2, mSt, sParP, mB, mNot, mOr, mAnd, mOrV, mAndV, mIf, m1, m2, mCons, mNil, mConsD, mConsL, mNilP, setP, Pz.o, mC, mVar, rdV, mTup, mLs, mFz, mItems, mSM, lsOf, matOf, mCh, mCall, mCallN, mBor, mBorF, mBorN, fzE, pu, pu1, pu2, bnd, bdN, bdT, bdL, D.tr, D.isN, D.notN, outF, outN, O.toD, mStar, D.toI, mP, mNoP, mSlL, mSlT, k4, e]
  have b3 : (mTup (mCons (mC .non) mNil) : M DS D) [some (.frz sc), some (.frz .wld), hidO o2, some (.frz Y), some (.frz Y2), some (.frz Z), some (.frz U), some (.frz (.int kk)), some (.frz (.int A.length)), some (.frz V), hidO o10, hidO o11, hidO o12, hidO o13, hidO o14, hidO o15, hidO o16, hidO o17, hidO o18, hidO o19, hidO o20, hidO o21, hidO o22, some (.frz X), hidO o24, hidO o25] w = some (.ok (.tup [.non]) [some (.frz sc), some (.frz .wld), hidO o2, some (.frz Y), some (.frz Y2), some (.frz Z), some (.frz U), some (.frz (.int kk)), some (.frz (.int A.length)), some (.frz V), hidO o10, hidO o11, hidO o12, hidO o13, hidO o14, hidO o15, hidO o16, hidO o17, hidO o18, hidO o19, hidO o20, hidO o21, hidO o22, some (.frz X), hidO o24, hidO o25] w) := rfl
  exact (m2_of (f := pu2 D.add) b2 ((m2_of (f := pu2 D.mulA) b3 b1).trans (pu2_of k3))).trans (pu2_of k5)
theorem LB5_ok (w : DS) : LB5 [some (.frz sc), some (.frz .wld), o2, some (.frz (dRules A)), some (.frz (dRules B)), some (.frz (PD ka A)), some (.frz (PD kb B)), some (.frz (.int (Nat.max ka kb : Nat))), some (.frz (.int A.length)), some (.frz (.lst (A.map fun l => .tup ((padN (Nat.max ka kb) 0 l).map dR)))), o10, o11, o12, o13, o14, o15, o16, o17, o18, o19, o20, o21, o22, o23, o24, o25] w = some (.nx [some (.frz sc), some (.frz .wld), o2, some (.frz (dRules A)), some (.frz (dRules B)), some (.frz (PD ka A)), some (.frz (PD kb B)), some (.frz (.int (Nat.max ka kb : Nat))), some (.frz (.int A.length)), some (.frz (.lst ((JR A B (Nat.max ka kb)).map fun l => .tup (l.map dR)))), o10, o11, o12, o13, o14, o15, o16, o17, o18, o19, o20, o21, o22, o23, o24, o25] w) := by
  have a := mFz_of (C5_ok (sc := sc) (o2 := o2) (o10 := o10) (o11 := o11) (o12 := o12) (o13 := o13) (o14 := o14) (o15 := o15) (o16 := o16) (o17 := o17) (o18 := o18) (o19 := o19) (o20 := o20) (o21 := o21) (o22 := o22) (o23 := o23) (o24 := o24) (o25 := o25) hA hB w)
  have s : D.add (.lst (A.map fun l => .tup ((padN (Nat.max ka kb) 0 l).map dR))) (.lst (B.map fun l => .tup ((padN (Nat.max ka kb) A.length l).map dR))) = some (.lst ((JR A B (Nat.max ka kb)).map fun l => .tup (l.map dR))) := by
    rw [add_lst (by rw [List.length_map, List.length_map]; have := hA.len; have := hB.len; omega)]
    unfold JR
    rw [List.map_append, List.map_map, List.map_map]
    rfl
  exact sAsg_of ((m2_of (f := pu2 D.add) (ma := mVar 9) rfl a).trans (pu2_of s)) rfl
omit hA hB in
theorem caught_of {oks : List Str} {me : M DS D} {ρ : Ev} {w w' : DS} {e : Er} (h : me (hidE [] 0 ρ) w = some (.er e w')) (hc : oks.contains e.cls = true) : mCaught oks me ρ w = some (.ok (excD e) ρ w') := by
  unfold mCaught
  rw [h]
  simp only
  rw [if_pos hc]
omit hA hB in
theorem m1_of {α β : Type} {f : α → M DS β} {ma : M DS α} {ρ ρ1 : Ev} {w w1 : DS} {a : α} (h : ma ρ w = some (.ok a ρ1 w1)) : m1 f ma ρ w = f a ρ1 w1 := by
  unfold m1
  rw [h, bnd_ok]
omit hA hB in
theorem mCall_of {n : Nat} {g : List D → DS → Option (Rs DS)} {ma : M DS (List D)} {ρ ρ1 : Ev} {w w1 w2 : DS} {ds : List D} {d : D} (h : ma ρ w = some (.ok ds ρ1 w1)) (hn : ds.length = n) (hg : g ds w1 = some (.ok d w2)) : mCall n g [] ma ρ w = some (.ok d ρ1 w2) := by
  unfold mCall
  rw [m1_of h]
  simp only [List.append_nil, hn, if_true, hg]
omit hA hB in
theorem mCall_er {n : Nat} {g : List D → DS → Option (Rs DS)} {ma : M DS (List D)} {ρ ρ1 : Ev} {w w1 w2 : DS} {ds : List D} {e : Er} (h : ma ρ w = some (.ok ds ρ1 w1)) (hn : ds.length = n) (hg : g ds w1 = some (.er e w2)) : mCall n g [] ma ρ w = some (.er e w2) := by
  unfold mCall
  rw [m1_of h]
  simp only [List.append_nil, hn, if_true, hg]
omit hA hB in
theorem mB_of {me : M DS D} {ρ ρ1 : Ev} {w w1 : DS} {d : D} {b : Bool} (h : me ρ w = some (.ok d ρ1 w1)) (ht : d.tr = some b) : mB me ρ w = some (.ok b ρ1 w1) := by
  unfold mB
  rw [m1_of h]
  unfold pu
  rw [ht]
omit hA hB in
theorem mNot_of {me : M DS Bool} {ρ ρ1 : Ev} {w w1 : DS} {b : Bool} (h : me ρ w = some (.ok b ρ1 w1)) : mNot me ρ w = some (.ok (!b) ρ1 w1) := by
  unfold mNot
  rw [m1_of h]
  rfl
omit hA hB in
theorem sIf_of {mc : M DS Bool} {a b : SM DS} {ρ ρ1 : Ev} {w w1 : DS} {k : Bool} (h : mc ρ w = some (.ok k ρ1 w1)) : sIf mc a b ρ w = if k = true then a ρ1 w1 else b ρ1 w1 := by
  unfold sIf sB
  rw [h]
omit hA hB in
/-- `if not check: return False`, the check holding -/
theorem check_of {me : M DS D} {ρ ρ1 : Ev} {w w1 : DS} (h : me ρ w = some (.ok (.bl true) ρ1 w1)) : sIf (mNot (mB me)) (sSeq (sRet (mC (.bl false))) sNext) sNext ρ w = some (.nx ρ1 w1) := by
  rw [sIf_of (mNot_of (mB_of h rfl))]
  rfl
def Cau1 : M DS D := (mCaught ["NoProgram", "NoRoom"] (mCall 2 g_joined [] (mCons (mVar 5) (mCons (mVar 6) mNil))))
theorem Cau1_room (h : 12 < A.length + B.length) (w : DS) : Cau1 [some (.frz sc), some (.frz .wld), o2, some (.frz (dRules A)), some (.frz (dRules B)), some (.frz (PD ka A)), some (.frz (PD kb B)), some (.frz (.int (Nat.max ka kb : Nat))), some (.frz (.int A.length)), some (.frz (.lst ((JR A B (Nat.max ka kb)).map fun l => .tup (l.map dR)))), o10, o11, o12, o13, o14, o15, o16, o17, o18, o19, o20, o21, o22, o23, o24, o25] w = some (.ok (excD ⟨"NoRoom", none⟩) [some (.frz sc), some (.frz .wld), o2, some (.frz (dRules A)), some (.frz (dRules B)), some (.frz (PD ka A)), some (.frz (PD kb B)), some (.frz (.int (Nat.max ka kb : Nat))), some (.frz (.int A.length)), some (.frz (.lst ((JR A B (Nat.max ka kb)).map fun l => .tup (l.map dR)))), o10, o11, o12, o13, o14, o15, o16, o17, o18, o19, o20, o21, o22, o23, o24, o25] w) := by
  unfold Cau1
  refine caught_of ?_ rfl
  show (mCall 2 g_joined [] (mCons (mVar 5) (mCons (mVar 6) mNil)) : M DS D) [some (.frz sc), some (.frz .wld), hidO o2, some (.frz (dRules A)), some (.frz (dRules B)), some (.frz (PD ka A)), some (.frz (PD kb B)), some (.frz (.int (Nat.max ka kb : Nat))), some (.frz (.int A.length)), some (.frz (.lst ((JR A B (Nat.max ka kb)).map fun l => .tup (l.map dR)))), hidO o10, hidO o11, hidO o12, hidO o13, hidO o14, hidO o15, hidO o16, hidO o17, hidO o18, hidO o19, hidO o20, hidO o21, hidO o22, hidO o23, hidO o24, hidO o25] w = _
  exact mCall_er (ds := [PD ka A, PD kb B]) rfl rfl (joined_room hA hB h w)
theorem due_len : D.lenL [(.lst ((JR A B (Nat.max ka kb)).map fun l => .tup (l.map dR)))] = some (.int (A.length + B.length : Nat)) := by
  show some (D.int (((JR A B (Nat.max ka kb)).map fun l => D.tup (l.map dR)).length : Nat)) = _
  rw [List.length_map, JR_len]
theorem T6_ok (w : DS) : (mB (m2 (pu2 D.gt) (m1 (pu1 D.lenL) (mCons (mVar 9) mNil)) (mC (.int 12))) : M DS Bool) [some (.frz sc), some (.frz .wld), o2, some (.frz (dRules A)), some (.frz (dRules B)), some (.frz (PD ka A)), some (.frz (PD kb B)), some (.frz (.int (Nat.max ka kb : Nat))), some (.frz (.int A.length)), some (.frz (.lst ((JR A B (Nat.max ka kb)).map fun l => .tup (l.map dR)))), o10, o11, o12, o13, o14, o15, o16, o17, o18, o19, o20, o21, o22, o23, o24, o25] w = some (.ok (decide (12 < A.length + B.length)) [some (.frz sc), some (.frz .wld), o2, some (.frz (dRules A)), some (.frz (dRules B)), some (.frz (PD ka A)), some (.frz (PD kb B)), some (.frz (.int (Nat.max ka kb : Nat))), some (.frz (.int A.length)), some (.frz (.lst ((JR A B (Nat.max ka kb)).map fun l => .tup (l.map dR)))), o10, o11, o12, o13, o14, o15, o16, o17, o18, o19, o20, o21, o22, o23, o24, o25] w) := by
  have k1 := due_len hA hB
  have k2 : D.gt (.int (A.length + B.length : Nat)) (.int 12) = some (.bl (decide (12 < A.length + B.length))) := gt_nat _ 12
  have b1 : (m1 (pu1 D.lenL) (mCons (mVar 9) mNil) : M DS D) [some (.frz sc), some (.frz .wld), o2, some (.frz (dRules A)), some (.frz (dRules B)), some (.frz (PD ka A)), some (.frz (PD kb B)), some (.frz (.int (Nat.max ka kb : Nat))), some (.frz (.int A.length)), some (.frz (.lst ((JR A B (Nat.max ka kb)).map fun l => .tup (l.map dR)))), o10, o11, o12, o13, o14, o15, o16, o17, o18, o19, o20, o21, o22, o23, o24, o25] w = some (.ok (.int (A.length + B.length : Nat)) [some (.frz sc), some (.frz .wld), o2, some (.frz (dRules A)), some (.frz (dRules B)), some (.frz (PD ka A)), some (.frz (PD kb B)), some (.frz (.int (Nat.max ka kb : Nat))), some (.frz (.int A.length)), some (.frz (.lst ((JR A B (Nat.max ka kb)).map fun l => .tup (l.map dR)))), o10, o11, o12, o13, o14, o15, o16, o17, o18, o19, o20, o21, o22, o23, o24, o25] w) := by
    refine (m1_of (a := [(.lst ((JR A B (Nat.max ka kb)).map fun l => .tup (l.map dR)))]) rfl).trans ?_
    unfold pu1 pu
    rw [k1]
  exact mB_of ((m2_of (f := pu2 D.gt) b1 (mb := mC (.int 12)) rfl).trans (pu2_of k2)) rfl
theorem LB6_room (h : 12 < A.length + B.length) (w : DS) : LB6 [some (.frz sc), some (.frz .wld), o2, some (.frz (dRules A)), some (.frz (dRules B)), some (.frz (PD ka A)), some (.frz (PD kb B)), some (.frz (.int (Nat.max ka kb : Nat))), some (.frz (.int A.length)), some (.frz (.lst ((JR A B (Nat.max ka kb)).map fun l => .tup (l.map dR)))), o10, o11, o12, o13, o14, o15, o16, o17, o18, o19, o20, o21, o22, o23, o24, o25] w = some (.ct [some (.frz sc), some (.frz .wld), o2, some (.frz (dRules A)), some (.frz (dRules B)), some (.frz (PD ka A)), some (.frz (PD kb B)), some (.frz (.int (Nat.max ka kb : Nat))), some (.frz (.int A.length)), some (.frz (.lst ((JR A B (Nat.max ka kb)).map fun l => .tup (l.map dR)))), o10, o11, o12, o13, o14, o15, o16, o17, o18, o19, o20, o21, o22, o23, o24, o25] w) := by
  have t := T6_ok (sc := sc) (o2 := o2) (o10 := o10) (o11 := o11) (o12 := o12) (o13 := o13) (o14 := o14) (o15 := o15) (o16 := o16) (o17 := o17) (o18 := o18) (o19 := o19) (o20 := o20) (o21 := o21) (o22 := o22) (o23 := o23) (o24 := o24) (o25 := o25) hA hB w
  rw [decide_eq_true h] at t
  unfold LB6
  rw [sIf_of t, if_pos rfl]
  have c : (mCall 2 g__law_came [] (mCons Cau1 (mCons (mC (.str "room")) mNil)) : M DS D) [some (.frz sc), some (.frz .wld), o2, some (.frz (dRules A)), some (.frz (dRules B)), some (.frz (PD ka A)), some (.frz (PD kb B)), some (.frz (.int (Nat.max ka kb : Nat))), some (.frz (.int A.length)), some (.frz (.lst ((JR A B (Nat.max ka kb)).map fun l => .tup (l.map dR)))), o10, o11, o12, o13, o14, o15, o16, o17, o18, o19, o20, o21, o22, o23, o24, o25] w = some (.ok (.bl true) [some (.frz sc), some (.frz .wld), o2, some (.frz (dRules A)), some (.frz (dRules B)), some (.frz (PD ka A)), some (.frz (PD kb B)), some (.frz (.int (Nat.max ka kb : Nat))), some (.frz (.int A.length)), some (.frz (.lst ((JR A B (Nat.max ka kb)).map fun l => .tup (l.map dR)))), o10, o11, o12, o13, o14, o15, o16, o17, o18, o19, o20, o21, o22, o23, o24, o25] w) :=
    mCall_of (mCons_of (Cau1_room hA hB h w) (mCons_of rfl (mNil_of _ _))) rfl (came_room w)
  have c := check_of c
  refine (sSeq_nx c).trans ?_
  rfl
theorem LB6_go (h : A.length + B.length ≤ 12) (w : DS) : LB6 [some (.frz sc), some (.frz .wld), o2, some (.frz (dRules A)), some (.frz (dRules B)), some (.frz (PD ka A)), some (.frz (PD kb B)), some (.frz (.int (Nat.max ka kb : Nat))), some (.frz (.int A.length)), some (.frz (.lst ((JR A B (Nat.max ka kb)).map fun l => .tup (l.map dR)))), o10, o11, o12, o13, o14, o15, o16, o17, o18, o19, o20, o21, o22, o23, o24, o25] w = some (.nx [some (.frz sc), some (.frz .wld), o2, some (.frz (dRules A)), some (.frz (dRules B)), some (.frz (PD ka A)), some (.frz (PD kb B)), some (.frz (.int (Nat.max ka kb : Nat))), some (.frz (.int A.length)), some (.frz (.lst ((JR A B (Nat.max ka kb)).map fun l => .tup (l.map dR)))), o10, o11, o12, o13, o14, o15, o16, o17, o18, o19, o20, o21, o22, o23, o24, o25] w) := by
  have t := T6_ok (sc := sc) (o2 := o2) (o10 := o10) (o11 := o11) (o12 := o12) (o13 := o13) (o14 := o14) (o15 := o15) (o16 := o16) (o17 := o17) (o18 := o18) (o19 := o19) (o20 := o20) (o21 := o21) (o22 := o22) (o23 := o23) (o24 := o24) (o25 := o25) hA hB w
  rw [decide_eq_false (by omega)] at t
  unfold LB6
  rw [sIf_of t, if_neg (by decide)]
  rfl
theorem LB7_ok (h : A.length + B.length ≤ 12) (w : DS) : LB7 [some (.frz sc), some (.frz .wld), o2, some (.frz (dRules A)), some (.frz (dRules B)), some (.frz (PD ka A)), some (.frz (PD kb B)), some (.frz (.int (Nat.max ka kb : Nat))), some (.frz (.int A.length)), some (.frz (.lst ((JR A B (Nat.max ka kb)).map fun l => .tup (l.map dR)))), o10, o11, o12, o13, o14, o15, o16, o17, o18, o19, o20, o21, o22, o23, o24, o25] w = some (.nx [some (.frz sc), some (.frz .wld), o2, some (.frz (dRules A)), some (.frz (dRules B)), some (.frz (PD ka A)), some (.frz (PD kb B)), some (.frz (.int (Nat.max ka kb : Nat))), some (.frz (.int A.length)), some (.frz (.lst ((JR A B (Nat.max ka kb)).map fun l => .tup (l.map dR)))), some (.frz (PD (Nat.max ka kb) (JR A B (Nat.max ka kb)))), o11, o12, o13, o14, o15, o16, o17, o18, o19, o20, o21, o22, o23, o24, o25] w) :=
  sAsg_of (mCall_of (ds := [PD ka A, PD kb B]) rfl rfl (joined_ok hA hB h w)) rfl
end
end K03
set_option maxRecDepth 100000
set_option maxHeartbeats 4000000
namespace K03
open PySem PySem.Spec PyProof.Rows L2 FL
/-! ### the law's statements, going on -/
theorem szL_le {c : Nat} : ∀ {l : List D}, (∀ d ∈ l, szD d ≤ c) → szL l ≤ c * l.length
  | [], _ => Nat.zero_le _
  | d :: l, h => by
    have h1 := h d List.mem_cons_self
    have h2 := szL_le (l := l) fun x hx => h x (List.mem_cons_of_mem _ hx)
    show szD d + szL l ≤ _
    rw [List.length_cons, Nat.mul_succ]
    omega
theorem sz_dn (l : List Nat) : szL (dn l) ≤ l.length := by
  have := szL_le (c := 1) (l := dn l) fun d hd => by
    unfold dn at hd
    obtain ⟨x, _, rfl⟩ := List.mem_map.mp hd
    exact Nat.le_refl 1
  rwa [dn_len, Nat.one_mul] at this
theorem Sm.up {n : Nat} {d : D} (h : Sm n d) : Sm (n + 1) d := .inl h
theorem sm_dR (r : Option (List Nat)) : Sm 1 (dR r) := by
  cases r with
  | none => exact .inl (.inl rfl)
  | some l => exact .inr ⟨_, .inl rfl, fun x hx => by
      unfold dn at hx
      obtain ⟨y, _, rfl⟩ := List.mem_map.mp hx
      exact .inr ⟨_, rfl⟩⟩
theorem sm_rules (R : Rl) : Sm 3 (dRules R) := .inr ⟨_, .inl rfl, fun x hx => by
  obtain ⟨l, _, rfl⟩ := List.mem_map.mp hx
  exact .inr ⟨_, .inl rfl, fun y hy => by
    obtain ⟨r, _, rfl⟩ := List.mem_map.mp hy
    exact sm_dR r⟩⟩
theorem sz_rules {R : Rl} {k : Nat} (h : Pg R k) : szD (dRules R) ≤ 600 := by
  have h1 : ∀ d ∈ (R.map fun l => D.tup (l.map dR)), szD d ≤ 43 := fun d hd => by
    obtain ⟨l, hl, rfl⟩ := List.mem_map.mp hd
    have row := h.row l hl
    have h2 := szL_le (c := 7) (l := l.map dR) fun e he => by
      obtain ⟨r, hr, rfl⟩ := List.mem_map.mp he
      cases r with
      | none => show 1 ≤ 7; decide
      | some c =>
        have := sz_dn c
        have := (row.2 _ hr c rfl).2
        show 1 + szL (dn c) ≤ 7
        omega
    rw [List.length_map, row.1] at h2
    have := h.kk
    show 1 + szL (l.map dR) ≤ 43
    omega
  have h3 := szL_le h1
  rw [List.length_map] at h3
  have := h.len
  show 1 + szL (R.map fun l => D.tup (l.map dR)) ≤ 600
  omega
theorem truth_ok (b : Bool) (w : DS) : g__law_is_truth [.bl b, .bl b] w = some (.ok (.bl true) w) := by cases b <;> rfl
theorem shR_nil (s : Nat) (r : Option (List Nat)) : (shR s r = some []) ↔ (r = some []) := by
  cases r with
  | none => exact ⟨(fun h => by cases h), (fun h => by cases h)⟩
  | some l =>
    constructor
    · intro h
      have h : some (l.map (· + s)) = some [] := h
      have := Option.some.inj h
      rw [List.map_eq_nil_iff.mp this]
    · intro h
      cases h
      rfl
theorem ix0 (a b : D) : D.ix (.tup [a, b]) (.int 0) = some a := rfl
theorem mOr_ff {a b : M DS Bool} {ρ ρ1 ρ2 : Ev} {w w1 w2 : DS} {k : Bool} (h : a ρ w = some (.ok false ρ1 w1)) (hb : b ρ1 w1 = some (.ok k ρ2 w2)) : mOr a b ρ w = some (.ok k ρ2 w2) := by
  unfold mOr mIf
  rw [h, bnd_ok]
  exact hb
theorem mAndV_of {a b : M DS D} {ρ ρ1 ρ2 : Ev} {w w1 w2 : DS} {d : D} (h : a ρ w = some (.ok (.bl true) ρ1 w1)) (hb : b ρ1 w1 = some (.ok d ρ2 w2)) : mAndV a b ρ w = some (.ok d ρ2 w2) := by
  unfold mAndV mIf
  rw [mB_of h rfl, bnd_ok]
  exact hb
theorem pyOk_str {x : Str} (h : PyData.canLay0 (.str x) = true) : PyOk 1 (.str x) := ⟨_, rfl, h, by show (0 : Nat) ≤ 1; omega⟩
theorem same_str {x : Str} (h : PyData.canLay0 (.str x) = true) (w : DS) : g__law_same [.str x, .str x] w = some (.ok (.bl true) w) := by
  have hs : SeqAt.shaped (.str x) = true := by
    obtain ⟨p, h1, h2⟩ := (pyOk_str h).sh (by decide)
    cases h1
    exact h2
  have hne : D.neD (.str x) (.str x) = some (.bl false) := by
    unfold D.neD D.eq
    simp only [D.py]
    rw [if_pos ⟨hs, hs⟩]
    show some (D.bl (!(x == x))) = _
    simp
  have k0 : D.neD (.lst [.tup [.str x, .str x]]) (.lst []) = some (.bl true) := ne_nilL (l := [.tup [.str x, .str x]]) (n := 2) (fun y hy => by
    rw [List.mem_singleton] at hy
    rw [hy]
    exact pyOk_tup fun z hz => by
      have e : z = .str x := by simpa using hz
      rw [e]
      exact pyOk_str h) (by decide)
  have t1 : sT [some (.frz (.str x)), some (.frz (.str x)), some (.lst [.tup [.str x, .str x]]), none, none, none, none, none, none] w = some (.ok true [some (.frz (.str x)), some (.frz (.str x)), some (.lst [.tup [.str x, .str x]]), none, none, none, none, none, none] w) := by
    simp [sT, mBor, fzE, mB, m2, m1, mVar, rdV, mFz, mLs, mNil, pu, pu2, bnd, O.toD, k0, D.tr]
  have t2 : sT [some (.frz (.str x)), some (.frz (.str x)), some (.lst []), some (.frz (.str x)), some (.frz (.str x)), none, none, none, none] w = some (.ok false [some (.frz (.str x)), some (.frz (.str x)), some (.lst []), some (.frz (.str x)), some (.frz (.str x)), none, none, none, none] w) := rfl
  have k1 : D.isi [.str x, .ty "bool"] = some (.bl false) := rfl
  have k2 : D.isi [.str x, .ty "int"] = some (.bl false) := rfl
  have k3 : D.isiT [.str x, .tup [.ty "int", .ty "str"]] = some (.bl true) := rfl
  have k4 : D.neD (.bl false) (.bl false) = some (.bl false) := rfl
  have b1 : sb [some (.frz (.str x)), some (.frz (.str x)), some (.lst ([] ++ [.tup [.str x, .str x]])), none, none, none, none, none, none] w = some (.nx [some (.frz (.str x)), some (.frz (.str x)), some (.lst []), some (.frz (.str x)), some (.frz (.str x)), none, none, none, none] w) := by
    unfold sb
    rw [sSeq_nx (sb_pop (.str x) (.str x) (.str x) [] none none none none none none w)]
    simp [sbB, sbI, sSeq, sIf, sB, sNext, mOr, mIf, mB, m1, m2, mCons, mNil, mVar, rdV, mC, mTup, pu, pu1, pu2, bnd, D.tr, D.isN, hne, k1, k2, k3, k4]
  have a1 : sOwn 2 (mLs (mCons (mTup (mCons (mVar 0) (mCons (mVar 1) mNil))) mNil)) (startE 9 [.str x, .str x]) w = some (.nx [some (.frz (.str x)), some (.frz (.str x)), some (.lst [.tup [.str x, .str x]]), none, none, none, none, none, none] w) := rfl
  have hf : fuel__law_same = 99998 + 1 + 1 := rfl
  have l1 : sWh sT sb fuel__law_same [some (.frz (.str x)), some (.frz (.str x)), some (.lst [.tup [.str x, .str x]]), none, none, none, none, none, none] w = some (.nx [some (.frz (.str x)), some (.frz (.str x)), some (.lst []), some (.frz (.str x)), some (.frz (.str x)), none, none, none, none] w) := by
    rw [hf, sWh_go t1 b1, sWh_end t2]
  unfold g__law_same
  rw [m_same_eq, sSeq_nx a1, sSeq_nx l1]
  rfl
section
variable {sc : D} {o2 o3 o4 o5 o6 o7 o8 o9 o10 o11 o12 o13 o14 o15 o16 o17 o18 o19 o20 o21 o22 o23 o24 o25 : Option O}
variable {A B : Rl} {ka kb : Nat} (hA : Pg A ka) (hB : Pg B kb)
include hA hB
def X8 : M DS D := (mFz (mLs (mCons (m1 (fun d => pu (d.fldS "Program" "own_letters")) (mVar 10)) (mCons (m1 (fun d => pu (d.fldS "Program" "own_rules")) (mVar 10)) (mCons (m1 (fun d => pu (d.fldS "Program" "own_rules")) (mCall 2 g_joined [] (m1 (fun ds => pu (if ds.length = 2 then some (pmI [1, 0] ds) else none)) (mCons (mVar 6) (mCons (mVar 5) mNil))))) mNil)))))
def Y8 : M DS D := (mFz (mLs (mCons (mVar 7) (mCons (m1 (pu1 D.tupF) (mCons (mVar 9) mNil)) (mCons (m1 (pu1 D.tupF) (mCons (mVar 9) mNil)) mNil)))))
theorem X8_ok (h : A.length + B.length ≤ 12) (w : DS) : X8 [some (.frz sc), some (.frz .wld), o2, some (.frz (dRules A)), some (.frz (dRules B)), some (.frz (PD ka A)), some (.frz (PD kb B)), some (.frz (.int (Nat.max ka kb : Nat))), some (.frz (.int A.length)), some (.frz (.lst ((JR A B (Nat.max ka kb)).map fun l => .tup (l.map dR)))), some (.frz (PD (Nat.max ka kb) (JR A B (Nat.max ka kb)))), o11, o12, o13, o14, o15, o16, o17, o18, o19, o20, o21, o22, o23, o24, o25] w = some (.ok (.lst [.int (Nat.max ka kb : Nat), dRules (JR A B (Nat.max ka kb)), dRules (JR A B (Nat.max ka kb))]) [some (.frz sc), some (.frz .wld), o2, some (.frz (dRules A)), some (.frz (dRules B)), some (.frz (PD ka A)), some (.frz (PD kb B)), some (.frz (.int (Nat.max ka kb : Nat))), some (.frz (.int A.length)), some (.frz (.lst ((JR A B (Nat.max ka kb)).map fun l => .tup (l.map dR)))), some (.frz (PD (Nat.max ka kb) (JR A B (Nat.max ka kb)))), o11, o12, o13, o14, o15, o16, o17, o18, o19, o20, o21, o22, o23, o24, o25] w) := by
  unfold X8
  refine mFz_of (mLs_of (mCons_of (ρ1 := [some (.frz sc), some (.frz .wld), o2, some (.frz (dRules A)), some (.frz (dRules B)), some (.frz (PD ka A)), some (.frz (PD kb B)), some (.frz (.int (Nat.max ka kb : Nat))), some (.frz (.int A.length)), some (.frz (.lst ((JR A B (Nat.max ka kb)).map fun l => .tup (l.map dR)))), some (.frz (PD (Nat.max ka kb) (JR A B (Nat.max ka kb)))), o11, o12, o13, o14, o15, o16, o17, o18, o19, o20, o21, o22, o23, o24, o25]) (w1 := w) rfl (mCons_of (ρ1 := [some (.frz sc), some (.frz .wld), o2, some (.frz (dRules A)), some (.frz (dRules B)), some (.frz (PD ka A)), some (.frz (PD kb B)), some (.frz (.int (Nat.max ka kb : Nat))), some (.frz (.int A.length)), some (.frz (.lst ((JR A B (Nat.max ka kb)).map fun l => .tup (l.map dR)))), some (.frz (PD (Nat.max ka kb) (JR A B (Nat.max ka kb)))), o11, o12, o13, o14, o15, o16, o17, o18, o19, o20, o21, o22, o23, o24, o25]) (w1 := w) rfl (mCons_of ((m1_of (mCall_of (ds := [PD ka A, PD kb B]) (ρ1 := [some (.frz sc), some (.frz .wld), o2, some (.frz (dRules A)), some (.frz (dRules B)), some (.frz (PD ka A)), some (.frz (PD kb B)), some (.frz (.int (Nat.max ka kb : Nat))), some (.frz (.int A.length)), some (.frz (.lst ((JR A B (Nat.max ka kb)).map fun l => .tup (l.map dR)))), some (.frz (PD (Nat.max ka kb) (JR A B (Nat.max ka kb)))), o11, o12, o13, o14, o15, o16, o17, o18, o19, o20, o21, o22, o23, o24, o25]) (w1 := w) rfl rfl (joined_ok hA hB h w))).trans rfl) (mNil_of _ _)))) ?_)
  show 3 ≤ 1000000
  decide
theorem Y8_ok (w : DS) : Y8 [some (.frz sc), some (.frz .wld), o2, some (.frz (dRules A)), some (.frz (dRules B)), some (.frz (PD ka A)), some (.frz (PD kb B)), some (.frz (.int (Nat.max ka kb : Nat))), some (.frz (.int A.length)), some (.frz (.lst ((JR A B (Nat.max ka kb)).map fun l => .tup (l.map dR)))), some (.frz (PD (Nat.max ka kb) (JR A B (Nat.max ka kb)))), o11, o12, o13, o14, o15, o16, o17, o18, o19, o20, o21, o22, o23, o24, o25] w = some (.ok (.lst [.int (Nat.max ka kb : Nat), dRules (JR A B (Nat.max ka kb)), dRules (JR A B (Nat.max ka kb))]) [some (.frz sc), some (.frz .wld), o2, some (.frz (dRules A)), some (.frz (dRules B)), some (.frz (PD ka A)), some (.frz (PD kb B)), some (.frz (.int (Nat.max ka kb : Nat))), some (.frz (.int A.length)), some (.frz (.lst ((JR A B (Nat.max ka kb)).map fun l => .tup (l.map dR)))), some (.frz (PD (Nat.max ka kb) (JR A B (Nat.max ka kb)))), o11, o12, o13, o14, o15, o16, o17, o18, o19, o20, o21, o22, o23, o24, o25] w) := by
  unfold Y8
  refine mFz_of (mLs_of (mCons_of (ρ1 := [some (.frz sc), some (.frz .wld), o2, some (.frz (dRules A)), some (.frz (dRules B)), some (.frz (PD ka A)), some (.frz (PD kb B)), some (.frz (.int (Nat.max ka kb : Nat))), some (.frz (.int A.length)), some (.frz (.lst ((JR A B (Nat.max ka kb)).map fun l => .tup (l.map dR)))), some (.frz (PD (Nat.max ka kb) (JR A B (Nat.max ka kb)))), o11, o12, o13, o14, o15, o16, o17, o18, o19, o20, o21, o22, o23, o24, o25]) (w1 := w) rfl (mCons_of (ρ1 := [some (.frz sc), some (.frz .wld), o2, some (.frz (dRules A)), some (.frz (dRules B)), some (.frz (PD ka A)), some (.frz (PD kb B)), some (.frz (.int (Nat.max ka kb : Nat))), some (.frz (.int A.length)), some (.frz (.lst ((JR A B (Nat.max ka kb)).map fun l => .tup (l.map dR)))), some (.frz (PD (Nat.max ka kb) (JR A B (Nat.max ka kb)))), o11, o12, o13, o14, o15, o16, o17, o18, o19, o20, o21, o22, o23, o24, o25]) (w1 := w) rfl (mCons_of (ρ1 := [some (.frz sc), some (.frz .wld), o2, some (.frz (dRules A)), some (.frz (dRules B)), some (.frz (PD ka A)), some (.frz (PD kb B)), some (.frz (.int (Nat.max ka kb : Nat))), some (.frz (.int A.length)), some (.frz (.lst ((JR A B (Nat.max ka kb)).map fun l => .tup (l.map dR)))), some (.frz (PD (Nat.max ka kb) (JR A B (Nat.max ka kb)))), o11, o12, o13, o14, o15, o16, o17, o18, o19, o20, o21, o22, o23, o24, o25]) (w1 := w) rfl (mNil_of _ _)))) ?_)
  show 3 ≤ 1000000
  decide
theorem LB8_ok (h : A.length + B.length ≤ 12) (w : DS) : LB8 [some (.frz sc), some (.frz .wld), o2, some (.frz (dRules A)), some (.frz (dRules B)), some (.frz (PD ka A)), some (.frz (PD kb B)), some (.frz (.int (Nat.max ka kb : Nat))), some (.frz (.int A.length)), some (.frz (.lst ((JR A B (Nat.max ka kb)).map fun l => .tup (l.map dR)))), some (.frz (PD (Nat.max ka kb) (JR A B (Nat.max ka kb)))), o11, o12, o13, o14, o15, o16, o17, o18, o19, o20, o21, o22, o23, o24, o25] w = some (.nx [some (.frz sc), some (.frz .wld), o2, some (.frz (dRules A)), some (.frz (dRules B)), some (.frz (PD ka A)), some (.frz (PD kb B)), some (.frz (.int (Nat.max ka kb : Nat))), some (.frz (.int A.length)), some (.frz (.lst ((JR A B (Nat.max ka kb)).map fun l => .tup (l.map dR)))), some (.frz (PD (Nat.max ka kb) (JR A B (Nat.max ka kb)))), o11, o12, o13, o14, o15, o16, o17, o18, o19, o20, o21, o22, o23, o24, o25] w) := by
  have pj := JR_pg (k := Nat.max ka kb) hA hB (Nat.le_max_left _ _) (Nat.le_max_right _ _) (Nat.max_le.mpr ⟨hA.kk.2, hB.kk.2⟩) h
  have s := same_ok (d := (.lst [.int (Nat.max ka kb : Nat), dRules (JR A B (Nat.max ka kb)), dRules (JR A B (Nat.max ka kb))])) (n := 4) (by decide) (.inr ⟨_, .inr rfl, fun x hx => by
    rcases List.mem_cons.mp hx with rfl | hx
    · exact .inl (.inl (.inl (.inr ⟨_, rfl⟩)))
    · rcases List.mem_cons.mp hx with rfl | hx
      · exact sm_rules _
      · rw [List.mem_singleton] at hx
        rw [hx]
        exact sm_rules _⟩) (by
    have := sz_rules pj
    show 1 + (1 + (szD (dRules (JR A B (Nat.max ka kb))) + (szD (dRules (JR A B (Nat.max ka kb))) + 0))) < 100000
    omega) w
  exact check_of (mCall_of (mCons_of (X8_ok hA hB h w) (mCons_of (Y8_ok hA hB w) (mNil_of _ _))) rfl s)
def L9a : SM DS := (sPar 12 13 (mCons (mCall 3 g__law_sk_row [] (mCons (mVar 1) (mCons (mVar 3) (mCons (mC (.int 3)) mNil)))) (mCons (mCall 3 g__law_sk_row [] (mCons (mVar 1) (mCons (mVar 4) (mCons (mC (.int 3)) mNil)))) mNil)))
def L9b : SM DS := (sPar 14 15 (mCons (mCall 4 g__law_sk_text [] (mCons (mVar 1) (mCons (mVar 3) (mCons (mVar 12) (mCons (mC (.int 8)) mNil))))) (mCons (mCall 4 g__law_sk_text [] (mCons (mVar 1) (mCons (mVar 4) (mCons (mVar 13) (mCons (mC (.int 8)) mNil))))) mNil)))
def L9c : SM DS := (sIf (mNot (mB (mCall 2 g__law_is_truth [] (mCons (mCall 3 g_reads [] (mCons (mVar 10) (mCons (mVar 12) (mCons (mVar 14) mNil)))) (mCons (m2 (pu2 D.eqD) (m2 (pu2 D.ix) (mCall 3 g__law_sk_gone [] (mCons (mVar 3) (mCons (mVar 12) (mCons (mVar 14) mNil)))) (mC (.int 0))) (mTup mNil)) mNil))))) (sSeq (sRet (mC (.bl false))) sNext) sNext)
def L9d : SM DS := (sIf (mNot (mB (mCall 2 g__law_is_truth [] (mCons (mCall 3 g_reads [] (mCons (mVar 10) (mCons (m1 (pu1 D.tupF) (mCons (mFz (mLc (mIts (mVar 13)) [25] (bdN 25) mTrue (m2 (pu2 D.add) (mVar 25) (mVar 8)))) mNil)) (mCons (mVar 15) mNil)))) (mCons (m2 (pu2 D.eqD) (m2 (pu2 D.ix) (mCall 3 g__law_sk_gone [] (mCons (mVar 4) (mCons (mVar 13) (mCons (mVar 15) mNil)))) (mC (.int 0))) (mTup mNil)) mNil))))) (sSeq (sRet (mC (.bl false))) sNext) sNext)
omit hA hB in
theorem LI9_eq : LI9 = sSeq L9a (sSeq L9b (sSeq L9c (sSeq L9d sNext))) := rfl
theorem L9a_ok (i : D) {n : Nat} {w : DS} (ok : DsOk (n + 400) w) : ∃ (r1 r2 : List Nat) (w' : DS), L9a [some (.frz sc), some (.frz .wld), o2, some (.frz (dRules A)), some (.frz (dRules B)), some (.frz (PD ka A)), some (.frz (PD kb B)), some (.frz (.int (Nat.max ka kb : Nat))), some (.frz (.int A.length)), some (.frz (.lst ((JR A B (Nat.max ka kb)).map fun l => .tup (l.map dR)))), some (.frz (PD (Nat.max ka kb) (JR A B (Nat.max ka kb)))), some (.frz i), o12, o13, o14, o15, o16, o17, o18, o19, o20, o21, o22, o23, o24, o25] w = some (.nx [some (.frz sc), some (.frz .wld), o2, some (.frz (dRules A)), some (.frz (dRules B)), some (.frz (PD ka A)), some (.frz (PD kb B)), some (.frz (.int (Nat.max ka kb : Nat))), some (.frz (.int A.length)), some (.frz (.lst ((JR A B (Nat.max ka kb)).map fun l => .tup (l.map dR)))), some (.frz (PD (Nat.max ka kb) (JR A B (Nat.max ka kb)))), some (.frz i), some (.frz (.tup (dn r1))), some (.frz (.tup (dn r2))), o14, o15, o16, o17, o18, o19, o20, o21, o22, o23, o24, o25] w') ∧ (∀ a ∈ r1, a < A.length) ∧ r1.length ≤ 3 ∧ (∀ a ∈ r2, a < B.length) ∧ r2.length ≤ 3 ∧ DsOk n w' := by
  obtain ⟨r1, w1, e1, p1, q1, ok1⟩ := sk_row_ok (n := n + 200) hA.len (most := 3) (by decide) ok
  obtain ⟨r2, w2, e2, p2, q2, ok2⟩ := sk_row_ok (n := n) hB.len (most := 3) (by decide) ok1
  have z1 : ((mCall 3 g__law_sk_row [] (mCons (mVar 1) (mCons (mVar 3) (mCons (mC (.int 3)) mNil)))) : M DS D) [some (.frz sc), some (.frz .wld), o2, some (.frz (dRules A)), some (.frz (dRules B)), some (.frz (PD ka A)), some (.frz (PD kb B)), some (.frz (.int (Nat.max ka kb : Nat))), some (.frz (.int A.length)), some (.frz (.lst ((JR A B (Nat.max ka kb)).map fun l => .tup (l.map dR)))), some (.frz (PD (Nat.max ka kb) (JR A B (Nat.max ka kb)))), some (.frz i), o12, o13, o14, o15, o16, o17, o18, o19, o20, o21, o22, o23, o24, o25] w = some (.ok (.tup (dn r1)) [some (.frz sc), some (.frz .wld), o2, some (.frz (dRules A)), some (.frz (dRules B)), some (.frz (PD ka A)), some (.frz (PD kb B)), some (.frz (.int (Nat.max ka kb : Nat))), some (.frz (.int A.length)), some (.frz (.lst ((JR A B (Nat.max ka kb)).map fun l => .tup (l.map dR)))), some (.frz (PD (Nat.max ka kb) (JR A B (Nat.max ka kb)))), some (.frz i), o12, o13, o14, o15, o16, o17, o18, o19, o20, o21, o22, o23, o24, o25] w1) := mCall_of (ds := [.wld, dRules A, .int 3]) rfl rfl e1
  have z2 : ((mCall 3 g__law_sk_row [] (mCons (mVar 1) (mCons (mVar 4) (mCons (mC (.int 3)) mNil)))) : M DS D) [some (.frz sc), some (.frz .wld), o2, some (.frz (dRules A)), some (.frz (dRules B)), some (.frz (PD ka A)), some (.frz (PD kb B)), some (.frz (.int (Nat.max ka kb : Nat))), some (.frz (.int A.length)), some (.frz (.lst ((JR A B (Nat.max ka kb)).map fun l => .tup (l.map dR)))), some (.frz (PD (Nat.max ka kb) (JR A B (Nat.max ka kb)))), some (.frz i), o12, o13, o14, o15, o16, o17, o18, o19, o20, o21, o22, o23, o24, o25] w1 = some (.ok (.tup (dn r2)) [some (.frz sc), some (.frz .wld), o2, some (.frz (dRules A)), some (.frz (dRules B)), some (.frz (PD ka A)), some (.frz (PD kb B)), some (.frz (.int (Nat.max ka kb : Nat))), some (.frz (.int A.length)), some (.frz (.lst ((JR A B (Nat.max ka kb)).map fun l => .tup (l.map dR)))), some (.frz (PD (Nat.max ka kb) (JR A B (Nat.max ka kb)))), some (.frz i), o12, o13, o14, o15, o16, o17, o18, o19, o20, o21, o22, o23, o24, o25] w2) := mCall_of (ds := [.wld, dRules B, .int 3]) rfl rfl e2
  exact ⟨r1, r2, w2, (sPar_of (mCons_of z1 (mCons_of z2 (mNil_of _ _))) : (sPar 12 13 _) _ _ = _), p1, q1, p2, q2, ok2⟩
theorem L9b_ok (i : D) {r1 r2 : List Nat} (p1 : ∀ a ∈ r1, a < A.length) (q1 : r1.length ≤ 3) (p2 : ∀ a ∈ r2, a < B.length) (q2 : r2.length ≤ 3) {n : Nat} {w : DS} (ok : DsOk (n + 400) w) : ∃ (t1 t2 : List Nat) (w' : DS), L9b [some (.frz sc), some (.frz .wld), o2, some (.frz (dRules A)), some (.frz (dRules B)), some (.frz (PD ka A)), some (.frz (PD kb B)), some (.frz (.int (Nat.max ka kb : Nat))), some (.frz (.int A.length)), some (.frz (.lst ((JR A B (Nat.max ka kb)).map fun l => .tup (l.map dR)))), some (.frz (PD (Nat.max ka kb) (JR A B (Nat.max ka kb)))), some (.frz i), some (.frz (.tup (dn r1))), some (.frz (.tup (dn r2))), o14, o15, o16, o17, o18, o19, o20, o21, o22, o23, o24, o25] w = some (.nx [some (.frz sc), some (.frz .wld), o2, some (.frz (dRules A)), some (.frz (dRules B)), some (.frz (PD ka A)), some (.frz (PD kb B)), some (.frz (.int (Nat.max ka kb : Nat))), some (.frz (.int A.length)), some (.frz (.lst ((JR A B (Nat.max ka kb)).map fun l => .tup (l.map dR)))), some (.frz (PD (Nat.max ka kb) (JR A B (Nat.max ka kb)))), some (.frz i), some (.frz (.tup (dn r1))), some (.frz (.tup (dn r2))), some (.frz (.tup (dn t1))), some (.frz (.tup (dn t2))), o16, o17, o18, o19, o20, o21, o22, o23, o24, o25] w') ∧ (∀ x ∈ t1, x < ka) ∧ t1.length ≤ 8 ∧ (∀ x ∈ t2, x < kb) ∧ t2.length ≤ 8 ∧ DsOk n w' := by
  obtain ⟨t1, w1, e1, g1, f1, ok1⟩ := sk_text_ok (n := n + 200) hA r1 8 p1 (by omega) (by decide) ok
  obtain ⟨t2, w2, e2, g2, f2, ok2⟩ := sk_text_ok (n := n) hB r2 8 p2 (by omega) (by decide) ok1
  have z1 : ((mCall 4 g__law_sk_text [] (mCons (mVar 1) (mCons (mVar 3) (mCons (mVar 12) (mCons (mC (.int 8)) mNil))))) : M DS D) [some (.frz sc), some (.frz .wld), o2, some (.frz (dRules A)), some (.frz (dRules B)), some (.frz (PD ka A)), some (.frz (PD kb B)), some (.frz (.int (Nat.max ka kb : Nat))), some (.frz (.int A.length)), some (.frz (.lst ((JR A B (Nat.max ka kb)).map fun l => .tup (l.map dR)))), some (.frz (PD (Nat.max ka kb) (JR A B (Nat.max ka kb)))), some (.frz i), some (.frz (.tup (dn r1))), some (.frz (.tup (dn r2))), o14, o15, o16, o17, o18, o19, o20, o21, o22, o23, o24, o25] w = some (.ok (.tup (dn t1)) [some (.frz sc), some (.frz .wld), o2, some (.frz (dRules A)), some (.frz (dRules B)), some (.frz (PD ka A)), some (.frz (PD kb B)), some (.frz (.int (Nat.max ka kb : Nat))), some (.frz (.int A.length)), some (.frz (.lst ((JR A B (Nat.max ka kb)).map fun l => .tup (l.map dR)))), some (.frz (PD (Nat.max ka kb) (JR A B (Nat.max ka kb)))), some (.frz i), some (.frz (.tup (dn r1))), some (.frz (.tup (dn r2))), o14, o15, o16, o17, o18, o19, o20, o21, o22, o23, o24, o25] w1) := mCall_of (ds := [.wld, dRules A, .tup (dn r1), .int 8]) rfl rfl e1
  have z2 : ((mCall 4 g__law_sk_text [] (mCons (mVar 1) (mCons (mVar 4) (mCons (mVar 13) (mCons (mC (.int 8)) mNil))))) : M DS D) [some (.frz sc), some (.frz .wld), o2, some (.frz (dRules A)), some (.frz (dRules B)), some (.frz (PD ka A)), some (.frz (PD kb B)), some (.frz (.int (Nat.max ka kb : Nat))), some (.frz (.int A.length)), some (.frz (.lst ((JR A B (Nat.max ka kb)).map fun l => .tup (l.map dR)))), some (.frz (PD (Nat.max ka kb) (JR A B (Nat.max ka kb)))), some (.frz i), some (.frz (.tup (dn r1))), some (.frz (.tup (dn r2))), o14, o15, o16, o17, o18, o19, o20, o21, o22, o23, o24, o25] w1 = some (.ok (.tup (dn t2)) [some (.frz sc), some (.frz .wld), o2, some (.frz (dRules A)), some (.frz (dRules B)), some (.frz (PD ka A)), some (.frz (PD kb B)), some (.frz (.int (Nat.max ka kb : Nat))), some (.frz (.int A.length)), some (.frz (.lst ((JR A B (Nat.max ka kb)).map fun l => .tup (l.map dR)))), some (.frz (PD (Nat.max ka kb) (JR A B (Nat.max ka kb)))), some (.frz i), some (.frz (.tup (dn r1))), some (.frz (.tup (dn r2))), o14, o15, o16, o17, o18, o19, o20, o21, o22, o23, o24, o25] w2) := mCall_of (ds := [.wld, dRules B, .tup (dn r2), .int 8]) rfl rfl e2
  exact ⟨t1, t2, w2, (sPar_of (mCons_of z1 (mCons_of z2 (mNil_of _ _))) : (sPar 14 15 _) _ _ = _), g1, f1, g2, f2, ok2⟩
def K9c : M DS D := (mCall 3 g_reads [] (mCons (mVar 10) (mCons (mVar 12) (mCons (mVar 14) mNil))))
def G9c : M DS D := (m2 (pu2 D.eqD) (m2 (pu2 D.ix) (mCall 3 g__law_sk_gone [] (mCons (mVar 3) (mCons (mVar 12) (mCons (mVar 14) mNil)))) (mC (.int 0))) (mTup mNil))
def K9d : M DS D := (mCall 3 g_reads [] (mCons (mVar 10) (mCons (m1 (pu1 D.tupF) (mCons (mFz (mLc (mIts (mVar 13)) [25] (bdN 25) mTrue (m2 (pu2 D.add) (mVar 25) (mVar 8)))) mNil)) (mCons (mVar 15) mNil))))
def G9d : M DS D := (m2 (pu2 D.eqD) (m2 (pu2 D.ix) (mCall 3 g__law_sk_gone [] (mCons (mVar 4) (mCons (mVar 13) (mCons (mVar 15) mNil)))) (mC (.int 0))) (mTup mNil))
def C9 : M DS (List D) := (mLc (mIts (mVar 13)) [25] (bdN 25) mTrue (m2 (pu2 D.add) (mVar 25) (mVar 8)))
theorem L9c_ok (i : D) {r1 r2 t1 t2 : List Nat} (h : A.length + B.length ≤ 12) (p1 : ∀ a ∈ r1, a < A.length) (q1 : r1.length ≤ 3) (g1 : ∀ x ∈ t1, x < ka) (f1 : t1.length ≤ 8) (w : DS) : L9c [some (.frz sc), some (.frz .wld), o2, some (.frz (dRules A)), some (.frz (dRules B)), some (.frz (PD ka A)), some (.frz (PD kb B)), some (.frz (.int (Nat.max ka kb : Nat))), some (.frz (.int A.length)), some (.frz (.lst ((JR A B (Nat.max ka kb)).map fun l => .tup (l.map dR)))), some (.frz (PD (Nat.max ka kb) (JR A B (Nat.max ka kb)))), some (.frz i), some (.frz (.tup (dn r1))), some (.frz (.tup (dn r2))), some (.frz (.tup (dn t1))), some (.frz (.tup (dn t2))), o16, o17, o18, o19, o20, o21, o22, o23, o24, o25] w = some (.nx [some (.frz sc), some (.frz .wld), o2, some (.frz (dRules A)), some (.frz (dRules B)), some (.frz (PD ka A)), some (.frz (PD kb B)), some (.frz (.int (Nat.max ka kb : Nat))), some (.frz (.int A.length)), some (.frz (.lst ((JR A B (Nat.max ka kb)).map fun l => .tup (l.map dR)))), some (.frz (PD (Nat.max ka kb) (JR A B (Nat.max ka kb)))), some (.frz i), some (.frz (.tup (dn r1))), some (.frz (.tup (dn r2))), some (.frz (.tup (dn t1))), some (.frz (.tup (dn t2))), o16, o17, o18, o19, o20, o21, o22, o23, o24, o25] w) := by
  have pj := (JR_pg (k := Nat.max ka kb) hA hB (Nat.le_max_left _ _) (Nat.le_max_right _ _) (Nat.max_le.mpr ⟨hA.kk.2, hB.kk.2⟩) h)
  have hk := Nat.le_max_left ka kb
  have jl := JR_len A B (Nat.max ka kb)
  have gs := gone_sub (sub_left (B := B) (k := Nat.max ka kb) hA) t1 r1 0 p1 g1
  have r0 : r1.map (· + 0) = r1 := by simp
  rw [r0] at gs
  have rd := reads_ok (L := Nat.max ka kb) (R := JR A B (Nat.max ka kb)) (row := r1) (text := t1) (txt := .tup (dn t1)) ⟨pj.good, .inl rfl, fun a ha => by rw [jl]; have := p1 a ha; omega, fun x hx => Nat.lt_of_lt_of_le (g1 x hx) hk, by omega, by omega⟩ w
  have gn := sk_gone_ok hA.good p1 g1 (by omega) w
  rw [gs] at rd
  have e : decide ((shR 0 (goneM A r1 0 t1).1, (goneM A r1 0 t1).2).1 = some []) = decide ((goneM A r1 0 t1).1 = some []) := decide_eq_decide.mpr (shR_nil 0 _)
  rw [e] at rd
  have kk : K9c [some (.frz sc), some (.frz .wld), o2, some (.frz (dRules A)), some (.frz (dRules B)), some (.frz (PD ka A)), some (.frz (PD kb B)), some (.frz (.int (Nat.max ka kb : Nat))), some (.frz (.int A.length)), some (.frz (.lst ((JR A B (Nat.max ka kb)).map fun l => .tup (l.map dR)))), some (.frz (PD (Nat.max ka kb) (JR A B (Nat.max ka kb)))), some (.frz i), some (.frz (.tup (dn r1))), some (.frz (.tup (dn r2))), some (.frz (.tup (dn t1))), some (.frz (.tup (dn t2))), o16, o17, o18, o19, o20, o21, o22, o23, o24, o25] w = some (.ok (.bl (decide ((goneM A r1 0 t1).1 = some []))) [some (.frz sc), some (.frz .wld), o2, some (.frz (dRules A)), some (.frz (dRules B)), some (.frz (PD ka A)), some (.frz (PD kb B)), some (.frz (.int (Nat.max ka kb : Nat))), some (.frz (.int A.length)), some (.frz (.lst ((JR A B (Nat.max ka kb)).map fun l => .tup (l.map dR)))), some (.frz (PD (Nat.max ka kb) (JR A B (Nat.max ka kb)))), some (.frz i), some (.frz (.tup (dn r1))), some (.frz (.tup (dn r2))), some (.frz (.tup (dn t1))), some (.frz (.tup (dn t2))), o16, o17, o18, o19, o20, o21, o22, o23, o24, o25] w) := mCall_of (ds := [PD (Nat.max ka kb) (JR A B (Nat.max ka kb)), .tup (dn r1), .tup (dn t1)]) rfl rfl rd
  have gg : G9c [some (.frz sc), some (.frz .wld), o2, some (.frz (dRules A)), some (.frz (dRules B)), some (.frz (PD ka A)), some (.frz (PD kb B)), some (.frz (.int (Nat.max ka kb : Nat))), some (.frz (.int A.length)), some (.frz (.lst ((JR A B (Nat.max ka kb)).map fun l => .tup (l.map dR)))), some (.frz (PD (Nat.max ka kb) (JR A B (Nat.max ka kb)))), some (.frz i), some (.frz (.tup (dn r1))), some (.frz (.tup (dn r2))), some (.frz (.tup (dn t1))), some (.frz (.tup (dn t2))), o16, o17, o18, o19, o20, o21, o22, o23, o24, o25] w = some (.ok (.bl (decide ((goneM A r1 0 t1).1 = some []))) [some (.frz sc), some (.frz .wld), o2, some (.frz (dRules A)), some (.frz (dRules B)), some (.frz (PD ka A)), some (.frz (PD kb B)), some (.frz (.int (Nat.max ka kb : Nat))), some (.frz (.int A.length)), some (.frz (.lst ((JR A B (Nat.max ka kb)).map fun l => .tup (l.map dR)))), some (.frz (PD (Nat.max ka kb) (JR A B (Nat.max ka kb)))), some (.frz i), some (.frz (.tup (dn r1))), some (.frz (.tup (dn r2))), some (.frz (.tup (dn t1))), some (.frz (.tup (dn t2))), o16, o17, o18, o19, o20, o21, o22, o23, o24, o25] w) := by
    have z : (mCall 3 g__law_sk_gone [] (mCons (mVar 3) (mCons (mVar 12) (mCons (mVar 14) mNil))) : M DS D) [some (.frz sc), some (.frz .wld), o2, some (.frz (dRules A)), some (.frz (dRules B)), some (.frz (PD ka A)), some (.frz (PD kb B)), some (.frz (.int (Nat.max ka kb : Nat))), some (.frz (.int A.length)), some (.frz (.lst ((JR A B (Nat.max ka kb)).map fun l => .tup (l.map dR)))), some (.frz (PD (Nat.max ka kb) (JR A B (Nat.max ka kb)))), some (.frz i), some (.frz (.tup (dn r1))), some (.frz (.tup (dn r2))), some (.frz (.tup (dn t1))), some (.frz (.tup (dn t2))), o16, o17, o18, o19, o20, o21, o22, o23, o24, o25] w = some (.ok _ [some (.frz sc), some (.frz .wld), o2, some (.frz (dRules A)), some (.frz (dRules B)), some (.frz (PD ka A)), some (.frz (PD kb B)), some (.frz (.int (Nat.max ka kb : Nat))), some (.frz (.int A.length)), some (.frz (.lst ((JR A B (Nat.max ka kb)).map fun l => .tup (l.map dR)))), some (.frz (PD (Nat.max ka kb) (JR A B (Nat.max ka kb)))), some (.frz i), some (.frz (.tup (dn r1))), some (.frz (.tup (dn r2))), some (.frz (.tup (dn t1))), some (.frz (.tup (dn t2))), o16, o17, o18, o19, o20, o21, o22, o23, o24, o25] w) := mCall_of (ds := [dRules A, .tup (dn r1), .tup (dn t1)]) rfl rfl gn
    exact (m2_of (f := pu2 D.eqD) ((m2_of (f := pu2 D.ix) z (mb := mC (.int 0)) rfl).trans (pu2_of (ix0 _ _))) (mb := mTup mNil) rfl).trans (pu2_of (eqD_dR _))
  exact check_of (mCall_of (mCons_of kk (mCons_of gg (mNil_of _ _))) rfl (truth_ok _ w))
theorem C9_ok (i : D) {r1 r2 t1 t2 : List Nat} (q2 : r2.length ≤ 3) (w : DS) : C9 [some (.frz sc), some (.frz .wld), o2, some (.frz (dRules A)), some (.frz (dRules B)), some (.frz (PD ka A)), some (.frz (PD kb B)), some (.frz (.int (Nat.max ka kb : Nat))), some (.frz (.int A.length)), some (.frz (.lst ((JR A B (Nat.max ka kb)).map fun l => .tup (l.map dR)))), some (.frz (PD (Nat.max ka kb) (JR A B (Nat.max ka kb)))), some (.frz i), some (.frz (.tup (dn r1))), some (.frz (.tup (dn r2))), some (.frz (.tup (dn t1))), some (.frz (.tup (dn t2))), o16, o17, o18, o19, o20, o21, o22, o23, o24, o25] w = some (.ok (dn (r2.map (· + A.length))) [some (.frz sc), some (.frz .wld), o2, some (.frz (dRules A)), some (.frz (dRules B)), some (.frz (PD ka A)), some (.frz (PD kb B)), some (.frz (.int (Nat.max ka kb : Nat))), some (.frz (.int A.length)), some (.frz (.lst ((JR A B (Nat.max ka kb)).map fun l => .tup (l.map dR)))), some (.frz (PD (Nat.max ka kb) (JR A B (Nat.max ka kb)))), some (.frz i), some (.frz (.tup (dn r1))), some (.frz (.tup (dn r2))), some (.frz (.tup (dn t1))), some (.frz (.tup (dn t2))), o16, o17, o18, o19, o20, o21, o22, o23, o24, o25] w) := by
  rw [← dn_map]
  refine mLc_all r2 (fun (n : Nat) => D.int n) (fun (n : Nat) => D.int ((n + A.length : Nat) : Int)) ?_ (by omega) fun a _ => ?_
  · rfl
  · exact ⟨_, rfl, _, rfl⟩
theorem L9d_ok (i : D) {r1 r2 t1 t2 : List Nat} (h : A.length + B.length ≤ 12) (p2 : ∀ a ∈ r2, a < B.length) (q2 : r2.length ≤ 3) (g2 : ∀ x ∈ t2, x < kb) (f2 : t2.length ≤ 8) (w : DS) : L9d [some (.frz sc), some (.frz .wld), o2, some (.frz (dRules A)), some (.frz (dRules B)), some (.frz (PD ka A)), some (.frz (PD kb B)), some (.frz (.int (Nat.max ka kb : Nat))), some (.frz (.int A.length)), some (.frz (.lst ((JR A B (Nat.max ka kb)).map fun l => .tup (l.map dR)))), some (.frz (PD (Nat.max ka kb) (JR A B (Nat.max ka kb)))), some (.frz i), some (.frz (.tup (dn r1))), some (.frz (.tup (dn r2))), some (.frz (.tup (dn t1))), some (.frz (.tup (dn t2))), o16, o17, o18, o19, o20, o21, o22, o23, o24, o25] w = some (.nx [some (.frz sc), some (.frz .wld), o2, some (.frz (dRules A)), some (.frz (dRules B)), some (.frz (PD ka A)), some (.frz (PD kb B)), some (.frz (.int (Nat.max ka kb : Nat))), some (.frz (.int A.length)), some (.frz (.lst ((JR A B (Nat.max ka kb)).map fun l => .tup (l.map dR)))), some (.frz (PD (Nat.max ka kb) (JR A B (Nat.max ka kb)))), some (.frz i), some (.frz (.tup (dn r1))), some (.frz (.tup (dn r2))), some (.frz (.tup (dn t1))), some (.frz (.tup (dn t2))), o16, o17, o18, o19, o20, o21, o22, o23, o24, o25] w) := by
  have pj := (JR_pg (k := Nat.max ka kb) hA hB (Nat.le_max_left _ _) (Nat.le_max_right _ _) (Nat.max_le.mpr ⟨hA.kk.2, hB.kk.2⟩) h)
  have hk := Nat.le_max_right ka kb
  have jl := JR_len A B (Nat.max ka kb)
  have gs := gone_sub (sub_right (A := A) (k := Nat.max ka kb) hB) t2 r2 0 p2 g2
  have rd := reads_ok (L := Nat.max ka kb) (R := JR A B (Nat.max ka kb)) (row := r2.map (· + A.length)) (text := t2) (txt := .tup (dn t2)) ⟨pj.good, .inl rfl, fun a ha => by
    obtain ⟨b, hb, rfl⟩ := List.mem_map.mp ha
    rw [jl]
    have := p2 b hb
    omega, fun x hx => Nat.lt_of_lt_of_le (g2 x hx) hk, by rw [List.length_map]; omega, by omega⟩ w
  have gn := sk_gone_ok hB.good p2 g2 (by omega) w
  rw [gs] at rd
  have e : decide ((shR A.length (goneM B r2 0 t2).1, (goneM B r2 0 t2).2).1 = some []) = decide ((goneM B r2 0 t2).1 = some []) := decide_eq_decide.mpr (shR_nil _ _)
  rw [e] at rd
  have c := mFz_of (C9_ok (sc := sc) (o2 := o2) (o16 := o16) (o17 := o17) (o18 := o18) (o19 := o19) (o20 := o20) (o21 := o21) (o22 := o22) (o23 := o23) (o24 := o24) (o25 := o25) hA hB i (r1 := r1) (t1 := t1) (t2 := t2) q2 w)
  have ct : (m1 (pu1 D.tupF) (mCons (mFz C9) mNil) : M DS D) [some (.frz sc), some (.frz .wld), o2, some (.frz (dRules A)), some (.frz (dRules B)), some (.frz (PD ka A)), some (.frz (PD kb B)), some (.frz (.int (Nat.max ka kb : Nat))), some (.frz (.int A.length)), some (.frz (.lst ((JR A B (Nat.max ka kb)).map fun l => .tup (l.map dR)))), some (.frz (PD (Nat.max ka kb) (JR A B (Nat.max ka kb)))), some (.frz i), some (.frz (.tup (dn r1))), some (.frz (.tup (dn r2))), some (.frz (.tup (dn t1))), some (.frz (.tup (dn t2))), o16, o17, o18, o19, o20, o21, o22, o23, o24, o25] w = some (.ok (.tup (dn (r2.map (· + A.length)))) [some (.frz sc), some (.frz .wld), o2, some (.frz (dRules A)), some (.frz (dRules B)), some (.frz (PD ka A)), some (.frz (PD kb B)), some (.frz (.int (Nat.max ka kb : Nat))), some (.frz (.int A.length)), some (.frz (.lst ((JR A B (Nat.max ka kb)).map fun l => .tup (l.map dR)))), some (.frz (PD (Nat.max ka kb) (JR A B (Nat.max ka kb)))), some (.frz i), some (.frz (.tup (dn r1))), some (.frz (.tup (dn r2))), some (.frz (.tup (dn t1))), some (.frz (.tup (dn t2))), o16, o17, o18, o19, o20, o21, o22, o23, o24, o25] w) := (m1_of (mCons_of c (mNil_of _ _))).trans rfl
  have kk : K9d [some (.frz sc), some (.frz .wld), o2, some (.frz (dRules A)), some (.frz (dRules B)), some (.frz (PD ka A)), some (.frz (PD kb B)), some (.frz (.int (Nat.max ka kb : Nat))), some (.frz (.int A.length)), some (.frz (.lst ((JR A B (Nat.max ka kb)).map fun l => .tup (l.map dR)))), some (.frz (PD (Nat.max ka kb) (JR A B (Nat.max ka kb)))), some (.frz i), some (.frz (.tup (dn r1))), some (.frz (.tup (dn r2))), some (.frz (.tup (dn t1))), some (.frz (.tup (dn t2))), o16, o17, o18, o19, o20, o21, o22, o23, o24, o25] w = some (.ok (.bl (decide ((goneM B r2 0 t2).1 = some []))) [some (.frz sc), some (.frz .wld), o2, some (.frz (dRules A)), some (.frz (dRules B)), some (.frz (PD ka A)), some (.frz (PD kb B)), some (.frz (.int (Nat.max ka kb : Nat))), some (.frz (.int A.length)), some (.frz (.lst ((JR A B (Nat.max ka kb)).map fun l => .tup (l.map dR)))), some (.frz (PD (Nat.max ka kb) (JR A B (Nat.max ka kb)))), some (.frz i), some (.frz (.tup (dn r1))), some (.frz (.tup (dn r2))), some (.frz (.tup (dn t1))), some (.frz (.tup (dn t2))), o16, o17, o18, o19, o20, o21, o22, o23, o24, o25] w) := by
    unfold K9d
    refine mCall_of (ds := [PD (Nat.max ka kb) (JR A B (Nat.max ka kb)), .tup (dn (r2.map (· + A.length))), .tup (dn t2)]) (mCons_of (ρ1 := [some (.frz sc), some (.frz .wld), o2, some (.frz (dRules A)), some (.frz (dRules B)), some (.frz (PD ka A)), some (.frz (PD kb B)), some (.frz (.int (Nat.max ka kb : Nat))), some (.frz (.int A.length)), some (.frz (.lst ((JR A B (Nat.max ka kb)).map fun l => .tup (l.map dR)))), some (.frz (PD (Nat.max ka kb) (JR A B (Nat.max ka kb)))), some (.frz i), some (.frz (.tup (dn r1))), some (.frz (.tup (dn r2))), some (.frz (.tup (dn t1))), some (.frz (.tup (dn t2))), o16, o17, o18, o19, o20, o21, o22, o23, o24, o25]) (w1 := w) rfl ?_) rfl rd
    refine mCons_of ct ?_
    exact mCons_of (ρ1 := [some (.frz sc), some (.frz .wld), o2, some (.frz (dRules A)), some (.frz (dRules B)), some (.frz (PD ka A)), some (.frz (PD kb B)), some (.frz (.int (Nat.max ka kb : Nat))), some (.frz (.int A.length)), some (.frz (.lst ((JR A B (Nat.max ka kb)).map fun l => .tup (l.map dR)))), some (.frz (PD (Nat.max ka kb) (JR A B (Nat.max ka kb)))), some (.frz i), some (.frz (.tup (dn r1))), some (.frz (.tup (dn r2))), some (.frz (.tup (dn t1))), some (.frz (.tup (dn t2))), o16, o17, o18, o19, o20, o21, o22, o23, o24, o25]) (w1 := w) rfl (mNil_of _ _)
  have gg : G9d [some (.frz sc), some (.frz .wld), o2, some (.frz (dRules A)), some (.frz (dRules B)), some (.frz (PD ka A)), some (.frz (PD kb B)), some (.frz (.int (Nat.max ka kb : Nat))), some (.frz (.int A.length)), some (.frz (.lst ((JR A B (Nat.max ka kb)).map fun l => .tup (l.map dR)))), some (.frz (PD (Nat.max ka kb) (JR A B (Nat.max ka kb)))), some (.frz i), some (.frz (.tup (dn r1))), some (.frz (.tup (dn r2))), some (.frz (.tup (dn t1))), some (.frz (.tup (dn t2))), o16, o17, o18, o19, o20, o21, o22, o23, o24, o25] w = some (.ok (.bl (decide ((goneM B r2 0 t2).1 = some []))) [some (.frz sc), some (.frz .wld), o2, some (.frz (dRules A)), some (.frz (dRules B)), some (.frz (PD ka A)), some (.frz (PD kb B)), some (.frz (.int (Nat.max ka kb : Nat))), some (.frz (.int A.length)), some (.frz (.lst ((JR A B (Nat.max ka kb)).map fun l => .tup (l.map dR)))), some (.frz (PD (Nat.max ka kb) (JR A B (Nat.max ka kb)))), some (.frz i), some (.frz (.tup (dn r1))), some (.frz (.tup (dn r2))), some (.frz (.tup (dn t1))), some (.frz (.tup (dn t2))), o16, o17, o18, o19, o20, o21, o22, o23, o24, o25] w) := by
    have z : (mCall 3 g__law_sk_gone [] (mCons (mVar 4) (mCons (mVar 13) (mCons (mVar 15) mNil))) : M DS D) [some (.frz sc), some (.frz .wld), o2, some (.frz (dRules A)), some (.frz (dRules B)), some (.frz (PD ka A)), some (.frz (PD kb B)), some (.frz (.int (Nat.max ka kb : Nat))), some (.frz (.int A.length)), some (.frz (.lst ((JR A B (Nat.max ka kb)).map fun l => .tup (l.map dR)))), some (.frz (PD (Nat.max ka kb) (JR A B (Nat.max ka kb)))), some (.frz i), some (.frz (.tup (dn r1))), some (.frz (.tup (dn r2))), some (.frz (.tup (dn t1))), some (.frz (.tup (dn t2))), o16, o17, o18, o19, o20, o21, o22, o23, o24, o25] w = some (.ok _ [some (.frz sc), some (.frz .wld), o2, some (.frz (dRules A)), some (.frz (dRules B)), some (.frz (PD ka A)), some (.frz (PD kb B)), some (.frz (.int (Nat.max ka kb : Nat))), some (.frz (.int A.length)), some (.frz (.lst ((JR A B (Nat.max ka kb)).map fun l => .tup (l.map dR)))), some (.frz (PD (Nat.max ka kb) (JR A B (Nat.max ka kb)))), some (.frz i), some (.frz (.tup (dn r1))), some (.frz (.tup (dn r2))), some (.frz (.tup (dn t1))), some (.frz (.tup (dn t2))), o16, o17, o18, o19, o20, o21, o22, o23, o24, o25] w) := mCall_of (ds := [dRules B, .tup (dn r2), .tup (dn t2)]) rfl rfl gn
    exact (m2_of (f := pu2 D.eqD) ((m2_of (f := pu2 D.ix) z (mb := mC (.int 0)) rfl).trans (pu2_of (ix0 _ _))) (mb := mTup mNil) rfl).trans (pu2_of (eqD_dR _))
  exact check_of (mCall_of (mCons_of kk (mCons_of gg (mNil_of _ _))) rfl (truth_ok _ w))
theorem LB9_ok (h : A.length + B.length ≤ 12) {n : Nat} {w : DS} (ok : DsOk (n + 5000) w) : ∃ (p11 p12 p13 p14 p15 : Option O) (w' : DS), LB9 [some (.frz sc), some (.frz .wld), o2, some (.frz (dRules A)), some (.frz (dRules B)), some (.frz (PD ka A)), some (.frz (PD kb B)), some (.frz (.int (Nat.max ka kb : Nat))), some (.frz (.int A.length)), some (.frz (.lst ((JR A B (Nat.max ka kb)).map fun l => .tup (l.map dR)))), some (.frz (PD (Nat.max ka kb) (JR A B (Nat.max ka kb)))), o11, o12, o13, o14, o15, o16, o17, o18, o19, o20, o21, o22, o23, o24, o25] w = some (.nx [some (.frz sc), some (.frz .wld), o2, some (.frz (dRules A)), some (.frz (dRules B)), some (.frz (PD ka A)), some (.frz (PD kb B)), some (.frz (.int (Nat.max ka kb : Nat))), some (.frz (.int A.length)), some (.frz (.lst ((JR A B (Nat.max ka kb)).map fun l => .tup (l.map dR)))), some (.frz (PD (Nat.max ka kb) (JR A B (Nat.max ka kb)))), p11, p12, p13, p14, p15, o16, o17, o18, o19, o20, o21, o22, o23, o24, o25] w') ∧ DsOk n w' := by
  have s : LS9 [some (.frz sc), some (.frz .wld), o2, some (.frz (dRules A)), some (.frz (dRules B)), some (.frz (PD ka A)), some (.frz (PD kb B)), some (.frz (.int (Nat.max ka kb : Nat))), some (.frz (.int A.length)), some (.frz (.lst ((JR A B (Nat.max ka kb)).map fun l => .tup (l.map dR)))), some (.frz (PD (Nat.max ka kb) (JR A B (Nat.max ka kb)))), o11, o12, o13, o14, o15, o16, o17, o18, o19, o20, o21, o22, o23, o24, o25] w = some (.ok ((List.range 6).map fun (i : Nat) => D.int i) [some (.frz sc), some (.frz .wld), o2, some (.frz (dRules A)), some (.frz (dRules B)), some (.frz (PD ka A)), some (.frz (PD kb B)), some (.frz (.int (Nat.max ka kb : Nat))), some (.frz (.int A.length)), some (.frz (.lst ((JR A B (Nat.max ka kb)).map fun l => .tup (l.map dR)))), some (.frz (PD (Nat.max ka kb) (JR A B (Nat.max ka kb)))), o11, o12, o13, o14, o15, o16, o17, o18, o19, o20, o21, o22, o23, o24, o25] w) := src_rng (v := 6) rfl (by decide)
  obtain ⟨ρ, w', e, p11, p12, p13, p14, p15, rfl, ok'⟩ := sFor_rng (bd := bdN 11) (body := LI9) (fun i ρ w => ∃ (p11 p12 p13 p14 p15 : Option O), ρ = [some (.frz sc), some (.frz .wld), o2, some (.frz (dRules A)), some (.frz (dRules B)), some (.frz (PD ka A)), some (.frz (PD kb B)), some (.frz (.int (Nat.max ka kb : Nat))), some (.frz (.int A.length)), some (.frz (.lst ((JR A B (Nat.max ka kb)).map fun l => .tup (l.map dR)))), some (.frz (PD (Nat.max ka kb) (JR A B (Nat.max ka kb)))), p11, p12, p13, p14, p15, o16, o17, o18, o19, o20, o21, o22, o23, o24, o25] ∧ DsOk (n + 800 * (6 - i)) w) 6 (fun i ρ w hi hI => by
    obtain ⟨p11, p12, p13, p14, p15, rfl, ok⟩ := hI
    obtain ⟨r1, r2, w1, e1, x1, x2, x3, x4, ok1⟩ := L9a_ok (sc := sc) (o2 := o2) (o12 := p12) (o13 := p13) (o14 := p14) (o15 := p15) (o16 := o16) (o17 := o17) (o18 := o18) (o19 := o19) (o20 := o20) (o21 := o21) (o22 := o22) (o23 := o23) (o24 := o24) (o25 := o25) hA hB (.int i) (n := n + 800 * (6 - (i + 1)) + 400) (okl ok (by omega))
    obtain ⟨t1, t2, w2, e2, y1, y2, y3, y4, ok2⟩ := L9b_ok (sc := sc) (o2 := o2) (o14 := p14) (o15 := p15) (o16 := o16) (o17 := o17) (o18 := o18) (o19 := o19) (o20 := o20) (o21 := o21) (o22 := o22) (o23 := o23) (o24 := o24) (o25 := o25) hA hB (.int i) (n := n + 800 * (6 - (i + 1))) x1 x2 x3 x4 ok1
    have e3 := L9c_ok (sc := sc) (o2 := o2) (o16 := o16) (o17 := o17) (o18 := o18) (o19 := o19) (o20 := o20) (o21 := o21) (o22 := o22) (o23 := o23) (o24 := o24) (o25 := o25) hA hB (.int i) (r2 := r2) (t2 := t2) h x1 x2 y1 y2 w2
    have e4 := L9d_ok (sc := sc) (o2 := o2) (o16 := o16) (o17 := o17) (o18 := o18) (o19 := o19) (o20 := o20) (o21 := o21) (o22 := o22) (o23 := o23) (o24 := o24) (o25 := o25) hA hB (.int i) (r1 := r1) (t1 := t1) h x3 x4 y3 y4 w2
    refine ⟨_, rfl, _, w2, ?_, some (.frz (.int i)), some (.frz (.tup (dn r1))), some (.frz (.tup (dn r2))), some (.frz (.tup (dn t1))), some (.frz (.tup (dn t2))), rfl, ok2⟩
    rw [LI9_eq]
    exact (sSeq_nx e1).trans ((sSeq_nx e2).trans ((sSeq_nx e3).trans ((sSeq_nx e4).trans rfl)))) ⟨_, _, _, _, _, rfl, okl ok (by omega)⟩
  exact ⟨p11, p12, p13, p14, p15, w', (sForM_ok s).trans e, okl ok' (by omega)⟩
end
end K03
set_option maxRecDepth 100000
set_option maxHeartbeats 4000000
namespace K03
open PySem PySem.Spec PyProof.Rows L2 FL
/-! ### the law's statements, at last -/
def odds : List D := [.non, .int 5, .str "program", .tup [.int 2, .tup []], .lst [.lst [.tup []]]]
theorem odds_no : ∀ d ∈ odds, D.isiC "Program" [d, .gl "Program"] = some (.bl false) := fun d hd => by
  unfold odds at hd
  simp only [List.mem_cons, List.not_mem_nil, or_false] at hd
  rcases hd with rfl | rfl | rfl | rfl | rfl <;> rfl
theorem no_program_ok {n : Nat} {w : DS} (ok : DsOk (n + 1) w) : ∃ d w', g__law_sk_no_program [.wld] w = some (.ok d w') ∧ D.isiC "Program" [d, .gl "Program"] = some (.bl false) ∧ DsOk n w' := by
  obtain ⟨d, w', e, hd, ok'⟩ := pick_ok ok (xs := odds) (fun h => by cases h) (by decide)
  have hs : startE 1 [.wld] = [some (.frz .wld)] := rfl
  refine ⟨d, w', ?_, odds_no d hd, ok'⟩
  unfold g__law_sk_no_program m__law_sk_no_program
  rw [hs]
  have l : (mFz (mLs (mCons (mC .non) (mCons (mC (.int 5)) (mCons (mC (.str "program")) (mCons (mTup (mCons (mC (.int 2)) (mCons (mTup mNil) mNil))) (mCons (mFz (mLs (mCons (mFz (mLs (mCons (mTup mNil) mNil))) mNil))) mNil)))))) : M DS D) [some (.frz .wld)] w = some (.ok (.lst odds) [some (.frz .wld)] w) :=
    mFz_of (mLs_of rfl (by decide))
  have v : (mVar 0 : M DS D) [some (.frz .wld)] w = some (.ok .wld [some (.frz .wld)] w) := rfl
  have r := mCons_of v (mCons_of l (mNil_of _ _))
  rw [sSeq_rt (sRet_of (mCall_of (n := 2) r rfl e))]
  rfl
theorem sFor_rng2 {bd : Bd} {body : SM DS} (I : Nat → Ev → DS → Prop) (n : Nat) (hs : ∀ i ρ w, i < n → I i ρ w → ∃ ρ1, bd (.int i) ρ = some ρ1 ∧ ∃ ρ2 w2, (body ρ1 w = some (.nx ρ2 w2) ∨ body ρ1 w = some (.ct ρ2 w2)) ∧ I (i + 1) ρ2 w2) {ρ : Ev} {w : DS} (h : I 0 ρ w) :
    ∃ ρ' w', sFor body bd ((List.range n).map fun (i : Nat) => D.int i) ρ w = some (.nx ρ' w') ∧ I n ρ' w' := by
  have go : ∀ (m k : Nat), k + m = n → ∀ ρ w, I k ρ w → ∃ ρ' w', sFor body bd ((List.range' k m).map fun (i : Nat) => D.int i) ρ w = some (.nx ρ' w') ∧ I n ρ' w' := by
    intro m
    induction m with
    | zero =>
      intro k hk ρ w h
      have : k = n := by omega
      subst this
      exact ⟨ρ, w, rfl, h⟩
    | succ m ih =>
      intro k hk ρ w h
      obtain ⟨ρ1, h1, ρ2, w2, h2, h3⟩ := hs k ρ w (by omega) h
      obtain ⟨ρ', w', h4, h5⟩ := ih (k + 1) (by omega) ρ2 w2 h3
      refine ⟨ρ', w', ?_, h5⟩
      rw [List.range'_succ, List.map_cons]
      unfold sFor
      rw [h1]
      rcases h2 with h2 | h2
      · simp only [h2]
        exact h4
      · simp only [h2]
        exact h4
  have := go n 0 (by omega) ρ w h
  rwa [← List.range_eq_range'] at this
def S6 : Rl := List.replicate 6 [some []]
def S7 : Rl := List.replicate 7 [some []]
theorem pg_rep (n : Nat) (h1 : 0 < n) (h2 : n ≤ 12) : Pg (List.replicate n [some []]) 1 := by
  refine ⟨by rw [List.length_replicate]; exact ⟨h1, h2⟩, by decide, fun l hl => ?_, fun a ha => ⟨1, ?_⟩⟩
  · rw [List.eq_of_mem_replicate hl]
    refine ⟨rfl, fun r hr c hc => ?_⟩
    rw [List.mem_singleton] at hr
    rw [hr] at hc
    cases hc
    exact ⟨(fun b hb => by cases hb), by decide⟩
  · unfold lvN
    rw [List.length_replicate] at ha
    rw [List.getElem?_replicate, if_pos ha]
    rfl
section
theorem sSeq_ct {a b : SM DS} {ρ ρ1 : Ev} {w w1 : DS} (h : a ρ w = some (.ct ρ1 w1)) : sSeq a b ρ w = some (.ct ρ1 w1) := by simp only [sSeq, h]
variable {sc : D} {o2 o3 o4 o5 o6 o7 o8 o9 o10 o11 o12 o13 o14 o15 o16 o17 o18 o19 o20 o21 o22 o23 o24 o25 : Option O}
theorem LB10_ok {A B : Rl} {ka kb : Nat} {n : Nat} {w : DS} (ok : DsOk (n + 1) w) : ∃ (d : D) (w' : DS), LB10 [some (.frz sc), some (.frz .wld), o2, some (.frz (dRules A)), some (.frz (dRules B)), some (.frz (PD ka A)), some (.frz (PD kb B)), some (.frz (.int (Nat.max ka kb : Nat))), some (.frz (.int A.length)), some (.frz (.lst ((JR A B (Nat.max ka kb)).map fun l => .tup (l.map dR)))), some (.frz (PD (Nat.max ka kb) (JR A B (Nat.max ka kb)))), o11, o12, o13, o14, o15, o16, o17, o18, o19, o20, o21, o22, o23, o24, o25] w = some (.nx [some (.frz sc), some (.frz .wld), o2, some (.frz (dRules A)), some (.frz (dRules B)), some (.frz (PD ka A)), some (.frz (PD kb B)), some (.frz (.int (Nat.max ka kb : Nat))), some (.frz (.int A.length)), some (.frz (.lst ((JR A B (Nat.max ka kb)).map fun l => .tup (l.map dR)))), some (.frz (PD (Nat.max ka kb) (JR A B (Nat.max ka kb)))), o11, o12, o13, o14, o15, some (.frz d), o17, o18, o19, o20, o21, o22, o23, o24, o25] w') ∧ D.isiC "Program" [d, .gl "Program"] = some (.bl false) ∧ DsOk n w' := by
  obtain ⟨d, w', e, hd, ok'⟩ := no_program_ok ok
  refine ⟨d, w', ?_, hd, ok'⟩
  unfold LB10
  have v : (mVar 1 : M DS D) [some (.frz sc), some (.frz .wld), o2, some (.frz (dRules A)), some (.frz (dRules B)), some (.frz (PD ka A)), some (.frz (PD kb B)), some (.frz (.int (Nat.max ka kb : Nat))), some (.frz (.int A.length)), some (.frz (.lst ((JR A B (Nat.max ka kb)).map fun l => .tup (l.map dR)))), some (.frz (PD (Nat.max ka kb) (JR A B (Nat.max ka kb)))), o11, o12, o13, o14, o15, o16, o17, o18, o19, o20, o21, o22, o23, o24, o25] w = some (.ok .wld [some (.frz sc), some (.frz .wld), o2, some (.frz (dRules A)), some (.frz (dRules B)), some (.frz (PD ka A)), some (.frz (PD kb B)), some (.frz (.int (Nat.max ka kb : Nat))), some (.frz (.int A.length)), some (.frz (.lst ((JR A B (Nat.max ka kb)).map fun l => .tup (l.map dR)))), some (.frz (PD (Nat.max ka kb) (JR A B (Nat.max ka kb)))), o11, o12, o13, o14, o15, o16, o17, o18, o19, o20, o21, o22, o23, o24, o25] w) := rfl
  exact sAsg_of (mCall_of (mCons_of v (mNil_of _ _)) rfl e) rfl
theorem LI11_ok {A B : Rl} {ka kb : Nat} {d x y : D} {p : Str} (hp : PyData.canLay0 (.str p) = true) (w : DS) (hj : g_joined [x, y] w = some (.er ⟨"NoProgram", some ("part", .str p)⟩ w)) : LI11 [some (.frz sc), some (.frz .wld), o2, some (.frz (dRules A)), some (.frz (dRules B)), some (.frz (PD ka A)), some (.frz (PD kb B)), some (.frz (.int (Nat.max ka kb : Nat))), some (.frz (.int A.length)), some (.frz (.lst ((JR A B (Nat.max ka kb)).map fun l => .tup (l.map dR)))), some (.frz (PD (Nat.max ka kb) (JR A B (Nat.max ka kb)))), o11, o12, o13, o14, o15, some (.frz d), some (.frz x), some (.frz y), some (.frz (.str p)), o20, o21, o22, o23, o24, o25] w = some (.nx [some (.frz sc), some (.frz .wld), o2, some (.frz (dRules A)), some (.frz (dRules B)), some (.frz (PD ka A)), some (.frz (PD kb B)), some (.frz (.int (Nat.max ka kb : Nat))), some (.frz (.int A.length)), some (.frz (.lst ((JR A B (Nat.max ka kb)).map fun l => .tup (l.map dR)))), some (.frz (PD (Nat.max ka kb) (JR A B (Nat.max ka kb)))), o11, o12, o13, o14, o15, some (.frz d), some (.frz x), some (.frz y), some (.frz (.str p)), some (.frz (excD ⟨"NoProgram", some ("part", .str p)⟩)), o21, o22, o23, o24, o25] w) := by
  have c : mCaught ["NoProgram", "NoRoom"] (mCall 2 g_joined [] (mCons (mVar 17) (mCons (mVar 18) mNil))) [some (.frz sc), some (.frz .wld), o2, some (.frz (dRules A)), some (.frz (dRules B)), some (.frz (PD ka A)), some (.frz (PD kb B)), some (.frz (.int (Nat.max ka kb : Nat))), some (.frz (.int A.length)), some (.frz (.lst ((JR A B (Nat.max ka kb)).map fun l => .tup (l.map dR)))), some (.frz (PD (Nat.max ka kb) (JR A B (Nat.max ka kb)))), o11, o12, o13, o14, o15, some (.frz d), some (.frz x), some (.frz y), some (.frz (.str p)), o20, o21, o22, o23, o24, o25] w = some (.ok (excD ⟨"NoProgram", some ("part", .str p)⟩) [some (.frz sc), some (.frz .wld), o2, some (.frz (dRules A)), some (.frz (dRules B)), some (.frz (PD ka A)), some (.frz (PD kb B)), some (.frz (.int (Nat.max ka kb : Nat))), some (.frz (.int A.length)), some (.frz (.lst ((JR A B (Nat.max ka kb)).map fun l => .tup (l.map dR)))), some (.frz (PD (Nat.max ka kb) (JR A B (Nat.max ka kb)))), o11, o12, o13, o14, o15, some (.frz d), some (.frz x), some (.frz y), some (.frz (.str p)), o20, o21, o22, o23, o24, o25] w) := by
    refine caught_of ?_ rfl
    show (mCall 2 g_joined [] (mCons (mVar 17) (mCons (mVar 18) mNil)) : M DS D) [some (.frz sc), some (.frz .wld), hidO o2, some (.frz (dRules A)), some (.frz (dRules B)), some (.frz (PD ka A)), some (.frz (PD kb B)), some (.frz (.int (Nat.max ka kb : Nat))), some (.frz (.int A.length)), some (.frz (.lst ((JR A B (Nat.max ka kb)).map fun l => .tup (l.map dR)))), some (.frz (PD (Nat.max ka kb) (JR A B (Nat.max ka kb)))), hidO o11, hidO o12, hidO o13, hidO o14, hidO o15, some (.frz d), some (.frz x), some (.frz y), some (.frz (.str p)), hidO o20, hidO o21, hidO o22, hidO o23, hidO o24, hidO o25] w = _
    exact mCall_er (ds := [x, y]) rfl rfl hj
  have c1 : (mCall 2 g__law_came [] (mCons (mVar 20) (mCons (mC (.str "program")) mNil)) : M DS D) [some (.frz sc), some (.frz .wld), o2, some (.frz (dRules A)), some (.frz (dRules B)), some (.frz (PD ka A)), some (.frz (PD kb B)), some (.frz (.int (Nat.max ka kb : Nat))), some (.frz (.int A.length)), some (.frz (.lst ((JR A B (Nat.max ka kb)).map fun l => .tup (l.map dR)))), some (.frz (PD (Nat.max ka kb) (JR A B (Nat.max ka kb)))), o11, o12, o13, o14, o15, some (.frz d), some (.frz x), some (.frz y), some (.frz (.str p)), some (.frz (excD ⟨"NoProgram", some ("part", .str p)⟩)), o21, o22, o23, o24, o25] w = some (.ok (.bl true) [some (.frz sc), some (.frz .wld), o2, some (.frz (dRules A)), some (.frz (dRules B)), some (.frz (PD ka A)), some (.frz (PD kb B)), some (.frz (.int (Nat.max ka kb : Nat))), some (.frz (.int A.length)), some (.frz (.lst ((JR A B (Nat.max ka kb)).map fun l => .tup (l.map dR)))), some (.frz (PD (Nat.max ka kb) (JR A B (Nat.max ka kb)))), o11, o12, o13, o14, o15, some (.frz d), some (.frz x), some (.frz y), some (.frz (.str p)), some (.frz (excD ⟨"NoProgram", some ("part", .str p)⟩)), o21, o22, o23, o24, o25] w) := mCall_of (ds := [excD ⟨"NoProgram", some ("part", .str p)⟩, .str "program"]) rfl rfl (came_part (.str p) w)
  have c2 : (mCall 2 g__law_same [] (mCons (m1 (fun d => pu (d.fldE "part" ["NoProgram"])) (mVar 20)) (mCons (mVar 19) mNil)) : M DS D) [some (.frz sc), some (.frz .wld), o2, some (.frz (dRules A)), some (.frz (dRules B)), some (.frz (PD ka A)), some (.frz (PD kb B)), some (.frz (.int (Nat.max ka kb : Nat))), some (.frz (.int A.length)), some (.frz (.lst ((JR A B (Nat.max ka kb)).map fun l => .tup (l.map dR)))), some (.frz (PD (Nat.max ka kb) (JR A B (Nat.max ka kb)))), o11, o12, o13, o14, o15, some (.frz d), some (.frz x), some (.frz y), some (.frz (.str p)), some (.frz (excD ⟨"NoProgram", some ("part", .str p)⟩)), o21, o22, o23, o24, o25] w = some (.ok (.bl true) [some (.frz sc), some (.frz .wld), o2, some (.frz (dRules A)), some (.frz (dRules B)), some (.frz (PD ka A)), some (.frz (PD kb B)), some (.frz (.int (Nat.max ka kb : Nat))), some (.frz (.int A.length)), some (.frz (.lst ((JR A B (Nat.max ka kb)).map fun l => .tup (l.map dR)))), some (.frz (PD (Nat.max ka kb) (JR A B (Nat.max ka kb)))), o11, o12, o13, o14, o15, some (.frz d), some (.frz x), some (.frz y), some (.frz (.str p)), some (.frz (excD ⟨"NoProgram", some ("part", .str p)⟩)), o21, o22, o23, o24, o25] w) := mCall_of (ds := [.str p, .str p]) rfl rfl (same_str hp w)
  unfold LI11
  refine (sSeq_nx (sAsg_of c rfl)).trans ?_
  have t := mOr_ff (mNot_of (mB_of c1 rfl)) (mNot_of (mB_of c2 rfl))
  refine (sSeq_nx ((sIf_of t).trans rfl)).trans ?_
  rfl
theorem LB11_ok {A B : Rl} {ka kb : Nat} {d : D} (hd : D.isiC "Program" [d, .gl "Program"] = some (.bl false)) (w : DS) : ∃ (p17 p18 p19 p20 : Option O), LB11 [some (.frz sc), some (.frz .wld), o2, some (.frz (dRules A)), some (.frz (dRules B)), some (.frz (PD ka A)), some (.frz (PD kb B)), some (.frz (.int (Nat.max ka kb : Nat))), some (.frz (.int A.length)), some (.frz (.lst ((JR A B (Nat.max ka kb)).map fun l => .tup (l.map dR)))), some (.frz (PD (Nat.max ka kb) (JR A B (Nat.max ka kb)))), o11, o12, o13, o14, o15, some (.frz d), o17, o18, o19, o20, o21, o22, o23, o24, o25] w = some (.nx [some (.frz sc), some (.frz .wld), o2, some (.frz (dRules A)), some (.frz (dRules B)), some (.frz (PD ka A)), some (.frz (PD kb B)), some (.frz (.int (Nat.max ka kb : Nat))), some (.frz (.int A.length)), some (.frz (.lst ((JR A B (Nat.max ka kb)).map fun l => .tup (l.map dR)))), some (.frz (PD (Nat.max ka kb) (JR A B (Nat.max ka kb)))), o11, o12, o13, o14, o15, some (.frz d), p17, p18, p19, p20, o21, o22, o23, o24, o25] w) := by
  have s : LS11 [some (.frz sc), some (.frz .wld), o2, some (.frz (dRules A)), some (.frz (dRules B)), some (.frz (PD ka A)), some (.frz (PD kb B)), some (.frz (.int (Nat.max ka kb : Nat))), some (.frz (.int A.length)), some (.frz (.lst ((JR A B (Nat.max ka kb)).map fun l => .tup (l.map dR)))), some (.frz (PD (Nat.max ka kb) (JR A B (Nat.max ka kb)))), o11, o12, o13, o14, o15, some (.frz d), o17, o18, o19, o20, o21, o22, o23, o24, o25] w = some (.ok [.tup [d, d, .str "one"], .tup [PD ka A, d, .str "other"]] [some (.frz sc), some (.frz .wld), o2, some (.frz (dRules A)), some (.frz (dRules B)), some (.frz (PD ka A)), some (.frz (PD kb B)), some (.frz (.int (Nat.max ka kb : Nat))), some (.frz (.int A.length)), some (.frz (.lst ((JR A B (Nat.max ka kb)).map fun l => .tup (l.map dR)))), some (.frz (PD (Nat.max ka kb) (JR A B (Nat.max ka kb)))), o11, o12, o13, o14, o15, some (.frz d), o17, o18, o19, o20, o21, o22, o23, o24, o25] w) := by
    unfold LS11 mIts
    exact (m1_of (mFz_of (mLs_of (ds := [.tup [d, d, .str "one"], .tup [PD ka A, d, .str "other"]]) (ρ' := [some (.frz sc), some (.frz .wld), o2, some (.frz (dRules A)), some (.frz (dRules B)), some (.frz (PD ka A)), some (.frz (PD kb B)), some (.frz (.int (Nat.max ka kb : Nat))), some (.frz (.int A.length)), some (.frz (.lst ((JR A B (Nat.max ka kb)).map fun l => .tup (l.map dR)))), some (.frz (PD (Nat.max ka kb) (JR A B (Nat.max ka kb)))), o11, o12, o13, o14, o15, some (.frz d), o17, o18, o19, o20, o21, o22, o23, o24, o25]) (w' := w) rfl (by show 2 ≤ 1000000; decide)))).trans rfl
  have a1 := LI11_ok (sc := sc) (o2 := o2) (o11 := o11) (o12 := o12) (o13 := o13) (o14 := o14) (o15 := o15) (o20 := o20) (o21 := o21) (o22 := o22) (o23 := o23) (o24 := o24) (o25 := o25) (A := A) (B := B) (ka := ka) (kb := kb) (d := d) (x := d) (y := d) (p := "one") (by decide +kernel) w (joined_no1 hd w)
  have a2 := LI11_ok (sc := sc) (o2 := o2) (o11 := o11) (o12 := o12) (o13 := o13) (o14 := o14) (o15 := o15) (o21 := o21) (o22 := o22) (o23 := o23) (o24 := o24) (o25 := o25) (o20 := some (.frz (excD ⟨"NoProgram", some ("part", .str "one")⟩))) (A := A) (B := B) (ka := ka) (kb := kb) (d := d) (x := PD ka A) (y := d) (p := "other") (by decide +kernel) w (joined_no2 hd w)
  refine ⟨some (.frz (PD ka A)), some (.frz d), some (.frz (.str "other")), some (.frz (excD ⟨"NoProgram", some ("part", .str "other")⟩)), ?_⟩
  refine (sForM_ok s).trans ((sFor_nx rfl a1).trans ((sFor_nx rfl a2).trans ?_))
  rfl
end
def Lap (sc : D) (c : Nat) (i : Nat) (ρ : Ev) (w : DS) : Prop := ∃ (o2 o3 o4 o5 o6 o7 o8 o9 o10 o11 o12 o13 o14 o15 o16 o17 o18 o19 o20 o21 o22 o23 o24 o25 : Option O), ρ = [some (.frz sc), some (.frz .wld), o2, o3, o4, o5, o6, o7, o8, o9, o10, o11, o12, o13, o14, o15, o16, o17, o18, o19, o20, o21, o22, o23, o24, o25] ∧ DsOk (10000 * (c - i)) w
theorem LBz_ok {sc : D} {c i : Nat} (hi : i < c) {ρ : Ev} {w : DS} (h : Lap sc c i ρ w) : ∃ ρ1, bdN 2 (.int i) ρ = some ρ1 ∧ ∃ ρ2 w2, (LBz ρ1 w = some (.nx ρ2 w2) ∨ LBz ρ1 w = some (.ct ρ2 w2)) ∧ Lap sc c (i + 1) ρ2 w2 := by
  obtain ⟨p2, p3, p4, p5, p6, p7, p8, p9, p10, p11, p12, p13, p14, p15, p16, p17, p18, p19, p20, p21, p22, p23, p24, p25, rfl, ok⟩ := h
  have hk : 10000 * (c - i) = 10000 * (c - (i + 1)) + 10000 := by
    rw [← Nat.mul_succ]
    congr 1
    omega
  obtain ⟨A, ka, B, kb, w1, e1, hA, hB, _, _, ok1⟩ := LB1_ok (sc := sc) (n := 10000 * (c - (i + 1)) + 5001) (w := w) (okl ok (by omega)) (o2 := some (.frz (.int i))) (o3 := p3) (o4 := p4) (o5 := p5) (o6 := p6) (o7 := p7) (o8 := p8) (o9 := p9) (o10 := p10) (o11 := p11) (o12 := p12) (o13 := p13) (o14 := p14) (o15 := p15) (o16 := p16) (o17 := p17) (o18 := p18) (o19 := p19) (o20 := p20) (o21 := p21) (o22 := p22) (o23 := p23) (o24 := p24) (o25 := p25)
  have e2 := LB2_ok (sc := sc) hA hB w1 (o2 := some (.frz (.int i))) (o5 := p5) (o6 := p6) (o7 := p7) (o8 := p8) (o9 := p9) (o10 := p10) (o11 := p11) (o12 := p12) (o13 := p13) (o14 := p14) (o15 := p15) (o16 := p16) (o17 := p17) (o18 := p18) (o19 := p19) (o20 := p20) (o21 := p21) (o22 := p22) (o23 := p23) (o24 := p24) (o25 := p25)
  have e3 := LB3_ok (sc := sc) hA hB w1 (o2 := some (.frz (.int i))) (o8 := p8) (o9 := p9) (o10 := p10) (o11 := p11) (o12 := p12) (o13 := p13) (o14 := p14) (o15 := p15) (o16 := p16) (o17 := p17) (o18 := p18) (o19 := p19) (o20 := p20) (o21 := p21) (o22 := p22) (o23 := p23) (o24 := p24) (o25 := p25)
  have e4 := LB4_ok (sc := sc) hA hB w1 (o2 := some (.frz (.int i))) (o9 := p9) (o10 := p10) (o11 := p11) (o12 := p12) (o13 := p13) (o14 := p14) (o15 := p15) (o16 := p16) (o17 := p17) (o18 := p18) (o19 := p19) (o20 := p20) (o21 := p21) (o22 := p22) (o23 := p23) (o24 := p24) (o25 := p25)
  have e5 := LB5_ok (sc := sc) hA hB w1 (o2 := some (.frz (.int i))) (o10 := p10) (o11 := p11) (o12 := p12) (o13 := p13) (o14 := p14) (o15 := p15) (o16 := p16) (o17 := p17) (o18 := p18) (o19 := p19) (o20 := p20) (o21 := p21) (o22 := p22) (o23 := p23) (o24 := p24) (o25 := p25)
  refine ⟨_, rfl, ?_⟩
  by_cases hl : 12 < A.length + B.length
  · have e6 := LB6_room (sc := sc) hA hB hl w1 (o2 := some (.frz (.int i))) (o10 := p10) (o11 := p11) (o12 := p12) (o13 := p13) (o14 := p14) (o15 := p15) (o16 := p16) (o17 := p17) (o18 := p18) (o19 := p19) (o20 := p20) (o21 := p21) (o22 := p22) (o23 := p23) (o24 := p24) (o25 := p25)
    refine ⟨_, w1, .inr ((sSeq_nx e1).trans ((sSeq_nx e2).trans ((sSeq_nx e3).trans ((sSeq_nx e4).trans ((sSeq_nx e5).trans (sSeq_ct e6)))))), ?_⟩
    exact ⟨_, _, _, _, _, _, _, _, _, _, _, _, _, _, _, _, _, _, _, _, _, _, _, _, rfl, okl ok1 (by omega)⟩
  · have hl : A.length + B.length ≤ 12 := by omega
    have e6 := LB6_go (sc := sc) hA hB hl w1 (o2 := some (.frz (.int i))) (o10 := p10) (o11 := p11) (o12 := p12) (o13 := p13) (o14 := p14) (o15 := p15) (o16 := p16) (o17 := p17) (o18 := p18) (o19 := p19) (o20 := p20) (o21 := p21) (o22 := p22) (o23 := p23) (o24 := p24) (o25 := p25)
    have e7 := LB7_ok (sc := sc) hA hB hl w1 (o2 := some (.frz (.int i))) (o10 := p10) (o11 := p11) (o12 := p12) (o13 := p13) (o14 := p14) (o15 := p15) (o16 := p16) (o17 := p17) (o18 := p18) (o19 := p19) (o20 := p20) (o21 := p21) (o22 := p22) (o23 := p23) (o24 := p24) (o25 := p25)
    have e8 := LB8_ok (sc := sc) hA hB hl w1 (o2 := some (.frz (.int i))) (o11 := p11) (o12 := p12) (o13 := p13) (o14 := p14) (o15 := p15) (o16 := p16) (o17 := p17) (o18 := p18) (o19 := p19) (o20 := p20) (o21 := p21) (o22 := p22) (o23 := p23) (o24 := p24) (o25 := p25)
    obtain ⟨q11, q12, q13, q14, q15, w2, e9, ok2⟩ := LB9_ok (sc := sc) hA hB hl (n := 10000 * (c - (i + 1)) + 1) ok1 (o2 := some (.frz (.int i))) (o11 := p11) (o12 := p12) (o13 := p13) (o14 := p14) (o15 := p15) (o16 := p16) (o17 := p17) (o18 := p18) (o19 := p19) (o20 := p20) (o21 := p21) (o22 := p22) (o23 := p23) (o24 := p24) (o25 := p25)
    obtain ⟨d, w3, e10, hd, ok3⟩ := LB10_ok (sc := sc) (A := A) (B := B) (ka := ka) (kb := kb) (n := 10000 * (c - (i + 1))) ok2 (o2 := some (.frz (.int i))) (o11 := q11) (o12 := q12) (o13 := q13) (o14 := q14) (o15 := q15) (o16 := p16) (o17 := p17) (o18 := p18) (o19 := p19) (o20 := p20) (o21 := p21) (o22 := p22) (o23 := p23) (o24 := p24) (o25 := p25)
    obtain ⟨q17, q18, q19, q20, e11⟩ := LB11_ok (sc := sc) (A := A) (B := B) (ka := ka) (kb := kb) hd w3 (o2 := some (.frz (.int i))) (o11 := q11) (o12 := q12) (o13 := q13) (o14 := q14) (o15 := q15) (o17 := p17) (o18 := p18) (o19 := p19) (o20 := p20) (o21 := p21) (o22 := p22) (o23 := p23) (o24 := p24) (o25 := p25)
    refine ⟨_, w3, .inl ((sSeq_nx e1).trans ((sSeq_nx e2).trans ((sSeq_nx e3).trans ((sSeq_nx e4).trans ((sSeq_nx e5).trans ((sSeq_nx e6).trans ((sSeq_nx e7).trans ((sSeq_nx e8).trans ((sSeq_nx e9).trans ((sSeq_nx e10).trans (sSeq_nx e11))))))))))), ?_⟩
    exact ⟨_, _, _, _, _, _, _, _, _, _, _, _, _, _, _, _, _, _, _, _, _, _, _, _, rfl, ok3⟩
section
variable {sc : D} {o2 o3 o4 o5 o6 o7 o8 o9 o10 o11 o12 o13 o14 o15 o16 o17 o18 o19 o20 o21 o22 o23 o24 o25 : Option O}
theorem six_ok (w : DS) : g_Program [.int 1, XR false false S6] w = some (.ok (PD 1 S6) w) := program_ok (pg_rep 6 (by decide) (by decide)) false false w
theorem seven_ok (w : DS) : g_Program [.int 1, XR false false S7] w = some (.ok (PD 1 S7) w) := program_ok (pg_rep 7 (by decide) (by decide)) false false w
theorem mMake_of {n : Nat} {g : List D → DS → Option (Rs DS)} {ma : M DS (List D)} {ρ ρ1 : Ev} {w w1 w2 : DS} {ds : List D} {d : D} (h : ma ρ w = some (.ok ds ρ1 w1)) (hn : ds.length = n) (hg : g ds w1 = some (.ok d w2)) : mMake n g ma ρ w = some (.ok d ρ1 w2) := by
  unfold mMake
  rw [m1_of h]
  simp only [hn, if_true, hg]
theorem mTup_of {ma : M DS (List D)} {ρ ρ1 : Ev} {w w1 : DS} {ds : List D} (h : ma ρ w = some (.ok ds ρ1 w1)) (hl : ds.length ≤ 1000000) : mTup ma ρ w = some (.ok (.tup ds) ρ1 w1) := by
  have hl' : ds.length ≤ 16777216 := by omega
  unfold mTup
  rw [m1_of h]
  unfold pu
  rw [if_pos hl']
theorem rep_mul (n : Nat) (hn : n ≤ 12) (w : DS) : (m2 (pu2 D.mulA) (mFz (mLs (mCons (mFz (mLs (mCons (mTup mNil) mNil))) mNil))) (mC (.int n)) : M DS D) [some (.frz sc), some (.frz .wld), o2, o3, o4, o5, o6, o7, o8, o9, o10, o11, o12, o13, o14, o15, o16, o17, o18, o19, o20, o21, o22, o23, o24, o25] w = some (.ok (XR false false (List.replicate n [some []])) [some (.frz sc), some (.frz .wld), o2, o3, o4, o5, o6, o7, o8, o9, o10, o11, o12, o13, o14, o15, o16, o17, o18, o19, o20, o21, o22, o23, o24, o25] w) := by
  have a : (mFz (mLs (mCons (mTup mNil) mNil)) : M DS D) [some (.frz sc), some (.frz .wld), o2, o3, o4, o5, o6, o7, o8, o9, o10, o11, o12, o13, o14, o15, o16, o17, o18, o19, o20, o21, o22, o23, o24, o25] w = some (.ok (.lst [.tup []]) [some (.frz sc), some (.frz .wld), o2, o3, o4, o5, o6, o7, o8, o9, o10, o11, o12, o13, o14, o15, o16, o17, o18, o19, o20, o21, o22, o23, o24, o25] w) := mFz_of (mLs_of rfl (by decide))
  have b : (mFz (mLs (mCons (mFz (mLs (mCons (mTup mNil) mNil))) mNil)) : M DS D) [some (.frz sc), some (.frz .wld), o2, o3, o4, o5, o6, o7, o8, o9, o10, o11, o12, o13, o14, o15, o16, o17, o18, o19, o20, o21, o22, o23, o24, o25] w = some (.ok (.lst [.lst [.tup []]]) [some (.frz sc), some (.frz .wld), o2, o3, o4, o5, o6, o7, o8, o9, o10, o11, o12, o13, o14, o15, o16, o17, o18, o19, o20, o21, o22, o23, o24, o25] w) := mFz_of (mLs_of (mCons_of a (mNil_of _ _)) (by show 1 ≤ 1000000; decide))
  have e : XR false false (List.replicate n [some []]) = .lst (List.replicate n (.lst [.tup []])) := by
    show D.lst ((List.replicate n [some []]).map fun l => D.lst (l.map dR)) = _
    rw [List.map_replicate]
    rfl
  rw [e]
  exact (m2_of (f := pu2 D.mulA) (mb := mC (.int n)) b rfl).trans (pu2_of (mul_lst (by omega)))
theorem LT1_ok (w : DS) : LT1 [some (.frz sc), some (.frz .wld), o2, o3, o4, o5, o6, o7, o8, o9, o10, o11, o12, o13, o14, o15, o16, o17, o18, o19, o20, o21, o22, o23, o24, o25] w = some (.nx [some (.frz sc), some (.frz .wld), o2, o3, o4, o5, o6, o7, o8, o9, o10, o11, o12, o13, o14, o15, o16, o17, o18, o19, o20, some (.frz (PD 1 S6)), some (.frz (PD 1 S7)), o23, o24, o25] w) := by
  have c : (mC (.int 1) : M DS D) [some (.frz sc), some (.frz .wld), o2, o3, o4, o5, o6, o7, o8, o9, o10, o11, o12, o13, o14, o15, o16, o17, o18, o19, o20, o21, o22, o23, o24, o25] w = some (.ok (.int 1) [some (.frz sc), some (.frz .wld), o2, o3, o4, o5, o6, o7, o8, o9, o10, o11, o12, o13, o14, o15, o16, o17, o18, o19, o20, o21, o22, o23, o24, o25] w) := rfl
  have a1 : (mMake 2 g_Program (mCons (mC (.int 1)) (mCons (m2 (pu2 D.mulA) (mFz (mLs (mCons (mFz (mLs (mCons (mTup mNil) mNil))) mNil))) (mC (.int 6))) mNil)) : M DS D) [some (.frz sc), some (.frz .wld), o2, o3, o4, o5, o6, o7, o8, o9, o10, o11, o12, o13, o14, o15, o16, o17, o18, o19, o20, o21, o22, o23, o24, o25] w = some (.ok (PD 1 S6) [some (.frz sc), some (.frz .wld), o2, o3, o4, o5, o6, o7, o8, o9, o10, o11, o12, o13, o14, o15, o16, o17, o18, o19, o20, o21, o22, o23, o24, o25] w) := mMake_of (mCons_of c (mCons_of (rep_mul 6 (by decide) w) (mNil_of _ _))) rfl (six_ok w)
  have a2 : (mMake 2 g_Program (mCons (mC (.int 1)) (mCons (m2 (pu2 D.mulA) (mFz (mLs (mCons (mFz (mLs (mCons (mTup mNil) mNil))) mNil))) (mC (.int 7))) mNil)) : M DS D) [some (.frz sc), some (.frz .wld), o2, o3, o4, o5, o6, o7, o8, o9, o10, o11, o12, o13, o14, o15, o16, o17, o18, o19, o20, o21, o22, o23, o24, o25] w = some (.ok (PD 1 S7) [some (.frz sc), some (.frz .wld), o2, o3, o4, o5, o6, o7, o8, o9, o10, o11, o12, o13, o14, o15, o16, o17, o18, o19, o20, o21, o22, o23, o24, o25] w) := mMake_of (mCons_of c (mCons_of (rep_mul 7 (by decide) w) (mNil_of _ _))) rfl (seven_ok w)
  unfold LT1
  exact sAsg_of (mTup_of (mCons_of a1 (mCons_of a2 (mNil_of _ _))) (by show 2 ≤ 1000000; decide)) rfl
theorem LT2_ok (w : DS) : LT2 [some (.frz sc), some (.frz .wld), o2, o3, o4, o5, o6, o7, o8, o9, o10, o11, o12, o13, o14, o15, o16, o17, o18, o19, o20, some (.frz (PD 1 S6)), some (.frz (PD 1 S7)), o23, o24, o25] w = some (.rt (.bl true) w) := by
  have p6 : Pg S6 1 := pg_rep 6 (by decide) (by decide)
  have p7 : Pg S7 1 := pg_rep 7 (by decide) (by decide)
  have j1 := joined_ok p6 p6 (by decide) w
  have j2 := joined_room p6 p7 (by decide) w
  have a1 : (m1 (fun d => pu (d.fldS "Program" "own_rules")) (mCall 2 g_joined [] (mCons (mVar 21) (mCons (mVar 21) mNil))) : M DS D) [some (.frz sc), some (.frz .wld), o2, o3, o4, o5, o6, o7, o8, o9, o10, o11, o12, o13, o14, o15, o16, o17, o18, o19, o20, some (.frz (PD 1 S6)), some (.frz (PD 1 S7)), o23, o24, o25] w = some (.ok (dRules (JR S6 S6 (Nat.max 1 1))) [some (.frz sc), some (.frz .wld), o2, o3, o4, o5, o6, o7, o8, o9, o10, o11, o12, o13, o14, o15, o16, o17, o18, o19, o20, some (.frz (PD 1 S6)), some (.frz (PD 1 S7)), o23, o24, o25] w) := (m1_of (mCall_of (ds := [PD 1 S6, PD 1 S6]) (ρ1 := [some (.frz sc), some (.frz .wld), o2, o3, o4, o5, o6, o7, o8, o9, o10, o11, o12, o13, o14, o15, o16, o17, o18, o19, o20, some (.frz (PD 1 S6)), some (.frz (PD 1 S7)), o23, o24, o25]) (w1 := w) rfl rfl j1)).trans rfl
  have l : D.lenL [dRules (JR S6 S6 (Nat.max 1 1))] = some (.int (12 : Nat)) := by
    rw [len_R, JR_len]
    rfl
  have a2 : (m1 (pu1 D.lenL) (mCons (m1 (fun d => pu (d.fldS "Program" "own_rules")) (mCall 2 g_joined [] (mCons (mVar 21) (mCons (mVar 21) mNil)))) mNil) : M DS D) [some (.frz sc), some (.frz .wld), o2, o3, o4, o5, o6, o7, o8, o9, o10, o11, o12, o13, o14, o15, o16, o17, o18, o19, o20, some (.frz (PD 1 S6)), some (.frz (PD 1 S7)), o23, o24, o25] w = some (.ok (.int (12 : Nat)) [some (.frz sc), some (.frz .wld), o2, o3, o4, o5, o6, o7, o8, o9, o10, o11, o12, o13, o14, o15, o16, o17, o18, o19, o20, some (.frz (PD 1 S6)), some (.frz (PD 1 S7)), o23, o24, o25] w) := by
    refine (m1_of (mCons_of a1 (mNil_of _ _))).trans ?_
    unfold pu1 pu
    rw [l]
  have a3 := (m2_of (f := pu2 D.eqD) a2 (mb := mC (.int 12)) rfl).trans (pu2_of (show D.eqD (.int (12 : Nat)) (.int 12) = some (.bl true) from rfl))
  have c : (mCaught ["NoProgram", "NoRoom"] (mCall 2 g_joined [] (mCons (mVar 21) (mCons (mVar 22) mNil))) : M DS D) [some (.frz sc), some (.frz .wld), o2, o3, o4, o5, o6, o7, o8, o9, o10, o11, o12, o13, o14, o15, o16, o17, o18, o19, o20, some (.frz (PD 1 S6)), some (.frz (PD 1 S7)), o23, o24, o25] w = some (.ok (excD ⟨"NoRoom", none⟩) [some (.frz sc), some (.frz .wld), o2, o3, o4, o5, o6, o7, o8, o9, o10, o11, o12, o13, o14, o15, o16, o17, o18, o19, o20, some (.frz (PD 1 S6)), some (.frz (PD 1 S7)), o23, o24, o25] w) := by
    refine caught_of ?_ rfl
    show (mCall 2 g_joined [] (mCons (mVar 21) (mCons (mVar 22) mNil)) : M DS D) [some (.frz sc), some (.frz .wld), hidO o2, hidO o3, hidO o4, hidO o5, hidO o6, hidO o7, hidO o8, hidO o9, hidO o10, hidO o11, hidO o12, hidO o13, hidO o14, hidO o15, hidO o16, hidO o17, hidO o18, hidO o19, hidO o20, some (.frz (PD 1 S6)), some (.frz (PD 1 S7)), hidO o23, hidO o24, hidO o25] w = _
    exact mCall_er (ds := [PD 1 S6, PD 1 S7]) rfl rfl j2
  have s : (mC (.str "room") : M DS D) [some (.frz sc), some (.frz .wld), o2, o3, o4, o5, o6, o7, o8, o9, o10, o11, o12, o13, o14, o15, o16, o17, o18, o19, o20, some (.frz (PD 1 S6)), some (.frz (PD 1 S7)), o23, o24, o25] w = some (.ok (.str "room") [some (.frz sc), some (.frz .wld), o2, o3, o4, o5, o6, o7, o8, o9, o10, o11, o12, o13, o14, o15, o16, o17, o18, o19, o20, some (.frz (PD 1 S6)), some (.frz (PD 1 S7)), o23, o24, o25] w) := rfl
  have c2 := mCall_of (n := 2) (g := g__law_came) (mCons_of c (mCons_of s (mNil_of _ _))) rfl (came_room w)
  unfold LT2
  exact sRet_of (mAndV_of a3 c2)
end
theorem beg_nn (ns : List Int) : ∀ z ∈ begGreat ns, 0 ≤ z := fun z hz => by
  unfold begGreat at hz
  obtain ⟨y, hy, rfl⟩ := List.mem_map.mp hz
  have := of_decide_eq_true (List.mem_filter.mp hy).2
  omega
theorem LS_ok (ns : List Int) (hl : ns.length ≤ 1000) (w : DS) : ∃ v : Nat, v ≤ 12 ∧ LS (lawE 24 ns) w = some (.ok ((List.range v).map fun (i : Nat) => D.int i) (lawE 24 ns) w) := by
  have l : D.lenL [.scr (ns.map .int)] = some (.int ns.length) := by
    show some (D.int ((ns.map D.int).length : Nat)) = _
    rw [List.length_map]
  have rl0 : lawE 24 ns = [some (.frz (.scr (ns.map .int))), some (.frz .wld), none, none, none, none, none, none, none, none, none, none, none, none, none, none, none, none, none, none, none, none, none, none, none, none] := rfl
  have mn : ∃ m : Nat, m ≤ 8 ∧ D.min2 [.int ns.length, .int 8] = some (.int m) := by
    by_cases h : (8 : Int) < ns.length
    · exact ⟨8, Nat.le_refl _, by
        show some (D.int (if (8 : Int) < ns.length then 8 else (ns.length : Int))) = _
        rw [if_pos h]
        rfl⟩
    · exact ⟨ns.length, by omega, by
        show some (D.int (if (8 : Int) < ns.length then 8 else (ns.length : Int))) = _
        rw [if_neg h]⟩
  obtain ⟨m, hm, em⟩ := mn
  have ea : D.add (.int 4) (.int m) = some (.int ((4 + m : Nat) : Int)) := add_nat 4 m
  refine ⟨4 + m, by omega, ?_⟩
  unfold LS
  refine src_rng ?_ (by omega)
  rw [rl0]
  generalize ((4 + m : Nat) : Int) = q at ea ⊢
  generalize (D.scr (ns.map .int)) = s at l ⊢
  simp [sSeq, sIf, sB, sNext, sAsg, sDrop, sRet, sOwn, sMov, sSt2, mSt, sParP, mB, mNot, mOr, mAnd, mOrV, mAndV, mIf, m1, m2, mCons, mNil, mConsD, mConsL, mNilP, setP, Pz.o, mC, mVar, rdV, mTup, mLs, mFz, mItems, mSM, lsOf, matOf, mCh, mCall, mCallN, mBor, mBorF, mBorN, fzE, pu, pu1, pu2, bnd, bdN, bdT, bdL, D.tr, D.isN, D.notN, outF, outN, O.toD, mStar, D.toI, mP, mNoP, mSlL, mSlT, l, em, ea]
theorem law_math (ns : List Int) (hl : ns.length ≤ 1000) : ∃ w', outF (m_law (lawE 24 ns) ⟨begGreat ns, begCells ns, 0, 0⟩) = some (.ok (.bl true) w') := by
  have ok0 : DsOk 120000 ⟨begGreat ns, begCells ns, 0, 0⟩ := ⟨Int.le_refl _, (by show (0 : Int) + 120000 ≤ 2 ^ 40; decide), Int.le_refl _, beg_nn ns⟩
  obtain ⟨v, hv, s⟩ := LS_ok ns hl ⟨begGreat ns, begCells ns, 0, 0⟩
  obtain ⟨ρ, w1, e, p2, p3, p4, p5, p6, p7, p8, p9, p10, p11, p12, p13, p14, p15, p16, p17, p18, p19, p20, p21, p22, p23, p24, p25, rfl, ok1⟩ := sFor_rng2 (bd := bdN 2) (body := LBz) (Lap (.scr (ns.map .int)) v) v (fun i ρ w hi h => LBz_ok hi h) (ρ := lawE 24 ns) (w := ⟨begGreat ns, begCells ns, 0, 0⟩) ⟨_, _, _, _, _, _, _, _, _, _, _, _, _, _, _, _, _, _, _, _, _, _, _, _, rfl, okl ok0 (by omega)⟩
  refine ⟨w1, ?_⟩
  rw [m_law_eq, sSeq_nx ((sForM_ok s).trans e), sSeq_nx (LT1_ok w1), sSeq_rt (LT2_ok w1)]
  rfl
end K03
set_option maxRecDepth 100000
set_option maxHeartbeats 4000000
namespace K03
open PySem PySem.Spec PyProof.Rows L2 FL

/-! ### what stands behind the top -/
structure Txt (P : Program) (K : PySem.W.Frag) (mg : Str → Option Value) : Prop where
  c_MOST_CALLS : ∃ t, mg "MOST_CALLS" = some (.int 6 t)
  c_MOST_LETTERS : ∃ t, mg "MOST_LETTERS" = some (.int 6 t)
  c_MOST_PROCEDURES : ∃ t, mg "MOST_PROCEDURES" = some (.int 12 t)
  c_MOST_ROW : ∃ t, mg "MOST_ROW" = some (.int 12 t)
  c_MOST_TEXT : ∃ t, mg "MOST_TEXT" = some (.int 2000 t)
  g_NoProgram : ∃ f, mg "NoProgram" = some (.ref f)
  g_NoRoom : ∃ f, mg "NoRoom" = some (.ref f)
  g_Program : ∃ f, mg "Program" = some (.ref f)
  k_Program : ∀ r, ClsK ⟨K, mg, r⟩ "Program"
  e_NoProgram : ClsE K mg "NoProgram" ["NoProgram"] ["NoRoom"]
  e_NoRoom : ClsE K mg "NoRoom" ["NoRoom"] ["NoProgram"]
  f_Program_own_letters : ∀ r, FldK ⟨K, mg, r⟩ "Program" "own_letters"
  f_Program_own_rules : ∀ r, FldK ⟨K, mg, r⟩ "Program" "own_rules"
  l__law_caught : ∃ CS, mg "StackError" = some (.ref CS) ∧ ∀ c ∈ (["NoProgram", "NoRoom"] : List Str), ∃ C, mg c = some (.ref C) ∧ PySem.W.exmOne K (.ref C) (.ref CS) = some true
  i_Program : ∃ Ca f, mg "Program" = some (.ref Ca) ∧ Mk K Ca f ∧ ∃ fd, FunD K "__init__" "Program.__init__" (defArgs s_Program_init) (defBody s_Program_init) (defScope s_Program_init) [] [] f fd
  p_Program_letters : ∃ Ca q g fd, mg "Program" = some (.ref Ca) ∧ Cls K Ca ∧ PropOf K Ca "letters" q g ∧ NoAttr K Ca "own_letters" ∧ FunD K "letters" "Program.letters" (defArgs s_Program_letters) (defBody s_Program_letters) (defScope s_Program_letters) [] [] g fd
  p_Program_rules : ∃ Ca q g fd, mg "Program" = some (.ref Ca) ∧ Cls K Ca ∧ PropOf K Ca "rules" q g ∧ NoAttr K Ca "own_rules" ∧ FunD K "rules" "Program.rules" (defArgs s_Program_rules) (defBody s_Program_rules) (defScope s_Program_rules) [] [] g fd
  r_NoProgram : ∃ Ca Da fI fd, mg "NoProgram" = some (.ref Ca) ∧ SupC K Da Ca "part" ∧ PySem.W.findIn K (.ref Ca) "__init__" = some (some (.ref fI)) ∧ PySem.W.typeIn K (.ref fI) = some (.type "function") ∧ SupF P K mg "PartError.__init__" (defArgs s_PartError_init) (defBody s_PartError_init) (defScope s_PartError_init) Da fI fd ∧ L2.Binds K fd ["self", "part"] []
  n_NoRoom : RaiN K mg "NoRoom"
  x_part : FldE K mg "part" ["NoProgram"]
  m_abs : mg "abs" = none
  m_all : mg "all" = none
  m_any : mg "any" = none
  m_bool : mg "bool" = none
  m_dict : mg "dict" = none
  m_enumerate : mg "enumerate" = none
  m_int : mg "int" = none
  m_isinstance : mg "isinstance" = none
  m_len : mg "len" = none
  m_list : mg "list" = none
  m_max : mg "max" = none
  m_min : mg "min" = none
  m_range : mg "range" = none
  m_str : mg "str" = none
  m_tuple : mg "tuple" = none
  m_zip : mg "zip" = none
  d_is_number : ∃ f fd, mg "is_number" = some (.ref f) ∧ FunD K "is_number" "is_number" (defArgs s_is_number) (defBody s_is_number) (defScope s_is_number) [] [] f fd
  d_is_between : ∃ f fd, mg "is_between" = some (.ref f) ∧ FunD K "is_between" "is_between" (defArgs s_is_between) (defBody s_is_between) (defScope s_is_between) [] [] f fd
  d_is_list : ∃ f fd, mg "is_list" = some (.ref f) ∧ FunD K "is_list" "is_list" (defArgs s_is_list) (defBody s_is_list) (defScope s_is_list) [] [] f fd
  d_rule_right : ∃ f fd, mg "rule_right" = some (.ref f) ∧ FunD K "rule_right" "rule_right" (defArgs s_rule_right) (defBody s_rule_right) (defScope s_rule_right) [] [] f fd
  d_rules_right : ∃ f fd, mg "rules_right" = some (.ref f) ∧ FunD K "rules_right" "rules_right" (defArgs s_rules_right) (defBody s_rules_right) (defScope s_rules_right) [] [] f fd
  d_need_parts : ∃ f fd, mg "need_parts" = some (.ref f) ∧ FunD K "need_parts" "need_parts" (defArgs s_need_parts) (defBody s_need_parts) (defScope s_need_parts) [] [] f fd
  d_is_live_by : ∃ f fd, mg "is_live_by" = some (.ref f) ∧ FunD K "is_live_by" "is_live_by" (defArgs s_is_live_by) (defBody s_is_live_by) (defScope s_is_live_by) [] [] f fd
  d_live_in : ∃ f fd, mg "live_in" = some (.ref f) ∧ FunD K "live_in" "live_in" (defArgs s_live_in) (defBody s_live_in) (defScope s_live_in) [] [] f fd
  d_need_program : ∃ f fd, mg "need_program" = some (.ref f) ∧ FunD K "need_program" "need_program" (defArgs s_need_program) (defBody s_need_program) (defScope s_need_program) [.non] [] f fd
  d_calls_right : ∃ f fd, mg "calls_right" = some (.ref f) ∧ FunD K "calls_right" "calls_right" (defArgs s_calls_right) (defBody s_calls_right) (defScope s_calls_right) [] [] f fd
  d_row_right : ∃ f fd, mg "row_right" = some (.ref f) ∧ FunD K "row_right" "row_right" (defArgs s_row_right) (defBody s_row_right) (defScope s_row_right) [] [] f fd
  d_need_row : ∃ f fd, mg "need_row" = some (.ref f) ∧ FunD K "need_row" "need_row" (defArgs s_need_row) (defBody s_need_row) (defScope s_need_row) [.non] [] f fd
  d_widened : ∃ f fd, mg "widened" = some (.ref f) ∧ FunD K "widened" "widened" (defArgs s_widened) (defBody s_widened) (defScope s_widened) [] [] f fd
  d_joined : ∃ f fd, mg "joined" = some (.ref f) ∧ FunD K "joined" "joined" (defArgs s_joined) (defBody s_joined) (defScope s_joined) [] [] f fd
  d_need_text : ∃ f fd, mg "need_text" = some (.ref f) ∧ FunD K "need_text" "need_text" (defArgs s_need_text) (defBody s_need_text) (defScope s_need_text) [] [] f fd
  d_gone : ∃ f fd, mg "gone" = some (.ref f) ∧ FunD K "gone" "gone" (defArgs s_gone) (defBody s_gone) (defScope s_gone) [] [] f fd
  d_need_reading : ∃ f fd, mg "need_reading" = some (.ref f) ∧ FunD K "need_reading" "need_reading" (defArgs s_need_reading) (defBody s_need_reading) (defScope s_need_reading) [] [] f fd
  d_reads : ∃ f fd, mg "reads" = some (.ref f) ∧ FunD K "reads" "reads" (defArgs s_reads) (defBody s_reads) (defScope s_reads) [] [] f fd
  d__law_begun : ∃ f fd, mg "_law_begun" = some (.ref f) ∧ FunD K "_law_begun" "_law_begun" (defArgs s__law_begun) (defBody s__law_begun) (defScope s__law_begun) [] [] f fd
  d__law_blended : ∃ f fd, mg "_law_blended" = some (.ref f) ∧ FunD K "_law_blended" "_law_blended" (defArgs s__law_blended) (defBody s__law_blended) (defScope s__law_blended) [] [] f fd
  d__law_draw : ∃ f fd, mg "_law_draw" = some (.ref f) ∧ FunD K "_law_draw" "_law_draw" (defArgs s__law_draw) (defBody s__law_draw) (defScope s__law_draw) [] [] f fd
  d__law_pick : ∃ f fd, mg "_law_pick" = some (.ref f) ∧ FunD K "_law_pick" "_law_pick" (defArgs s__law_pick) (defBody s__law_pick) (defScope s__law_pick) [] [] f fd
  d__law_caught : ∃ f fd, mg "_law_caught" = some (.ref f) ∧ FunD K "_law_caught" "_law_caught" (defArgs s__law_caught) (defBody s__law_caught) (defScope s__law_caught) [] [] f fd
  d__law_is_truth : ∃ f fd, mg "_law_is_truth" = some (.ref f) ∧ FunD K "_law_is_truth" "_law_is_truth" (defArgs s__law_is_truth) (defBody s__law_is_truth) (defScope s__law_is_truth) [] [] f fd
  d__law_same : ∃ f fd, mg "_law_same" = some (.ref f) ∧ FunD K "_law_same" "_law_same" (defArgs s__law_same) (defBody s__law_same) (defScope s__law_same) [] [] f fd
  d__law_sk_live : ∃ f fd, mg "_law_sk_live" = some (.ref f) ∧ FunD K "_law_sk_live" "_law_sk_live" (defArgs s__law_sk_live) (defBody s__law_sk_live) (defScope s__law_sk_live) [] [] f fd
  d__law_sk_rules : ∃ f fd, mg "_law_sk_rules" = some (.ref f) ∧ FunD K "_law_sk_rules" "_law_sk_rules" (defArgs s__law_sk_rules) (defBody s__law_sk_rules) (defScope s__law_sk_rules) [] [] f fd
  d__law_sk_row : ∃ f fd, mg "_law_sk_row" = some (.ref f) ∧ FunD K "_law_sk_row" "_law_sk_row" (defArgs s__law_sk_row) (defBody s__law_sk_row) (defScope s__law_sk_row) [] [] f fd
  d__law_sk_gone : ∃ f fd, mg "_law_sk_gone" = some (.ref f) ∧ FunD K "_law_sk_gone" "_law_sk_gone" (defArgs s__law_sk_gone) (defBody s__law_sk_gone) (defScope s__law_sk_gone) [] [] f fd
  d__law_sk_text : ∃ f fd, mg "_law_sk_text" = some (.ref f) ∧ FunD K "_law_sk_text" "_law_sk_text" (defArgs s__law_sk_text) (defBody s__law_sk_text) (defScope s__law_sk_text) [] [] f fd
  d__law_sk_no_program : ∃ f fd, mg "_law_sk_no_program" = some (.ref f) ∧ FunD K "_law_sk_no_program" "_law_sk_no_program" (defArgs s__law_sk_no_program) (defBody s__law_sk_no_program) (defScope s__law_sk_no_program) [] [] f fd
  d__law_came : ∃ f fd, mg "_law_came" = some (.ref f) ∧ FunD K "_law_came" "_law_came" (defArgs s__law_came) (defBody s__law_came) (defScope s__law_came) [] [] f fd
section
variable {P : Program} {w : World} {K : PySem.W.Frag} {mg : Str → Option Value} {base : Heap}
theorem b_abs : bootBuiltins "abs" = some (.builtin "abs") := by rfl
theorem b_all : bootBuiltins "all" = some (.builtin "all") := by rfl
theorem b_any : bootBuiltins "any" = some (.builtin "any") := by rfl
theorem b_bool : bootBuiltins "bool" = some (.type "bool") := by rfl
theorem b_dict : bootBuiltins "dict" = some (.type "dict") := by rfl
theorem b_enumerate : bootBuiltins "enumerate" = some (.type "enumerate") := by rfl
theorem b_int : bootBuiltins "int" = some (.type "int") := by rfl
theorem b_isinstance : bootBuiltins "isinstance" = some (.builtin "isinstance") := by rfl
theorem b_len : bootBuiltins "len" = some (.builtin "len") := by rfl
theorem b_list : bootBuiltins "list" = some (.type "list") := by rfl
theorem b_max : bootBuiltins "max" = some (.builtin "max") := by rfl
theorem b_min : bootBuiltins "min" = some (.builtin "min") := by rfl
theorem b_range : bootBuiltins "range" = some (.type "range") := by rfl
theorem b_str : bootBuiltins "str" = some (.type "str") := by rfl
theorem b_tuple : bootBuiltins "tuple" = some (.type "tuple") := by rfl
theorem b_zip : bootBuiltins "zip" = some (.type "zip") := by rfl
theorem pr_Program_letters (T : Txt P K mg) (p : DP) : PropK P w base ⟨K, mg, p.root⟩ "Program" "letters" "own_letters" 1 := by
  obtain ⟨Ca, q, g, fd, h1, h2, h3, h4, F⟩ := T.p_Program_letters
  have b : Binds K fd ["self"] [] := F.bindsN fun _ _ _ _ _ _ us hl => match us, hl with | [_], _ => rfl
  obtain ⟨oc, od, dV, kV, doc, pm, an, cdv, ct, osl, rfl, lk, hcd, _, _⟩ := F.ex
  exact ⟨Ca, q, g, _, h1, h2, h3, b, fn_getter (k := 0) lk hcd sc_Program_letters rfl rfl h2 h4⟩
theorem pr_Program_rules (T : Txt P K mg) (p : DP) : PropK P w base ⟨K, mg, p.root⟩ "Program" "rules" "own_rules" 1 := by
  obtain ⟨Ca, q, g, fd, h1, h2, h3, h4, F⟩ := T.p_Program_rules
  have b : Binds K fd ["self"] [] := F.bindsN fun _ _ _ _ _ _ us hl => match us, hl with | [_], _ => rfl
  obtain ⟨oc, od, dV, kV, doc, pm, an, cdv, ct, osl, rfl, lk, hcd, _, _⟩ := F.ex
  exact ⟨Ca, q, g, _, h1, h2, h3, b, fn_getter (k := 0) lk hcd sc_Program_rules rfl rfl h2 h4⟩
theorem cau__law_caught (T : Txt P K mg) : CauC K mg "_law_caught" ["NoProgram", "NoRoom"] := by
  obtain ⟨g, fd, h1, F⟩ := T.d__law_caught
  obtain ⟨CS, h6, h7⟩ := T.l__law_caught
  exact ⟨g, CS, fd, "action", "StackError", "error", "found", _, _, _, _, _, _, _, _, _, _, _, _, _, _, _, _, _, _, h1, F, F.bindsN fun _ _ _ _ _ _ us hl => match us, hl with | [_], _ => rfl, sc__law_caught, rfl, h6, h7, by decide, rfl, rfl, rfl, rfl, rfl, rfl, rfl, rfl, rfl, rfl, rfl, by intros; rfl, by intros; rfl, by intros; rfl⟩
theorem rf_NoProgram (T : Txt P K mg) : RaiF P w base K mg "NoProgram" "part" 1 := by
  obtain ⟨Ca, Da, fI, fd, h1, h2, h3, h4, F, h6⟩ := T.r_NoProgram
  exact ⟨Ca, Da, fI, fd, "part", h1, h2, h3, h4, fn_supB (k := 0) F rfl ⟨rfl, rfl, rfl, by decide +kernel, by decide +kernel, rfl, rfl, rfl, rfl, by decide⟩ ⟨_, rfl, rfl⟩, h6⟩
theorem fo_is_number (T : Txt P K mg) (p : DP) (hpb : p.b = false) {f : Addr} {fd : FuncData} (F : FunD K "is_number" "is_number" (defArgs s_is_number) (defBody s_is_number) (defScope s_is_number) [] [] f fd) : FnOk P w K mg base (L2.CX P w) 1 f fd ["thing"] (spF ⟨K, mg, p.root⟩ (DW p) 1 g_is_number) :=
  fn_def F sc_is_number rfl (fun ds w r _ h => h) fun cdv A outer s H E hr =>
    (s_cons (s_ret (fe_and (fe_callB call_isi (cs_isi rfl) rfl T.m_isinstance b_isinstance (fa_cons (fv 0) (fa_cons (fe_ty (by rfl) T.m_int b_int) fa_nil))) (fe_one (fe_not (fe_callB call_isi (cs_isi rfl) rfl T.m_isinstance b_isinstance (fa_cons (fv 0) (fa_cons (fe_ty (by rfl) T.m_bool b_bool) fa_nil)))))))
    s_nil)
theorem ok_is_number (T : Txt P K mg) (p : DP) (hpb : p.b = false) : FnC P w base ⟨K, mg, p.root⟩ (DW p) "is_number" [] 1 g_is_number 1 := by
  obtain ⟨f, fd, hm, F⟩ := T.d_is_number
  exact ⟨f, fd, ["thing"], [], [], hm, F.kp, F.bindsN fun _ _ _ _ _ _ us hl => match us, hl with | [_], _ => rfl, .nil, fun _ => rfl, fo_is_number T p hpb F⟩
theorem fo_is_between (T : Txt P K mg) (p : DP) (hpb : p.b = false) {f : Addr} {fd : FuncData} (F : FunD K "is_between" "is_between" (defArgs s_is_between) (defBody s_is_between) (defScope s_is_between) [] [] f fd) : FnOk P w K mg base (L2.CX P w) 2 f fd ["thing", "low", "high"] (spF ⟨K, mg, p.root⟩ (DW p) 3 g_is_between) :=
  fn_def F sc_is_between rfl (fun ds w r _ h => h) fun cdv A outer s H E hr =>
    (s_cons (s_ret (fe_and (fe_callC (ok_is_number T p hpb) (hr.mono (by decide)) (by rfl) (passes_call (takes_of rfl rfl rfl rfl) (fun _ _ _ _ h => h)) (fa_cons (fv 0) fa_nil)) (fe_one (fe_chain op_le os_le op_le os_le (fv 1) (fv 0) (fv 2)))))
    s_nil)
theorem ok_is_between (T : Txt P K mg) (p : DP) (hpb : p.b = false) : FnC P w base ⟨K, mg, p.root⟩ (DW p) "is_between" [] 3 g_is_between 2 := by
  obtain ⟨f, fd, hm, F⟩ := T.d_is_between
  exact ⟨f, fd, ["thing", "low", "high"], [], [], hm, F.kp, F.bindsN fun _ _ _ _ _ _ us hl => match us, hl with | [_, _, _], _ => rfl, .nil, fun _ => rfl, fo_is_between T p hpb F⟩
theorem fo_is_list (T : Txt P K mg) (p : DP) (hpb : p.b = false) {f : Addr} {fd : FuncData} (F : FunD K "is_list" "is_list" (defArgs s_is_list) (defBody s_is_list) (defScope s_is_list) [] [] f fd) : FnOk P w K mg base (L2.CX P w) 1 f fd ["thing"] (spF ⟨K, mg, p.root⟩ (DW p) 1 g_is_list) :=
  fn_def F sc_is_list rfl (fun ds w r _ h => h) fun cdv A outer s H E hr =>
    (s_cons (s_ret (fe_callB call_isiT (cs_isiT rfl) rfl T.m_isinstance b_isinstance (fa_cons (fv 0) (fa_cons (fe_tup (fa_cons (fe_ty (by rfl) T.m_list b_list) (fa_cons (fe_ty (by rfl) T.m_tuple b_tuple) fa_nil))) fa_nil))))
    s_nil)
theorem ok_is_list (T : Txt P K mg) (p : DP) (hpb : p.b = false) : FnC P w base ⟨K, mg, p.root⟩ (DW p) "is_list" [] 1 g_is_list 1 := by
  obtain ⟨f, fd, hm, F⟩ := T.d_is_list
  exact ⟨f, fd, ["thing"], [], [], hm, F.kp, F.bindsN fun _ _ _ _ _ _ us hl => match us, hl with | [_], _ => rfl, .nil, fun _ => rfl, fo_is_list T p hpb F⟩
theorem fo_rule_right (T : Txt P K mg) (p : DP) (hpb : p.b = false) {f : Addr} {fd : FuncData} (F : FunD K "rule_right" "rule_right" (defArgs s_rule_right) (defBody s_rule_right) (defScope s_rule_right) [] [] f fd) : FnOk P w K mg base (L2.CX P w) 3 f fd ["many", "thing"] (spF ⟨K, mg, p.root⟩ (DW p) 2 g_rule_right) :=
  fn_def F sc_rule_right rfl (fun ds w r _ h => h) fun cdv A outer s H E hr =>
    (s_cons (s_if (ft_cmp op_isN os_isN (fv 1) fe_non (nomark _))
    (s_cons (s_ret fe_bl)
    s_nil)
    s_nil)
    (s_cons (s_if (PW.pt (fw_or (ft_not (ft_val (fe_callB call_isi (cs_isi rfl) rfl T.m_isinstance b_isinstance (fa_cons (fv 1) (fa_cons (fe_ty (by rfl) T.m_tuple b_tuple) fa_nil))))) (fw_or1 (ft_cmp op_gt os_gt (fe_callB call_lenA (cs_len rfl) rfl T.m_len b_len (fa_cons (fv 1) fa_nil)) (fe_gint rfl T.c_MOST_CALLS) (nomark _)))))
    (s_cons (s_ret fe_bl)
    s_nil)
    s_nil)
    (s_cons (s_ret (fe_callB (cr_all rfl) cs_all rfl T.m_all b_all (fa_cons (fe_fz (fn_lc (own := [("item", 2)]) rfl sc_rule_right.nd (fi_seq rfl (fv 1)) (blkOk_by (own := [("item", 2)]) (by kernel_rfl)) (fun _ _ _ _ _ => (pg_name (i := 2) sc_rule_right.nd rfl (by first | exact Or.inl rfl | exact Or.inr rfl))) ts_name rfl (fun _ _ _ _ _ => fts_nil) (fun _ _ _ _ _ => (fe_callC (ok_is_between T p hpb) (hr.mono (by decide)) (by rfl) passL (fa_cons (fv 2) (fa_cons fe_int (fa_cons (fe_op op_sub os_sub (fv 0) fe_int) fa_nil))))))) fa_nil)))
    s_nil)))
theorem ok_rule_right (T : Txt P K mg) (p : DP) (hpb : p.b = false) : FnC P w base ⟨K, mg, p.root⟩ (DW p) "rule_right" [] 2 g_rule_right 3 := by
  obtain ⟨f, fd, hm, F⟩ := T.d_rule_right
  exact ⟨f, fd, ["many", "thing"], [], [], hm, F.kp, F.bindsN fun _ _ _ _ _ _ us hl => match us, hl with | [_, _], _ => rfl, .nil, fun _ => rfl, fo_rule_right T p hpb F⟩
theorem fo_rules_right (T : Txt P K mg) (p : DP) (hpb : p.b = false) {f : Addr} {fd : FuncData} (F : FunD K "rules_right" "rules_right" (defArgs s_rules_right) (defBody s_rules_right) (defScope s_rules_right) [] [] f fd) : FnOk P w K mg base (L2.CX P w) 4 f fd ["letters", "thing"] (spF ⟨K, mg, p.root⟩ (DW p) 2 g_rules_right) :=
  fn_def F sc_rules_right rfl (fun ds w r _ h => h) fun cdv A outer s H E hr =>
    (s_cons (s_if (PW.pt (fw_or (ft_not (ft_val (fe_callC (ok_is_list T p hpb) (hr.mono (by decide)) (by rfl) (passes_call (takes_of rfl rfl rfl rfl) (fun _ _ _ _ h => h)) (fa_cons (fv 1) fa_nil)))) (fw_or1 (ft_not (ft_chain op_le os_le op_le os_le fe_int (fe_callB call_lenA (cs_len rfl) rfl T.m_len b_len (fa_cons (fv 1) fa_nil)) (fe_gint rfl T.c_MOST_PROCEDURES))))))
    (s_cons (s_ret fe_bl)
    s_nil)
    s_nil)
    (s_cons (s_if (ft_not (ft_val (fe_callB (cr_all rfl) cs_all rfl T.m_all b_all (fa_cons (fe_fz (fn_lc (own := [("line", 2)]) rfl sc_rules_right.nd (fi_seq rfl (fv 1)) (blkOk_by (own := [("line", 2)]) (by kernel_rfl)) (fun _ _ _ _ _ => (pg_name (i := 2) sc_rules_right.nd rfl (by first | exact Or.inl rfl | exact Or.inr rfl))) ts_name rfl (fun _ _ _ _ _ => fts_nil) (fun _ _ _ _ _ => (fe_and (fe_callC (ok_is_list T p hpb) (hr.mono (by decide)) (by rfl) passL (fa_cons (fv 2) fa_nil)) (fe_one (fe_cmp (op_eqD hr.units) (os_eqD rfl) (fe_callB call_lenA (cs_len rfl) rfl T.m_len b_len (fa_cons (fv 2) fa_nil)) (fv 0) (nomark _))))))) fa_nil))))
    (s_cons (s_ret fe_bl)
    s_nil)
    s_nil)
    (s_cons (s_ret (fe_callB (cr_all rfl) cs_all rfl T.m_all b_all (fa_cons (fe_fz (fn_lc (own := [("line", 2)]) rfl sc_rules_right.nd (fi_seq rfl (fv 1)) (blkOk_by (own := [("line", 2)]) (by kernel_rfl)) (fun _ _ _ _ _ => (pg_name (i := 2) sc_rules_right.nd rfl (by first | exact Or.inl rfl | exact Or.inr rfl))) ts_name rfl (fun _ _ _ _ _ => fts_nil) (fun _ _ _ _ _ => (fe_callB (cr_all rfl) cs_all rfl T.m_all b_all (fa_cons (fe_fz (fn_lc (own := [("item", 3)]) rfl sc_rules_right.nd (fi_seq rfl (fv 2)) (blkOk_by (own := [("item", 3)]) (by kernel_rfl)) (fun _ _ _ _ _ => (pg_name (i := 3) sc_rules_right.nd rfl (by first | exact Or.inl rfl | exact Or.inr rfl))) ts_name rfl (fun _ _ _ _ _ => fts_nil) (fun _ _ _ _ _ => (fe_callC (ok_rule_right T p hpb) (hr.mono (by decide)) (by rfl) passL (fa_cons (fe_callB call_lenA (cs_len rfl) rfl T.m_len b_len (fa_cons (fv 1) fa_nil)) (fa_cons (fv 3) fa_nil)))))) fa_nil))))) fa_nil)))
    s_nil)))
theorem ok_rules_right (T : Txt P K mg) (p : DP) (hpb : p.b = false) : FnC P w base ⟨K, mg, p.root⟩ (DW p) "rules_right" [] 2 g_rules_right 4 := by
  obtain ⟨f, fd, hm, F⟩ := T.d_rules_right
  exact ⟨f, fd, ["letters", "thing"], [], [], hm, F.kp, F.bindsN fun _ _ _ _ _ _ us hl => match us, hl with | [_, _], _ => rfl, .nil, fun _ => rfl, fo_rules_right T p hpb F⟩
theorem fo_need_parts (T : Txt P K mg) (p : DP) (hpb : p.b = false) {f : Addr} {fd : FuncData} (F : FunD K "need_parts" "need_parts" (defArgs s_need_parts) (defBody s_need_parts) (defScope s_need_parts) [] [] f fd) : FnOk P w K mg base (L2.CX P w) 5 f fd ["letters", "rules"] (spF ⟨K, mg, p.root⟩ (DW p) 2 g_need_parts) :=
  fn_def F sc_need_parts rfl (fun ds w r _ h => h) fun cdv A outer s H E hr =>
    (s_cons (s_if (ft_not (ft_val (fe_callC (ok_is_between T p hpb) (hr.mono (by decide)) (by rfl) (passes_call (takes_of rfl rfl rfl rfl) (fun _ _ _ _ h => h)) (fa_cons (fv 0) (fa_cons fe_int (fa_cons (fe_gint rfl T.c_MOST_LETTERS) fa_nil))))))
    (s_cons s_no
    s_nil)
    s_nil)
    (s_cons (s_if (ft_not (ft_val (fe_callC (ok_rules_right T p hpb) (hr.mono (by decide)) (by rfl) (passes_call (takes_of rfl rfl rfl rfl) (fun _ _ _ _ h => h)) (fa_cons (fv 0) (fa_cons (fv 1) fa_nil)))))
    (s_cons s_no
    s_nil)
    s_nil)
    s_nil))
theorem ok_need_parts (T : Txt P K mg) (p : DP) (hpb : p.b = false) : FnC P w base ⟨K, mg, p.root⟩ (DW p) "need_parts" [] 2 g_need_parts 5 := by
  obtain ⟨f, fd, hm, F⟩ := T.d_need_parts
  exact ⟨f, fd, ["letters", "rules"], [], [], hm, F.kp, F.bindsN fun _ _ _ _ _ _ us hl => match us, hl with | [_, _], _ => rfl, .nil, fun _ => rfl, fo_need_parts T p hpb F⟩
theorem fo_is_live_by (T : Txt P K mg) (p : DP) (hpb : p.b = false) {f : Addr} {fd : FuncData} (F : FunD K "is_live_by" "is_live_by" (defArgs s_is_live_by) (defBody s_is_live_by) (defScope s_is_live_by) [] [] f fd) : FnOk P w K mg base (L2.CX P w) 1 f fd ["line", "live"] (spF ⟨K, mg, p.root⟩ (DW p) 2 g_is_live_by) :=
  fn_def F sc_is_live_by rfl (fun ds w r _ h => h) fun cdv A outer s H E hr =>
    (s_cons (s_ret (fe_callB (cr_any rfl) cs_any rfl T.m_any b_any (fa_cons (fe_fz (fn_lc (own := [("item", 2)]) rfl sc_is_live_by.nd (fi_seq rfl (fv 0)) (blkOk_by (own := [("item", 2)]) (by kernel_rfl)) (fun _ _ _ _ _ => (pg_name (i := 2) sc_is_live_by.nd rfl (by first | exact Or.inl rfl | exact Or.inr rfl))) ts_name rfl (fun _ _ _ _ _ => fts_nil) (fun _ _ _ _ _ => (fe_and (fe_cmp op_notN os_notN (fv 2) fe_non (nomark _)) (fe_one (fe_callB (cr_all rfl) cs_all rfl T.m_all b_all (fa_cons (fe_fz (fn_lc (own := [("other", 3)]) rfl sc_is_live_by.nd (fi_seq rfl (fv 2)) (blkOk_by (own := [("other", 3)]) (by kernel_rfl)) (fun _ _ _ _ _ => (pg_name (i := 3) sc_is_live_by.nd rfl (by first | exact Or.inl rfl | exact Or.inr rfl))) ts_name rfl (fun _ _ _ _ _ => fts_nil) (fun _ _ _ _ _ => (fe_cmp (op_inA (hu_of hr)) (os_in rfl) (fv 3) (fv 1) rfl)))) fa_nil))))))) fa_nil)))
    s_nil)
theorem ok_is_live_by (T : Txt P K mg) (p : DP) (hpb : p.b = false) : FnC P w base ⟨K, mg, p.root⟩ (DW p) "is_live_by" [] 2 g_is_live_by 1 := by
  obtain ⟨f, fd, hm, F⟩ := T.d_is_live_by
  exact ⟨f, fd, ["line", "live"], [], [], hm, F.kp, F.bindsN fun _ _ _ _ _ _ us hl => match us, hl with | [_, _], _ => rfl, .nil, fun _ => rfl, fo_is_live_by T p hpb F⟩
theorem fo_live_in (T : Txt P K mg) (p : DP) (hpb : p.b = false) {f : Addr} {fd : FuncData} (F : FunD K "live_in" "live_in" (defArgs s_live_in) (defBody s_live_in) (defScope s_live_in) [] [] f fd) : FnOk P w K mg base (L2.CX P w) 2 f fd ["rules"] (spF ⟨K, mg, p.root⟩ (DW p) 1 g_live_in) :=
  fn_def F sc_live_in rfl (fun ds w r _ h => h) fun cdv A outer s H E hr =>
    (s_cons (s_asg (fe_tup (fa_cons fe_dnewK (fa_cons (fe_neg fe_int) fa_nil))) (pg_tup rfl (pgs_cons (pg_name (i := 1) sc_live_in.nd rfl (by first | exact Or.inl rfl | exact Or.inr rfl)) (pgs_cons (pg_name (i := 2) sc_live_in.nd rfl (by first | exact Or.inl rfl | exact Or.inr rfl)) pgs_nil))) (ts_tup (ts_cons ts_name (ts_cons ts_name ts_nil)) rfl))
    (s_cons (s_while _ (passes_of rfl) (ft_cmp (op_neD hr.units) (os_neD rfl) (fe_callB call_lenA (cs_len rfl) rfl T.m_len b_len (fa_cons (fv 1) fa_nil)) (fv 2) (nomark _))
    (s_cons (s_asg (fe_callB call_lenA (cs_len rfl) rfl T.m_len b_len (fa_cons (fv 1) fa_nil)) (pg_name (i := 2) sc_live_in.nd rfl (by first | exact Or.inl rfl | exact Or.inr rfl)) ts_name)
    (s_cons (s_asg (fe_dc (own := [("index", 3), ("line", 4)]) rfl sc_live_in.nd (fi_enumA rfl (by rfl) T.m_enumerate (fa_cons (fv 0) fa_nil)) (blkOk_by (own := [("index", 3), ("line", 4)]) (by kernel_rfl)) (fun _ _ _ _ _ => (pg_tup rfl (pgs_cons (pg_name (i := 3) sc_live_in.nd rfl (by first | exact Or.inl rfl | exact Or.inr rfl)) (pgs_cons (pg_name (i := 4) sc_live_in.nd rfl (by first | exact Or.inl rfl | exact Or.inr rfl)) pgs_nil)))) (ts_tup (ts_cons ts_name (ts_cons ts_name ts_nil)) rfl) rfl (fun _ _ _ _ _ => (fts_one (PW.pt (fw_or (ft_cmp (op_inA (hu_of hr)) (os_in rfl) (fv 3) (fv 1) rfl) (fw_or1 (ft_val (fe_callC (ok_is_live_by T p hpb) (hr.mono (by decide)) (by rfl) passL (fa_cons (fv 4) (fa_cons (fv 1) fa_nil))))))))) (fun _ _ _ _ _ => (fv 3)) (fun _ _ _ _ _ => fe_non)) (pg_name (i := 1) sc_live_in.nd rfl (by first | exact Or.inl rfl | exact Or.inr rfl)) ts_name)
    s_nil)))
    (s_cons (s_ret (fv 1))
    s_nil)))
theorem ok_live_in (T : Txt P K mg) (p : DP) (hpb : p.b = false) : FnC P w base ⟨K, mg, p.root⟩ (DW p) "live_in" [] 1 g_live_in 2 := by
  obtain ⟨f, fd, hm, F⟩ := T.d_live_in
  exact ⟨f, fd, ["rules"], [], [], hm, F.kp, F.bindsN fun _ _ _ _ _ _ us hl => match us, hl with | [_], _ => rfl, .nil, fun _ => rfl, fo_live_in T p hpb F⟩
theorem fo_need_program (T : Txt P K mg) (p : DP) (hpb : p.b = false) {f : Addr} {fd : FuncData} (F : FunD K "need_program" "need_program" (defArgs s_need_program) (defBody s_need_program) (defScope s_need_program) [.non] [] f fd) : FnOk P w K mg base (L2.CX P w) 3 f fd ["program", "part"] (spF ⟨K, mg, p.root⟩ (DW p) 2 g_need_program) :=
  fn_def F sc_need_program rfl (fun ds w r _ h => h) fun cdv A outer s H E hr =>
    (s_cons (s_if (ft_not (ft_val (fe_callB call_isi (cs_isiC (T.k_Program p.root) rfl) rfl T.m_isinstance b_isinstance (fa_cons (fv 0) (fa_cons (fe_glE (by rfl) T.g_Program rfl) fa_nil)))))
    (s_cons (s_raiseF (rf_NoProgram T) (hr.mono (by decide)) rfl (takes_of rfl rfl rfl rfl) (by rfl) (fa_cons (fv 1) fa_nil))
    s_nil)
    s_nil)
    s_nil)
theorem ok_need_program (T : Txt P K mg) (p : DP) (hpb : p.b = false) : FnC P w base ⟨K, mg, p.root⟩ (DW p) "need_program" [] 2 g_need_program 3 := by
  obtain ⟨f, fd, hm, F⟩ := T.d_need_program
  obtain ⟨ds, hv, hb⟩ := F.binds1 (ps := ["program", "part"]) 2 1 (by simp) rfl fun _ _ _ _ _ _ _ us its h1 h2 => match us, its, h1, h2 with | [_, _], [_], _, _ => ⟨_, rfl, rfl⟩
  exact ⟨f, fd, ["program", "part"], ds, [], hm, F.kp, hb, hv, fun _ => rfl, fo_need_program T p hpb F⟩
theorem ok_need_program_d1 (T : Txt P K mg) (p : DP) (hpb : p.b = false) : FnC P w base ⟨K, mg, p.root⟩ (DW p) "need_program" [.non] 2 g_need_program 3 := by
  obtain ⟨f, fd, hm, F⟩ := T.d_need_program
  obtain ⟨ds, hv, hb⟩ := F.binds1 (ps := ["program", "part"]) 1 0 (by simp) rfl fun _ _ _ _ _ _ _ us its h1 h2 => match us, its, h1, h2 with | [_], [_], _, _ => ⟨_, rfl, rfl⟩
  exact ⟨f, fd, ["program", "part"], ds, [.non], hm, F.kp, hb, hv, fun _ => ⟨_, _, rfl, rfl, rfl⟩, fo_need_program T p hpb F⟩
theorem fo_calls_right (T : Txt P K mg) (p : DP) (hpb : p.b = false) {f : Addr} {fd : FuncData} (F : FunD K "calls_right" "calls_right" (defArgs s_calls_right) (defBody s_calls_right) (defScope s_calls_right) [] [] f fd) : FnOk P w K mg base (L2.CX P w) 3 f fd ["program", "thing"] (spF ⟨K, mg, p.root⟩ (DW p) 2 g_calls_right) :=
  fn_def F sc_calls_right rfl (fun ds w r _ h => h) fun cdv A outer s H E hr =>
    (s_cons (s_ret (fe_and (fe_callB call_isi (cs_isi rfl) rfl T.m_isinstance b_isinstance (fa_cons (fv 1) (fa_cons (fe_ty (by rfl) T.m_tuple b_tuple) fa_nil))) (fe_one (fe_callB (cr_all rfl) cs_all rfl T.m_all b_all (fa_cons (fe_fz (fn_lc (own := [("item", 2)]) rfl sc_calls_right.nd (fi_seq rfl (fv 1)) (blkOk_by (own := [("item", 2)]) (by kernel_rfl)) (fun _ _ _ _ _ => (pg_name (i := 2) sc_calls_right.nd rfl (by first | exact Or.inl rfl | exact Or.inr rfl))) ts_name rfl (fun _ _ _ _ _ => fts_nil) (fun _ _ _ _ _ => (fe_callC (ok_is_between T p hpb) (hr.mono (by decide)) (by rfl) passL (fa_cons (fv 2) (fa_cons fe_int (fa_cons (fe_op op_sub os_sub (fe_callB call_lenA (cs_len rfl) rfl T.m_len b_len (fa_cons (fe_prop (pr_Program_rules T p) (hr.mono (by decide)) (fv 0) rfl) fa_nil)) fe_int) fa_nil))))))) fa_nil)))))
    s_nil)
theorem ok_calls_right (T : Txt P K mg) (p : DP) (hpb : p.b = false) : FnC P w base ⟨K, mg, p.root⟩ (DW p) "calls_right" [] 2 g_calls_right 3 := by
  obtain ⟨f, fd, hm, F⟩ := T.d_calls_right
  exact ⟨f, fd, ["program", "thing"], [], [], hm, F.kp, F.bindsN fun _ _ _ _ _ _ us hl => match us, hl with | [_, _], _ => rfl, .nil, fun _ => rfl, fo_calls_right T p hpb F⟩
theorem fo_row_right (T : Txt P K mg) (p : DP) (hpb : p.b = false) {f : Addr} {fd : FuncData} (F : FunD K "row_right" "row_right" (defArgs s_row_right) (defBody s_row_right) (defScope s_row_right) [] [] f fd) : FnOk P w K mg base (L2.CX P w) 4 f fd ["program", "thing"] (spF ⟨K, mg, p.root⟩ (DW p) 2 g_row_right) :=
  fn_def F sc_row_right rfl (fun ds w r _ h => h) fun cdv A outer s H E hr =>
    (s_cons (s_ret (fe_and (fe_callC (ok_calls_right T p hpb) (hr.mono (by decide)) (by rfl) (passes_call (takes_of rfl rfl rfl rfl) (fun _ _ _ _ h => h)) (fa_cons (fv 0) (fa_cons (fv 1) fa_nil))) (fe_one (fe_cmp op_le os_le (fe_callB call_lenA (cs_len rfl) rfl T.m_len b_len (fa_cons (fv 1) fa_nil)) (fe_gint rfl T.c_MOST_ROW) (nomark _)))))
    s_nil)
theorem ok_row_right (T : Txt P K mg) (p : DP) (hpb : p.b = false) : FnC P w base ⟨K, mg, p.root⟩ (DW p) "row_right" [] 2 g_row_right 4 := by
  obtain ⟨f, fd, hm, F⟩ := T.d_row_right
  exact ⟨f, fd, ["program", "thing"], [], [], hm, F.kp, F.bindsN fun _ _ _ _ _ _ us hl => match us, hl with | [_, _], _ => rfl, .nil, fun _ => rfl, fo_row_right T p hpb F⟩
theorem fo_need_row (T : Txt P K mg) (p : DP) (hpb : p.b = false) {f : Addr} {fd : FuncData} (F : FunD K "need_row" "need_row" (defArgs s_need_row) (defBody s_need_row) (defScope s_need_row) [.non] [] f fd) : FnOk P w K mg base (L2.CX P w) 5 f fd ["program", "row", "part"] (spF ⟨K, mg, p.root⟩ (DW p) 3 g_need_row) :=
  fn_def F sc_need_row rfl (fun ds w r _ h => h) fun cdv A outer s H E hr =>
    (s_cons (s_if (ft_not (ft_val (fe_callC (ok_row_right T p hpb) (hr.mono (by decide)) (by rfl) (passes_call (takes_of rfl rfl rfl rfl) (fun _ _ _ _ h => h)) (fa_cons (fv 0) (fa_cons (fv 1) fa_nil)))))
    (s_cons s_no
    s_nil)
    s_nil)
    s_nil)
theorem ok_need_row (T : Txt P K mg) (p : DP) (hpb : p.b = false) : FnC P w base ⟨K, mg, p.root⟩ (DW p) "need_row" [] 3 g_need_row 5 := by
  obtain ⟨f, fd, hm, F⟩ := T.d_need_row
  obtain ⟨ds, hv, hb⟩ := F.binds1 (ps := ["program", "row", "part"]) 3 1 (by simp) rfl fun _ _ _ _ _ _ _ us its h1 h2 => match us, its, h1, h2 with | [_, _, _], [_], _, _ => ⟨_, rfl, rfl⟩
  exact ⟨f, fd, ["program", "row", "part"], ds, [], hm, F.kp, hb, hv, fun _ => rfl, fo_need_row T p hpb F⟩
theorem ok_need_row_d1 (T : Txt P K mg) (p : DP) (hpb : p.b = false) : FnC P w base ⟨K, mg, p.root⟩ (DW p) "need_row" [.non] 3 g_need_row 5 := by
  obtain ⟨f, fd, hm, F⟩ := T.d_need_row
  obtain ⟨ds, hv, hb⟩ := F.binds1 (ps := ["program", "row", "part"]) 2 0 (by simp) rfl fun _ _ _ _ _ _ _ us its h1 h2 => match us, its, h1, h2 with | [_, _], [_], _, _ => ⟨_, rfl, rfl⟩
  exact ⟨f, fd, ["program", "row", "part"], ds, [.non], hm, F.kp, hb, hv, fun _ => ⟨_, _, rfl, rfl, rfl⟩, fo_need_row T p hpb F⟩
theorem fo_widened (T : Txt P K mg) (p : DP) (hpb : p.b = false) {f : Addr} {fd : FuncData} (F : FunD K "widened" "widened" (defArgs s_widened) (defBody s_widened) (defScope s_widened) [] [] f fd) : FnOk P w K mg base (L2.CX P w) 1 f fd ["line", "letters", "shift"] (spF ⟨K, mg, p.root⟩ (DW p) 3 g_widened) :=
  fn_def F sc_widened rfl (fun ds w r _ h => h) fun cdv A outer s H E hr =>
    (s_cons (s_setLcD (i := 3) (own := [("rule", 4)]) rfl sc_widened.nd rfl rfl (sw_true rfl rfl rfl (by kernel_rfl)) (fi_seq rfl (fv 0)) (blkOk_by (own := [("rule", 4)]) (by kernel_rfl)) (fun _ _ _ _ _ => (pg_name (i := 4) sc_widened.nd rfl (by first | exact Or.inl rfl | exact Or.inr rfl))) ts_name rfl (fun _ _ _ _ _ => fts_nil) (fun _ _ _ _ _ => (fe_ifExp (ft_cmp op_isN os_isN (fv 4) fe_non (nomark _)) fe_non (fe_callTy call_tuple_of (cs_tuple rfl) rfl T.m_tuple b_tuple (fa_cons (fe_fz (fn_lc (own := [("item", 5)]) rfl sc_widened.nd (fi_seq rfl (fv 4)) (blkOk_by (own := [("item", 5)]) (by kernel_rfl)) (fun _ _ _ _ _ => (pg_name (i := 5) sc_widened.nd rfl (by first | exact Or.inl rfl | exact Or.inr rfl))) ts_name rfl (fun _ _ _ _ _ => fts_nil) (fun _ _ _ _ _ => (fe_op op_addA (os_add rfl) (fv 5) (fv 2))))) fa_nil)))))
    (s_cons (s_ret (fe_fz (fn_lst (fa_star rfl (fv 3) (fa_star rfl (fe_op op_mulA (os_mulA rfl) (fe_fz (fn_lst (fa_cons fe_non fa_nil))) (fe_op op_sub os_sub (fv 1) (fe_callB call_lenA (cs_len rfl) rfl T.m_len b_len (fa_cons (fv 0) fa_nil)))) fa_nil)))))
    s_nil))
theorem ok_widened (T : Txt P K mg) (p : DP) (hpb : p.b = false) : FnC P w base ⟨K, mg, p.root⟩ (DW p) "widened" [] 3 g_widened 1 := by
  obtain ⟨f, fd, hm, F⟩ := T.d_widened
  exact ⟨f, fd, ["line", "letters", "shift"], [], [], hm, F.kp, F.bindsN fun _ _ _ _ _ _ us hl => match us, hl with | [_, _, _], _ => rfl, .nil, fun _ => rfl, fo_widened T p hpb F⟩
theorem mk_Program (T : Txt P K mg) (p : DP) (hpb : p.b = false) : MkC P w base ⟨K, mg, p.root⟩ (DW p) "Program" 2 g_Program 6 := by
  obtain ⟨Ca, f, hm, M, fd, F⟩ := T.i_Program
  exact ⟨Ca, f, fd, ["self", "letters", "rules"], hm, M, F.bindsN fun _ _ _ _ _ _ us hl => match us, hl with | [_, _, _], _ => rfl, fn_init F sc_Program_init rfl bears_Program fun cdv A outer s H E hr =>
    (s_cons (s_expr (fe_callC (ok_need_parts T p hpb) (hr.mono (by decide)) (by rfl) (passes_call (takes_of rfl rfl rfl rfl) (fun _ _ _ _ h => h)) (fa_cons (fv 1) (fa_cons (fv 2) fa_nil))))
    (s_cons (s_if (ft_cmp op_lt os_lt (fe_callB call_lenA (cs_len rfl) rfl T.m_len b_len (fa_cons (fe_callC (ok_live_in T p hpb) (hr.mono (by decide)) (by rfl) (passes_call (takes_of rfl rfl rfl rfl) (fun _ _ _ _ h => h)) (fa_cons (fv 2) fa_nil)) fa_nil)) (fe_callB call_lenA (cs_len rfl) rfl T.m_len b_len (fa_cons (fv 2) fa_nil)) (nomark _))
    (s_cons s_no
    s_nil)
    s_nil)
    (s_cons (s_fldI (T.f_Program_own_letters p.root) rfl (pv 0) (fv 1) (by rfl))
    (s_cons (s_fldI (T.f_Program_own_rules p.root) rfl (pv 0) (fe_callTy call_tuple_of (cs_tuple rfl) rfl T.m_tuple b_tuple (fa_cons (fe_fz (fn_lc (own := [("line", 3)]) rfl sc_Program_init.nd (fi_seq rfl (fv 2)) (blkOk_by (own := [("line", 3)]) (by kernel_rfl)) (fun _ _ _ _ _ => (pg_name (i := 3) sc_Program_init.nd rfl (by first | exact Or.inl rfl | exact Or.inr rfl))) ts_name rfl (fun _ _ _ _ _ => fts_nil) (fun _ _ _ _ _ => (fe_callTy call_tuple_of (cs_tuple rfl) rfl T.m_tuple b_tuple (fa_cons (fv 3) fa_nil))))) fa_nil)) (by rfl))
    s_nil))))⟩
theorem fo_joined (T : Txt P K mg) (p : DP) (hpb : p.b = false) {f : Addr} {fd : FuncData} (F : FunD K "joined" "joined" (defArgs s_joined) (defBody s_joined) (defScope s_joined) [] [] f fd) : FnOk P w K mg base (L2.CX P w) 8 f fd ["one", "other"] (spF ⟨K, mg, p.root⟩ (DW p) 2 g_joined) :=
  fn_def F sc_joined rfl (fun ds w r _ h => h) fun cdv A outer s H E hr =>
    (s_cons (s_expr (fe_callC (ok_need_program T p hpb) (hr.mono (by decide)) (by rfl) (passes_call (takes_of rfl rfl rfl rfl) (fun _ _ _ _ h => h)) (fa_cons (fv 0) (fa_cons fe_str fa_nil))))
    (s_cons (s_expr (fe_callC (ok_need_program T p hpb) (hr.mono (by decide)) (by rfl) (passes_call (takes_of rfl rfl rfl rfl) (fun _ _ _ _ h => h)) (fa_cons (fv 1) (fa_cons fe_str fa_nil))))
    (s_cons (s_asg (fe_tup (fa_cons (fe_callB call_lenA (cs_len rfl) rfl T.m_len b_len (fa_cons (fe_prop (pr_Program_rules T p) (hr.mono (by decide)) (fv 0) rfl) fa_nil)) (fa_cons (fe_callB (call_max2 rfl) cs_max2 rfl T.m_max b_max (fa_cons (fe_prop (pr_Program_letters T p) (hr.mono (by decide)) (fv 0) rfl) (fa_cons (fe_prop (pr_Program_letters T p) (hr.mono (by decide)) (fv 1) rfl) fa_nil))) fa_nil))) (pg_tup rfl (pgs_cons (pg_name (i := 2) sc_joined.nd rfl (by first | exact Or.inl rfl | exact Or.inr rfl)) (pgs_cons (pg_name (i := 3) sc_joined.nd rfl (by first | exact Or.inl rfl | exact Or.inr rfl)) pgs_nil))) (ts_tup (ts_cons ts_name (ts_cons ts_name ts_nil)) rfl))
    (s_cons (s_if (ft_cmp op_gt os_gt (fe_op op_addA (os_add rfl) (fv 2) (fe_callB call_lenA (cs_len rfl) rfl T.m_len b_len (fa_cons (fe_prop (pr_Program_rules T p) (hr.mono (by decide)) (fv 1) rfl) fa_nil))) (fe_gint rfl T.c_MOST_PROCEDURES) (nomark _))
    (s_cons (s_raiseN T.n_NoRoom rfl (takes_of rfl rfl rfl rfl) (by rfl))
    s_nil)
    s_nil)
    (s_cons (s_setLcD (i := 4) (own := [("line", 5)]) rfl sc_joined.nd rfl rfl (sw_true rfl rfl rfl (by kernel_rfl)) (fi_seq rfl (fe_prop (pr_Program_rules T p) (hr.mono (by decide)) (fv 0) rfl)) (blkOk_by (own := [("line", 5)]) (by kernel_rfl)) (fun _ _ _ _ _ => (pg_name (i := 5) sc_joined.nd rfl (by first | exact Or.inl rfl | exact Or.inr rfl))) ts_name rfl (fun _ _ _ _ _ => fts_nil) (fun _ _ _ _ _ => (fe_callC (ok_widened T p hpb) (hr.mono (by decide)) (by rfl) passL (fa_cons (fv 5) (fa_cons (fv 3) (fa_cons fe_int fa_nil))))))
    (s_cons (s_ret (fe_makeC (mk_Program T p hpb) (hr.mono (by decide)) (by rfl) (passes_call (takes_of rfl rfl rfl rfl) (fun _ _ _ _ h => h)) (fa_cons (fv 3) (fa_cons (fe_fz (fn_lst (fa_star rfl (fv 4) (fa_star rfl (fe_fz (fn_lc (own := [("line", 5)]) rfl sc_joined.nd (fi_seq rfl (fe_prop (pr_Program_rules T p) (hr.mono (by decide)) (fv 1) rfl)) (blkOk_by (own := [("line", 5)]) (by kernel_rfl)) (fun _ _ _ _ _ => (pg_name (i := 5) sc_joined.nd rfl (by first | exact Or.inl rfl | exact Or.inr rfl))) ts_name rfl (fun _ _ _ _ _ => fts_nil) (fun _ _ _ _ _ => (fe_callC (ok_widened T p hpb) (hr.mono (by decide)) (by rfl) passL (fa_cons (fv 5) (fa_cons (fv 3) (fa_cons (fv 2) fa_nil))))))) fa_nil)))) fa_nil))))
    s_nil))))))
theorem ok_joined (T : Txt P K mg) (p : DP) (hpb : p.b = false) : FnC P w base ⟨K, mg, p.root⟩ (DW p) "joined" [] 2 g_joined 8 := by
  obtain ⟨f, fd, hm, F⟩ := T.d_joined
  exact ⟨f, fd, ["one", "other"], [], [], hm, F.kp, F.bindsN fun _ _ _ _ _ _ us hl => match us, hl with | [_, _], _ => rfl, .nil, fun _ => rfl, fo_joined T p hpb F⟩
theorem okk_joined_other_one (T : Txt P K mg) (p : DP) (hpb : p.b = false) : FnK P w base ⟨K, mg, p.root⟩ (DW p) "joined" ["other", "one"] [1, 0] [] 2 g_joined 8 := by
  obtain ⟨f, fd, hm, F⟩ := T.d_joined
  have F2 := F
  obtain ⟨oc, od, dV, kV, doc, pm, an, cdv, ct, osl, rfl, lk, hcd, hD, hK⟩ := F.ex
  obtain rfl : dV = .none := by rcases hD with ⟨_, h⟩ | ⟨h, _⟩; exact h; exact absurd rfl h
  exact ⟨f, _, ["one", "other"], [], [], hm, F2.kp, ⟨fun s us ws _ h1 h2 => match us, ws, h1, h2 with | [], [_, _], _, _ => .of_eq rfl, fun _ r2 => (Vals.pm r2 _).append .nil⟩, fun _ => rfl, fo_joined T p hpb F2⟩
theorem fo_need_text (T : Txt P K mg) (p : DP) (hpb : p.b = false) {f : Addr} {fd : FuncData} (F : FunD K "need_text" "need_text" (defArgs s_need_text) (defBody s_need_text) (defScope s_need_text) [] [] f fd) : FnOk P w K mg base (L2.CX P w) 3 f fd ["program", "text"] (spF ⟨K, mg, p.root⟩ (DW p) 2 g_need_text) :=
  fn_def F sc_need_text rfl (fun ds w r _ h => h) fun cdv A outer s H E hr =>
    (s_cons (s_if (PW.pt (fw_or (ft_not (ft_val (fe_callB call_isi (cs_isi rfl) rfl T.m_isinstance b_isinstance (fa_cons (fv 1) (fa_cons (fe_ty (by rfl) T.m_tuple b_tuple) fa_nil))))) (fw_or1 (ft_cmp op_gt os_gt (fe_callB call_lenA (cs_len rfl) rfl T.m_len b_len (fa_cons (fv 1) fa_nil)) (fe_gint rfl T.c_MOST_TEXT) (nomark _)))))
    (s_cons s_no
    s_nil)
    s_nil)
    (s_cons (s_for (passes_of rfl) rfl (fi_enumA rfl (by rfl) T.m_enumerate (fa_cons (fv 1) fa_nil)) (pg_tup rfl (pgs_cons (pg_name (i := 2) sc_need_text.nd rfl (by first | exact Or.inl rfl | exact Or.inr rfl)) (pgs_cons (pg_name (i := 3) sc_need_text.nd rfl (by first | exact Or.inl rfl | exact Or.inr rfl)) pgs_nil))) (ts_tup (ts_cons ts_name (ts_cons ts_name ts_nil)) rfl)
    (s_cons (s_if (ft_not (ft_val (fe_callC (ok_is_between T p hpb) (hr.mono (by decide)) (by rfl) (passes_call (takes_of rfl rfl rfl rfl) (fun _ _ _ _ h => h)) (fa_cons (fv 3) (fa_cons fe_int (fa_cons (fe_op op_sub os_sub (fe_prop (pr_Program_letters T p) (hr.mono (by decide)) (fv 0) rfl) fe_int) fa_nil))))))
    (s_cons s_no
    s_nil)
    s_nil)
    s_nil))
    s_nil))
theorem ok_need_text (T : Txt P K mg) (p : DP) (hpb : p.b = false) : FnC P w base ⟨K, mg, p.root⟩ (DW p) "need_text" [] 2 g_need_text 3 := by
  obtain ⟨f, fd, hm, F⟩ := T.d_need_text
  exact ⟨f, fd, ["program", "text"], [], [], hm, F.kp, F.bindsN fun _ _ _ _ _ _ us hl => match us, hl with | [_, _], _ => rfl, .nil, fun _ => rfl, fo_need_text T p hpb F⟩
theorem fo_gone (T : Txt P K mg) (p : DP) (hpb : p.b = false) {f : Addr} {fd : FuncData} (F : FunD K "gone" "gone" (defArgs s_gone) (defBody s_gone) (defScope s_gone) [] [] f fd) : FnOk P w K mg base (L2.CX P w) 1 f fd ["rules", "row", "text"] (spF ⟨K, mg, p.root⟩ (DW p) 3 g_gone) :=
  fn_def F sc_gone rfl (fun ds w r _ h => h) fun cdv A outer s H E hr =>
    (s_cons (s_own (fn_list rfl rfl T.m_list b_list (fa_cons (fe_revA rfl (fv 1)) fa_nil)) sc_gone.nd (i := 3) rfl (by first | exact Or.inl rfl | exact Or.inr rfl))
    (s_cons (s_for (passes_of rfl) rfl (fi_enumA rfl (by rfl) T.m_enumerate (fa_cons (fv 2) fa_nil)) (pg_tup rfl (pgs_cons (pg_name (i := 4) sc_gone.nd rfl (by first | exact Or.inl rfl | exact Or.inr rfl)) (pgs_cons (pg_name (i := 5) sc_gone.nd rfl (by first | exact Or.inl rfl | exact Or.inr rfl)) pgs_nil))) (ts_tup (ts_cons ts_name (ts_cons ts_name ts_nil)) rfl)
    (s_cons (s_if (ft_bor (PW.pt (fw_or (ft_cmp (op_eqD hr.units) (os_eqD rfl) (fv 3) (fe_fz (fn_lst fa_nil)) (nomark _)) (fw_or1 (ft_cmp op_isN os_isN (fe_ix rfl (hu_of hr) (fe_ix rfl (hu_of hr) (fv 0) (fe_ix rfl (hu_of hr) (fv 3) (fe_neg fe_int) (fun _ _ => rfl)) (fun _ _ => rfl)) (fv 5) (fun _ _ => rfl)) fe_non (nomark _))))))
    (s_cons (s_ret (fe_tup (fa_cons fe_non (fa_cons (fv 4) fa_nil))))
    s_nil)
    s_nil)
    (s_cons (s_asg (fe_ix rfl (hu_of hr) (fe_ix rfl (hu_of hr) (fv 0) (fe_sm0 PySem.F.slot_list_pop PySem.F.type_list_pop mt_pop ms_pop (pv 3) rfl) (fun _ _ => rfl)) (fv 5) (fun _ _ => rfl)) (pg_name (i := 6) sc_gone.nd rfl (by first | exact Or.inl rfl | exact Or.inr rfl)) ts_name)
    (s_cons (s_expr (fe_sm PySem.F.slot_list_extend PySem.F.type_list_extend mt_extendA (ms_extA rfl) (pv 3) (fa_cons (fe_revA rfl (fv 6)) fa_nil) rfl))
    s_nil))))
    (s_cons (s_ret (fe_tup (fa_cons (fe_callTy call_tuple_of (cs_tuple rfl) rfl T.m_tuple b_tuple (fa_cons (fe_revA rfl (fv 3)) fa_nil)) (fa_cons (fe_callB call_lenA (cs_len rfl) rfl T.m_len b_len (fa_cons (fv 2) fa_nil)) fa_nil))))
    s_nil)))
theorem ok_gone (T : Txt P K mg) (p : DP) (hpb : p.b = false) : FnC P w base ⟨K, mg, p.root⟩ (DW p) "gone" [] 3 g_gone 1 := by
  obtain ⟨f, fd, hm, F⟩ := T.d_gone
  exact ⟨f, fd, ["rules", "row", "text"], [], [], hm, F.kp, F.bindsN fun _ _ _ _ _ _ us hl => match us, hl with | [_, _, _], _ => rfl, .nil, fun _ => rfl, fo_gone T p hpb F⟩
theorem fo_need_reading (T : Txt P K mg) (p : DP) (hpb : p.b = false) {f : Addr} {fd : FuncData} (F : FunD K "need_reading" "need_reading" (defArgs s_need_reading) (defBody s_need_reading) (defScope s_need_reading) [] [] f fd) : FnOk P w K mg base (L2.CX P w) 6 f fd ["program", "row", "text"] (spF ⟨K, mg, p.root⟩ (DW p) 3 g_need_reading) :=
  fn_def F sc_need_reading rfl (fun ds w r _ h => h) fun cdv A outer s H E hr =>
    (s_cons (s_expr (fe_callC (ok_need_program_d1 T p hpb) (hr.mono (by decide)) (by rfl) (passes_call (takes_of rfl rfl rfl rfl) (fun _ _ _ _ h => h)) (fa_cons (fv 0) fa_nil)))
    (s_cons (s_expr (fe_callC (ok_need_row_d1 T p hpb) (hr.mono (by decide)) (by rfl) (passes_call (takes_of rfl rfl rfl rfl) (fun _ _ _ _ h => h)) (fa_cons (fv 0) (fa_cons (fv 1) fa_nil))))
    (s_cons (s_expr (fe_callC (ok_need_text T p hpb) (hr.mono (by decide)) (by rfl) (passes_call (takes_of rfl rfl rfl rfl) (fun _ _ _ _ h => h)) (fa_cons (fv 0) (fa_cons (fv 2) fa_nil))))
    s_nil)))
theorem ok_need_reading (T : Txt P K mg) (p : DP) (hpb : p.b = false) : FnC P w base ⟨K, mg, p.root⟩ (DW p) "need_reading" [] 3 g_need_reading 6 := by
  obtain ⟨f, fd, hm, F⟩ := T.d_need_reading
  exact ⟨f, fd, ["program", "row", "text"], [], [], hm, F.kp, F.bindsN fun _ _ _ _ _ _ us hl => match us, hl with | [_, _, _], _ => rfl, .nil, fun _ => rfl, fo_need_reading T p hpb F⟩
theorem fo_reads (T : Txt P K mg) (p : DP) (hpb : p.b = false) {f : Addr} {fd : FuncData} (F : FunD K "reads" "reads" (defArgs s_reads) (defBody s_reads) (defScope s_reads) [] [] f fd) : FnOk P w K mg base (L2.CX P w) 7 f fd ["program", "row", "text"] (spF ⟨K, mg, p.root⟩ (DW p) 3 g_reads) :=
  fn_def F sc_reads rfl (fun ds w r _ h => h) fun cdv A outer s H E hr =>
    (s_cons (s_expr (fe_callC (ok_need_reading T p hpb) (hr.mono (by decide)) (by rfl) (passes_call (takes_of rfl rfl rfl rfl) (fun _ _ _ _ h => h)) (fa_cons (fv 0) (fa_cons (fv 1) (fa_cons (fv 2) fa_nil)))))
    (s_cons (s_ret (fe_cmp (op_eqD hr.units) (os_eqD rfl) (fe_ix rfl (hu_of hr) (fe_callC (ok_gone T p hpb) (hr.mono (by decide)) (by rfl) (passes_call (takes_of rfl rfl rfl rfl) (fun _ _ _ _ h => h)) (fa_cons (fe_prop (pr_Program_rules T p) (hr.mono (by decide)) (fv 0) rfl) (fa_cons (fv 1) (fa_cons (fv 2) fa_nil)))) fe_int (fun _ _ => rfl)) (fe_tup fa_nil) (nomark _)))
    s_nil))
theorem ok_reads (T : Txt P K mg) (p : DP) (hpb : p.b = false) : FnC P w base ⟨K, mg, p.root⟩ (DW p) "reads" [] 3 g_reads 7 := by
  obtain ⟨f, fd, hm, F⟩ := T.d_reads
  exact ⟨f, fd, ["program", "row", "text"], [], [], hm, F.kp, F.bindsN fun _ _ _ _ _ _ us hl => match us, hl with | [_, _, _], _ => rfl, .nil, fun _ => rfl, fo_reads T p hpb F⟩
theorem fo__law_blended (T : Txt P K mg) (p : DP) (hpb : p.b = false) {f : Addr} {fd : FuncData} (F : FunD K "_law_blended" "_law_blended" (defArgs s__law_blended) (defBody s__law_blended) (defScope s__law_blended) [] [] f fd) : FnOk P w K mg base (L2.CX P w) 1 f fd ["state"] (spF ⟨K, mg, p.root⟩ (DW p) 1 g__law_blended) :=
  fn_def F sc__law_blended rfl (fun ds w r _ h => h) fun cdv A outer s H E hr =>
    (s_cons (s_par (i := 1) (j := 2) rfl sc__law_blended.nd rfl rfl (by decide) rfl rfl (fa_cons (fe_op op_addA (os_add rfl) (fe_wint .turn (hu_of hr) (pv 0)) fe_int) (fa_cons fe_int fa_nil)) (by rfl))
    (s_cons (s_wset .turn (hu_of hr) (pv 0) (fv 1))
    (s_cons (s_for (passes_of rfl) rfl (fi_seq rfl (fe_fz (fn_lst (fa_cons fe_int (fa_cons fe_int (fa_cons fe_int fa_nil)))))) (pg_name (i := 3) sc__law_blended.nd rfl (by first | exact Or.inl rfl | exact Or.inr rfl)) ts_name
    (s_cons (s_asg (fe_op op_addA (os_add rfl) (fe_op op_mulA (os_mulA rfl) fe_int (fv 1)) (fe_op op_fdiv os_fdiv (fv 3) fe_int)) (pg_name (i := 4) sc__law_blended.nd rfl (by first | exact Or.inl rfl | exact Or.inr rfl)) ts_name)
    (s_cons (s_for (passes_of rfl) rfl (fi_wcells (hu_of hr) (pv 0)) (pg_name (i := 5) sc__law_blended.nd rfl (by first | exact Or.inl rfl | exact Or.inr rfl)) ts_name
    (s_cons (s_asg (fe_op op_mod os_mod (fe_callTy call_int1 cs_int rfl T.m_int b_int (fa_cons (fe_op op_addA (os_add rfl) (fe_op op_addA (os_add rfl) (fe_op op_mulA (os_mulA rfl) (fv 4) fe_int) (fv 5)) (fv 1)) fa_nil)) (fv 3)) (pg_name (i := 4) sc__law_blended.nd rfl (by first | exact Or.inl rfl | exact Or.inr rfl)) ts_name)
    s_nil))
    (s_cons (s_asg (fe_op op_addA (os_add rfl) (fe_op op_mulA (os_mulA rfl) (fv 2) fe_int) (fe_op op_mod os_mod (fe_callTy call_int1 cs_int rfl T.m_int b_int (fa_cons (fe_op op_pow os_pow (fv 4) fe_int) fa_nil)) (fv 3))) (pg_name (i := 2) sc__law_blended.nd rfl (by first | exact Or.inl rfl | exact Or.inr rfl)) ts_name)
    s_nil))))
    (s_cons (s_ret (fv 2))
    s_nil))))
theorem ok__law_blended (T : Txt P K mg) (p : DP) (hpb : p.b = false) : FnC P w base ⟨K, mg, p.root⟩ (DW p) "_law_blended" [] 1 g__law_blended 1 := by
  obtain ⟨f, fd, hm, F⟩ := T.d__law_blended
  exact ⟨f, fd, ["state"], [], [], hm, F.kp, F.bindsN fun _ _ _ _ _ _ us hl => match us, hl with | [_], _ => rfl, .nil, fun _ => rfl, fo__law_blended T p hpb F⟩
theorem fo__law_draw (T : Txt P K mg) (p : DP) (hpb : p.b = false) {f : Addr} {fd : FuncData} (F : FunD K "_law_draw" "_law_draw" (defArgs s__law_draw) (defBody s__law_draw) (defScope s__law_draw) [] [] f fd) : FnOk P w K mg base (L2.CX P w) 2 f fd ["state", "room"] (spF ⟨K, mg, p.root⟩ (DW p) 2 g__law_draw) :=
  fn_def F sc__law_draw rfl (fun ds w r _ h => h) fun cdv A outer s H E hr =>
    (s_cons (s_if (ft_cmp (op_eqD hr.units) (os_eqD rfl) (fe_wint .rest (hu_of hr) (pv 0)) fe_int (nomark _))
    (s_cons (s_wset .rest (hu_of hr) (pv 0) (fe_ifExp (ft_wne (gn_of hpb) (hu_of hr) hr.units (pv 0)) (fe_wpop (gn_of hpb) (hu_of hr) (pv 0)) (fe_callC (ok__law_blended T p hpb) (hr.mono (by decide)) (by rfl) (passes_call (takes_of rfl rfl rfl rfl) (fun _ _ _ _ h => h)) (fa_cons (fv 0) fa_nil))))
    s_nil)
    s_nil)
    (s_cons (s_asg (fe_op op_mod os_mod (fe_callTy call_int1 cs_int rfl T.m_int b_int (fa_cons (fe_wint .rest (hu_of hr) (pv 0)) fa_nil)) (fv 1)) (pg_name (i := 2) sc__law_draw.nd rfl (by first | exact Or.inl rfl | exact Or.inr rfl)) ts_name)
    (s_cons (s_wset .rest (hu_of hr) (pv 0) (fe_op op_fdiv os_fdiv (fe_wint .rest (hu_of hr) (pv 0)) (fv 1)))
    (s_cons (s_ret (fv 2))
    s_nil))))
theorem ok__law_draw (T : Txt P K mg) (p : DP) (hpb : p.b = false) : FnC P w base ⟨K, mg, p.root⟩ (DW p) "_law_draw" [] 2 g__law_draw 2 := by
  obtain ⟨f, fd, hm, F⟩ := T.d__law_draw
  exact ⟨f, fd, ["state", "room"], [], [], hm, F.kp, F.bindsN fun _ _ _ _ _ _ us hl => match us, hl with | [_, _], _ => rfl, .nil, fun _ => rfl, fo__law_draw T p hpb F⟩
theorem fo__law_pick (T : Txt P K mg) (p : DP) (hpb : p.b = false) {f : Addr} {fd : FuncData} (F : FunD K "_law_pick" "_law_pick" (defArgs s__law_pick) (defBody s__law_pick) (defScope s__law_pick) [] [] f fd) : FnOk P w K mg base (L2.CX P w) 3 f fd ["state", "some"] (spF ⟨K, mg, p.root⟩ (DW p) 2 g__law_pick) :=
  fn_def F sc__law_pick rfl (fun ds w r _ h => h) fun cdv A outer s H E hr =>
    (s_cons (s_ret (fe_ix rfl (hu_of hr) (fv 1) (fe_callC (ok__law_draw T p hpb) (hr.mono (by decide)) (by rfl) (passes_call (takes_of rfl rfl rfl rfl) (fun _ _ _ _ h => h)) (fa_cons (fv 0) (fa_cons (fe_callB call_lenA (cs_len rfl) rfl T.m_len b_len (fa_cons (fv 1) fa_nil)) fa_nil))) (fun _ _ => rfl)))
    s_nil)
theorem ok__law_pick (T : Txt P K mg) (p : DP) (hpb : p.b = false) : FnC P w base ⟨K, mg, p.root⟩ (DW p) "_law_pick" [] 2 g__law_pick 3 := by
  obtain ⟨f, fd, hm, F⟩ := T.d__law_pick
  exact ⟨f, fd, ["state", "some"], [], [], hm, F.kp, F.bindsN fun _ _ _ _ _ _ us hl => match us, hl with | [_, _], _ => rfl, .nil, fun _ => rfl, fo__law_pick T p hpb F⟩
theorem fo__law_is_truth (T : Txt P K mg) (p : DP) (hpb : p.b = false) {f : Addr} {fd : FuncData} (F : FunD K "_law_is_truth" "_law_is_truth" (defArgs s__law_is_truth) (defBody s__law_is_truth) (defScope s__law_is_truth) [] [] f fd) : FnOk P w K mg base (L2.CX P w) 1 f fd ["found", "due"] (spF ⟨K, mg, p.root⟩ (DW p) 2 g__law_is_truth) :=
  fn_def F sc__law_is_truth rfl (fun ds w r _ h => h) fun cdv A outer s H E hr =>
    (s_cons (s_ret (fe_ifExp (ft_val (fv 1)) (fe_cmp op_isBl os_isB (fv 0) fe_bl (nomark _)) (fe_cmp op_isBl os_isB (fv 0) fe_bl (nomark _))))
    s_nil)
theorem ok__law_is_truth (T : Txt P K mg) (p : DP) (hpb : p.b = false) : FnC P w base ⟨K, mg, p.root⟩ (DW p) "_law_is_truth" [] 2 g__law_is_truth 1 := by
  obtain ⟨f, fd, hm, F⟩ := T.d__law_is_truth
  exact ⟨f, fd, ["found", "due"], [], [], hm, F.kp, F.bindsN fun _ _ _ _ _ _ us hl => match us, hl with | [_, _], _ => rfl, .nil, fun _ => rfl, fo__law_is_truth T p hpb F⟩
theorem fo__law_same (T : Txt P K mg) (p : DP) (hpb : p.b = false) {f : Addr} {fd : FuncData} (F : FunD K "_law_same" "_law_same" (defArgs s__law_same) (defBody s__law_same) (defScope s__law_same) [] [] f fd) : FnOk P w K mg base (L2.CX P w) 2 f fd ["found", "due"] (spF ⟨K, mg, p.root⟩ (DW p) 2 g__law_same) :=
  fn_def F sc__law_same rfl (fun ds w r _ h => h) fun cdv A outer s H E hr =>
    (s_cons (s_own (fn_lst (fa_cons (fe_tup (fa_cons (fv 0) (fa_cons (fv 1) fa_nil))) fa_nil)) sc__law_same.nd (i := 2) rfl (by first | exact Or.inl rfl | exact Or.inr rfl))
    (s_cons (s_while _ (passes_of rfl) (ft_bor (ft_cmp (op_neD hr.units) (os_neD rfl) (fv 2) (fe_fz (fn_lst fa_nil)) (nomark _)))
    (s_cons (s_asg (fe_sm0 PySem.F.slot_list_pop PySem.F.type_list_pop mt_pop ms_pop (pv 2) rfl) (pg_tup rfl (pgs_cons (pg_name (i := 3) sc__law_same.nd rfl (by first | exact Or.inl rfl | exact Or.inr rfl)) (pgs_cons (pg_name (i := 4) sc__law_same.nd rfl (by first | exact Or.inl rfl | exact Or.inr rfl)) pgs_nil))) (ts_tup (ts_cons ts_name (ts_cons ts_name ts_nil)) rfl))
    (s_cons (s_if (PW.pt (fw_or (ft_cmp op_isN os_isN (fv 4) fe_non (nomark _)) (fw_or1 (ft_val (fe_callB call_isi (cs_isi rfl) rfl T.m_isinstance b_isinstance (fa_cons (fv 4) (fa_cons (fe_ty (by rfl) T.m_bool b_bool) fa_nil)))))))
    (s_cons (s_if (ft_ifExp (ft_cmp op_isN os_isN (fv 4) fe_non (nomark _)) (ft_cmp op_notN os_notN (fv 3) fe_non (nomark _)) (ft_not (ft_val (fe_callC (ok__law_is_truth T p hpb) (hr.mono (by decide)) (by rfl) (passes_call (takes_of rfl rfl rfl rfl) (fun _ _ _ _ h => h)) (fa_cons (fv 3) (fa_cons (fv 4) fa_nil))))))
    (s_cons (s_ret fe_bl)
    s_nil)
    s_nil)
    s_nil)
    (s_cons (s_if (ft_val (fe_callB call_isiT (cs_isiT rfl) rfl T.m_isinstance b_isinstance (fa_cons (fv 4) (fa_cons (fe_tup (fa_cons (fe_ty (by rfl) T.m_int b_int) (fa_cons (fe_ty (by rfl) T.m_str b_str) fa_nil))) fa_nil))))
    (s_cons (s_if (PW.pt (fw_or (ft_val (fe_callB call_isi (cs_isi rfl) rfl T.m_isinstance b_isinstance (fa_cons (fv 3) (fa_cons (fe_ty (by rfl) T.m_bool b_bool) fa_nil)))) (fw_or (ft_cmp (op_neD hr.units) (os_neD rfl) (fe_callB call_isi (cs_isi rfl) rfl T.m_isinstance b_isinstance (fa_cons (fv 3) (fa_cons (fe_ty (by rfl) T.m_int b_int) fa_nil))) (fe_callB call_isi (cs_isi rfl) rfl T.m_isinstance b_isinstance (fa_cons (fv 4) (fa_cons (fe_ty (by rfl) T.m_int b_int) fa_nil))) (nomark _)) (fw_or1 (ft_cmp (op_neD hr.units) (os_neD rfl) (fv 3) (fv 4) (nomark _))))))
    (s_cons (s_ret fe_bl)
    s_nil)
    s_nil)
    s_nil)
    (s_cons (s_if (ft_val (fe_callB call_isi (cs_isi rfl) rfl T.m_isinstance b_isinstance (fa_cons (fv 4) (fa_cons (fe_ty (by rfl) T.m_dict b_dict) fa_nil))))
    (s_cons (s_if (PW.pt (fw_or (ft_not (ft_val (fe_callB call_isi (cs_isi rfl) rfl T.m_isinstance b_isinstance (fa_cons (fv 3) (fa_cons (fe_ty (by rfl) T.m_dict b_dict) fa_nil))))) (fw_or1 (ft_cmp (op_neD hr.units) (os_neD rfl) (fe_fz (fn_list rfl rfl T.m_list b_list (fa_cons (fv 3) fa_nil))) (fe_fz (fn_list rfl rfl T.m_list b_list (fa_cons (fv 4) fa_nil))) (nomark _)))))
    (s_cons (s_ret fe_bl)
    s_nil)
    s_nil)
    (s_cons s_no
    (s_cons (s_expr (fe_sm PySem.F.slot_list_extend PySem.F.type_list_extend mt_extend ms_ext (pv 2) (fa_cons (fe_fz (fn_lc (own := [("key", 6)]) rfl sc__law_same.nd (fi_seq rfl (fv 4)) (blkOk_by (own := [("key", 6)]) (by kernel_rfl)) (fun _ _ _ _ _ => (pg_name (i := 6) sc__law_same.nd rfl (by first | exact Or.inl rfl | exact Or.inr rfl))) ts_name rfl (fun _ _ _ _ _ => fts_nil) (fun _ _ _ _ _ => (fe_tup (fa_cons (fe_ix rfl (hu_of hr) (fv 3) (fv 6) (fun _ _ => rfl)) (fa_cons (fe_ix rfl (hu_of hr) (fv 4) (fv 6) (fun _ _ => rfl)) fa_nil)))))) fa_nil) rfl))
    s_nil)))
    (s_cons (s_asg (fe_fz (fn_lst (fa_cons (fe_and (fe_callB call_isi (cs_isi rfl) rfl T.m_isinstance b_isinstance (fa_cons (fv 3) (fa_cons (fe_ty (by rfl) T.m_tuple b_tuple) fa_nil))) (fe_one (fe_callB call_isi (cs_isi rfl) rfl T.m_isinstance b_isinstance (fa_cons (fv 4) (fa_cons (fe_ty (by rfl) T.m_tuple b_tuple) fa_nil))))) (fa_cons (fe_and (fe_callB call_isi (cs_isi rfl) rfl T.m_isinstance b_isinstance (fa_cons (fv 3) (fa_cons (fe_ty (by rfl) T.m_list b_list) fa_nil))) (fe_one (fe_callB call_isi (cs_isi rfl) rfl T.m_isinstance b_isinstance (fa_cons (fv 4) (fa_cons (fe_ty (by rfl) T.m_list b_list) fa_nil))))) fa_nil)))) (pg_name (i := 5) sc__law_same.nd rfl (by first | exact Or.inl rfl | exact Or.inr rfl)) ts_name)
    (s_cons (s_if (PW.pt (fw_or (ft_cmp (op_ninA (hu_of hr)) (os_nin rfl) fe_bl (fv 5) rfl) (fw_or1 (ft_cmp (op_neD hr.units) (os_neD rfl) (fe_callB call_lenA (cs_len rfl) rfl T.m_len b_len (fa_cons (fv 3) fa_nil)) (fe_callB call_lenA (cs_len rfl) rfl T.m_len b_len (fa_cons (fv 4) fa_nil)) (nomark _)))))
    (s_cons (s_ret fe_bl)
    s_nil)
    s_nil)
    (s_cons (s_expr (fe_sm PySem.F.slot_list_extend PySem.F.type_list_extend mt_extend ms_ext (pv 2) (fa_cons (fe_fz (fn_lc (own := [("left", 7), ("right", 8)]) rfl sc__law_same.nd (fi_zipA rfl (by rfl) T.m_zip (fa_cons (fv 3) (fa_cons (fv 4) fa_nil))) (blkOk_by (own := [("left", 7), ("right", 8)]) (by kernel_rfl)) (fun _ _ _ _ _ => (pg_tup rfl (pgs_cons (pg_name (i := 7) sc__law_same.nd rfl (by first | exact Or.inl rfl | exact Or.inr rfl)) (pgs_cons (pg_name (i := 8) sc__law_same.nd rfl (by first | exact Or.inl rfl | exact Or.inr rfl)) pgs_nil)))) (ts_tup (ts_cons ts_name (ts_cons ts_name ts_nil)) rfl) rfl (fun _ _ _ _ _ => fts_nil) (fun _ _ _ _ _ => (fe_tup (fa_cons (fv 7) (fa_cons (fv 8) fa_nil)))))) fa_nil) rfl))
    s_nil))))
    s_nil))
    s_nil))
    s_nil)))
    (s_cons (s_ret fe_bl)
    s_nil)))
theorem ok__law_same (T : Txt P K mg) (p : DP) (hpb : p.b = false) : FnC P w base ⟨K, mg, p.root⟩ (DW p) "_law_same" [] 2 g__law_same 2 := by
  obtain ⟨f, fd, hm, F⟩ := T.d__law_same
  exact ⟨f, fd, ["found", "due"], [], [], hm, F.kp, F.bindsN fun _ _ _ _ _ _ us hl => match us, hl with | [_, _], _ => rfl, .nil, fun _ => rfl, fo__law_same T p hpb F⟩
theorem okn__law_sk_live (T : Txt P K mg) (p : DP) (hpb : p.b = false) : FnN P w base ⟨K, mg, p.root⟩ (DW p) "_law_sk_live" [] 1 gn__law_sk_live 1 := by
  obtain ⟨f, fd, hm, F⟩ := T.d__law_sk_live
  exact ⟨f, fd, ["rules"], [], [], hm, F.kp, F.bindsN fun _ _ _ _ _ _ us hl => match us, hl with | [_], _ => rfl, .nil, fun _ => rfl, fn_defN F sc__law_sk_live rfl fun cdv A outer s H E hr =>
    (s_cons (s_own (fn_lst fa_nil) sc__law_sk_live.nd (i := 1) rfl (by first | exact Or.inl rfl | exact Or.inr rfl))
    (s_cons (s_for (passes_of rfl) rfl (fi_seq rfl (fv 0)) (pg_name (i := 2) sc__law_sk_live.nd rfl (by first | exact Or.inl rfl | exact Or.inr rfl)) ts_name
    (s_cons (s_own (fn_borN (fn_lc (own := [("at", 3), ("line", 4)]) rfl sc__law_sk_live.nd (fi_enumA rfl (by rfl) T.m_enumerate (fa_cons (fv 0) fa_nil)) (blkOk_by (own := [("at", 3), ("line", 4)]) (by kernel_rfl)) (fun _ _ _ _ _ => (pg_tup rfl (pgs_cons (pg_name (i := 3) sc__law_sk_live.nd rfl (by first | exact Or.inl rfl | exact Or.inr rfl)) (pgs_cons (pg_name (i := 4) sc__law_sk_live.nd rfl (by first | exact Or.inl rfl | exact Or.inr rfl)) pgs_nil)))) (ts_tup (ts_cons ts_name (ts_cons ts_name ts_nil)) rfl) rfl (fun _ _ _ _ _ => (fts_one (ft_cmp (op_neD hr.units) (os_neD rfl) (fe_fz (fn_lc (own := [("rule", 5)]) rfl sc__law_sk_live.nd (fi_seq rfl (fv 4)) (blkOk_by (own := [("rule", 5)]) (by kernel_rfl)) (fun _ _ _ _ _ => (pg_name (i := 5) sc__law_sk_live.nd rfl (by first | exact Or.inl rfl | exact Or.inr rfl))) ts_name rfl (fun _ _ _ _ _ => (fts_one (PW.pt (fw_and (ft_cmp op_notN os_notN (fv 5) fe_non (nomark _)) (fw_and1 (ft_cmp (op_eqD hr.units) (os_eqD rfl) (fe_fz (fn_lc (own := [("item", 6)]) rfl sc__law_sk_live.nd (fi_seq rfl (fv 5)) (blkOk_by (own := [("item", 6)]) (by kernel_rfl)) (fun _ _ _ _ _ => (pg_name (i := 6) sc__law_sk_live.nd rfl (by first | exact Or.inl rfl | exact Or.inr rfl))) ts_name rfl (fun _ _ _ _ _ => (fts_one (ft_cmp (op_ninA (hu_of hr)) (os_nin rfl) (fv 6) (fv 1) rfl))) (fun _ _ _ _ _ => fe_int))) (fe_fz (fn_lst fa_nil)) (nomark _))))))) (fun _ _ _ _ _ => fe_int))) (fe_fz (fn_lst fa_nil)) (nomark _)))) (fun _ _ _ _ _ => (fv 3)))) sc__law_sk_live.nd (i := 1) rfl (by first | exact Or.inl rfl | exact Or.inr rfl))
    s_nil))
    (s_cons (s_retO (pv 1))
    s_nil)))⟩
theorem fo__law_sk_rules (T : Txt P K mg) (p : DP) (hpb : p.b = false) {f : Addr} {fd : FuncData} (F : FunD K "_law_sk_rules" "_law_sk_rules" (defArgs s__law_sk_rules) (defBody s__law_sk_rules) (defScope s__law_sk_rules) [] [] f fd) : FnOk P w K mg base (L2.CX P w) 4 f fd ["draws", "procedures", "letters"] (spF ⟨K, mg, p.root⟩ (DW p) 3 g__law_sk_rules) :=
  fn_def F sc__law_sk_rules rfl (fun ds w r _ h => h) fun cdv A outer s H E hr =>
    (s_cons (s_asg (fe_tup (fa_cons (fe_op op_addA (os_add rfl) fe_int (fe_callC (ok__law_draw T p hpb) (hr.mono (by decide)) (by rfl) (passes_call (takes_of rfl rfl rfl rfl) (fun _ _ _ _ h => h)) (fa_cons (fv 0) (fa_cons (fv 1) fa_nil)))) (fa_cons (fe_op op_addA (os_add rfl) fe_int (fe_callC (ok__law_draw T p hpb) (hr.mono (by decide)) (by rfl) (passes_call (takes_of rfl rfl rfl rfl) (fun _ _ _ _ h => h)) (fa_cons (fv 0) (fa_cons (fv 2) fa_nil)))) (fa_cons (fe_callC (ok__law_pick T p hpb) (hr.mono (by decide)) (by rfl) (passes_call (takes_of rfl rfl rfl rfl) (fun _ _ _ _ h => h)) (fa_cons (fv 0) (fa_cons (fe_fz (fn_lst (fa_cons fe_int (fa_cons fe_int (fa_cons fe_int (fa_cons fe_int fa_nil)))))) fa_nil))) fa_nil)))) (pg_tup rfl (pgs_cons (pg_name (i := 3) sc__law_sk_rules.nd rfl (by first | exact Or.inl rfl | exact Or.inr rfl)) (pgs_cons (pg_name (i := 4) sc__law_sk_rules.nd rfl (by first | exact Or.inl rfl | exact Or.inr rfl)) (pgs_cons (pg_name (i := 5) sc__law_sk_rules.nd rfl (by first | exact Or.inl rfl | exact Or.inr rfl)) pgs_nil)))) (ts_tup (ts_cons ts_name (ts_cons ts_name (ts_cons ts_name ts_nil))) rfl))
    (s_cons (s_own (fn_lst fa_nil) sc__law_sk_rules.nd (i := 6) rfl (by first | exact Or.inl rfl | exact Or.inr rfl))
    (s_cons (s_for (passes_of rfl) rfl (fi_range1 (by rfl) T.m_range (fa_cons (fv 3) fa_nil)) (pg_name (i := 7) sc__law_sk_rules.nd rfl (by first | exact Or.inl rfl | exact Or.inr rfl)) ts_name
    (s_cons (s_own (fn_lst fa_nil) sc__law_sk_rules.nd (i := 8) rfl (by first | exact Or.inl rfl | exact Or.inr rfl))
    (s_cons (s_for (passes_of rfl) rfl (fi_range1 (by rfl) T.m_range (fa_cons (fv 4) fa_nil)) (pg_name (i := 9) sc__law_sk_rules.nd rfl (by first | exact Or.inl rfl | exact Or.inr rfl)) ts_name
    (s_cons (s_asg (fe_callC (ok__law_draw T p hpb) (hr.mono (by decide)) (by rfl) (passes_call (takes_of rfl rfl rfl rfl) (fun _ _ _ _ h => h)) (fa_cons (fv 0) (fa_cons fe_int fa_nil))) (pg_name (i := 10) sc__law_sk_rules.nd rfl (by first | exact Or.inl rfl | exact Or.inr rfl)) ts_name)
    (s_cons (s_asg (fe_callTy call_tuple_of (cs_tuple rfl) rfl T.m_tuple b_tuple (fa_cons (fe_fz (fn_lc (own := [("lap", 14)]) rfl sc__law_sk_rules.nd (fi_range1 (by rfl) T.m_range (fa_cons (fe_callC (ok__law_draw T p hpb) (hr.mono (by decide)) (by rfl) (passes_call (takes_of rfl rfl rfl rfl) (fun _ _ _ _ h => h)) (fa_cons (fv 0) (fa_cons (fv 5) fa_nil))) fa_nil)) (blkOk_by (own := [("lap", 14)]) (by kernel_rfl)) (fun _ _ _ _ _ => (pg_name (i := 14) sc__law_sk_rules.nd rfl (by first | exact Or.inl rfl | exact Or.inr rfl))) ts_name rfl (fun _ _ _ _ _ => fts_nil) (fun _ _ _ _ _ => (fe_callC (ok__law_draw T p hpb) (hr.mono (by decide)) (by rfl) passL (fa_cons (fv 0) (fa_cons (fv 3) fa_nil)))))) fa_nil)) (pg_name (i := 11) sc__law_sk_rules.nd rfl (by first | exact Or.inl rfl | exact Or.inr rfl)) ts_name)
    (s_cons (s_expr (fe_sm PySem.F.slot_list_append PySem.F.type_list_append mt_append ms_app (pv 8) (fa_cons (fe_ifExp (ft_cmp (op_eqD hr.units) (os_eqD rfl) (fv 10) fe_int (nomark _)) fe_non (fe_ifExp (ft_cmp (op_eqD hr.units) (os_eqD rfl) (fv 10) fe_int (nomark _)) (fe_tup fa_nil) (fv 11))) fa_nil) rfl))
    s_nil))))
    (s_cons (s_mov (pv 6) (pv 8))
    s_nil))))
    (s_cons (s_asg (fe_fz (fn_borN (fn_callN (okn__law_sk_live T p hpb) (hr.mono (by decide)) (by rfl) (passes_call (takes_of rfl rfl rfl rfl) (fun _ _ _ _ h => h)) (fa_cons (fv 6) fa_nil)))) (pg_name (i := 12) sc__law_sk_rules.nd rfl (by first | exact Or.inl rfl | exact Or.inr rfl)) ts_name)
    (s_cons (s_for (passes_of rfl) rfl (fi_range1 (by rfl) T.m_range (fa_cons (fv 3) fa_nil)) (pg_name (i := 7) sc__law_sk_rules.nd rfl (by first | exact Or.inl rfl | exact Or.inr rfl)) ts_name
    (s_cons (s_if (ft_cmp (op_ninA (hu_of hr)) (os_nin rfl) (fv 7) (fv 12) rfl)
    (s_cons (s_asg (fe_callC (ok__law_draw T p hpb) (hr.mono (by decide)) (by rfl) (passes_call (takes_of rfl rfl rfl rfl) (fun _ _ _ _ h => h)) (fa_cons (fv 0) (fa_cons (fv 4) fa_nil))) (pg_name (i := 13) sc__law_sk_rules.nd rfl (by first | exact Or.inl rfl | exact Or.inr rfl)) ts_name)
    (s_cons (s_setM (pv 6) (pv 7) (pv 13) (fe_tup fa_nil) (fun _ _ => rfl))
    s_nil))
    s_nil)
    s_nil))
    (s_cons (s_ret (fe_callTy call_tuple_of (cs_tuple rfl) rfl T.m_tuple b_tuple (fa_cons (fe_fz (fn_lc (own := [("line", 8)]) rfl sc__law_sk_rules.nd (fi_seq rfl (fv 6)) (blkOk_by (own := [("line", 8)]) (by kernel_rfl)) (fun _ _ _ _ _ => (pg_name (i := 8) sc__law_sk_rules.nd rfl (by first | exact Or.inl rfl | exact Or.inr rfl))) ts_name rfl (fun _ _ _ _ _ => fts_nil) (fun _ _ _ _ _ => (fe_callTy call_tuple_of (cs_tuple rfl) rfl T.m_tuple b_tuple (fa_cons (fv 8) fa_nil))))) fa_nil)))
    s_nil))))))
theorem ok__law_sk_rules (T : Txt P K mg) (p : DP) (hpb : p.b = false) : FnC P w base ⟨K, mg, p.root⟩ (DW p) "_law_sk_rules" [] 3 g__law_sk_rules 4 := by
  obtain ⟨f, fd, hm, F⟩ := T.d__law_sk_rules
  exact ⟨f, fd, ["draws", "procedures", "letters"], [], [], hm, F.kp, F.bindsN fun _ _ _ _ _ _ us hl => match us, hl with | [_, _, _], _ => rfl, .nil, fun _ => rfl, fo__law_sk_rules T p hpb F⟩
theorem fo__law_sk_row (T : Txt P K mg) (p : DP) (hpb : p.b = false) {f : Addr} {fd : FuncData} (F : FunD K "_law_sk_row" "_law_sk_row" (defArgs s__law_sk_row) (defBody s__law_sk_row) (defScope s__law_sk_row) [] [] f fd) : FnOk P w K mg base (L2.CX P w) 3 f fd ["draws", "rules", "most"] (spF ⟨K, mg, p.root⟩ (DW p) 3 g__law_sk_row) :=
  fn_def F sc__law_sk_row rfl (fun ds w r _ h => h) fun cdv A outer s H E hr =>
    (s_cons (s_ret (fe_callTy call_tuple_of (cs_tuple rfl) rfl T.m_tuple b_tuple (fa_cons (fe_fz (fn_lc (own := [("lap", 3)]) rfl sc__law_sk_row.nd (fi_range1 (by rfl) T.m_range (fa_cons (fe_callC (ok__law_draw T p hpb) (hr.mono (by decide)) (by rfl) (passes_call (takes_of rfl rfl rfl rfl) (fun _ _ _ _ h => h)) (fa_cons (fv 0) (fa_cons (fe_op op_addA (os_add rfl) (fv 2) fe_int) fa_nil))) fa_nil)) (blkOk_by (own := [("lap", 3)]) (by kernel_rfl)) (fun _ _ _ _ _ => (pg_name (i := 3) sc__law_sk_row.nd rfl (by first | exact Or.inl rfl | exact Or.inr rfl))) ts_name rfl (fun _ _ _ _ _ => fts_nil) (fun _ _ _ _ _ => (fe_callC (ok__law_draw T p hpb) (hr.mono (by decide)) (by rfl) passL (fa_cons (fv 0) (fa_cons (fe_callB call_lenA (cs_len rfl) rfl T.m_len b_len (fa_cons (fv 1) fa_nil)) fa_nil)))))) fa_nil)))
    s_nil)
theorem ok__law_sk_row (T : Txt P K mg) (p : DP) (hpb : p.b = false) : FnC P w base ⟨K, mg, p.root⟩ (DW p) "_law_sk_row" [] 3 g__law_sk_row 3 := by
  obtain ⟨f, fd, hm, F⟩ := T.d__law_sk_row
  exact ⟨f, fd, ["draws", "rules", "most"], [], [], hm, F.kp, F.bindsN fun _ _ _ _ _ _ us hl => match us, hl with | [_, _, _], _ => rfl, .nil, fun _ => rfl, fo__law_sk_row T p hpb F⟩
theorem fo__law_sk_gone (T : Txt P K mg) (p : DP) (hpb : p.b = false) {f : Addr} {fd : FuncData} (F : FunD K "_law_sk_gone" "_law_sk_gone" (defArgs s__law_sk_gone) (defBody s__law_sk_gone) (defScope s__law_sk_gone) [] [] f fd) : FnOk P w K mg base (L2.CX P w) 1 f fd ["rules", "row", "text"] (spF ⟨K, mg, p.root⟩ (DW p) 3 g__law_sk_gone) :=
  fn_def F sc__law_sk_gone rfl (fun ds w r _ h => h) fun cdv A outer s H E hr =>
    (s_cons (s_asg (fe_fz (fn_list rfl rfl T.m_list b_list (fa_cons (fv 1) fa_nil))) (pg_name (i := 3) sc__law_sk_gone.nd rfl (by first | exact Or.inl rfl | exact Or.inr rfl)) ts_name)
    (s_cons (s_for (passes_of rfl) rfl (fi_enumA rfl (by rfl) T.m_enumerate (fa_cons (fv 2) fa_nil)) (pg_tup rfl (pgs_cons (pg_name (i := 4) sc__law_sk_gone.nd rfl (by first | exact Or.inl rfl | exact Or.inr rfl)) (pgs_cons (pg_name (i := 5) sc__law_sk_gone.nd rfl (by first | exact Or.inl rfl | exact Or.inr rfl)) pgs_nil))) (ts_tup (ts_cons ts_name (ts_cons ts_name ts_nil)) rfl)
    (s_cons (s_asg (fe_ifExp (ft_cmp (op_neD hr.units) (os_neD rfl) (fv 3) (fe_fz (fn_lst fa_nil)) (nomark _)) (fe_ix rfl (hu_of hr) (fe_ix rfl (hu_of hr) (fv 0) (fe_ix rfl (hu_of hr) (fv 3) fe_int (fun _ _ => rfl)) (fun _ _ => rfl)) (fv 5) (fun _ _ => rfl)) fe_non) (pg_name (i := 6) sc__law_sk_gone.nd rfl (by first | exact Or.inl rfl | exact Or.inr rfl)) ts_name)
    (s_cons (s_if (ft_cmp op_isN os_isN (fv 6) fe_non (nomark _))
    (s_cons (s_ret (fe_tup (fa_cons fe_non (fa_cons (fv 4) fa_nil))))
    s_nil)
    s_nil)
    (s_cons (s_asg (fe_op op_addA (os_add rfl) (fe_fz (fn_list rfl rfl T.m_list b_list (fa_cons (fv 6) fa_nil))) (fe_fz (fn_slL (fv 3) (fo_some fe_int) fo_none))) (pg_name (i := 3) sc__law_sk_gone.nd rfl (by first | exact Or.inl rfl | exact Or.inr rfl)) ts_name)
    s_nil))))
    (s_cons (s_ret (fe_tup (fa_cons (fe_callTy call_tuple_of (cs_tuple rfl) rfl T.m_tuple b_tuple (fa_cons (fv 3) fa_nil)) (fa_cons (fe_callB call_lenA (cs_len rfl) rfl T.m_len b_len (fa_cons (fv 2) fa_nil)) fa_nil))))
    s_nil)))
theorem ok__law_sk_gone (T : Txt P K mg) (p : DP) (hpb : p.b = false) : FnC P w base ⟨K, mg, p.root⟩ (DW p) "_law_sk_gone" [] 3 g__law_sk_gone 1 := by
  obtain ⟨f, fd, hm, F⟩ := T.d__law_sk_gone
  exact ⟨f, fd, ["rules", "row", "text"], [], [], hm, F.kp, F.bindsN fun _ _ _ _ _ _ us hl => match us, hl with | [_, _, _], _ => rfl, .nil, fun _ => rfl, fo__law_sk_gone T p hpb F⟩
theorem fo__law_sk_text (T : Txt P K mg) (p : DP) (hpb : p.b = false) {f : Addr} {fd : FuncData} (F : FunD K "_law_sk_text" "_law_sk_text" (defArgs s__law_sk_text) (defBody s__law_sk_text) (defScope s__law_sk_text) [] [] f fd) : FnOk P w K mg base (L2.CX P w) 4 f fd ["draws", "rules", "row", "most"] (spF ⟨K, mg, p.root⟩ (DW p) 4 g__law_sk_text) :=
  fn_def F sc__law_sk_text rfl (fun ds w r _ h => h) fun cdv A outer s H E hr =>
    (s_cons (s_parP3 (i := 4) (j := 5) (l := 6) rfl sc__law_sk_text.nd rfl rfl rfl (by decide) (by decide) (by decide) rfl rfl rfl (fz_consD (fe_callC (ok__law_draw T p hpb) (hr.mono (by decide)) (by rfl) (passes_call (takes_of rfl rfl rfl rfl) (fun _ _ _ _ h => h)) (fa_cons (fv 0) (fa_cons fe_int fa_nil))) (fz_consL (fn_lst fa_nil) (fz_consD (fe_callTy call_tuple_of (cs_tuple rfl) rfl T.m_tuple b_tuple (fa_cons (fv 2) fa_nil)) fz_nil))) (by rfl))
    (s_cons (s_for (passes_of rfl) rfl (fi_range1 (by rfl) T.m_range (fa_cons (fe_callC (ok__law_draw T p hpb) (hr.mono (by decide)) (by rfl) (passes_call (takes_of rfl rfl rfl rfl) (fun _ _ _ _ h => h)) (fa_cons (fv 0) (fa_cons (fe_op op_addA (os_add rfl) (fv 3) fe_int) fa_nil))) fa_nil)) (pg_name (i := 7) sc__law_sk_text.nd rfl (by first | exact Or.inl rfl | exact Or.inr rfl)) ts_name
    (s_cons (s_asg (fe_ifExp (ft_cmp (op_neD hr.units) (os_neD rfl) (fv 6) (fe_tup fa_nil) (nomark _)) (fe_fz (fn_lc (own := [("letter", 9), ("rule", 10)]) rfl sc__law_sk_text.nd (fi_enumA rfl (by rfl) T.m_enumerate (fa_cons (fe_ix rfl (hu_of hr) (fv 1) (fe_ix rfl (hu_of hr) (fv 6) fe_int (fun _ _ => rfl)) (fun _ _ => rfl)) fa_nil)) (blkOk_by (own := [("letter", 9), ("rule", 10)]) (by kernel_rfl)) (fun _ _ _ _ _ => (pg_tup rfl (pgs_cons (pg_name (i := 9) sc__law_sk_text.nd rfl (by first | exact Or.inl rfl | exact Or.inr rfl)) (pgs_cons (pg_name (i := 10) sc__law_sk_text.nd rfl (by first | exact Or.inl rfl | exact Or.inr rfl)) pgs_nil)))) (ts_tup (ts_cons ts_name (ts_cons ts_name ts_nil)) rfl) rfl (fun _ _ _ _ _ => (fts_one (ft_cmp op_notN os_notN (fv 10) fe_non (nomark _)))) (fun _ _ _ _ _ => (fv 9)))) (fe_fz (fn_lst fa_nil))) (pg_name (i := 8) sc__law_sk_text.nd rfl (by first | exact Or.inl rfl | exact Or.inr rfl)) ts_name)
    (s_cons (s_if (PW.pt (fw_or (ft_cmp (op_eqD hr.units) (os_eqD rfl) (fv 4) fe_int (nomark _)) (fw_or1 (ft_cmp (op_eqD hr.units) (os_eqD rfl) (fv 8) (fe_fz (fn_lst fa_nil)) (nomark _)))))
    (s_cons (s_expr (fe_sm PySem.F.slot_list_append PySem.F.type_list_append mt_append ms_app (pv 5) (fa_cons (fe_callC (ok__law_draw T p hpb) (hr.mono (by decide)) (by rfl) (passes_call (takes_of rfl rfl rfl rfl) (fun _ _ _ _ h => h)) (fa_cons (fv 0) (fa_cons (fe_callB call_lenA (cs_len rfl) rfl T.m_len b_len (fa_cons (fe_ix rfl (hu_of hr) (fv 1) fe_int (fun _ _ => rfl)) fa_nil)) fa_nil))) fa_nil) rfl))
    (s_cons (s_asg (fe_tup fa_nil) (pg_name (i := 6) sc__law_sk_text.nd rfl (by first | exact Or.inl rfl | exact Or.inr rfl)) ts_name)
    s_nil))
    (s_cons (s_asg (fe_callC (ok__law_pick T p hpb) (hr.mono (by decide)) (by rfl) (passes_call (takes_of rfl rfl rfl rfl) (fun _ _ _ _ h => h)) (fa_cons (fv 0) (fa_cons (fv 8) fa_nil))) (pg_name (i := 9) sc__law_sk_text.nd rfl (by first | exact Or.inl rfl | exact Or.inr rfl)) ts_name)
    (s_cons (s_expr (fe_sm PySem.F.slot_list_append PySem.F.type_list_append mt_append ms_app (pv 5) (fa_cons (fv 9) fa_nil) rfl))
    (s_cons (s_asg (fe_op op_addA (os_add rfl) (fe_ix rfl (hu_of hr) (fe_ix rfl (hu_of hr) (fv 1) (fe_ix rfl (hu_of hr) (fv 6) fe_int (fun _ _ => rfl)) (fun _ _ => rfl)) (fv 9) (fun _ _ => rfl)) (fe_slT (fv 6) (fo_some fe_int) fo_none)) (pg_name (i := 6) sc__law_sk_text.nd rfl (by first | exact Or.inl rfl | exact Or.inr rfl)) ts_name)
    s_nil))))
    s_nil)))
    (s_cons (s_if (ft_bor (PW.pt (fw_and (ft_cmp (op_eqD hr.units) (os_eqD rfl) (fv 4) fe_int (nomark _)) (fw_and1 (ft_cmp (op_neD hr.units) (os_neD rfl) (fv 5) (fe_fz (fn_lst fa_nil)) (nomark _))))))
    (s_cons (s_setL (i := 5) (pv 5) (fe_bor (fe_callC (ok__law_draw T p hpb) (hr.mono (by decide)) (by rfl) (passes_call (takes_of rfl rfl rfl rfl) (fun _ _ _ _ h => h)) (fa_cons (fv 0) (fa_cons (fe_callB call_lenA (cs_len rfl) rfl T.m_len b_len (fa_cons (fv 5) fa_nil)) fa_nil)))) (fe_callC (ok__law_draw T p hpb) (hr.mono (by decide)) (by rfl) (passes_call (takes_of rfl rfl rfl rfl) (fun _ _ _ _ h => h)) (fa_cons (fv 0) (fa_cons (fe_callB call_lenA (cs_len rfl) rfl T.m_len b_len (fa_cons (fe_ix rfl (hu_of hr) (fv 1) fe_int (fun _ _ => rfl)) fa_nil)) fa_nil))))
    s_nil)
    s_nil)
    (s_cons (s_ret (fe_callTy call_tuple_of (cs_tuple rfl) rfl T.m_tuple b_tuple (fa_cons (fv 5) fa_nil)))
    s_nil))))
theorem ok__law_sk_text (T : Txt P K mg) (p : DP) (hpb : p.b = false) : FnC P w base ⟨K, mg, p.root⟩ (DW p) "_law_sk_text" [] 4 g__law_sk_text 4 := by
  obtain ⟨f, fd, hm, F⟩ := T.d__law_sk_text
  exact ⟨f, fd, ["draws", "rules", "row", "most"], [], [], hm, F.kp, F.bindsN fun _ _ _ _ _ _ us hl => match us, hl with | [_, _, _, _], _ => rfl, .nil, fun _ => rfl, fo__law_sk_text T p hpb F⟩
theorem fo__law_sk_no_program (T : Txt P K mg) (p : DP) (hpb : p.b = false) {f : Addr} {fd : FuncData} (F : FunD K "_law_sk_no_program" "_law_sk_no_program" (defArgs s__law_sk_no_program) (defBody s__law_sk_no_program) (defScope s__law_sk_no_program) [] [] f fd) : FnOk P w K mg base (L2.CX P w) 4 f fd ["draws"] (spF ⟨K, mg, p.root⟩ (DW p) 1 g__law_sk_no_program) :=
  fn_def F sc__law_sk_no_program rfl (fun ds w r _ h => h) fun cdv A outer s H E hr =>
    (s_cons (s_ret (fe_callC (ok__law_pick T p hpb) (hr.mono (by decide)) (by rfl) (passes_call (takes_of rfl rfl rfl rfl) (fun _ _ _ _ h => h)) (fa_cons (fv 0) (fa_cons (fe_fz (fn_lst (fa_cons fe_non (fa_cons fe_int (fa_cons fe_str (fa_cons (fe_tup (fa_cons fe_int (fa_cons (fe_tup fa_nil) fa_nil))) (fa_cons (fe_fz (fn_lst (fa_cons (fe_fz (fn_lst (fa_cons (fe_tup fa_nil) fa_nil))) fa_nil))) fa_nil))))))) fa_nil))))
    s_nil)
theorem ok__law_sk_no_program (T : Txt P K mg) (p : DP) (hpb : p.b = false) : FnC P w base ⟨K, mg, p.root⟩ (DW p) "_law_sk_no_program" [] 1 g__law_sk_no_program 4 := by
  obtain ⟨f, fd, hm, F⟩ := T.d__law_sk_no_program
  exact ⟨f, fd, ["draws"], [], [], hm, F.kp, F.bindsN fun _ _ _ _ _ _ us hl => match us, hl with | [_], _ => rfl, .nil, fun _ => rfl, fo__law_sk_no_program T p hpb F⟩
theorem fo__law_came (T : Txt P K mg) (p : DP) (hpb : p.b = false) {f : Addr} {fd : FuncData} (F : FunD K "_law_came" "_law_came" (defArgs s__law_came) (defBody s__law_came) (defScope s__law_came) [] [] f fd) : FnOk P w K mg base (L2.CX P w) 1 f fd ["caught", "word"] (spF ⟨K, mg, p.root⟩ (DW p) 2 g__law_came) :=
  fn_def F sc__law_came rfl (fun ds w r _ h => h) fun cdv A outer s H E hr =>
    (s_cons (s_asg (fe_fz (fn_lst (fa_cons (fe_callB (FL.CallR.or call_isi call_isE) (cs_isiE T.e_NoProgram rfl) rfl T.m_isinstance b_isinstance (fa_cons (fv 0) (fa_cons (fe_glE (by rfl) T.g_NoProgram rfl) fa_nil))) (fa_cons (fe_callB (FL.CallR.or call_isi call_isE) (cs_isiE T.e_NoRoom rfl) rfl T.m_isinstance b_isinstance (fa_cons (fv 0) (fa_cons (fe_glE (by rfl) T.g_NoRoom rfl) fa_nil))) fa_nil)))) (pg_name (i := 2) sc__law_came.nd rfl (by first | exact Or.inl rfl | exact Or.inr rfl)) ts_name)
    (s_cons (s_ret (fe_cmp (op_eqD hr.units) (os_eqD rfl) (fv 2) (fe_fz (fn_lc (own := [("each", 3)]) rfl sc__law_came.nd (fi_seq rfl (fe_fz (fn_lst (fa_cons fe_str (fa_cons fe_str fa_nil))))) (blkOk_by (own := [("each", 3)]) (by kernel_rfl)) (fun _ _ _ _ _ => (pg_name (i := 3) sc__law_came.nd rfl (by first | exact Or.inl rfl | exact Or.inr rfl))) ts_name rfl (fun _ _ _ _ _ => fts_nil) (fun _ _ _ _ _ => (fe_cmp (op_eqD hr.units) (os_eqD rfl) (fv 1) (fv 3) (nomark _))))) (nomark _)))
    s_nil))
theorem ok__law_came (T : Txt P K mg) (p : DP) (hpb : p.b = false) : FnC P w base ⟨K, mg, p.root⟩ (DW p) "_law_came" [] 2 g__law_came 1 := by
  obtain ⟨f, fd, hm, F⟩ := T.d__law_came
  exact ⟨f, fd, ["caught", "word"], [], [], hm, F.kp, F.bindsN fun _ _ _ _ _ _ us hl => match us, hl with | [_, _], _ => rfl, .nil, fun _ => rfl, fo__law_came T p hpb F⟩
def mb1 : SM Unit := (sOwn 1 (mLc (mIts (mVar 0)) [2] (bdN 2) (mB (m2 (pu2 D.ge) (m1 (pu1 D.absL) (mCons (mVar 2) mNil)) (m2 (pu2 D.pow) (mC (.int 10)) (mC (.int 18))))) (m2 (pu2 D.sub) (m1 (pu1 D.absL) (mCons (mVar 2) mNil)) (m2 (pu2 D.pow) (mC (.int 10)) (mC (.int 18))))))
def mb2 : M Unit (List D) := (mLc (mIts (mVar 0)) [2] (bdN 2) mTrue (m1 (pu1 D.absL) (mCons (mVar 2) mNil)))
theorem beg_ok (T : Txt P K mg) : BegC P w K mg base false 1 := by
  obtain ⟨f, fd, hm, F⟩ := T.d__law_begun
  refine ⟨f, fd, hm, F.kp, F.bindsN fun _ _ _ _ _ _ us hl => match us, hl with | [_], _ => rfl, ?_⟩
  exact fn_begunA (m1 := mb1) (m2 := mb2) F sc__law_begun rfl (beg1A) (beg2A) rfl
    (fun cdv A outer s H E hr => (s_setLcO (i := 1) (own := [("cell", 2)]) rfl sc__law_begun.nd rfl rfl (sw_true rfl rfl rfl (by kernel_rfl)) (fi_seq rfl (fv 0)) (blkOk_by (own := [("cell", 2)]) (by kernel_rfl)) (fun _ _ _ _ _ => (pg_name (i := 2) sc__law_begun.nd rfl (by first | exact Or.inl rfl | exact Or.inr rfl))) ts_name rfl (fun _ _ _ _ _ => (fts_one (ft_cmp op_ge os_ge (fe_callB call_abs cs_abs rfl T.m_abs b_abs (fa_cons (fv 2) fa_nil)) (fe_op op_pow os_pow fe_int fe_int) (nomark _)))) (fun _ _ _ _ _ => (fe_op op_sub os_sub (fe_callB call_abs cs_abs rfl T.m_abs b_abs (fa_cons (fv 2) fa_nil)) (fe_op op_pow os_pow fe_int fe_int)))))
    (fun cdv A outer s H E hr => pv 1)
    (fun cdv A outer s H E hr => (fn_lc (own := [("cell", 2)]) rfl sc__law_begun.nd (fi_seq rfl (fv 0)) (blkOk_by (own := [("cell", 2)]) (by kernel_rfl)) (fun _ _ _ _ _ => (pg_name (i := 2) sc__law_begun.nd rfl (by first | exact Or.inl rfl | exact Or.inr rfl))) ts_name rfl (fun _ _ _ _ _ => fts_nil) (fun _ _ _ _ _ => (fe_callB call_abs cs_abs rfl T.m_abs b_abs (fa_cons (fv 2) fa_nil)))))
    (fun cdv A outer s H E => pe_int) (fun cdv A outer s H E => pe_int)
theorem law_ok {f : Addr} {fd : FuncData} {TL : List (Addr × Str)} (T : Txt P K mg) (F : FunD K "law" "law" (defArgs s_law) (defBody s_law) (defScope s_law) [] [] f fd) (TC : ∀ cdv, fd.code = cdv → ∀ p : DP, p.T = TL → TabC base mg p.T "law" cdv) : FnOk P w K mg base (L2.CX P w) 11 f fd ["script"] (spLaw K TL) :=
  fn_law (T := TL) F sc_law rfl rfl (by first | exact Or.inl rfl | exact Or.inr rfl) (beg_ok T) (by decide) rfl (fun _ _ _ _ _ _ => rfl) (fun _ _ _ _ _ _ => pv 0)
    (fun p hpb hpT cdv hcv A outer s H E hr => (s_cons (s_for (passes_of rfl) rfl (fi_range1 (by rfl) T.m_range (fa_cons (fe_op op_addA (os_add rfl) fe_int (fe_callB (call_min2 rfl) cs_min2 rfl T.m_min b_min (fa_cons (fe_callB call_lenA (cs_len rfl) rfl T.m_len b_len (fa_cons (fv 0) fa_nil)) (fa_cons fe_int fa_nil)))) fa_nil)) (pg_name (i := 2) sc_law.nd rfl (by first | exact Or.inl rfl | exact Or.inr rfl)) ts_name
    (s_cons (s_par (i := 3) (j := 4) rfl sc_law.nd rfl rfl (by decide) rfl rfl (fa_cons (fe_callC (ok__law_sk_rules T p hpb) (hr.mono (by decide)) (by rfl) (passes_call (takes_of rfl rfl rfl rfl) (fun _ _ _ _ h => h)) (fa_cons (fv 1) (fa_cons (fe_callC (ok__law_pick T p hpb) (hr.mono (by decide)) (by rfl) (passes_call (takes_of rfl rfl rfl rfl) (fun _ _ _ _ h => h)) (fa_cons (fv 1) (fa_cons (fe_fz (fn_lst (fa_cons fe_int (fa_cons fe_int fa_nil)))) fa_nil))) (fa_cons fe_int fa_nil)))) (fa_cons (fe_callC (ok__law_sk_rules T p hpb) (hr.mono (by decide)) (by rfl) (passes_call (takes_of rfl rfl rfl rfl) (fun _ _ _ _ h => h)) (fa_cons (fv 1) (fa_cons (fe_callC (ok__law_pick T p hpb) (hr.mono (by decide)) (by rfl) (passes_call (takes_of rfl rfl rfl rfl) (fun _ _ _ _ h => h)) (fa_cons (fv 1) (fa_cons (fe_fz (fn_lst (fa_cons fe_int (fa_cons fe_int fa_nil)))) fa_nil))) (fa_cons fe_int fa_nil)))) fa_nil)) (by rfl))
    (s_cons (s_asg (fe_tup (fa_cons (fe_makeC (mk_Program T p hpb) (hr.mono (by decide)) (by rfl) (passes_call (takes_of rfl rfl rfl rfl) (fun _ _ _ _ h => h)) (fa_cons (fe_callB call_lenA (cs_len rfl) rfl T.m_len b_len (fa_cons (fe_ix rfl (hu_of hr) (fv 3) fe_int (fun _ _ => rfl)) fa_nil)) (fa_cons (fv 3) fa_nil))) (fa_cons (fe_makeC (mk_Program T p hpb) (hr.mono (by decide)) (by rfl) (passes_call (takes_of rfl rfl rfl rfl) (fun _ _ _ _ h => h)) (fa_cons (fe_callB call_lenA (cs_len rfl) rfl T.m_len b_len (fa_cons (fe_ix rfl (hu_of hr) (fv 4) fe_int (fun _ _ => rfl)) fa_nil)) (fa_cons (fv 4) fa_nil))) (fa_cons (fe_callB (call_max2 rfl) cs_max2 rfl T.m_max b_max (fa_cons (fe_callB call_lenA (cs_len rfl) rfl T.m_len b_len (fa_cons (fe_ix rfl (hu_of hr) (fv 3) fe_int (fun _ _ => rfl)) fa_nil)) (fa_cons (fe_callB call_lenA (cs_len rfl) rfl T.m_len b_len (fa_cons (fe_ix rfl (hu_of hr) (fv 4) fe_int (fun _ _ => rfl)) fa_nil)) fa_nil))) fa_nil)))) (pg_tup rfl (pgs_cons (pg_name (i := 5) sc_law.nd rfl (by first | exact Or.inl rfl | exact Or.inr rfl)) (pgs_cons (pg_name (i := 6) sc_law.nd rfl (by first | exact Or.inl rfl | exact Or.inr rfl)) (pgs_cons (pg_name (i := 7) sc_law.nd rfl (by first | exact Or.inl rfl | exact Or.inr rfl)) pgs_nil)))) (ts_tup (ts_cons ts_name (ts_cons ts_name (ts_cons ts_name ts_nil))) rfl))
    (s_cons (s_asg (fe_callB call_lenA (cs_len rfl) rfl T.m_len b_len (fa_cons (fv 3) fa_nil)) (pg_name (i := 8) sc_law.nd rfl (by first | exact Or.inl rfl | exact Or.inr rfl)) ts_name)
    (s_cons (s_setLcD (i := 9) (own := [("line", 23)]) rfl sc_law.nd rfl rfl (sw_true rfl rfl rfl (by kernel_rfl)) (fi_seq rfl (fv 3)) (blkOk_by (own := [("line", 23)]) (by kernel_rfl)) (fun _ _ _ _ _ => (pg_name (i := 23) sc_law.nd rfl (by first | exact Or.inl rfl | exact Or.inr rfl))) ts_name rfl (fun _ _ _ _ _ => fts_nil) (fun _ _ _ _ _ => (fe_op op_addA (os_add rfl) (fe_callTy call_tuple_of (cs_tuple rfl) rfl T.m_tuple b_tuple (fa_cons (fv 23) fa_nil)) (fe_op op_mulA (os_mulA rfl) (fe_tup (fa_cons fe_non fa_nil)) (fe_op op_sub os_sub (fv 7) (fe_callB call_lenA (cs_len rfl) rfl T.m_len b_len (fa_cons (fv 23) fa_nil)))))))
    (s_cons (s_asg (fe_op op_addA (os_add rfl) (fv 9) (fe_fz (fn_lc (own := [("line", 23)]) rfl sc_law.nd (fi_seq rfl (fv 4)) (blkOk_by (own := [("line", 23)]) (by kernel_rfl)) (fun _ _ _ _ _ => (pg_name (i := 23) sc_law.nd rfl (by first | exact Or.inl rfl | exact Or.inr rfl))) ts_name rfl (fun _ _ _ _ _ => fts_nil) (fun _ _ _ _ _ => (fe_op op_addA (os_add rfl) (fe_callTy call_tuple_of (cs_tuple rfl) rfl T.m_tuple b_tuple (fa_cons (fe_fz (fn_lc (own := [("rule", 24)]) rfl sc_law.nd (fi_seq rfl (fv 23)) (blkOk_by (own := [("rule", 24)]) (by kernel_rfl)) (fun _ _ _ _ _ => (pg_name (i := 24) sc_law.nd rfl (by first | exact Or.inl rfl | exact Or.inr rfl))) ts_name rfl (fun _ _ _ _ _ => fts_nil) (fun _ _ _ _ _ => (fe_ifExp (ft_cmp op_isN os_isN (fv 24) fe_non (nomark _)) fe_non (fe_callTy call_tuple_of (cs_tuple rfl) rfl T.m_tuple b_tuple (fa_cons (fe_fz (fn_lc (own := [("item", 25)]) rfl sc_law.nd (fi_seq rfl (fv 24)) (blkOk_by (own := [("item", 25)]) (by kernel_rfl)) (fun _ _ _ _ _ => (pg_name (i := 25) sc_law.nd rfl (by first | exact Or.inl rfl | exact Or.inr rfl))) ts_name rfl (fun _ _ _ _ _ => fts_nil) (fun _ _ _ _ _ => (fe_op op_addA (os_add rfl) (fv 25) (fv 8))))) fa_nil)))))) fa_nil)) (fe_op op_mulA (os_mulA rfl) (fe_tup (fa_cons fe_non fa_nil)) (fe_op op_sub os_sub (fv 7) (fe_callB call_lenA (cs_len rfl) rfl T.m_len b_len (fa_cons (fv 23) fa_nil))))))))) (pg_name (i := 9) sc_law.nd rfl (by first | exact Or.inl rfl | exact Or.inr rfl)) ts_name)
    (s_cons (s_if (ft_cmp op_gt os_gt (fe_callB call_lenA (cs_len rfl) rfl T.m_len b_len (fa_cons (fv 9) fa_nil)) fe_int (nomark _))
    (s_cons (s_if (ft_not (ft_val (fe_callC (ok__law_came T p hpb) (hr.mono (by decide)) (by rfl) (passes_call (takes_of rfl rfl rfl rfl) (fun _ _ _ _ h => h)) (fa_cons (fe_caught (k := 8) (cau__law_caught T) (by rfl) (TC _ hcv p hpT) rfl (hr.mono (by decide)) (LamX.lamS_by (by kernel_rfl)) (fun _ _ _ _ _ _ _ hr => (fe_callC (ok_joined T p hpb) (hr.mono (by decide)) (by rfl) (passes_call (takes_of rfl rfl rfl rfl) (fun _ _ _ _ h => h)) (fa_cons (fv 5) (fa_cons (fv 6) fa_nil))))) (fa_cons fe_str fa_nil)))))
    (s_cons (s_ret fe_bl)
    s_nil)
    s_nil)
    (s_cons s_cnt
    s_nil))
    s_nil)
    (s_cons (s_asg (fe_callC (ok_joined T p hpb) (hr.mono (by decide)) (by rfl) (passes_call (takes_of rfl rfl rfl rfl) (fun _ _ _ _ h => h)) (fa_cons (fv 5) (fa_cons (fv 6) fa_nil))) (pg_name (i := 10) sc_law.nd rfl (by first | exact Or.inl rfl | exact Or.inr rfl)) ts_name)
    (s_cons (s_if (ft_not (ft_val (fe_callC (ok__law_same T p hpb) (hr.mono (by decide)) (by rfl) (passes_call (takes_of rfl rfl rfl rfl) (fun _ _ _ _ h => h)) (fa_cons (fe_fz (fn_lst (fa_cons (fe_prop (pr_Program_letters T p) (hr.mono (by decide)) (fv 10) rfl) (fa_cons (fe_prop (pr_Program_rules T p) (hr.mono (by decide)) (fv 10) rfl) (fa_cons (fe_prop (pr_Program_rules T p) (hr.mono (by decide)) (fe_callKw (okk_joined_other_one T p hpb) (hr.mono (by decide)) (by rfl) (passes_call (takes_of rfl rfl rfl rfl) (fun _ _ _ _ h => h)) (fk_cons (fv 6) (fk_cons (fv 5) fk_nil))) rfl) fa_nil))))) (fa_cons (fe_fz (fn_lst (fa_cons (fv 7) (fa_cons (fe_callTy call_tuple_of (cs_tuple rfl) rfl T.m_tuple b_tuple (fa_cons (fv 9) fa_nil)) (fa_cons (fe_callTy call_tuple_of (cs_tuple rfl) rfl T.m_tuple b_tuple (fa_cons (fv 9) fa_nil)) fa_nil))))) fa_nil)))))
    (s_cons (s_ret fe_bl)
    s_nil)
    s_nil)
    (s_cons (s_for (passes_of rfl) rfl (fi_range1 (by rfl) T.m_range (fa_cons fe_int fa_nil)) (pg_name (i := 11) sc_law.nd rfl (by first | exact Or.inl rfl | exact Or.inr rfl)) ts_name
    (s_cons (s_par (i := 12) (j := 13) rfl sc_law.nd rfl rfl (by decide) rfl rfl (fa_cons (fe_callC (ok__law_sk_row T p hpb) (hr.mono (by decide)) (by rfl) (passes_call (takes_of rfl rfl rfl rfl) (fun _ _ _ _ h => h)) (fa_cons (fv 1) (fa_cons (fv 3) (fa_cons fe_int fa_nil)))) (fa_cons (fe_callC (ok__law_sk_row T p hpb) (hr.mono (by decide)) (by rfl) (passes_call (takes_of rfl rfl rfl rfl) (fun _ _ _ _ h => h)) (fa_cons (fv 1) (fa_cons (fv 4) (fa_cons fe_int fa_nil)))) fa_nil)) (by rfl))
    (s_cons (s_par (i := 14) (j := 15) rfl sc_law.nd rfl rfl (by decide) rfl rfl (fa_cons (fe_callC (ok__law_sk_text T p hpb) (hr.mono (by decide)) (by rfl) (passes_call (takes_of rfl rfl rfl rfl) (fun _ _ _ _ h => h)) (fa_cons (fv 1) (fa_cons (fv 3) (fa_cons (fv 12) (fa_cons fe_int fa_nil))))) (fa_cons (fe_callC (ok__law_sk_text T p hpb) (hr.mono (by decide)) (by rfl) (passes_call (takes_of rfl rfl rfl rfl) (fun _ _ _ _ h => h)) (fa_cons (fv 1) (fa_cons (fv 4) (fa_cons (fv 13) (fa_cons fe_int fa_nil))))) fa_nil)) (by rfl))
    (s_cons (s_if (ft_not (ft_val (fe_callC (ok__law_is_truth T p hpb) (hr.mono (by decide)) (by rfl) (passes_call (takes_of rfl rfl rfl rfl) (fun _ _ _ _ h => h)) (fa_cons (fe_callC (ok_reads T p hpb) (hr.mono (by decide)) (by rfl) (passes_call (takes_of rfl rfl rfl rfl) (fun _ _ _ _ h => h)) (fa_cons (fv 10) (fa_cons (fv 12) (fa_cons (fv 14) fa_nil)))) (fa_cons (fe_cmp (op_eqD hr.units) (os_eqD rfl) (fe_ix rfl (hu_of hr) (fe_callC (ok__law_sk_gone T p hpb) (hr.mono (by decide)) (by rfl) (passes_call (takes_of rfl rfl rfl rfl) (fun _ _ _ _ h => h)) (fa_cons (fv 3) (fa_cons (fv 12) (fa_cons (fv 14) fa_nil)))) fe_int (fun _ _ => rfl)) (fe_tup fa_nil) (nomark _)) fa_nil)))))
    (s_cons (s_ret fe_bl)
    s_nil)
    s_nil)
    (s_cons (s_if (ft_not (ft_val (fe_callC (ok__law_is_truth T p hpb) (hr.mono (by decide)) (by rfl) (passes_call (takes_of rfl rfl rfl rfl) (fun _ _ _ _ h => h)) (fa_cons (fe_callC (ok_reads T p hpb) (hr.mono (by decide)) (by rfl) (passes_call (takes_of rfl rfl rfl rfl) (fun _ _ _ _ h => h)) (fa_cons (fv 10) (fa_cons (fe_callTy call_tuple_of (cs_tuple rfl) rfl T.m_tuple b_tuple (fa_cons (fe_fz (fn_lc (own := [("item", 25)]) rfl sc_law.nd (fi_seq rfl (fv 13)) (blkOk_by (own := [("item", 25)]) (by kernel_rfl)) (fun _ _ _ _ _ => (pg_name (i := 25) sc_law.nd rfl (by first | exact Or.inl rfl | exact Or.inr rfl))) ts_name rfl (fun _ _ _ _ _ => fts_nil) (fun _ _ _ _ _ => (fe_op op_addA (os_add rfl) (fv 25) (fv 8))))) fa_nil)) (fa_cons (fv 15) fa_nil)))) (fa_cons (fe_cmp (op_eqD hr.units) (os_eqD rfl) (fe_ix rfl (hu_of hr) (fe_callC (ok__law_sk_gone T p hpb) (hr.mono (by decide)) (by rfl) (passes_call (takes_of rfl rfl rfl rfl) (fun _ _ _ _ h => h)) (fa_cons (fv 4) (fa_cons (fv 13) (fa_cons (fv 15) fa_nil)))) fe_int (fun _ _ => rfl)) (fe_tup fa_nil) (nomark _)) fa_nil)))))
    (s_cons (s_ret fe_bl)
    s_nil)
    s_nil)
    s_nil)))))
    (s_cons (s_asg (fe_callC (ok__law_sk_no_program T p hpb) (hr.mono (by decide)) (by rfl) (passes_call (takes_of rfl rfl rfl rfl) (fun _ _ _ _ h => h)) (fa_cons (fv 1) fa_nil)) (pg_name (i := 16) sc_law.nd rfl (by first | exact Or.inl rfl | exact Or.inr rfl)) ts_name)
    (s_cons (s_for (passes_of rfl) rfl (fi_seq rfl (fe_fz (fn_lst (fa_cons (fe_tup (fa_cons (fv 16) (fa_cons (fv 16) (fa_cons fe_str fa_nil)))) (fa_cons (fe_tup (fa_cons (fv 5) (fa_cons (fv 16) (fa_cons fe_str fa_nil)))) fa_nil))))) (pg_tup rfl (pgs_cons (pg_name (i := 17) sc_law.nd rfl (by first | exact Or.inl rfl | exact Or.inr rfl)) (pgs_cons (pg_name (i := 18) sc_law.nd rfl (by first | exact Or.inl rfl | exact Or.inr rfl)) (pgs_cons (pg_name (i := 19) sc_law.nd rfl (by first | exact Or.inl rfl | exact Or.inr rfl)) pgs_nil)))) (ts_tup (ts_cons ts_name (ts_cons ts_name (ts_cons ts_name ts_nil))) rfl)
    (s_cons (s_asg (fe_caught (k := 8) (cau__law_caught T) (by rfl) (TC _ hcv p hpT) rfl (hr.mono (by decide)) (LamX.lamS_by (by kernel_rfl)) (fun _ _ _ _ _ _ _ hr => (fe_callC (ok_joined T p hpb) (hr.mono (by decide)) (by rfl) (passes_call (takes_of rfl rfl rfl rfl) (fun _ _ _ _ h => h)) (fa_cons (fv 17) (fa_cons (fv 18) fa_nil))))) (pg_name (i := 20) sc_law.nd rfl (by first | exact Or.inl rfl | exact Or.inr rfl)) ts_name)
    (s_cons (s_if (PW.pt (fw_or (ft_not (ft_val (fe_callC (ok__law_came T p hpb) (hr.mono (by decide)) (by rfl) (passes_call (takes_of rfl rfl rfl rfl) (fun _ _ _ _ h => h)) (fa_cons (fv 20) (fa_cons fe_str fa_nil))))) (fw_or1 (ft_not (ft_val (fe_callC (ok__law_same T p hpb) (hr.mono (by decide)) (by rfl) (passes_call (takes_of rfl rfl rfl rfl) (fun _ _ _ _ h => h)) (fa_cons (fe_fldE T.x_part rfl (fv 20)) (fa_cons (fv 19) fa_nil))))))))
    (s_cons (s_ret fe_bl)
    s_nil)
    s_nil)
    s_nil)))
    s_nil))))))))))))
    (s_cons (s_asg (fe_tup (fa_cons (fe_makeC (mk_Program T p hpb) (hr.mono (by decide)) (by rfl) (passes_call (takes_of rfl rfl rfl rfl) (fun _ _ _ _ h => h)) (fa_cons fe_int (fa_cons (fe_op op_mulA (os_mulA rfl) (fe_fz (fn_lst (fa_cons (fe_fz (fn_lst (fa_cons (fe_tup fa_nil) fa_nil))) fa_nil))) fe_int) fa_nil))) (fa_cons (fe_makeC (mk_Program T p hpb) (hr.mono (by decide)) (by rfl) (passes_call (takes_of rfl rfl rfl rfl) (fun _ _ _ _ h => h)) (fa_cons fe_int (fa_cons (fe_op op_mulA (os_mulA rfl) (fe_fz (fn_lst (fa_cons (fe_fz (fn_lst (fa_cons (fe_tup fa_nil) fa_nil))) fa_nil))) fe_int) fa_nil))) fa_nil))) (pg_tup rfl (pgs_cons (pg_name (i := 21) sc_law.nd rfl (by first | exact Or.inl rfl | exact Or.inr rfl)) (pgs_cons (pg_name (i := 22) sc_law.nd rfl (by first | exact Or.inl rfl | exact Or.inr rfl)) pgs_nil))) (ts_tup (ts_cons ts_name (ts_cons ts_name ts_nil)) rfl))
    (s_cons (s_ret (fe_and (fe_cmp (op_eqD hr.units) (os_eqD rfl) (fe_callB call_lenA (cs_len rfl) rfl T.m_len b_len (fa_cons (fe_prop (pr_Program_rules T p) (hr.mono (by decide)) (fe_callC (ok_joined T p hpb) (hr.mono (by decide)) (by rfl) (passes_call (takes_of rfl rfl rfl rfl) (fun _ _ _ _ h => h)) (fa_cons (fv 21) (fa_cons (fv 21) fa_nil))) rfl) fa_nil)) fe_int (nomark _)) (fe_one (fe_callC (ok__law_came T p hpb) (hr.mono (by decide)) (by rfl) (passes_call (takes_of rfl rfl rfl rfl) (fun _ _ _ _ h => h)) (fa_cons (fe_caught (k := 8) (cau__law_caught T) (by rfl) (TC _ hcv p hpT) rfl (hr.mono (by decide)) (LamX.lamS_by (by kernel_rfl)) (fun _ _ _ _ _ _ _ hr => (fe_callC (ok_joined T p hpb) (hr.mono (by decide)) (by rfl) (passes_call (takes_of rfl rfl rfl rfl) (fun _ _ _ _ h => h)) (fa_cons (fv 21) (fa_cons (fv 22) fa_nil))))) (fa_cons fe_str fa_nil))))))
    s_nil))))
    law_math (by intros; rfl) (by intros; rfl) (by intros; first | exact Or.inl rfl | exact Or.inr rfl)
end

end K03
set_option maxRecDepth 100000
set_option maxHeartbeats 4000000
namespace K03
open PySem PySem.Spec PyProof.Rows L2 FL
theorem all_mk {l : PySem.W.OpenLaw} {w : World} {K : PySem.W.Frag} {h : Heap} {mg : Str → Option Value} {fa : Addr} (X : K.In h) (G : h.Ns mainGlobals mg) (hfa : mg "law" = some (.ref fa))
    {t_MOST_CALLS : Tok}
    {t_MOST_LETTERS : Tok}
    {t_MOST_PROCEDURES : Tok}
    {t_MOST_ROW : Tok}
    {t_MOST_TEXT : Tok}
    {CNoProgram : Addr}
    {CNoRoom : Addr}
    {CProgram : Addr}
    {CStackError : Addr}
    {fiProgram : Addr}
    {ociProgram kViProgram dciProgram pmiProgram cdiProgram ctiProgram : Value}
    {odiProgram aniProgram : Option Addr}
    {sliProgram : Array (Option Value)}
    {fpProgram_letters : Addr}
    {ocpProgram_letters kVpProgram_letters dcpProgram_letters pmpProgram_letters cdpProgram_letters ctpProgram_letters : Value}
    {odpProgram_letters anpProgram_letters : Option Addr}
    {slpProgram_letters : Array (Option Value)}
    {qpProgram_letters : Addr} {rpProgram_letters : List Value}
    {fpProgram_rules : Addr}
    {ocpProgram_rules kVpProgram_rules dcpProgram_rules pmpProgram_rules cdpProgram_rules ctpProgram_rules : Value}
    {odpProgram_rules anpProgram_rules : Option Addr}
    {slpProgram_rules : Array (Option Value)}
    {qpProgram_rules : Addr} {rpProgram_rules : List Value}
    {CPartError : Addr}
    {fIsPartError cdasPartError ccsPartError : Addr}
    {ocsPartError kVsPartError dcsPartError pmsPartError ctsPartError cclsPartError clsPartError : Value}
    {odsPartError ansPartError cddsPartError cldsPartError : Option Addr}
    {oslsPartError ccssPartError cslsPartError : Array (Option Value)}
    {vssPartError : Array Value}
    {filesPartError : Str}
    {tfsPartError : Tok}
    {nmNoProgram qnNoProgram : Str}
    {NNoProgram : Addr}
    {bsNoProgram bmNoProgram sbNoProgram : List Value}
    {snNoProgram : List Str}
    {abNoProgram : Bool}
    {colNoProgram : Option Bool}
    {ddNoProgram : Option Addr}
    {kaNoProgram kbNoProgram kcNoProgram kdNoProgram kfNoProgram : Option Value}
    {f_is_number : Addr}
    {oc_is_number kV_is_number dc_is_number pm_is_number cd_is_number ct_is_number : Value}
    {od_is_number an_is_number : Option Addr}
    {sl_is_number : Array (Option Value)}
    {f_is_between : Addr}
    {oc_is_between kV_is_between dc_is_between pm_is_between cd_is_between ct_is_between : Value}
    {od_is_between an_is_between : Option Addr}
    {sl_is_between : Array (Option Value)}
    {f_is_list : Addr}
    {oc_is_list kV_is_list dc_is_list pm_is_list cd_is_list ct_is_list : Value}
    {od_is_list an_is_list : Option Addr}
    {sl_is_list : Array (Option Value)}
    {f_rule_right : Addr}
    {oc_rule_right kV_rule_right dc_rule_right pm_rule_right cd_rule_right ct_rule_right : Value}
    {od_rule_right an_rule_right : Option Addr}
    {sl_rule_right : Array (Option Value)}
    {f_rules_right : Addr}
    {oc_rules_right kV_rules_right dc_rules_right pm_rules_right cd_rules_right ct_rules_right : Value}
    {od_rules_right an_rules_right : Option Addr}
    {sl_rules_right : Array (Option Value)}
    {f_need_parts : Addr}
    {oc_need_parts kV_need_parts dc_need_parts pm_need_parts cd_need_parts ct_need_parts : Value}
    {od_need_parts an_need_parts : Option Addr}
    {sl_need_parts : Array (Option Value)}
    {f_is_live_by : Addr}
    {oc_is_live_by kV_is_live_by dc_is_live_by pm_is_live_by cd_is_live_by ct_is_live_by : Value}
    {od_is_live_by an_is_live_by : Option Addr}
    {sl_is_live_by : Array (Option Value)}
    {f_live_in : Addr}
    {oc_live_in kV_live_in dc_live_in pm_live_in cd_live_in ct_live_in : Value}
    {od_live_in an_live_in : Option Addr}
    {sl_live_in : Array (Option Value)}
    {f_need_program : Addr}
    {oc_need_program kV_need_program dc_need_program pm_need_program cd_need_program ct_need_program : Value}
    {od_need_program an_need_program : Option Addr}
    {sl_need_program : Array (Option Value)}
    {T_need_program : Addr} {tc_need_program : Value} {td_need_program : Option Addr} {tn_need_program : Nat} {ts_need_program : Array (Option Value)}
    {f_calls_right : Addr}
    {oc_calls_right kV_calls_right dc_calls_right pm_calls_right cd_calls_right ct_calls_right : Value}
    {od_calls_right an_calls_right : Option Addr}
    {sl_calls_right : Array (Option Value)}
    {f_row_right : Addr}
    {oc_row_right kV_row_right dc_row_right pm_row_right cd_row_right ct_row_right : Value}
    {od_row_right an_row_right : Option Addr}
    {sl_row_right : Array (Option Value)}
    {f_need_row : Addr}
    {oc_need_row kV_need_row dc_need_row pm_need_row cd_need_row ct_need_row : Value}
    {od_need_row an_need_row : Option Addr}
    {sl_need_row : Array (Option Value)}
    {T_need_row : Addr} {tc_need_row : Value} {td_need_row : Option Addr} {tn_need_row : Nat} {ts_need_row : Array (Option Value)}
    {f_widened : Addr}
    {oc_widened kV_widened dc_widened pm_widened cd_widened ct_widened : Value}
    {od_widened an_widened : Option Addr}
    {sl_widened : Array (Option Value)}
    {f_joined : Addr}
    {oc_joined kV_joined dc_joined pm_joined cd_joined ct_joined : Value}
    {od_joined an_joined : Option Addr}
    {sl_joined : Array (Option Value)}
    {f_need_text : Addr}
    {oc_need_text kV_need_text dc_need_text pm_need_text cd_need_text ct_need_text : Value}
    {od_need_text an_need_text : Option Addr}
    {sl_need_text : Array (Option Value)}
    {f_gone : Addr}
    {oc_gone kV_gone dc_gone pm_gone cd_gone ct_gone : Value}
    {od_gone an_gone : Option Addr}
    {sl_gone : Array (Option Value)}
    {f_need_reading : Addr}
    {oc_need_reading kV_need_reading dc_need_reading pm_need_reading cd_need_reading ct_need_reading : Value}
    {od_need_reading an_need_reading : Option Addr}
    {sl_need_reading : Array (Option Value)}
    {f_reads : Addr}
    {oc_reads kV_reads dc_reads pm_reads cd_reads ct_reads : Value}
    {od_reads an_reads : Option Addr}
    {sl_reads : Array (Option Value)}
    {f__law_begun : Addr}
    {oc__law_begun kV__law_begun dc__law_begun pm__law_begun cd__law_begun ct__law_begun : Value}
    {od__law_begun an__law_begun : Option Addr}
    {sl__law_begun : Array (Option Value)}
    {f__law_blended : Addr}
    {oc__law_blended kV__law_blended dc__law_blended pm__law_blended cd__law_blended ct__law_blended : Value}
    {od__law_blended an__law_blended : Option Addr}
    {sl__law_blended : Array (Option Value)}
    {f__law_draw : Addr}
    {oc__law_draw kV__law_draw dc__law_draw pm__law_draw cd__law_draw ct__law_draw : Value}
    {od__law_draw an__law_draw : Option Addr}
    {sl__law_draw : Array (Option Value)}
    {f__law_pick : Addr}
    {oc__law_pick kV__law_pick dc__law_pick pm__law_pick cd__law_pick ct__law_pick : Value}
    {od__law_pick an__law_pick : Option Addr}
    {sl__law_pick : Array (Option Value)}
    {f__law_caught : Addr}
    {oc__law_caught kV__law_caught dc__law_caught pm__law_caught cd__law_caught ct__law_caught : Value}
    {od__law_caught an__law_caught : Option Addr}
    {sl__law_caught : Array (Option Value)}
    {f__law_is_truth : Addr}
    {oc__law_is_truth kV__law_is_truth dc__law_is_truth pm__law_is_truth cd__law_is_truth ct__law_is_truth : Value}
    {od__law_is_truth an__law_is_truth : Option Addr}
    {sl__law_is_truth : Array (Option Value)}
    {f__law_same : Addr}
    {oc__law_same kV__law_same dc__law_same pm__law_same cd__law_same ct__law_same : Value}
    {od__law_same an__law_same : Option Addr}
    {sl__law_same : Array (Option Value)}
    {f__law_sk_live : Addr}
    {oc__law_sk_live kV__law_sk_live dc__law_sk_live pm__law_sk_live cd__law_sk_live ct__law_sk_live : Value}
    {od__law_sk_live an__law_sk_live : Option Addr}
    {sl__law_sk_live : Array (Option Value)}
    {f__law_sk_rules : Addr}
    {oc__law_sk_rules kV__law_sk_rules dc__law_sk_rules pm__law_sk_rules cd__law_sk_rules ct__law_sk_rules : Value}
    {od__law_sk_rules an__law_sk_rules : Option Addr}
    {sl__law_sk_rules : Array (Option Value)}
    {f__law_sk_row : Addr}
    {oc__law_sk_row kV__law_sk_row dc__law_sk_row pm__law_sk_row cd__law_sk_row ct__law_sk_row : Value}
    {od__law_sk_row an__law_sk_row : Option Addr}
    {sl__law_sk_row : Array (Option Value)}
    {f__law_sk_gone : Addr}
    {oc__law_sk_gone kV__law_sk_gone dc__law_sk_gone pm__law_sk_gone cd__law_sk_gone ct__law_sk_gone : Value}
    {od__law_sk_gone an__law_sk_gone : Option Addr}
    {sl__law_sk_gone : Array (Option Value)}
    {f__law_sk_text : Addr}
    {oc__law_sk_text kV__law_sk_text dc__law_sk_text pm__law_sk_text cd__law_sk_text ct__law_sk_text : Value}
    {od__law_sk_text an__law_sk_text : Option Addr}
    {sl__law_sk_text : Array (Option Value)}
    {f__law_sk_no_program : Addr}
    {oc__law_sk_no_program kV__law_sk_no_program dc__law_sk_no_program pm__law_sk_no_program cd__law_sk_no_program ct__law_sk_no_program : Value}
    {od__law_sk_no_program an__law_sk_no_program : Option Addr}
    {sl__law_sk_no_program : Array (Option Value)}
    {f__law_came : Addr}
    {oc__law_came kV__law_came dc__law_came pm__law_came cd__law_came ct__law_came : Value}
    {od__law_came an__law_came : Option Addr}
    {sl__law_came : Array (Option Value)}
    {cdL PtL : Addr}
    {ecl_law : Value}
    {edd_law : Option Addr}
    {evs_law : Array Value}
    {esl_law : Array (Option Value)}
    {f_law : Addr}
    {oc_law kV_law dc_law pm_law ct_law : Value}
    {od_law an_law : Option Addr}
    {sl_law : Array (Option Value)}
    (n_MOST_CALLS : PySem.W.nsIn K mainGlobals "MOST_CALLS" = some (some (.int 6 t_MOST_CALLS)))
    (n_MOST_LETTERS : PySem.W.nsIn K mainGlobals "MOST_LETTERS" = some (some (.int 6 t_MOST_LETTERS)))
    (n_MOST_PROCEDURES : PySem.W.nsIn K mainGlobals "MOST_PROCEDURES" = some (some (.int 12 t_MOST_PROCEDURES)))
    (n_MOST_ROW : PySem.W.nsIn K mainGlobals "MOST_ROW" = some (some (.int 12 t_MOST_ROW)))
    (n_MOST_TEXT : PySem.W.nsIn K mainGlobals "MOST_TEXT" = some (some (.int 2000 t_MOST_TEXT)))
    (aCNoProgram : PySem.W.nsIn K mainGlobals "NoProgram" = some (some (.ref CNoProgram)))
    (aCNoRoom : PySem.W.nsIn K mainGlobals "NoRoom" = some (some (.ref CNoRoom)))
    (aCProgram : PySem.W.nsIn K mainGlobals "Program" = some (some (.ref CProgram)))
    (pgProgram : PySem.W.plainGet K CProgram Str.empty = true)
    (hdProgram : PySem.W.hasDictIn K CProgram = true)
    (poProgram : PySem.W.plainOver K CProgram = true)
    (saProgram : PySem.W.findIn K (.ref CProgram) "__setattr__" = some (some (.builtin "object.__setattr__")))
    (oc1 : PySem.W.specialIn K (.builtin "object.__class__") "__get__" = some (some (.builtin "getset_descriptor.__get__")))
    (oc2 : PySem.W.takesIn K (.builtin "object.__class__") = some true)
    (kc1Program : PySem.W.findIn K (.ref CProgram) "__class__" = some (some (.builtin "object.__class__")))
    (kc2Program : PySem.W.mroIn K CProgram (.type "object") = some true)
    (ktNoneTypeProgram : PySem.W.kitOne K (.type "NoneType") (.ref CProgram) = some false)
    (ktboolProgram : PySem.W.kitOne K (.type "bool") (.ref CProgram) = some false)
    (ktintProgram : PySem.W.kitOne K (.type "int") (.ref CProgram) = some false)
    (ktstrProgram : PySem.W.kitOne K (.type "str") (.ref CProgram) = some false)
    (kttupleProgram : PySem.W.kitOne K (.type "tuple") (.ref CProgram) = some false)
    (ktlistProgram : PySem.W.kitOne K (.type "list") (.ref CProgram) = some false)
    (ktdictProgram : PySem.W.kitOne K (.type "dict") (.ref CProgram) = some false)
    (ktNoneTypeNoProgram : PySem.W.kitOne K (.type "NoneType") (.ref CNoProgram) = some false)
    (ktboolNoProgram : PySem.W.kitOne K (.type "bool") (.ref CNoProgram) = some false)
    (ktintNoProgram : PySem.W.kitOne K (.type "int") (.ref CNoProgram) = some false)
    (ktstrNoProgram : PySem.W.kitOne K (.type "str") (.ref CNoProgram) = some false)
    (kttupleNoProgram : PySem.W.kitOne K (.type "tuple") (.ref CNoProgram) = some false)
    (ktlistNoProgram : PySem.W.kitOne K (.type "list") (.ref CNoProgram) = some false)
    (ktdictNoProgram : PySem.W.kitOne K (.type "dict") (.ref CNoProgram) = some false)
    (xgaNoProgram : PySem.W.findIn K (.ref CNoProgram) "__getattribute__" = some (some (.builtin "BaseException.__getattribute__")))
    (xggNoProgram : PySem.W.findIn K (.ref CNoProgram) "__getattr__" = some none)
    (xexNoProgram : PySem.W.subIn K (.ref CNoProgram) (.type "BaseException") = some true)
    (xhdNoProgram : PySem.W.hasDictIn K CNoProgram = true)
    (xclNoProgram : (PySem.W.clsIn K CNoProgram).isSome = true)
    (xcaNoProgram : PySem.W.findIn K (.ref CNoProgram) "__class__" = some (some (.builtin "object.__class__")))
    (xcmNoProgram : PySem.W.mroIn K CNoProgram (.type "object") = some true)
    (kiNoProgram_NoProgram : PySem.W.kitOne K (.ref CNoProgram) (.ref CNoProgram) = some true)
    (xgaNoRoom : PySem.W.findIn K (.ref CNoRoom) "__getattribute__" = some (some (.builtin "BaseException.__getattribute__")))
    (xggNoRoom : PySem.W.findIn K (.ref CNoRoom) "__getattr__" = some none)
    (xexNoRoom : PySem.W.subIn K (.ref CNoRoom) (.type "BaseException") = some true)
    (xhdNoRoom : PySem.W.hasDictIn K CNoRoom = true)
    (xclNoRoom : (PySem.W.clsIn K CNoRoom).isSome = true)
    (xcaNoRoom : PySem.W.findIn K (.ref CNoRoom) "__class__" = some (some (.builtin "object.__class__")))
    (xcmNoRoom : PySem.W.mroIn K CNoRoom (.type "object") = some true)
    (kiNoRoom_NoProgram : PySem.W.kitOne K (.ref CNoRoom) (.ref CNoProgram) = some false)
    (ktNoneTypeNoRoom : PySem.W.kitOne K (.type "NoneType") (.ref CNoRoom) = some false)
    (ktboolNoRoom : PySem.W.kitOne K (.type "bool") (.ref CNoRoom) = some false)
    (ktintNoRoom : PySem.W.kitOne K (.type "int") (.ref CNoRoom) = some false)
    (ktstrNoRoom : PySem.W.kitOne K (.type "str") (.ref CNoRoom) = some false)
    (kttupleNoRoom : PySem.W.kitOne K (.type "tuple") (.ref CNoRoom) = some false)
    (ktlistNoRoom : PySem.W.kitOne K (.type "list") (.ref CNoRoom) = some false)
    (ktdictNoRoom : PySem.W.kitOne K (.type "dict") (.ref CNoRoom) = some false)
    (kiNoRoom_NoRoom : PySem.W.kitOne K (.ref CNoRoom) (.ref CNoRoom) = some true)
    (kiNoProgram_NoRoom : PySem.W.kitOne K (.ref CNoProgram) (.ref CNoRoom) = some false)
    (naProgram_own_letters : PySem.W.findIn K (.ref CProgram) "own_letters" = some none)
    (naProgram_own_rules : PySem.W.findIn K (.ref CProgram) "own_rules" = some none)
    (aCStackError : PySem.W.nsIn K mainGlobals "StackError" = some (some (.ref CStackError)))
    (xmNoProgram : PySem.W.exmOne K (.ref CNoProgram) (.ref CStackError) = some true)
    (xmNoRoom : PySem.W.exmOne K (.ref CNoRoom) (.ref CStackError) = some true)
    (mk1Program : PySem.W.makesIn K CProgram = true)
    (mk2Program : PySem.W.findIn K (.ref CProgram) "__init__" = some (some (.ref fiProgram)))
    (mk3Program : PySem.W.isFn K (.ref fiProgram) = true)
    (mk4Program : PySem.W.keepIn K (.ref CProgram) = true)
    (liProgram : K.lookup fiProgram = some ⟨ociProgram, odiProgram, .func (PySem.W.fnOf "__init__" "Program.__init__" (defArgs s_Program_init) (defBody s_Program_init) (defScope s_Program_init) .none kViProgram dciProgram pmiProgram aniProgram cdiProgram ctiProgram), sliProgram⟩)
    (ciProgram : PySem.W.codeIn K cdiProgram "Program.__init__" = true)
    (kiProgram : PySem.W.keepIn K (.ref fiProgram) = true)
    (u1pProgram_letters : PySem.W.findIn K (.ref CProgram) "letters" = some (some (.ref qpProgram_letters)))
    (u2pProgram_letters : PySem.W.specialIn K (.ref qpProgram_letters) "__get__" = some (some (.builtin "property.__get__")))
    (u3pProgram_letters : PySem.W.takesIn K (.ref qpProgram_letters) = some true)
    (u4pProgram_letters : PySem.W.recIn K qpProgram_letters "property" = some (.ref fpProgram_letters :: rpProgram_letters))
    (lpProgram_letters : K.lookup fpProgram_letters = some ⟨ocpProgram_letters, odpProgram_letters, .func (PySem.W.fnOf "letters" "Program.letters" (defArgs s_Program_letters) (defBody s_Program_letters) (defScope s_Program_letters) .none kVpProgram_letters dcpProgram_letters pmpProgram_letters anpProgram_letters cdpProgram_letters ctpProgram_letters), slpProgram_letters⟩)
    (cpProgram_letters : PySem.W.codeIn K cdpProgram_letters "Program.letters" = true)
    (kpProgram_letters : PySem.W.keepIn K (.ref fpProgram_letters) = true)
    (u1pProgram_rules : PySem.W.findIn K (.ref CProgram) "rules" = some (some (.ref qpProgram_rules)))
    (u2pProgram_rules : PySem.W.specialIn K (.ref qpProgram_rules) "__get__" = some (some (.builtin "property.__get__")))
    (u3pProgram_rules : PySem.W.takesIn K (.ref qpProgram_rules) = some true)
    (u4pProgram_rules : PySem.W.recIn K qpProgram_rules "property" = some (.ref fpProgram_rules :: rpProgram_rules))
    (lpProgram_rules : K.lookup fpProgram_rules = some ⟨ocpProgram_rules, odpProgram_rules, .func (PySem.W.fnOf "rules" "Program.rules" (defArgs s_Program_rules) (defBody s_Program_rules) (defScope s_Program_rules) .none kVpProgram_rules dcpProgram_rules pmpProgram_rules anpProgram_rules cdpProgram_rules ctpProgram_rules), slpProgram_rules⟩)
    (cpProgram_rules : PySem.W.codeIn K cdpProgram_rules "Program.rules" = true)
    (kpProgram_rules : PySem.W.keepIn K (.ref fpProgram_rules) = true)
    (aCPartError : PySem.W.nsIn K mainGlobals "PartError" = some (some (.ref CPartError)))
    (q1sPartError : PySem.W.findIn K (.ref CPartError) "__init__" = some (some (.ref fIsPartError)))
    (q2sPartError : K.lookup fIsPartError = some ⟨ocsPartError, odsPartError, .func (PySem.W.ksFn "__init__" "PartError.__init__" (defArgs s_PartError_init) (defBody s_PartError_init) (defScope s_PartError_init) .none kVsPartError dcsPartError pmsPartError ansPartError (.ref cdasPartError) ctsPartError ccsPartError), oslsPartError⟩)
    (q3sPartError : PySem.W.codeIn K (.ref cdasPartError) "PartError.__init__" = true)
    (q4sPartError : K.lookup cdasPartError = some ⟨cclsPartError, cddsPartError, .fields vssPartError, ccssPartError⟩)
    (q5sPartError : vssPartError[2]? = some (.str filesPartError tfsPartError))
    (q6sPartError : ((l.prog.main.file : Str) == filesPartError) = true)
    (q7sPartError : K.lookup ccsPartError = some ⟨clsPartError, cldsPartError, .cell (some (.ref CPartError)), cslsPartError⟩)
    (q8sPartError : (PySem.W.clsIn K CPartError).isSome = true)
    (z_super : PySem.W.nsIn K mainGlobals "super" = some none)
    (q9any : PySem.W.nsIn K cStatics "thirdparty.any" = some none)
    (q9top : (l.prog.main.scope.names.lookup ("super" : Str)).isSome = false)
    (qtsPartError : PySem.W.typeIn K (.ref fIsPartError) = some (.type "function"))
    (o1NoProgram : K.lookup CNoProgram = some (excClassObj nmNoProgram qnNoProgram CNoProgram NNoProgram bsNoProgram bmNoProgram true snNoProgram sbNoProgram abNoProgram colNoProgram ddNoProgram kaNoProgram kbNoProgram kcNoProgram kdNoProgram kfNoProgram "ValueError.__new__"))
    (o2NoProgram : PySem.HandSPX.refsVE bmNoProgram = true)
    (saNoProgram : PySem.W.findIn K (.ref CNoProgram) "__setattr__" = some (some (.builtin "object.__setattr__")))
    (o5NoProgram : PySem.W.typeIn K (.ref CNoProgram) = some (.type "type"))
    (o6NoProgram : PySem.W.keepIn K (.ref CNoProgram) = true)
    (o7NoProgram : PySem.W.mroIn K CNoProgram (.ref CPartError) = some true)
    (o8NoProgram : PySem.W.ks_superIn K CNoProgram CPartError "__init__" = some (some (.builtin "ValueError.__init__")))
    (o9NoProgram : PySem.W.subIn K (.ref CNoProgram) (.type "ValueError") = some true)
    (xnoNoProgram_part : PySem.W.findIn K (.ref CNoProgram) "part" = some none)
    (oiNoProgram : PySem.W.findIn K (.ref CNoProgram) "__init__" = some (some (.ref fIsPartError)))
    (oeNoRoom : PySem.W.excIn K CNoRoom PySem.HandSPX.veTail "ValueError.__new__" = true)
    (o5NoRoom : PySem.W.typeIn K (.ref CNoRoom) = some (.type "type"))
    (o6NoRoom : PySem.W.keepIn K (.ref CNoRoom) = true)
    (z_abs : PySem.W.nsIn K mainGlobals "abs" = some none)
    (z_all : PySem.W.nsIn K mainGlobals "all" = some none)
    (z_any : PySem.W.nsIn K mainGlobals "any" = some none)
    (z_bool : PySem.W.nsIn K mainGlobals "bool" = some none)
    (z_dict : PySem.W.nsIn K mainGlobals "dict" = some none)
    (z_enumerate : PySem.W.nsIn K mainGlobals "enumerate" = some none)
    (z_int : PySem.W.nsIn K mainGlobals "int" = some none)
    (z_isinstance : PySem.W.nsIn K mainGlobals "isinstance" = some none)
    (z_len : PySem.W.nsIn K mainGlobals "len" = some none)
    (z_list : PySem.W.nsIn K mainGlobals "list" = some none)
    (z_max : PySem.W.nsIn K mainGlobals "max" = some none)
    (z_min : PySem.W.nsIn K mainGlobals "min" = some none)
    (z_range : PySem.W.nsIn K mainGlobals "range" = some none)
    (z_str : PySem.W.nsIn K mainGlobals "str" = some none)
    (z_tuple : PySem.W.nsIn K mainGlobals "tuple" = some none)
    (z_zip : PySem.W.nsIn K mainGlobals "zip" = some none)
    (a_is_number : PySem.W.nsIn K mainGlobals "is_number" = some (some (.ref f_is_number)))
    (l_is_number : K.lookup f_is_number = some ⟨oc_is_number, od_is_number, .func (PySem.W.fnOf "is_number" "is_number" (defArgs s_is_number) (defBody s_is_number) (defScope s_is_number) .none kV_is_number dc_is_number pm_is_number an_is_number cd_is_number ct_is_number), sl_is_number⟩)
    (c_is_number : PySem.W.codeIn K cd_is_number "is_number" = true)
    (k_is_number : PySem.W.keepIn K (.ref f_is_number) = true)
    (a_is_between : PySem.W.nsIn K mainGlobals "is_between" = some (some (.ref f_is_between)))
    (l_is_between : K.lookup f_is_between = some ⟨oc_is_between, od_is_between, .func (PySem.W.fnOf "is_between" "is_between" (defArgs s_is_between) (defBody s_is_between) (defScope s_is_between) .none kV_is_between dc_is_between pm_is_between an_is_between cd_is_between ct_is_between), sl_is_between⟩)
    (c_is_between : PySem.W.codeIn K cd_is_between "is_between" = true)
    (k_is_between : PySem.W.keepIn K (.ref f_is_between) = true)
    (a_is_list : PySem.W.nsIn K mainGlobals "is_list" = some (some (.ref f_is_list)))
    (l_is_list : K.lookup f_is_list = some ⟨oc_is_list, od_is_list, .func (PySem.W.fnOf "is_list" "is_list" (defArgs s_is_list) (defBody s_is_list) (defScope s_is_list) .none kV_is_list dc_is_list pm_is_list an_is_list cd_is_list ct_is_list), sl_is_list⟩)
    (c_is_list : PySem.W.codeIn K cd_is_list "is_list" = true)
    (k_is_list : PySem.W.keepIn K (.ref f_is_list) = true)
    (a_rule_right : PySem.W.nsIn K mainGlobals "rule_right" = some (some (.ref f_rule_right)))
    (l_rule_right : K.lookup f_rule_right = some ⟨oc_rule_right, od_rule_right, .func (PySem.W.fnOf "rule_right" "rule_right" (defArgs s_rule_right) (defBody s_rule_right) (defScope s_rule_right) .none kV_rule_right dc_rule_right pm_rule_right an_rule_right cd_rule_right ct_rule_right), sl_rule_right⟩)
    (c_rule_right : PySem.W.codeIn K cd_rule_right "rule_right" = true)
    (k_rule_right : PySem.W.keepIn K (.ref f_rule_right) = true)
    (a_rules_right : PySem.W.nsIn K mainGlobals "rules_right" = some (some (.ref f_rules_right)))
    (l_rules_right : K.lookup f_rules_right = some ⟨oc_rules_right, od_rules_right, .func (PySem.W.fnOf "rules_right" "rules_right" (defArgs s_rules_right) (defBody s_rules_right) (defScope s_rules_right) .none kV_rules_right dc_rules_right pm_rules_right an_rules_right cd_rules_right ct_rules_right), sl_rules_right⟩)
    (c_rules_right : PySem.W.codeIn K cd_rules_right "rules_right" = true)
    (k_rules_right : PySem.W.keepIn K (.ref f_rules_right) = true)
    (a_need_parts : PySem.W.nsIn K mainGlobals "need_parts" = some (some (.ref f_need_parts)))
    (l_need_parts : K.lookup f_need_parts = some ⟨oc_need_parts, od_need_parts, .func (PySem.W.fnOf "need_parts" "need_parts" (defArgs s_need_parts) (defBody s_need_parts) (defScope s_need_parts) .none kV_need_parts dc_need_parts pm_need_parts an_need_parts cd_need_parts ct_need_parts), sl_need_parts⟩)
    (c_need_parts : PySem.W.codeIn K cd_need_parts "need_parts" = true)
    (k_need_parts : PySem.W.keepIn K (.ref f_need_parts) = true)
    (a_is_live_by : PySem.W.nsIn K mainGlobals "is_live_by" = some (some (.ref f_is_live_by)))
    (l_is_live_by : K.lookup f_is_live_by = some ⟨oc_is_live_by, od_is_live_by, .func (PySem.W.fnOf "is_live_by" "is_live_by" (defArgs s_is_live_by) (defBody s_is_live_by) (defScope s_is_live_by) .none kV_is_live_by dc_is_live_by pm_is_live_by an_is_live_by cd_is_live_by ct_is_live_by), sl_is_live_by⟩)
    (c_is_live_by : PySem.W.codeIn K cd_is_live_by "is_live_by" = true)
    (k_is_live_by : PySem.W.keepIn K (.ref f_is_live_by) = true)
    (a_live_in : PySem.W.nsIn K mainGlobals "live_in" = some (some (.ref f_live_in)))
    (l_live_in : K.lookup f_live_in = some ⟨oc_live_in, od_live_in, .func (PySem.W.fnOf "live_in" "live_in" (defArgs s_live_in) (defBody s_live_in) (defScope s_live_in) .none kV_live_in dc_live_in pm_live_in an_live_in cd_live_in ct_live_in), sl_live_in⟩)
    (c_live_in : PySem.W.codeIn K cd_live_in "live_in" = true)
    (k_live_in : PySem.W.keepIn K (.ref f_live_in) = true)
    (a_need_program : PySem.W.nsIn K mainGlobals "need_program" = some (some (.ref f_need_program)))
    (l_need_program : K.lookup f_need_program = some ⟨oc_need_program, od_need_program, .func (PySem.W.fnOf "need_program" "need_program" (defArgs s_need_program) (defBody s_need_program) (defScope s_need_program) (.ref T_need_program) kV_need_program dc_need_program pm_need_program an_need_program cd_need_program ct_need_program), sl_need_program⟩)
    (c_need_program : PySem.W.codeIn K cd_need_program "need_program" = true)
    (k_need_program : PySem.W.keepIn K (.ref f_need_program) = true)
    (t_need_program : K.lookup T_need_program = some ⟨tc_need_program, td_need_program, .seq #[Value.none] tn_need_program, ts_need_program⟩)
    (a_calls_right : PySem.W.nsIn K mainGlobals "calls_right" = some (some (.ref f_calls_right)))
    (l_calls_right : K.lookup f_calls_right = some ⟨oc_calls_right, od_calls_right, .func (PySem.W.fnOf "calls_right" "calls_right" (defArgs s_calls_right) (defBody s_calls_right) (defScope s_calls_right) .none kV_calls_right dc_calls_right pm_calls_right an_calls_right cd_calls_right ct_calls_right), sl_calls_right⟩)
    (c_calls_right : PySem.W.codeIn K cd_calls_right "calls_right" = true)
    (k_calls_right : PySem.W.keepIn K (.ref f_calls_right) = true)
    (a_row_right : PySem.W.nsIn K mainGlobals "row_right" = some (some (.ref f_row_right)))
    (l_row_right : K.lookup f_row_right = some ⟨oc_row_right, od_row_right, .func (PySem.W.fnOf "row_right" "row_right" (defArgs s_row_right) (defBody s_row_right) (defScope s_row_right) .none kV_row_right dc_row_right pm_row_right an_row_right cd_row_right ct_row_right), sl_row_right⟩)
    (c_row_right : PySem.W.codeIn K cd_row_right "row_right" = true)
    (k_row_right : PySem.W.keepIn K (.ref f_row_right) = true)
    (a_need_row : PySem.W.nsIn K mainGlobals "need_row" = some (some (.ref f_need_row)))
    (l_need_row : K.lookup f_need_row = some ⟨oc_need_row, od_need_row, .func (PySem.W.fnOf "need_row" "need_row" (defArgs s_need_row) (defBody s_need_row) (defScope s_need_row) (.ref T_need_row) kV_need_row dc_need_row pm_need_row an_need_row cd_need_row ct_need_row), sl_need_row⟩)
    (c_need_row : PySem.W.codeIn K cd_need_row "need_row" = true)
    (k_need_row : PySem.W.keepIn K (.ref f_need_row) = true)
    (t_need_row : K.lookup T_need_row = some ⟨tc_need_row, td_need_row, .seq #[Value.none] tn_need_row, ts_need_row⟩)
    (a_widened : PySem.W.nsIn K mainGlobals "widened" = some (some (.ref f_widened)))
    (l_widened : K.lookup f_widened = some ⟨oc_widened, od_widened, .func (PySem.W.fnOf "widened" "widened" (defArgs s_widened) (defBody s_widened) (defScope s_widened) .none kV_widened dc_widened pm_widened an_widened cd_widened ct_widened), sl_widened⟩)
    (c_widened : PySem.W.codeIn K cd_widened "widened" = true)
    (k_widened : PySem.W.keepIn K (.ref f_widened) = true)
    (a_joined : PySem.W.nsIn K mainGlobals "joined" = some (some (.ref f_joined)))
    (l_joined : K.lookup f_joined = some ⟨oc_joined, od_joined, .func (PySem.W.fnOf "joined" "joined" (defArgs s_joined) (defBody s_joined) (defScope s_joined) .none kV_joined dc_joined pm_joined an_joined cd_joined ct_joined), sl_joined⟩)
    (c_joined : PySem.W.codeIn K cd_joined "joined" = true)
    (k_joined : PySem.W.keepIn K (.ref f_joined) = true)
    (a_need_text : PySem.W.nsIn K mainGlobals "need_text" = some (some (.ref f_need_text)))
    (l_need_text : K.lookup f_need_text = some ⟨oc_need_text, od_need_text, .func (PySem.W.fnOf "need_text" "need_text" (defArgs s_need_text) (defBody s_need_text) (defScope s_need_text) .none kV_need_text dc_need_text pm_need_text an_need_text cd_need_text ct_need_text), sl_need_text⟩)
    (c_need_text : PySem.W.codeIn K cd_need_text "need_text" = true)
    (k_need_text : PySem.W.keepIn K (.ref f_need_text) = true)
    (a_gone : PySem.W.nsIn K mainGlobals "gone" = some (some (.ref f_gone)))
    (l_gone : K.lookup f_gone = some ⟨oc_gone, od_gone, .func (PySem.W.fnOf "gone" "gone" (defArgs s_gone) (defBody s_gone) (defScope s_gone) .none kV_gone dc_gone pm_gone an_gone cd_gone ct_gone), sl_gone⟩)
    (c_gone : PySem.W.codeIn K cd_gone "gone" = true)
    (k_gone : PySem.W.keepIn K (.ref f_gone) = true)
    (a_need_reading : PySem.W.nsIn K mainGlobals "need_reading" = some (some (.ref f_need_reading)))
    (l_need_reading : K.lookup f_need_reading = some ⟨oc_need_reading, od_need_reading, .func (PySem.W.fnOf "need_reading" "need_reading" (defArgs s_need_reading) (defBody s_need_reading) (defScope s_need_reading) .none kV_need_reading dc_need_reading pm_need_reading an_need_reading cd_need_reading ct_need_reading), sl_need_reading⟩)
    (c_need_reading : PySem.W.codeIn K cd_need_reading "need_reading" = true)
    (k_need_reading : PySem.W.keepIn K (.ref f_need_reading) = true)
    (a_reads : PySem.W.nsIn K mainGlobals "reads" = some (some (.ref f_reads)))
    (l_reads : K.lookup f_reads = some ⟨oc_reads, od_reads, .func (PySem.W.fnOf "reads" "reads" (defArgs s_reads) (defBody s_reads) (defScope s_reads) .none kV_reads dc_reads pm_reads an_reads cd_reads ct_reads), sl_reads⟩)
    (c_reads : PySem.W.codeIn K cd_reads "reads" = true)
    (k_reads : PySem.W.keepIn K (.ref f_reads) = true)
    (a__law_begun : PySem.W.nsIn K mainGlobals "_law_begun" = some (some (.ref f__law_begun)))
    (l__law_begun : K.lookup f__law_begun = some ⟨oc__law_begun, od__law_begun, .func (PySem.W.fnOf "_law_begun" "_law_begun" (defArgs s__law_begun) (defBody s__law_begun) (defScope s__law_begun) .none kV__law_begun dc__law_begun pm__law_begun an__law_begun cd__law_begun ct__law_begun), sl__law_begun⟩)
    (c__law_begun : PySem.W.codeIn K cd__law_begun "_law_begun" = true)
    (k__law_begun : PySem.W.keepIn K (.ref f__law_begun) = true)
    (a__law_blended : PySem.W.nsIn K mainGlobals "_law_blended" = some (some (.ref f__law_blended)))
    (l__law_blended : K.lookup f__law_blended = some ⟨oc__law_blended, od__law_blended, .func (PySem.W.fnOf "_law_blended" "_law_blended" (defArgs s__law_blended) (defBody s__law_blended) (defScope s__law_blended) .none kV__law_blended dc__law_blended pm__law_blended an__law_blended cd__law_blended ct__law_blended), sl__law_blended⟩)
    (c__law_blended : PySem.W.codeIn K cd__law_blended "_law_blended" = true)
    (k__law_blended : PySem.W.keepIn K (.ref f__law_blended) = true)
    (a__law_draw : PySem.W.nsIn K mainGlobals "_law_draw" = some (some (.ref f__law_draw)))
    (l__law_draw : K.lookup f__law_draw = some ⟨oc__law_draw, od__law_draw, .func (PySem.W.fnOf "_law_draw" "_law_draw" (defArgs s__law_draw) (defBody s__law_draw) (defScope s__law_draw) .none kV__law_draw dc__law_draw pm__law_draw an__law_draw cd__law_draw ct__law_draw), sl__law_draw⟩)
    (c__law_draw : PySem.W.codeIn K cd__law_draw "_law_draw" = true)
    (k__law_draw : PySem.W.keepIn K (.ref f__law_draw) = true)
    (a__law_pick : PySem.W.nsIn K mainGlobals "_law_pick" = some (some (.ref f__law_pick)))
    (l__law_pick : K.lookup f__law_pick = some ⟨oc__law_pick, od__law_pick, .func (PySem.W.fnOf "_law_pick" "_law_pick" (defArgs s__law_pick) (defBody s__law_pick) (defScope s__law_pick) .none kV__law_pick dc__law_pick pm__law_pick an__law_pick cd__law_pick ct__law_pick), sl__law_pick⟩)
    (c__law_pick : PySem.W.codeIn K cd__law_pick "_law_pick" = true)
    (k__law_pick : PySem.W.keepIn K (.ref f__law_pick) = true)
    (a__law_caught : PySem.W.nsIn K mainGlobals "_law_caught" = some (some (.ref f__law_caught)))
    (l__law_caught : K.lookup f__law_caught = some ⟨oc__law_caught, od__law_caught, .func (PySem.W.fnOf "_law_caught" "_law_caught" (defArgs s__law_caught) (defBody s__law_caught) (defScope s__law_caught) .none kV__law_caught dc__law_caught pm__law_caught an__law_caught cd__law_caught ct__law_caught), sl__law_caught⟩)
    (c__law_caught : PySem.W.codeIn K cd__law_caught "_law_caught" = true)
    (k__law_caught : PySem.W.keepIn K (.ref f__law_caught) = true)
    (a__law_is_truth : PySem.W.nsIn K mainGlobals "_law_is_truth" = some (some (.ref f__law_is_truth)))
    (l__law_is_truth : K.lookup f__law_is_truth = some ⟨oc__law_is_truth, od__law_is_truth, .func (PySem.W.fnOf "_law_is_truth" "_law_is_truth" (defArgs s__law_is_truth) (defBody s__law_is_truth) (defScope s__law_is_truth) .none kV__law_is_truth dc__law_is_truth pm__law_is_truth an__law_is_truth cd__law_is_truth ct__law_is_truth), sl__law_is_truth⟩)
    (c__law_is_truth : PySem.W.codeIn K cd__law_is_truth "_law_is_truth" = true)
    (k__law_is_truth : PySem.W.keepIn K (.ref f__law_is_truth) = true)
    (a__law_same : PySem.W.nsIn K mainGlobals "_law_same" = some (some (.ref f__law_same)))
    (l__law_same : K.lookup f__law_same = some ⟨oc__law_same, od__law_same, .func (PySem.W.fnOf "_law_same" "_law_same" (defArgs s__law_same) (defBody s__law_same) (defScope s__law_same) .none kV__law_same dc__law_same pm__law_same an__law_same cd__law_same ct__law_same), sl__law_same⟩)
    (c__law_same : PySem.W.codeIn K cd__law_same "_law_same" = true)
    (k__law_same : PySem.W.keepIn K (.ref f__law_same) = true)
    (a__law_sk_live : PySem.W.nsIn K mainGlobals "_law_sk_live" = some (some (.ref f__law_sk_live)))
    (l__law_sk_live : K.lookup f__law_sk_live = some ⟨oc__law_sk_live, od__law_sk_live, .func (PySem.W.fnOf "_law_sk_live" "_law_sk_live" (defArgs s__law_sk_live) (defBody s__law_sk_live) (defScope s__law_sk_live) .none kV__law_sk_live dc__law_sk_live pm__law_sk_live an__law_sk_live cd__law_sk_live ct__law_sk_live), sl__law_sk_live⟩)
    (c__law_sk_live : PySem.W.codeIn K cd__law_sk_live "_law_sk_live" = true)
    (k__law_sk_live : PySem.W.keepIn K (.ref f__law_sk_live) = true)
    (a__law_sk_rules : PySem.W.nsIn K mainGlobals "_law_sk_rules" = some (some (.ref f__law_sk_rules)))
    (l__law_sk_rules : K.lookup f__law_sk_rules = some ⟨oc__law_sk_rules, od__law_sk_rules, .func (PySem.W.fnOf "_law_sk_rules" "_law_sk_rules" (defArgs s__law_sk_rules) (defBody s__law_sk_rules) (defScope s__law_sk_rules) .none kV__law_sk_rules dc__law_sk_rules pm__law_sk_rules an__law_sk_rules cd__law_sk_rules ct__law_sk_rules), sl__law_sk_rules⟩)
    (c__law_sk_rules : PySem.W.codeIn K cd__law_sk_rules "_law_sk_rules" = true)
    (k__law_sk_rules : PySem.W.keepIn K (.ref f__law_sk_rules) = true)
    (a__law_sk_row : PySem.W.nsIn K mainGlobals "_law_sk_row" = some (some (.ref f__law_sk_row)))
    (l__law_sk_row : K.lookup f__law_sk_row = some ⟨oc__law_sk_row, od__law_sk_row, .func (PySem.W.fnOf "_law_sk_row" "_law_sk_row" (defArgs s__law_sk_row) (defBody s__law_sk_row) (defScope s__law_sk_row) .none kV__law_sk_row dc__law_sk_row pm__law_sk_row an__law_sk_row cd__law_sk_row ct__law_sk_row), sl__law_sk_row⟩)
    (c__law_sk_row : PySem.W.codeIn K cd__law_sk_row "_law_sk_row" = true)
    (k__law_sk_row : PySem.W.keepIn K (.ref f__law_sk_row) = true)
    (a__law_sk_gone : PySem.W.nsIn K mainGlobals "_law_sk_gone" = some (some (.ref f__law_sk_gone)))
    (l__law_sk_gone : K.lookup f__law_sk_gone = some ⟨oc__law_sk_gone, od__law_sk_gone, .func (PySem.W.fnOf "_law_sk_gone" "_law_sk_gone" (defArgs s__law_sk_gone) (defBody s__law_sk_gone) (defScope s__law_sk_gone) .none kV__law_sk_gone dc__law_sk_gone pm__law_sk_gone an__law_sk_gone cd__law_sk_gone ct__law_sk_gone), sl__law_sk_gone⟩)
    (c__law_sk_gone : PySem.W.codeIn K cd__law_sk_gone "_law_sk_gone" = true)
    (k__law_sk_gone : PySem.W.keepIn K (.ref f__law_sk_gone) = true)
    (a__law_sk_text : PySem.W.nsIn K mainGlobals "_law_sk_text" = some (some (.ref f__law_sk_text)))
    (l__law_sk_text : K.lookup f__law_sk_text = some ⟨oc__law_sk_text, od__law_sk_text, .func (PySem.W.fnOf "_law_sk_text" "_law_sk_text" (defArgs s__law_sk_text) (defBody s__law_sk_text) (defScope s__law_sk_text) .none kV__law_sk_text dc__law_sk_text pm__law_sk_text an__law_sk_text cd__law_sk_text ct__law_sk_text), sl__law_sk_text⟩)
    (c__law_sk_text : PySem.W.codeIn K cd__law_sk_text "_law_sk_text" = true)
    (k__law_sk_text : PySem.W.keepIn K (.ref f__law_sk_text) = true)
    (a__law_sk_no_program : PySem.W.nsIn K mainGlobals "_law_sk_no_program" = some (some (.ref f__law_sk_no_program)))
    (l__law_sk_no_program : K.lookup f__law_sk_no_program = some ⟨oc__law_sk_no_program, od__law_sk_no_program, .func (PySem.W.fnOf "_law_sk_no_program" "_law_sk_no_program" (defArgs s__law_sk_no_program) (defBody s__law_sk_no_program) (defScope s__law_sk_no_program) .none kV__law_sk_no_program dc__law_sk_no_program pm__law_sk_no_program an__law_sk_no_program cd__law_sk_no_program ct__law_sk_no_program), sl__law_sk_no_program⟩)
    (c__law_sk_no_program : PySem.W.codeIn K cd__law_sk_no_program "_law_sk_no_program" = true)
    (k__law_sk_no_program : PySem.W.keepIn K (.ref f__law_sk_no_program) = true)
    (a__law_came : PySem.W.nsIn K mainGlobals "_law_came" = some (some (.ref f__law_came)))
    (l__law_came : K.lookup f__law_came = some ⟨oc__law_came, od__law_came, .func (PySem.W.fnOf "_law_came" "_law_came" (defArgs s__law_came) (defBody s__law_came) (defScope s__law_came) .none kV__law_came dc__law_came pm__law_came an__law_came cd__law_came ct__law_came), sl__law_came⟩)
    (c__law_came : PySem.W.codeIn K cd__law_came "_law_came" = true)
    (k__law_came : PySem.W.keepIn K (.ref f__law_came) = true)
    (a_law : PySem.W.nsIn K mainGlobals "law" = some (some (.ref f_law)))
    (l_law : K.lookup f_law = some ⟨oc_law, od_law, .func (PySem.W.fnOf "law" "law" (defArgs s_law) (defBody s_law) (defScope s_law) .none kV_law dc_law pm_law an_law (.ref cdL) ct_law), sl_law⟩)
    (c_law : PySem.W.codeIn K (.ref cdL) "law" = true)
    (k_law : PySem.W.keepIn K (.ref f_law) = true)
    (t1_law : K.lookup cdL = some ⟨ecl_law, edd_law, .fields evs_law, esl_law⟩)
    (t2_law : evs_law[11]? = some (.ref PtL))
    (t3_law : PySem.W.tabIn K "law" = some (cdL, PtL))
    (t4_law : K.lookup PtL = none)
    : ∃ (fd : FuncData) (c P : Addr), PySem.W.tabIn K "law" = some (c, P) ∧ K.lookup P = none ∧ (∀ (s : Shared) (v : Value), BindsTo s fd ⟨[v], []⟩ [("script", v)]) ∧ ∀ base : Heap, K.In base → base.Ns mainGlobals mg → LamX.TabB base mg c P → FnOk l.prog w K mg base (L2.CX l.prog w) 11 fa fd ["script"] (spLaw K [(P, lawL)]) := by
  have e := hfa.symm.trans (PySem.W.mg_of X G a_law)
  cases e
  have T : Txt l.prog K mg := ⟨⟨_, PySem.W.mg_of X G n_MOST_CALLS⟩,
    ⟨_, PySem.W.mg_of X G n_MOST_LETTERS⟩,
    ⟨_, PySem.W.mg_of X G n_MOST_PROCEDURES⟩,
    ⟨_, PySem.W.mg_of X G n_MOST_ROW⟩,
    ⟨_, PySem.W.mg_of X G n_MOST_TEXT⟩,
    ⟨_, PySem.W.mg_of X G aCNoProgram⟩,
    ⟨_, PySem.W.mg_of X G aCNoRoom⟩,
    ⟨_, PySem.W.mg_of X G aCProgram⟩,
    fun r => ⟨CProgram, PySem.W.mg_of X G aCProgram, ⟨pgProgram, hdProgram, poProgram, saProgram⟩, kc1Program, oc1, oc2, kc2Program, fun t ht => by
      simp only [List.mem_cons, List.not_mem_nil, or_false] at ht
      rcases ht with rfl | rfl | rfl | rfl | rfl | rfl | rfl
      · exact ktNoneTypeProgram
      · exact ktboolProgram
      · exact ktintProgram
      · exact ktstrProgram
      · exact kttupleProgram
      · exact ktlistProgram
      · exact ktdictProgram⟩,
    ⟨CNoProgram, PySem.W.mg_of X G aCNoProgram, fun k hk => by
      simp only [List.mem_cons, List.not_mem_nil, or_false] at hk
      rcases hk with rfl | rfl | rfl | rfl | rfl | rfl | rfl
      · exact ktNoneTypeNoProgram
      · exact ktboolNoProgram
      · exact ktintNoProgram
      · exact ktstrNoProgram
      · exact kttupleNoProgram
      · exact ktlistNoProgram
      · exact ktdictNoProgram, fun k hk => by
      simp only [List.mem_cons, List.not_mem_nil, or_false] at hk
      rcases hk with rfl
      · exact ⟨CNoProgram, PySem.W.mg_of X G aCNoProgram, ⟨⟨xgaNoProgram, xggNoProgram, xexNoProgram, xhdNoProgram⟩, xclNoProgram, xcaNoProgram, oc1, oc2, xcmNoProgram⟩, kiNoProgram_NoProgram⟩, fun k hk => by
      simp only [List.mem_cons, List.not_mem_nil, or_false] at hk
      rcases hk with rfl
      · exact ⟨CNoRoom, PySem.W.mg_of X G aCNoRoom, ⟨⟨xgaNoRoom, xggNoRoom, xexNoRoom, xhdNoRoom⟩, xclNoRoom, xcaNoRoom, oc1, oc2, xcmNoRoom⟩, kiNoRoom_NoProgram⟩⟩,
    ⟨CNoRoom, PySem.W.mg_of X G aCNoRoom, fun k hk => by
      simp only [List.mem_cons, List.not_mem_nil, or_false] at hk
      rcases hk with rfl | rfl | rfl | rfl | rfl | rfl | rfl
      · exact ktNoneTypeNoRoom
      · exact ktboolNoRoom
      · exact ktintNoRoom
      · exact ktstrNoRoom
      · exact kttupleNoRoom
      · exact ktlistNoRoom
      · exact ktdictNoRoom, fun k hk => by
      simp only [List.mem_cons, List.not_mem_nil, or_false] at hk
      rcases hk with rfl
      · exact ⟨CNoRoom, PySem.W.mg_of X G aCNoRoom, ⟨⟨xgaNoRoom, xggNoRoom, xexNoRoom, xhdNoRoom⟩, xclNoRoom, xcaNoRoom, oc1, oc2, xcmNoRoom⟩, kiNoRoom_NoRoom⟩, fun k hk => by
      simp only [List.mem_cons, List.not_mem_nil, or_false] at hk
      rcases hk with rfl
      · exact ⟨CNoProgram, PySem.W.mg_of X G aCNoProgram, ⟨⟨xgaNoProgram, xggNoProgram, xexNoProgram, xhdNoProgram⟩, xclNoProgram, xcaNoProgram, oc1, oc2, xcmNoProgram⟩, kiNoProgram_NoRoom⟩⟩,
    fun r => ⟨CProgram, PySem.W.mg_of X G aCProgram, ⟨pgProgram, hdProgram, poProgram, saProgram⟩, naProgram_own_letters⟩,
    fun r => ⟨CProgram, PySem.W.mg_of X G aCProgram, ⟨pgProgram, hdProgram, poProgram, saProgram⟩, naProgram_own_rules⟩,
    ⟨CStackError, PySem.W.mg_of X G aCStackError, fun k hk => by
      simp only [List.mem_cons, List.not_mem_nil, or_false] at hk
      rcases hk with rfl | rfl
      · exact ⟨CNoProgram, PySem.W.mg_of X G aCNoProgram, xmNoProgram⟩
      · exact ⟨CNoRoom, PySem.W.mg_of X G aCNoRoom, xmNoRoom⟩⟩,
    ⟨CProgram, fiProgram, PySem.W.mg_of X G aCProgram, ⟨mk1Program, mk2Program, mk3Program, mk4Program⟩, _, ⟨⟨ociProgram, odiProgram, _, kViProgram, dciProgram, pmiProgram, aniProgram, cdiProgram, ctiProgram, sliProgram, rfl, liProgram, ciProgram, .inl ⟨rfl, rfl⟩, .inl rfl⟩, kiProgram⟩⟩,
    ⟨CProgram, qpProgram_letters, fpProgram_letters, _, PySem.W.mg_of X G aCProgram, ⟨pgProgram, hdProgram, poProgram, saProgram⟩, ⟨u1pProgram_letters, u2pProgram_letters, u3pProgram_letters, _, u4pProgram_letters⟩, naProgram_own_letters, ⟨⟨ocpProgram_letters, odpProgram_letters, _, kVpProgram_letters, dcpProgram_letters, pmpProgram_letters, anpProgram_letters, cdpProgram_letters, ctpProgram_letters, slpProgram_letters, rfl, lpProgram_letters, cpProgram_letters, .inl ⟨rfl, rfl⟩, .inl rfl⟩, kpProgram_letters⟩⟩,
    ⟨CProgram, qpProgram_rules, fpProgram_rules, _, PySem.W.mg_of X G aCProgram, ⟨pgProgram, hdProgram, poProgram, saProgram⟩, ⟨u1pProgram_rules, u2pProgram_rules, u3pProgram_rules, _, u4pProgram_rules⟩, naProgram_own_rules, ⟨⟨ocpProgram_rules, odpProgram_rules, _, kVpProgram_rules, dcpProgram_rules, pmpProgram_rules, anpProgram_rules, cdpProgram_rules, ctpProgram_rules, slpProgram_rules, rfl, lpProgram_rules, cpProgram_rules, .inl ⟨rfl, rfl⟩, .inl rfl⟩, kpProgram_rules⟩⟩,
    ⟨CNoProgram, CPartError, fIsPartError, _, PySem.W.mg_of X G aCNoProgram, ⟨⟨⟨nmNoProgram, qnNoProgram, NNoProgram, bsNoProgram, bmNoProgram, snNoProgram, sbNoProgram, abNoProgram, colNoProgram, ddNoProgram, kaNoProgram, kbNoProgram, kcNoProgram, kdNoProgram, kfNoProgram, o1NoProgram, o2NoProgram⟩, saNoProgram, xexNoProgram, o5NoProgram, o6NoProgram⟩, o7NoProgram, o8NoProgram, o9NoProgram, xnoNoProgram_part⟩, oiNoProgram, qtsPartError, ⟨⟨ocsPartError, kVsPartError, dcsPartError, pmsPartError, ctsPartError, cclsPartError, clsPartError, odsPartError, ansPartError, cddsPartError, cldsPartError, oslsPartError, ccssPartError, cslsPartError, cdasPartError, ccsPartError, vssPartError, filesPartError, tfsPartError, rfl, q2sPartError, q3sPartError, q4sPartError, q5sPartError, q6sPartError, q7sPartError⟩, q8sPartError, PySem.W.mg_none_of X G z_super, q9any, q9top⟩, fun s us _ hl => match us, hl with | [_, _], _ => .of_eq rfl⟩,
    ⟨CNoRoom, PySem.W.mg_of X G aCNoRoom, oeNoRoom, o6NoRoom, xexNoRoom, o5NoRoom⟩,
    ⟨fun k hk => by
      simp only [List.mem_cons, List.not_mem_nil, or_false] at hk
      rcases hk with rfl
      · exact ⟨CNoProgram, PySem.W.mg_of X G aCNoProgram, ⟨xgaNoProgram, xggNoProgram, xexNoProgram, xhdNoProgram⟩, xnoNoProgram_part⟩⟩,
    PySem.W.mg_none_of X G z_abs,
    PySem.W.mg_none_of X G z_all,
    PySem.W.mg_none_of X G z_any,
    PySem.W.mg_none_of X G z_bool,
    PySem.W.mg_none_of X G z_dict,
    PySem.W.mg_none_of X G z_enumerate,
    PySem.W.mg_none_of X G z_int,
    PySem.W.mg_none_of X G z_isinstance,
    PySem.W.mg_none_of X G z_len,
    PySem.W.mg_none_of X G z_list,
    PySem.W.mg_none_of X G z_max,
    PySem.W.mg_none_of X G z_min,
    PySem.W.mg_none_of X G z_range,
    PySem.W.mg_none_of X G z_str,
    PySem.W.mg_none_of X G z_tuple,
    PySem.W.mg_none_of X G z_zip,
    ⟨f_is_number, _, PySem.W.mg_of X G a_is_number, ⟨⟨oc_is_number, od_is_number, _, kV_is_number, dc_is_number, pm_is_number, an_is_number, cd_is_number, ct_is_number, sl_is_number, rfl, l_is_number, c_is_number, .inl ⟨rfl, rfl⟩, .inl rfl⟩, k_is_number⟩⟩,
    ⟨f_is_between, _, PySem.W.mg_of X G a_is_between, ⟨⟨oc_is_between, od_is_between, _, kV_is_between, dc_is_between, pm_is_between, an_is_between, cd_is_between, ct_is_between, sl_is_between, rfl, l_is_between, c_is_between, .inl ⟨rfl, rfl⟩, .inl rfl⟩, k_is_between⟩⟩,
    ⟨f_is_list, _, PySem.W.mg_of X G a_is_list, ⟨⟨oc_is_list, od_is_list, _, kV_is_list, dc_is_list, pm_is_list, an_is_list, cd_is_list, ct_is_list, sl_is_list, rfl, l_is_list, c_is_list, .inl ⟨rfl, rfl⟩, .inl rfl⟩, k_is_list⟩⟩,
    ⟨f_rule_right, _, PySem.W.mg_of X G a_rule_right, ⟨⟨oc_rule_right, od_rule_right, _, kV_rule_right, dc_rule_right, pm_rule_right, an_rule_right, cd_rule_right, ct_rule_right, sl_rule_right, rfl, l_rule_right, c_rule_right, .inl ⟨rfl, rfl⟩, .inl rfl⟩, k_rule_right⟩⟩,
    ⟨f_rules_right, _, PySem.W.mg_of X G a_rules_right, ⟨⟨oc_rules_right, od_rules_right, _, kV_rules_right, dc_rules_right, pm_rules_right, an_rules_right, cd_rules_right, ct_rules_right, sl_rules_right, rfl, l_rules_right, c_rules_right, .inl ⟨rfl, rfl⟩, .inl rfl⟩, k_rules_right⟩⟩,
    ⟨f_need_parts, _, PySem.W.mg_of X G a_need_parts, ⟨⟨oc_need_parts, od_need_parts, _, kV_need_parts, dc_need_parts, pm_need_parts, an_need_parts, cd_need_parts, ct_need_parts, sl_need_parts, rfl, l_need_parts, c_need_parts, .inl ⟨rfl, rfl⟩, .inl rfl⟩, k_need_parts⟩⟩,
    ⟨f_is_live_by, _, PySem.W.mg_of X G a_is_live_by, ⟨⟨oc_is_live_by, od_is_live_by, _, kV_is_live_by, dc_is_live_by, pm_is_live_by, an_is_live_by, cd_is_live_by, ct_is_live_by, sl_is_live_by, rfl, l_is_live_by, c_is_live_by, .inl ⟨rfl, rfl⟩, .inl rfl⟩, k_is_live_by⟩⟩,
    ⟨f_live_in, _, PySem.W.mg_of X G a_live_in, ⟨⟨oc_live_in, od_live_in, _, kV_live_in, dc_live_in, pm_live_in, an_live_in, cd_live_in, ct_live_in, sl_live_in, rfl, l_live_in, c_live_in, .inl ⟨rfl, rfl⟩, .inl rfl⟩, k_live_in⟩⟩,
    ⟨f_need_program, _, PySem.W.mg_of X G a_need_program, ⟨⟨oc_need_program, od_need_program, _, kV_need_program, dc_need_program, pm_need_program, an_need_program, cd_need_program, ct_need_program, sl_need_program, rfl, l_need_program, c_need_program, .inr ⟨by simp, T_need_program, _, [Value.none], tn_need_program, rfl, t_need_program, rfl, (.cons rfl .nil)⟩, .inl rfl⟩, k_need_program⟩⟩,
    ⟨f_calls_right, _, PySem.W.mg_of X G a_calls_right, ⟨⟨oc_calls_right, od_calls_right, _, kV_calls_right, dc_calls_right, pm_calls_right, an_calls_right, cd_calls_right, ct_calls_right, sl_calls_right, rfl, l_calls_right, c_calls_right, .inl ⟨rfl, rfl⟩, .inl rfl⟩, k_calls_right⟩⟩,
    ⟨f_row_right, _, PySem.W.mg_of X G a_row_right, ⟨⟨oc_row_right, od_row_right, _, kV_row_right, dc_row_right, pm_row_right, an_row_right, cd_row_right, ct_row_right, sl_row_right, rfl, l_row_right, c_row_right, .inl ⟨rfl, rfl⟩, .inl rfl⟩, k_row_right⟩⟩,
    ⟨f_need_row, _, PySem.W.mg_of X G a_need_row, ⟨⟨oc_need_row, od_need_row, _, kV_need_row, dc_need_row, pm_need_row, an_need_row, cd_need_row, ct_need_row, sl_need_row, rfl, l_need_row, c_need_row, .inr ⟨by simp, T_need_row, _, [Value.none], tn_need_row, rfl, t_need_row, rfl, (.cons rfl .nil)⟩, .inl rfl⟩, k_need_row⟩⟩,
    ⟨f_widened, _, PySem.W.mg_of X G a_widened, ⟨⟨oc_widened, od_widened, _, kV_widened, dc_widened, pm_widened, an_widened, cd_widened, ct_widened, sl_widened, rfl, l_widened, c_widened, .inl ⟨rfl, rfl⟩, .inl rfl⟩, k_widened⟩⟩,
    ⟨f_joined, _, PySem.W.mg_of X G a_joined, ⟨⟨oc_joined, od_joined, _, kV_joined, dc_joined, pm_joined, an_joined, cd_joined, ct_joined, sl_joined, rfl, l_joined, c_joined, .inl ⟨rfl, rfl⟩, .inl rfl⟩, k_joined⟩⟩,
    ⟨f_need_text, _, PySem.W.mg_of X G a_need_text, ⟨⟨oc_need_text, od_need_text, _, kV_need_text, dc_need_text, pm_need_text, an_need_text, cd_need_text, ct_need_text, sl_need_text, rfl, l_need_text, c_need_text, .inl ⟨rfl, rfl⟩, .inl rfl⟩, k_need_text⟩⟩,
    ⟨f_gone, _, PySem.W.mg_of X G a_gone, ⟨⟨oc_gone, od_gone, _, kV_gone, dc_gone, pm_gone, an_gone, cd_gone, ct_gone, sl_gone, rfl, l_gone, c_gone, .inl ⟨rfl, rfl⟩, .inl rfl⟩, k_gone⟩⟩,
    ⟨f_need_reading, _, PySem.W.mg_of X G a_need_reading, ⟨⟨oc_need_reading, od_need_reading, _, kV_need_reading, dc_need_reading, pm_need_reading, an_need_reading, cd_need_reading, ct_need_reading, sl_need_reading, rfl, l_need_reading, c_need_reading, .inl ⟨rfl, rfl⟩, .inl rfl⟩, k_need_reading⟩⟩,
    ⟨f_reads, _, PySem.W.mg_of X G a_reads, ⟨⟨oc_reads, od_reads, _, kV_reads, dc_reads, pm_reads, an_reads, cd_reads, ct_reads, sl_reads, rfl, l_reads, c_reads, .inl ⟨rfl, rfl⟩, .inl rfl⟩, k_reads⟩⟩,
    ⟨f__law_begun, _, PySem.W.mg_of X G a__law_begun, ⟨⟨oc__law_begun, od__law_begun, _, kV__law_begun, dc__law_begun, pm__law_begun, an__law_begun, cd__law_begun, ct__law_begun, sl__law_begun, rfl, l__law_begun, c__law_begun, .inl ⟨rfl, rfl⟩, .inl rfl⟩, k__law_begun⟩⟩,
    ⟨f__law_blended, _, PySem.W.mg_of X G a__law_blended, ⟨⟨oc__law_blended, od__law_blended, _, kV__law_blended, dc__law_blended, pm__law_blended, an__law_blended, cd__law_blended, ct__law_blended, sl__law_blended, rfl, l__law_blended, c__law_blended, .inl ⟨rfl, rfl⟩, .inl rfl⟩, k__law_blended⟩⟩,
    ⟨f__law_draw, _, PySem.W.mg_of X G a__law_draw, ⟨⟨oc__law_draw, od__law_draw, _, kV__law_draw, dc__law_draw, pm__law_draw, an__law_draw, cd__law_draw, ct__law_draw, sl__law_draw, rfl, l__law_draw, c__law_draw, .inl ⟨rfl, rfl⟩, .inl rfl⟩, k__law_draw⟩⟩,
    ⟨f__law_pick, _, PySem.W.mg_of X G a__law_pick, ⟨⟨oc__law_pick, od__law_pick, _, kV__law_pick, dc__law_pick, pm__law_pick, an__law_pick, cd__law_pick, ct__law_pick, sl__law_pick, rfl, l__law_pick, c__law_pick, .inl ⟨rfl, rfl⟩, .inl rfl⟩, k__law_pick⟩⟩,
    ⟨f__law_caught, _, PySem.W.mg_of X G a__law_caught, ⟨⟨oc__law_caught, od__law_caught, _, kV__law_caught, dc__law_caught, pm__law_caught, an__law_caught, cd__law_caught, ct__law_caught, sl__law_caught, rfl, l__law_caught, c__law_caught, .inl ⟨rfl, rfl⟩, .inl rfl⟩, k__law_caught⟩⟩,
    ⟨f__law_is_truth, _, PySem.W.mg_of X G a__law_is_truth, ⟨⟨oc__law_is_truth, od__law_is_truth, _, kV__law_is_truth, dc__law_is_truth, pm__law_is_truth, an__law_is_truth, cd__law_is_truth, ct__law_is_truth, sl__law_is_truth, rfl, l__law_is_truth, c__law_is_truth, .inl ⟨rfl, rfl⟩, .inl rfl⟩, k__law_is_truth⟩⟩,
    ⟨f__law_same, _, PySem.W.mg_of X G a__law_same, ⟨⟨oc__law_same, od__law_same, _, kV__law_same, dc__law_same, pm__law_same, an__law_same, cd__law_same, ct__law_same, sl__law_same, rfl, l__law_same, c__law_same, .inl ⟨rfl, rfl⟩, .inl rfl⟩, k__law_same⟩⟩,
    ⟨f__law_sk_live, _, PySem.W.mg_of X G a__law_sk_live, ⟨⟨oc__law_sk_live, od__law_sk_live, _, kV__law_sk_live, dc__law_sk_live, pm__law_sk_live, an__law_sk_live, cd__law_sk_live, ct__law_sk_live, sl__law_sk_live, rfl, l__law_sk_live, c__law_sk_live, .inl ⟨rfl, rfl⟩, .inl rfl⟩, k__law_sk_live⟩⟩,
    ⟨f__law_sk_rules, _, PySem.W.mg_of X G a__law_sk_rules, ⟨⟨oc__law_sk_rules, od__law_sk_rules, _, kV__law_sk_rules, dc__law_sk_rules, pm__law_sk_rules, an__law_sk_rules, cd__law_sk_rules, ct__law_sk_rules, sl__law_sk_rules, rfl, l__law_sk_rules, c__law_sk_rules, .inl ⟨rfl, rfl⟩, .inl rfl⟩, k__law_sk_rules⟩⟩,
    ⟨f__law_sk_row, _, PySem.W.mg_of X G a__law_sk_row, ⟨⟨oc__law_sk_row, od__law_sk_row, _, kV__law_sk_row, dc__law_sk_row, pm__law_sk_row, an__law_sk_row, cd__law_sk_row, ct__law_sk_row, sl__law_sk_row, rfl, l__law_sk_row, c__law_sk_row, .inl ⟨rfl, rfl⟩, .inl rfl⟩, k__law_sk_row⟩⟩,
    ⟨f__law_sk_gone, _, PySem.W.mg_of X G a__law_sk_gone, ⟨⟨oc__law_sk_gone, od__law_sk_gone, _, kV__law_sk_gone, dc__law_sk_gone, pm__law_sk_gone, an__law_sk_gone, cd__law_sk_gone, ct__law_sk_gone, sl__law_sk_gone, rfl, l__law_sk_gone, c__law_sk_gone, .inl ⟨rfl, rfl⟩, .inl rfl⟩, k__law_sk_gone⟩⟩,
    ⟨f__law_sk_text, _, PySem.W.mg_of X G a__law_sk_text, ⟨⟨oc__law_sk_text, od__law_sk_text, _, kV__law_sk_text, dc__law_sk_text, pm__law_sk_text, an__law_sk_text, cd__law_sk_text, ct__law_sk_text, sl__law_sk_text, rfl, l__law_sk_text, c__law_sk_text, .inl ⟨rfl, rfl⟩, .inl rfl⟩, k__law_sk_text⟩⟩,
    ⟨f__law_sk_no_program, _, PySem.W.mg_of X G a__law_sk_no_program, ⟨⟨oc__law_sk_no_program, od__law_sk_no_program, _, kV__law_sk_no_program, dc__law_sk_no_program, pm__law_sk_no_program, an__law_sk_no_program, cd__law_sk_no_program, ct__law_sk_no_program, sl__law_sk_no_program, rfl, l__law_sk_no_program, c__law_sk_no_program, .inl ⟨rfl, rfl⟩, .inl rfl⟩, k__law_sk_no_program⟩⟩,
    ⟨f__law_came, _, PySem.W.mg_of X G a__law_came, ⟨⟨oc__law_came, od__law_came, _, kV__law_came, dc__law_came, pm__law_came, an__law_came, cd__law_came, ct__law_came, sl__law_came, rfl, l__law_came, c__law_came, .inl ⟨rfl, rfl⟩, .inl rfl⟩, k__law_came⟩⟩⟩
  have F : FunD K "law" "law" (defArgs s_law) (defBody s_law) (defScope s_law) [] [] _ _ := ⟨⟨oc_law, od_law, _, kV_law, dc_law, pm_law, an_law, .ref cdL, ct_law, sl_law, rfl, l_law, c_law, .inl ⟨rfl, rfl⟩, .inl rfl⟩, k_law⟩
  have b := FunD.bindsA (ps := ["script"]) F fun _ _ _ _ _ _ us hl => match us, hl with | [_], _ => rfl
  refine ⟨_, cdL, PtL, t3_law, t4_law, fun s v => b s [v] rfl, fun base _ _ TB => law_ok T F fun cdv hc p hp => ?_⟩
  refine ⟨cdL, PtL, hc.symm, TB, by rw [hp]; exact List.mem_cons_self, fun q hq _ => ?_⟩
  rw [hp] at hq
  obtain rfl := List.mem_singleton.mp hq
  rfl
theorem noCX {P : Program} {w : World} {H : Hp} {s : Shared} {e : Value} {s' : Shared} (h : L2.CX P w [] H s (fun _ _ _ => False) e s') : False := by
  obtain ⟨_, _, _, _, _, _, _, _, _, _, _, _, z⟩ := h
  exact z.elim
end K03
open PySem PySem.W PyProof.Rows
set_option maxHeartbeats 0 in
theorem PySem.Challenge.cw_stacksure_k03_whole_joined_programs_holds : PySem.Challenge.rw_stacksure_k03_whole_joined_programs.Holds := by
  w_on; o_law; k_head; (case hw => w_witness2)
  k_fill
  refine FL.walk_tabs (nm := "law") (l := PySem.Challenge.rw_stacksure_k03_whole_joined_programs) (n := 63) (k := 11) (x := "script") (CX := fun w => L2.CX PySem.Challenge.rw_stacksure_k03_whole_joined_programs.prog w) rfl (by decide) rfl ⟨rfl, by decide, by decide⟩ (by kernel_rfl) (fun w h Y => PySem.W.km_in_of Y) ?F (fun _ _ _ _ _ h => K03.noCX h)
  case F =>
    intro w mg fa h KX G hmg
    refine' K03.all_mk KX G hmg ?n_MOST_CALLS ?n_MOST_LETTERS ?n_MOST_PROCEDURES ?n_MOST_ROW ?n_MOST_TEXT ?aCNoProgram ?aCNoRoom ?aCProgram ?pgProgram ?hdProgram ?poProgram ?saProgram ?oc1 ?oc2 ?kc1Program ?kc2Program ?ktNoneTypeProgram ?ktboolProgram ?ktintProgram ?ktstrProgram ?kttupleProgram ?ktlistProgram ?ktdictProgram ?ktNoneTypeNoProgram ?ktboolNoProgram ?ktintNoProgram ?ktstrNoProgram ?kttupleNoProgram ?ktlistNoProgram ?ktdictNoProgram ?xgaNoProgram ?xggNoProgram ?xexNoProgram ?xhdNoProgram ?xclNoProgram ?xcaNoProgram ?xcmNoProgram ?kiNoProgram_NoProgram ?xgaNoRoom ?xggNoRoom ?xexNoRoom ?xhdNoRoom ?xclNoRoom ?xcaNoRoom ?xcmNoRoom ?kiNoRoom_NoProgram ?ktNoneTypeNoRoom ?ktboolNoRoom ?ktintNoRoom ?ktstrNoRoom ?kttupleNoRoom ?ktlistNoRoom ?ktdictNoRoom ?kiNoRoom_NoRoom ?kiNoProgram_NoRoom ?naProgram_own_letters ?naProgram_own_rules ?aCStackError ?xmNoProgram ?xmNoRoom ?mk1Program ?mk2Program ?mk3Program ?mk4Program ?liProgram ?ciProgram ?kiProgram ?u1pProgram_letters ?u2pProgram_letters ?u3pProgram_letters ?u4pProgram_letters ?lpProgram_letters ?cpProgram_letters ?kpProgram_letters ?u1pProgram_rules ?u2pProgram_rules ?u3pProgram_rules ?u4pProgram_rules ?lpProgram_rules ?cpProgram_rules ?kpProgram_rules ?aCPartError ?q1sPartError ?q2sPartError ?q3sPartError ?q4sPartError ?q5sPartError ?q6sPartError ?q7sPartError ?q8sPartError ?z_super ?q9any ?q9top ?qtsPartError ?o1NoProgram ?o2NoProgram ?saNoProgram ?o5NoProgram ?o6NoProgram ?o7NoProgram ?o8NoProgram ?o9NoProgram ?xnoNoProgram_part ?oiNoProgram ?oeNoRoom ?o5NoRoom ?o6NoRoom ?z_abs ?z_all ?z_any ?z_bool ?z_dict ?z_enumerate ?z_int ?z_isinstance ?z_len ?z_list ?z_max ?z_min ?z_range ?z_str ?z_tuple ?z_zip ?a_is_number ?l_is_number ?c_is_number ?k_is_number ?a_is_between ?l_is_between ?c_is_between ?k_is_between ?a_is_list ?l_is_list ?c_is_list ?k_is_list ?a_rule_right ?l_rule_right ?c_rule_right ?k_rule_right ?a_rules_right ?l_rules_right ?c_rules_right ?k_rules_right ?a_need_parts ?l_need_parts ?c_need_parts ?k_need_parts ?a_is_live_by ?l_is_live_by ?c_is_live_by ?k_is_live_by ?a_live_in ?l_live_in ?c_live_in ?k_live_in ?a_need_program ?l_need_program ?c_need_program ?k_need_program ?t_need_program ?a_calls_right ?l_calls_right ?c_calls_right ?k_calls_right ?a_row_right ?l_row_right ?c_row_right ?k_row_right ?a_need_row ?l_need_row ?c_need_row ?k_need_row ?t_need_row ?a_widened ?l_widened ?c_widened ?k_widened ?a_joined ?l_joined ?c_joined ?k_joined ?a_need_text ?l_need_text ?c_need_text ?k_need_text ?a_gone ?l_gone ?c_gone ?k_gone ?a_need_reading ?l_need_reading ?c_need_reading ?k_need_reading ?a_reads ?l_reads ?c_reads ?k_reads ?a__law_begun ?l__law_begun ?c__law_begun ?k__law_begun ?a__law_blended ?l__law_blended ?c__law_blended ?k__law_blended ?a__law_draw ?l__law_draw ?c__law_draw ?k__law_draw ?a__law_pick ?l__law_pick ?c__law_pick ?k__law_pick ?a__law_caught ?l__law_caught ?c__law_caught ?k__law_caught ?a__law_is_truth ?l__law_is_truth ?c__law_is_truth ?k__law_is_truth ?a__law_same ?l__law_same ?c__law_same ?k__law_same ?a__law_sk_live ?l__law_sk_live ?c__law_sk_live ?k__law_sk_live ?a__law_sk_rules ?l__law_sk_rules ?c__law_sk_rules ?k__law_sk_rules ?a__law_sk_row ?l__law_sk_row ?c__law_sk_row ?k__law_sk_row ?a__law_sk_gone ?l__law_sk_gone ?c__law_sk_gone ?k__law_sk_gone ?a__law_sk_text ?l__law_sk_text ?c__law_sk_text ?k__law_sk_text ?a__law_sk_no_program ?l__law_sk_no_program ?c__law_sk_no_program ?k__law_sk_no_program ?a__law_came ?l__law_came ?c__law_came ?k__law_came ?a_law ?l_law ?c_law ?k_law ?t1_law ?t2_law ?t3_law ?t4_law
    (case n_MOST_CALLS => k_is)
    (case n_MOST_LETTERS => k_is)
    (case n_MOST_PROCEDURES => k_is)
    (case n_MOST_ROW => k_is)
    (case n_MOST_TEXT => k_is)
    (case aCNoProgram => k_is)
    (case aCNoRoom => k_is)
    (case aCProgram => k_is)
    (case pgProgram => k_is)
    (case hdProgram => k_is)
    (case poProgram => k_is)
    (case saProgram => k_is)
    (case oc1 => k_is)
    (case oc2 => k_is)
    (case kc1Program => k_is)
    (case kc2Program => k_is)
    (case ktNoneTypeProgram => kit_is)
    (case ktboolProgram => kit_is)
    (case ktintProgram => kit_is)
    (case ktstrProgram => kit_is)
    (case kttupleProgram => kit_is)
    (case ktlistProgram => kit_is)
    (case ktdictProgram => kit_is)
    (case ktNoneTypeNoProgram => kit_is)
    (case ktboolNoProgram => kit_is)
    (case ktintNoProgram => kit_is)
    (case ktstrNoProgram => kit_is)
    (case kttupleNoProgram => kit_is)
    (case ktlistNoProgram => kit_is)
    (case ktdictNoProgram => kit_is)
    (case xgaNoProgram => k_is)
    (case xggNoProgram => k_is)
    (case xexNoProgram => k_is)
    (case xhdNoProgram => k_is)
    (case xclNoProgram => kernel_rfl)
    (case xcaNoProgram => k_is)
    (case xcmNoProgram => k_is)
    (case kiNoProgram_NoProgram => kit_is)
    (case xgaNoRoom => k_is)
    (case xggNoRoom => k_is)
    (case xexNoRoom => k_is)
    (case xhdNoRoom => k_is)
    (case xclNoRoom => kernel_rfl)
    (case xcaNoRoom => k_is)
    (case xcmNoRoom => k_is)
    (case kiNoRoom_NoProgram => kit_is)
    (case ktNoneTypeNoRoom => kit_is)
    (case ktboolNoRoom => kit_is)
    (case ktintNoRoom => kit_is)
    (case ktstrNoRoom => kit_is)
    (case kttupleNoRoom => kit_is)
    (case ktlistNoRoom => kit_is)
    (case ktdictNoRoom => kit_is)
    (case kiNoRoom_NoRoom => kit_is)
    (case kiNoProgram_NoRoom => kit_is)
    (case naProgram_own_letters => k_is)
    (case naProgram_own_rules => k_is)
    (case aCStackError => k_is)
    (case xmNoProgram => kernel_rfl)
    (case xmNoRoom => kernel_rfl)
    (case mk1Program => k_is)
    (case mk2Program => k_is)
    (case mk3Program => k_is)
    (case mk4Program => k_is)
    (case liProgram => k_is)
    (case ciProgram => k_is)
    (case kiProgram => k_is)
    (case u1pProgram_letters => k_is)
    (case u2pProgram_letters => k_is)
    (case u3pProgram_letters => k_is)
    (case u4pProgram_letters => k_is)
    (case lpProgram_letters => k_is)
    (case cpProgram_letters => k_is)
    (case kpProgram_letters => k_is)
    (case u1pProgram_rules => k_is)
    (case u2pProgram_rules => k_is)
    (case u3pProgram_rules => k_is)
    (case u4pProgram_rules => k_is)
    (case lpProgram_rules => k_is)
    (case cpProgram_rules => k_is)
    (case kpProgram_rules => k_is)
    (case aCPartError => k_is)
    (case q1sPartError => k_is)
    (case q2sPartError => k_is)
    (case q3sPartError => k_is)
    (case q4sPartError => k_is)
    (case q5sPartError => exact rfl)
    (case q6sPartError => first | exact rfl | kernel_rfl)
    (case q7sPartError => k_is)
    (case q8sPartError => kernel_rfl)
    (case z_super => k_is)
    (case q9any => k_is)
    (case q9top => first | exact rfl | kernel_rfl)
    (case qtsPartError => k_is)
    (case o1NoProgram => k_is)
    (case o2NoProgram => first | exact rfl | kernel_rfl)
    (case saNoProgram => k_is)
    (case o5NoProgram => k_is)
    (case o6NoProgram => k_is)
    (case o7NoProgram => k_is)
    (case o8NoProgram => kernel_rfl)
    (case o9NoProgram => k_is)
    (case xnoNoProgram_part => k_is)
    (case oiNoProgram => k_is)
    (case oeNoRoom => kernel_rfl)
    (case o5NoRoom => k_is)
    (case o6NoRoom => k_is)
    (case z_abs => k_is)
    (case z_all => k_is)
    (case z_any => k_is)
    (case z_bool => k_is)
    (case z_dict => k_is)
    (case z_enumerate => k_is)
    (case z_int => k_is)
    (case z_isinstance => k_is)
    (case z_len => k_is)
    (case z_list => k_is)
    (case z_max => k_is)
    (case z_min => k_is)
    (case z_range => k_is)
    (case z_str => k_is)
    (case z_tuple => k_is)
    (case z_zip => k_is)
    (case a_is_number => k_is)
    (case l_is_number => k_is)
    (case c_is_number => k_is)
    (case k_is_number => k_is)
    (case a_is_between => k_is)
    (case l_is_between => k_is)
    (case c_is_between => k_is)
    (case k_is_between => k_is)
    (case a_is_list => k_is)
    (case l_is_list => k_is)
    (case c_is_list => k_is)
    (case k_is_list => k_is)
    (case a_rule_right => k_is)
    (case l_rule_right => k_is)
    (case c_rule_right => k_is)
    (case k_rule_right => k_is)
    (case a_rules_right => k_is)
    (case l_rules_right => k_is)
    (case c_rules_right => k_is)
    (case k_rules_right => k_is)
    (case a_need_parts => k_is)
    (case l_need_parts => k_is)
    (case c_need_parts => k_is)
    (case k_need_parts => k_is)
    (case a_is_live_by => k_is)
    (case l_is_live_by => k_is)
    (case c_is_live_by => k_is)
    (case k_is_live_by => k_is)
    (case a_live_in => k_is)
    (case l_live_in => k_is)
    (case c_live_in => k_is)
    (case k_live_in => k_is)
    (case a_need_program => k_is)
    (case l_need_program => k_is)
    (case c_need_program => k_is)
    (case k_need_program => k_is)
    (case t_need_program => k_is)
    (case a_calls_right => k_is)
    (case l_calls_right => k_is)
    (case c_calls_right => k_is)
    (case k_calls_right => k_is)
    (case a_row_right => k_is)
    (case l_row_right => k_is)
    (case c_row_right => k_is)
    (case k_row_right => k_is)
    (case a_need_row => k_is)
    (case l_need_row => k_is)
    (case c_need_row => k_is)
    (case k_need_row => k_is)
    (case t_need_row => k_is)
    (case a_widened => k_is)
    (case l_widened => k_is)
    (case c_widened => k_is)
    (case k_widened => k_is)
    (case a_joined => k_is)
    (case l_joined => k_is)
    (case c_joined => k_is)
    (case k_joined => k_is)
    (case a_need_text => k_is)
    (case l_need_text => k_is)
    (case c_need_text => k_is)
    (case k_need_text => k_is)
    (case a_gone => k_is)
    (case l_gone => k_is)
    (case c_gone => k_is)
    (case k_gone => k_is)
    (case a_need_reading => k_is)
    (case l_need_reading => k_is)
    (case c_need_reading => k_is)
    (case k_need_reading => k_is)
    (case a_reads => k_is)
    (case l_reads => k_is)
    (case c_reads => k_is)
    (case k_reads => k_is)
    (case a__law_begun => k_is)
    (case l__law_begun => k_is)
    (case c__law_begun => k_is)
    (case k__law_begun => k_is)
    (case a__law_blended => k_is)
    (case l__law_blended => k_is)
    (case c__law_blended => k_is)
    (case k__law_blended => k_is)
    (case a__law_draw => k_is)
    (case l__law_draw => k_is)
    (case c__law_draw => k_is)
    (case k__law_draw => k_is)
    (case a__law_pick => k_is)
    (case l__law_pick => k_is)
    (case c__law_pick => k_is)
    (case k__law_pick => k_is)
    (case a__law_caught => k_is)
    (case l__law_caught => k_is)
    (case c__law_caught => k_is)
    (case k__law_caught => k_is)
    (case a__law_is_truth => k_is)
    (case l__law_is_truth => k_is)
    (case c__law_is_truth => k_is)
    (case k__law_is_truth => k_is)
    (case a__law_same => k_is)
    (case l__law_same => k_is)
    (case c__law_same => k_is)
    (case k__law_same => k_is)
    (case a__law_sk_live => k_is)
    (case l__law_sk_live => k_is)
    (case c__law_sk_live => k_is)
    (case k__law_sk_live => k_is)
    (case a__law_sk_rules => k_is)
    (case l__law_sk_rules => k_is)
    (case c__law_sk_rules => k_is)
    (case k__law_sk_rules => k_is)
    (case a__law_sk_row => k_is)
    (case l__law_sk_row => k_is)
    (case c__law_sk_row => k_is)
    (case k__law_sk_row => k_is)
    (case a__law_sk_gone => k_is)
    (case l__law_sk_gone => k_is)
    (case c__law_sk_gone => k_is)
    (case k__law_sk_gone => k_is)
    (case a__law_sk_text => k_is)
    (case l__law_sk_text => k_is)
    (case c__law_sk_text => k_is)
    (case k__law_sk_text => k_is)
    (case a__law_sk_no_program => k_is)
    (case l__law_sk_no_program => k_is)
    (case c__law_sk_no_program => k_is)
    (case k__law_sk_no_program => k_is)
    (case a__law_came => k_is)
    (case l__law_came => k_is)
    (case c__law_came => k_is)
    (case k__law_came => k_is)
    (case a_law => k_is)
    (case l_law => k_is)
    (case c_law => k_is)
    (case k_law => k_is)
    (case t1_law => k_is)
    (case t2_law => exact rfl)
    (case t3_law => kernel_rfl)
    (case t4_law => kernel_rfl)
