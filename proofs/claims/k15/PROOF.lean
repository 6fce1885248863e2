import PyProof.Rows.All
import Wide.All
import OpenK.AllK
import Wide.FinOn
import KE.KStateDown
import HandS.ForMost
import HandS.ForExc
import HandS.IsInst
import HandS.Defaults
import HandS.TupAny
import HandS.ExcCtx
import HandS.HeadEnd
import HandS.SortInts
import HandS.Style
import HandS.ExcIs
import HandS.HeadHook2
import HandS.ExcInit
import HandS.ExcField
import HandS.Conv
import HandS.Replace
import KE.KDictZip
import HandS.Base
import HandS.Call
import HandS.Ends
import HandS.More
import HandS.Words
import HandS.WordsExc
import HandS.Head0
import HandS.Head1
import HandS.Head2
import HandS.HeadHook1
import HandS.HeadHook3
import HandS.HeadHook4
import PySem.Challenge.RW_mastword_k15_halvings_and_askings
set_option Elab.async false
set_option linter.all false
set_option maxRecDepth 100000
set_option maxHeartbeats 2000000
/-! TD: data as trees over the hand layer. A value reads as a tree D in a persistent part P of the heap; what is changed stands node by node in a store w. -/
namespace TD
open PySem PySem.Spec PyProof.Rows L2

inductive D where
  | non | bl (b : Bool) | int (i : Int) | str (x : Str) | ty (n : String) | ref (a : Addr)
  | lst (xs : List D) | rol (xs : List D) | tup (xs : List D) | rot (xs : List D)
  | dct (ks : List Key) (xs : List D) | dtt (ks : List (List Key)) (xs : List D) | obj (C : Addr) (ns : List Str) (xs : List D)
  | exc (a dd : Addr) (x : D)

/-- P grows -/
def Ex (P P1 : Hp) : Prop := ∀ a u, P a = some u → P1 a = some u
theorem Ex.refl (P : Hp) : Ex P P := fun _ _ h => h
theorem Ex.trans {P P1 P2 : Hp} (a : Ex P P1) (b : Ex P1 P2) : Ex P P2 := fun x o h => b x o (a x o h)
theorem Ex.new {P : Hp} {p : Addr} {o : HO} (h : P p = none) : Ex P (upd P p o) := fun a u e => by
  rw [upd_ne (ne_of_none e h)]; exact e
theorem sqL_ex {K : PySem.W.Frag} {P P1 : Hp} {a : Addr} {xs : List V} (e : ∀ u, P a = some u → P1 a = some u) (h : SqL K P a xs) : SqL K P1 a xs := by
  rcases h with (h | ⟨o, h⟩) | h
  · exact .inl (.inl (e _ h))
  · exact .inl (.inr ⟨o, e _ h⟩)
  · exact .inr h
theorem sqT_ex {K : PySem.W.Frag} {P P1 : Hp} {a : Addr} {xs : List V} (e : ∀ u, P a = some u → P1 a = some u) (h : SqT K P a xs) : SqT K P1 a xs := by
  rcases h with (h | ⟨o, h⟩) | h
  · exact .inl (.inl (e _ h))
  · exact .inl (.inr ⟨o, e _ h⟩)
  · exact .inr h

mutual
inductive Rep (K : PySem.W.Frag) (P : Hp) : D → V → Prop
  | non : Rep K P .non .non
  | bl (b : Bool) : Rep K P (.bl b) (.bl b)
  | int (i : Int) : Rep K P (.int i) (.int i)
  | str (x : Str) : Rep K P (.str x) (.str x)
  | ty (n : String) : Rep K P (.ty n) (.ty n)
  | ref (a : Addr) : Rep K P (.ref a) (.ref a)
  | lst {a : Addr} {vs : List V} {ds : List D} : P a = some (.lst vs) → RepL K P ds vs → Rep K P (.lst ds) (.ref a)
  | rol {a : Addr} {vs : List V} {ds : List D} : SqL K P a vs → RepL K P ds vs → Rep K P (.rol ds) (.ref a)
  | tup {a : Addr} {vs : List V} {ds : List D} : P a = some (.tup vs) → RepL K P ds vs → Rep K P (.tup ds) (.ref a)
  | rot {a : Addr} {vs : List V} {ds : List D} : SqT K P a vs → RepL K P ds vs → Rep K P (.rot ds) (.ref a)
  | dct {a : Addr} {kvs : List (Key × V)} {ds : List D} : P a = some (.dK kvs) → RepL K P ds (kvs.map (·.2)) → Rep K P (.dct (kvs.map (·.1)) ds) (.ref a)
  | dtt {a : Addr} {kvs : List (List Key × V)} {ds : List D} : P a = some (.dT kvs) → RepL K P ds (kvs.map (·.2)) → Rep K P (.dtt (kvs.map (·.1)) ds) (.ref a)
  | obj {a C dx : Addr} {fs : List (Str × V)} {ds : List D} : P a = some (.ins C dx fs) → P dx = some (.own a) → RepL K P ds (fs.map (·.2)) → Rep K P (.obj C (fs.map (·.1)) ds) (.ref a)
  | exc {a dd : Addr} {x : D} {v : V} : P dd = some (.xd [("at", v)]) → Rep K P x v → Rep K P (.exc a dd x) (.ref a)
inductive RepL (K : PySem.W.Frag) (P : Hp) : List D → List V → Prop
  | nil : RepL K P [] []
  | cons {d : D} {v : V} {ds : List D} {vs : List V} : Rep K P d v → RepL K P ds vs → RepL K P (d :: ds) (v :: vs)
end
section
variable {K : PySem.W.Frag} {P P1 : Hp}
mutual
theorem Rep.mono (e : Ex P P1) : ∀ {d : D} {v : V}, Rep K P d v → Rep K P1 d v
  | _, _, .non => .non
  | _, _, .bl b => .bl b
  | _, _, .int i => .int i
  | _, _, .str x => .str x
  | _, _, .ty n => .ty n
  | _, _, .ref a => .ref a
  | _, _, .lst h r => .lst (e _ _ h) (RepL.mono e r)
  | _, _, .rol h r => .rol (sqL_ex (e _) h) (RepL.mono e r)
  | _, _, .tup h r => .tup (e _ _ h) (RepL.mono e r)
  | _, _, .rot h r => .rot (sqT_ex (e _) h) (RepL.mono e r)
  | _, _, .dct h r => .dct (e _ _ h) (RepL.mono e r)
  | _, _, .dtt h r => .dtt (e _ _ h) (RepL.mono e r)
  | _, _, .obj h h2 r => .obj (e _ _ h) (e _ _ h2) (RepL.mono e r)
  | _, _, .exc h r => .exc (e _ _ h) (Rep.mono e r)
theorem RepL.mono (e : Ex P P1) : ∀ {ds : List D} {vs : List V}, RepL K P ds vs → RepL K P1 ds vs
  | _, _, .nil => .nil
  | _, _, .cons h r => .cons (Rep.mono e h) (RepL.mono e r)
end
theorem RepL.length : ∀ {ds : List D} {vs : List V}, RepL K P ds vs → vs.length = ds.length
  | _, _, .nil => rfl
  | _, _, .cons _ r => by rw [List.length_cons, List.length_cons, RepL.length r]
theorem RepL.get : ∀ {ds : List D} {vs : List V} {i : Nat} {d : D}, RepL K P ds vs → ds[i]? = some d → ∃ v, vs[i]? = some v ∧ Rep K P d v
  | _, _, _, _, .nil, e => by simp at e
  | _, _, 0, _, .cons r _, e => by simp at e; subst e; exact ⟨_, rfl, r⟩
  | _, _, i + 1, d, .cons _ t, e => by
    obtain ⟨u, h1, h2⟩ := RepL.get (i := i) (d := d) t (by simpa using e)
    exact ⟨u, by simpa using h1, h2⟩
theorem RepL.get' : ∀ {ds : List D} {vs : List V} {i : Nat} {v : V}, RepL K P ds vs → vs[i]? = some v → ∃ d, ds[i]? = some d ∧ Rep K P d v
  | _, _, _, _, .nil, e => by simp at e
  | _, _, 0, _, .cons r _, e => by simp at e; subst e; exact ⟨_, rfl, r⟩
  | _, _, i + 1, d, .cons _ t, e => by
    obtain ⟨u, h1, h2⟩ := RepL.get' (i := i) (v := d) t (by simpa using e)
    exact ⟨u, by simpa using h1, h2⟩
theorem RepL.set {d : D} {v : V} (h : Rep K P d v) : ∀ {ds : List D} {vs : List V} (i : Nat), RepL K P ds vs → RepL K P (ds.set i d) (vs.set i v)
  | _, _, _, .nil => .nil
  | _, _, 0, .cons _ t => .cons h t
  | _, _, i + 1, .cons q t => .cons q (RepL.set h i t)
theorem RepL.append : ∀ {ds es : List D} {vs us : List V}, RepL K P ds vs → RepL K P es us → RepL K P (ds ++ es) (vs ++ us)
  | _, _, _, _, .nil, s => s
  | _, _, _, _, .cons r t, s => .cons r (RepL.append t s)
theorem RepL.take : ∀ {ds : List D} {vs : List V} (n : Nat), RepL K P ds vs → RepL K P (ds.take n) (vs.take n)
  | _, _, 0, _ => .nil
  | _, _, _ + 1, .nil => .nil
  | _, _, n + 1, .cons r t => .cons r (RepL.take n t)
theorem RepL.drop : ∀ {ds : List D} {vs : List V} (n : Nat), RepL K P ds vs → RepL K P (ds.drop n) (vs.drop n)
  | _, _, 0, r => r
  | _, _, _ + 1, .nil => .nil
  | _, _, n + 1, .cons _ t => RepL.drop n t
theorem RepL.dropLast : ∀ {ds : List D} {vs : List V}, RepL K P ds vs → RepL K P ds.dropLast vs.dropLast
  | _, _, .nil => .nil
  | _, _, .cons _ .nil => .nil
  | _, _, .cons r (.cons r2 t) => .cons r (RepL.dropLast (.cons r2 t))
theorem RepL.reverse {ds : List D} {vs : List V} (h : RepL K P ds vs) : RepL K P ds.reverse vs.reverse := by
  induction ds generalizing vs with
  | nil => cases h; exact .nil
  | cons d ds ih =>
    cases h with
    | cons r t =>
      rw [List.reverse_cons, List.reverse_cons]
      exact (ih t).append (.cons r .nil)
theorem RepL.replicate {d : D} {v : V} (h : Rep K P d v) : ∀ n : Nat, RepL K P (List.replicate n d) (List.replicate n v)
  | 0 => .nil
  | n + 1 => .cons h (RepL.replicate h n)
theorem RepL.ints : ∀ (ns : List Int), RepL K P (ns.map D.int) (ns.map V.int)
  | [] => .nil
  | n :: r => .cons (.int n) (RepL.ints r)
theorem RepL.of_ints : ∀ {ns : List Int} {vs : List V}, RepL K P (ns.map D.int) vs → vs = ns.map V.int
  | [], _, h => by cases h; rfl
  | n :: r, _, h => by
    cases h with
    | cons h t => cases h; rw [RepL.of_ints t]; rfl
end

/-! ### the store -/
inductive Nd where
  | lst (xs : List D) | dK (kvs : List (Key × D)) | dT (kvs : List (List Key × D)) | ins (C : Addr) (fs : List (Str × D))
  | lkK (o : Obj) (u : HO) (kvs : List (Key × D)) | lkT (o : Obj) (u : HO) (kvs : List (List Key × D))
abbrev Wd := Addr → Option Nd
def put (w : Wd) (a : Addr) (n : Nd) : Wd := fun b => if b = a then some n else w b
def rid (w : Wd) (a : Addr) : Wd := fun b => if b = a then none else w b
theorem put_same {w : Wd} {a : Addr} {n : Nd} : put w a n a = some n := if_pos rfl
theorem put_ne {w : Wd} {a b : Addr} {n : Nd} (h : b ≠ a) : put w a n b = w b := if_neg h
theorem rid_put {w : Wd} {a : Addr} {n : Nd} (h : w a = none) : rid (put w a n) a = w := by
  funext b; unfold rid put; split
  · next e => rw [e, h]
  · rfl
theorem put_put {w : Wd} {a : Addr} {n m : Nd} : put (put w a n) a m = put w a m := by
  funext b; unfold put; split <;> rfl
theorem put_self {w : Wd} {a : Addr} {n : Nd} (h : w a = some n) : put w a n = w := by
  funext b; unfold put; split
  · next e => rw [e, h]
  · rfl
abbrev KVr (K : PySem.W.Frag) (P : Hp) {κ : Type} : List (κ × D) → List (κ × V) → Prop := Paired fun p q => p.1 = q.1 ∧ Rep K P p.2 q.2
def NdOk (K : PySem.W.Frag) (P : Hp) (a : Addr) : Nd → HO → Prop
  | .lst ds, ho => ∃ vs, ho = .lst vs ∧ RepL K P ds vs
  | .dK kvs, ho => ∃ kws, ho = .dK kws ∧ KVr K P kvs kws
  | .dT kvs, ho => ∃ kws, ho = .dT kws ∧ KVr K P kvs kws
  | .ins C fs, ho => ∃ dx gs, ho = .ins C dx gs ∧ KVr K P fs gs ∧ P dx = some (.own a)
  | .lkK o u kvs, ho => ho = .frz o u ∧ ∃ kws, u = .dK kws ∧ KVr K P kvs kws
  | .lkT o u kvs, ho => ho = .frz o u ∧ ∃ kws, u = .dT kws ∧ KVr K P kvs kws
theorem KVr.mono {K : PySem.W.Frag} {P P1 : Hp} (e : Ex P P1) {κ : Type} {l : List (κ × D)} {m : List (κ × V)} (h : KVr K P l m) : KVr K P1 l m := Paired.mapP h fun _ _ z => ⟨z.1, z.2.mono e⟩
theorem NdOk.mono {K : PySem.W.Frag} {P P1 : Hp} (e : Ex P P1) {a : Addr} : ∀ {n : Nd} {ho : HO}, NdOk K P a n ho → NdOk K P1 a n ho
  | .lst _, _, ⟨vs, h, r⟩ => ⟨vs, h, r.mono e⟩
  | .dK _, _, ⟨vs, h, r⟩ => ⟨vs, h, KVr.mono e r⟩
  | .dT _, _, ⟨vs, h, r⟩ => ⟨vs, h, KVr.mono e r⟩
  | .ins _ _, _, ⟨dx, gs, h, r, q⟩ => ⟨dx, gs, h, KVr.mono e r, e _ _ q⟩
  | .lkK _ _ _, _, ⟨h, kws, q, r⟩ => ⟨h, kws, q, KVr.mono e r⟩
  | .lkT _ _ _, _, ⟨h, kws, q, r⟩ => ⟨h, kws, q, KVr.mono e r⟩

/-- the heap H holds the persistent part P and the store w (and maybe more) -/
structure RH (K : PySem.W.Frag) (H P : Hp) (w : Wd) : Prop where
  per : ∀ a u, P a = some u → H a = some u
  own : ∀ a n, w a = some n → P a = none ∧ ∃ ho, H a = some ho ∧ NdOk K P a n ho
/-- not a tuple -/
def NT (u : HO) : Prop := ∀ xs, u ≠ .tup xs
/-- from one state to a later one: P grows, what is neither P's nor w's stands (tuples may become P's) -/
structure Go (K : PySem.W.Frag) (H P : Hp) (w : Wd) (H1 P1 : Hp) (w1 : Wd) : Prop where
  ex : Ex P P1
  rh : RH K H1 P1 w1
  fr : ∀ a u, NT u → H a = some u → P a = none → w a = none → H1 a = some u ∧ P1 a = none ∧ w1 a = none
section
variable {K : PySem.W.Frag} {H P H1 P1 H2 P2 : Hp} {w w1 w2 : Wd}
theorem RH.go (r : RH K H P w) : Go K H P w H P w := ⟨Ex.refl P, r, fun _ _ _ a b c => ⟨a, b, c⟩⟩
theorem Go.trans (a : Go K H P w H1 P1 w1) (b : Go K H1 P1 w1 H2 P2 w2) : Go K H P w H2 P2 w2 :=
  ⟨a.ex.trans b.ex, b.rh, fun x u n h p q => let ⟨h1, p1, q1⟩ := a.fr x u n h p q; b.fr x u n h1 p1 q1⟩
/-- a new address is new to both -/
theorem RH.free (r : RH K H P w) {p : Addr} (h : H p = none) : P p = none ∧ w p = none := by
  constructor
  · cases e : P p with
    | none => rfl
    | some u => rw [r.per p u e] at h; cases h
  · cases e : w p with
    | none => rfl
    | some n =>
      obtain ⟨_, ho, q, _⟩ := r.own p n e
      rw [q] at h; cases h
/-- a new persistent object -/
theorem RH.newP (r : RH K H P w) {p : Addr} {o : HO} (h : H p = none) : Go K H P w (upd H p o) (upd P p o) w := by
  obtain ⟨hp, hw⟩ := r.free h
  have e : Ex P (upd P p o) := Ex.new hp
  refine ⟨e, ⟨fun a u q => ?_, fun a n q => ?_⟩, fun a u _ q hq hw1 => ?_⟩
  · by_cases ha : a = p
    · subst ha; rw [upd_same] at q; rw [upd_same]; exact q
    · rw [upd_ne ha] at q; rw [upd_ne ha]; exact r.per a u q
  · have ha : a ≠ p := fun z => by rw [z, hw] at q; cases q
    obtain ⟨h1, ho, h2, h3⟩ := r.own a n q
    rw [upd_ne ha, upd_ne ha]
    exact ⟨h1, ho, h2, h3.mono e⟩
  · have ha : a ≠ p := ne_of_none q h
    rw [upd_ne ha, upd_ne ha]
    exact ⟨q, hq, hw1⟩
/-- a new node -/
theorem RH.newW (r : RH K H P w) {p : Addr} {o : HO} {n : Nd} (h : H p = none) (k : NdOk K P p n o) : Go K H P w (upd H p o) P (put w p n) := by
  obtain ⟨hp, hw⟩ := r.free h
  refine ⟨Ex.refl P, ⟨fun a u q => ?_, fun a m q => ?_⟩, fun a u _ q hq hw1 => ?_⟩
  · rw [upd_ne (fun z => by rw [z, hp] at q; cases q)]; exact r.per a u q
  · by_cases ha : a = p
    · subst ha; rw [put_same] at q; cases q
      exact ⟨hp, o, upd_same, k⟩
    · rw [put_ne ha] at q
      obtain ⟨h1, ho, h2, h3⟩ := r.own a m q
      rw [upd_ne ha]
      exact ⟨h1, ho, h2, h3⟩
  · have ha : a ≠ p := ne_of_none q h
    rw [upd_ne ha, put_ne ha]
    exact ⟨q, hq, hw1⟩
/-- a node changes -/
theorem RH.setW (r : RH K H P w) {p : Addr} {o : HO} {n m : Nd} (h : w p = some n) (k : NdOk K P p m o) : Go K H P w (upd H p o) P (put w p m) := by
  obtain ⟨hp, _⟩ := r.own p n h
  refine ⟨Ex.refl P, ⟨fun a u q => ?_, fun a m' q => ?_⟩, fun a u _ q hq hw1 => ?_⟩
  · rw [upd_ne (fun z => by rw [z, hp] at q; cases q)]; exact r.per a u q
  · by_cases ha : a = p
    · subst ha; rw [put_same] at q; cases q
      exact ⟨hp, o, upd_same, k⟩
    · rw [put_ne ha] at q
      obtain ⟨h1, ho, h2, h3⟩ := r.own a m' q
      rw [upd_ne ha]
      exact ⟨h1, ho, h2, h3⟩
  · have ha : a ≠ p := fun z => by rw [z, h] at hw1; cases hw1
    rw [upd_ne ha, put_ne ha]
    exact ⟨q, hq, hw1⟩
/-- a tuple becomes persistent -/
theorem RH.absorb (r : RH K H P w) {p : Addr} {vs : List V} (h : H p = some (.tup vs)) : ∃ P1, Go K H P w H P1 w ∧ P1 p = some (.tup vs) := by
  cases hp : P p with
  | some u =>
    have := r.per p u hp
    rw [h] at this
    cases this
    exact ⟨P, r.go, hp⟩
  | none =>
    have hw : w p = none := by
      cases e : w p with
      | none => rfl
      | some n =>
        obtain ⟨_, ho, q, k⟩ := r.own p n e
        rw [h] at q
        cases q
        cases n with
        | lst ds => obtain ⟨vs, z, _⟩ := k; cases z
        | dK kvs => obtain ⟨vs, z, _⟩ := k; cases z
        | dT kvs => obtain ⟨vs, z, _⟩ := k; cases z
        | ins C fs => obtain ⟨dx, gs, z, _⟩ := k; cases z
        | lkK o u kvs => obtain ⟨z, _⟩ := k; cases z
        | lkT o u kvs => obtain ⟨z, _⟩ := k; cases z
    have e : Ex P (upd P p (.tup vs)) := Ex.new hp
    refine ⟨upd P p (.tup vs), ⟨e, ⟨fun a u q => ?_, fun a n q => ?_⟩, fun a u nt q hq hw1 => ?_⟩, upd_same⟩
    · by_cases ha : a = p
      · subst ha; rw [upd_same] at q; rw [← q]; exact h
      · rw [upd_ne ha] at q; exact r.per a u q
    · have ha : a ≠ p := fun z => by rw [z, hw] at q; cases q
      obtain ⟨h1, ho, h2, h3⟩ := r.own a n q
      rw [upd_ne ha]
      exact ⟨h1, ho, h2, h3.mono e⟩
    · have ha : a ≠ p := fun z => by rw [z, h] at q; cases q; exact nt _ rfl
      rw [upd_ne ha]
      exact ⟨q, hq, hw1⟩
/-- a node becomes persistent -/
theorem RH.frz (r : RH K H P w) {p : Addr} {n : Nd} {ho : HO} (h : w p = some n) (hh : H p = some ho) : Go K H P w H (upd P p ho) (rid w p) := by
  obtain ⟨hp, _⟩ := r.own p n h
  have e : Ex P (upd P p ho) := Ex.new hp
  refine ⟨e, ⟨fun a u q => ?_, fun a m q => ?_⟩, fun a u _ q hq hw1 => ?_⟩
  · by_cases ha : a = p
    · subst ha; rw [upd_same] at q; cases q; exact hh
    · rw [upd_ne ha] at q; exact r.per a u q
  · by_cases ha : a = p
    · subst ha; unfold rid at q; rw [if_pos rfl] at q; cases q
    · unfold rid at q; rw [if_neg ha] at q
      obtain ⟨h1, ho', h2, h3⟩ := r.own a m q
      rw [upd_ne ha]
      exact ⟨h1, ho', h2, h3.mono e⟩
  · have ha : a ≠ p := fun z => by rw [z, h] at hw1; cases hw1
    rw [upd_ne ha]
    refine ⟨q, hq, ?_⟩
    unfold rid; rw [if_neg ha]; exact hw1
/-- an object that is neither P's nor w's changes -/
theorem RH.setF (r : RH K H P w) {p : Addr} {o : HO} (hp : P p = none) (hw : w p = none) : RH K (upd H p o) P w :=
  ⟨fun a u q => by rw [upd_ne (fun z => by rw [z, hp] at q; cases q)]; exact r.per a u q,
   fun a n q => by
    obtain ⟨h1, ho, h2, h3⟩ := r.own a n q
    rw [upd_ne (fun z => by rw [z, hw] at q; cases q)]
    exact ⟨h1, ho, h2, h3⟩⟩
end
end TD

set_option maxHeartbeats 2000000
namespace TD
open PySem PySem.Spec PyProof.Rows L2

abbrev St := L2.St
abbrev DSt := List (Option D)
/-- the slots read as trees -/
def Slots (K : PySem.W.Frag) (P : Hp) (S : DSt) (σ : St) : Prop := S.length = σ.length ∧ ∀ (i : Nat) (d : D), S[i]? = some (some d) → ∃ v, σ[i]? = some (some v) ∧ Rep K P d v
theorem Slots.mono {K : PySem.W.Frag} {P P1 : Hp} {S : DSt} {σ : St} (h : Slots K P S σ) (e : Ex P P1) : Slots K P1 S σ :=
  ⟨h.1, fun i d q => let ⟨v, a, b⟩ := h.2 i d q; ⟨v, a, b.mono e⟩⟩
theorem Slots.set {K : PySem.W.Frag} {P : Hp} {S : DSt} {σ : St} (h : Slots K P S σ) (i : Nat) {d : D} {v : V} (r : Rep K P d v) : Slots K P (S.set i (some d)) (σ.set i (some v)) := by
  refine ⟨by rw [List.length_set, List.length_set]; exact h.1, fun j e q => ?_⟩
  by_cases hj : i = j
  · subst hj
    have hl : i < (S.set i (some d)).length := (List.getElem?_eq_some_iff.mp q).1
    rw [List.length_set] at hl
    rw [List.getElem?_set_self hl] at q
    cases q
    exact ⟨v, by rw [List.getElem?_set_self (by rw [← h.1]; exact hl)], r⟩
  · rw [List.getElem?_set_ne hj] at q
    obtain ⟨u, a, b⟩ := h.2 j e q
    exact ⟨u, by rw [List.getElem?_set_ne hj]; exact a, b⟩
theorem Slots.del {K : PySem.W.Frag} {P : Hp} {S : DSt} {σ : St} (h : Slots K P S σ) (i : Nat) {o : Option V} : Slots K P (S.set i none) (σ.set i o) := by
  refine ⟨by rw [List.length_set, List.length_set]; exact h.1, fun j e q => ?_⟩
  by_cases hj : i = j
  · subst hj
    have hl : i < (S.set i none).length := (List.getElem?_eq_some_iff.mp q).1
    rw [List.length_set] at hl
    rw [List.getElem?_set_self hl] at q
    cases q
  · rw [List.getElem?_set_ne hj] at q
    obtain ⟨u, a, b⟩ := h.2 j e q
    exact ⟨u, by rw [List.getElem?_set_ne hj]; exact a, b⟩
/-- a slot may be forgotten, or told otherwise -/
theorem Slots.forget {K : PySem.W.Frag} {P : Hp} {S : DSt} {σ : St} (h : Slots K P S σ) (i : Nat) : Slots K P (S.set i none) σ := by
  refine ⟨by rw [List.length_set]; exact h.1, fun j e q => ?_⟩
  by_cases hj : i = j
  · subst hj
    have hl : i < (S.set i none).length := (List.getElem?_eq_some_iff.mp q).1
    rw [List.length_set] at hl
    rw [List.getElem?_set_self hl] at q
    cases q
  · rw [List.getElem?_set_ne hj] at q
    exact h.2 j e q
theorem Slots.retell {K : PySem.W.Frag} {P : Hp} {S : DSt} {σ : St} (h : Slots K P S σ) (i : Nat) {d d1 : D} (hs : S[i]? = some (some d)) (hr : ∀ v, Rep K P d v → Rep K P d1 v) : Slots K P (S.set i (some d1)) σ := by
  refine ⟨by rw [List.length_set]; exact h.1, fun j e q => ?_⟩
  by_cases hj : i = j
  · subst hj
    have hl : i < (S.set i (some d1)).length := (List.getElem?_eq_some_iff.mp q).1
    rw [List.length_set] at hl
    rw [List.getElem?_set_self hl] at q
    cases q
    obtain ⟨v, a, b⟩ := h.2 i d hs
    exact ⟨v, a, hr v b⟩
  · rw [List.getElem?_set_ne hj] at q
    exact h.2 j e q

abbrev DKt := D → Wd → Prop
abbrev DE := DSt → Wd → DKt → Prop
abbrev DT := DSt → Wd → (Bool → Wd → Prop) → Prop
abbrev DA := DSt → Wd → (List D → Wd → Prop) → Prop
structure DEnds where
  nx : DSt → Wd → Prop
  rt : DKt
  bk : DSt → Wd → Prop := fun _ _ => False
  ct : DSt → Wd → Prop := fun _ _ => False
abbrev DS := DEnds → DSt → Wd → Prop
/-- an exception: its class, the tree of its field at -/
abbrev DX := Value → Option D → Wd → Prop
abbrev DWX := Value → Option D → DSt → Wd → Prop
abbrev DSp := List D → Wd → DKt → DX → Prop
abbrev W0 : WX := fun _ _ _ _ => False
abbrev DW0 : DWX := fun _ _ _ _ => False

def XRep (K : PySem.W.Frag) (P : Hp) : Option D → Option Addr → Prop
  | none, dd => dd = none
  | some d, dd => ∃ a v, dd = some a ∧ P a = some (.xd [("at", v)]) ∧ Rep K P d v
def RetOk (K : PySem.W.Frag) (H P : Hp) (w : Wd) (Q' : DKt) (Q : VK) : Prop := ∀ d w1, Q' d w1 → ∀ v H1 P1, Go K H P w H1 P1 w1 → Rep K P1 d v → Q v H1
def TstOk (K : PySem.W.Frag) (H P : Hp) (w : Wd) (Q' : Bool → Wd → Prop) (Q : Bool → Hp → Prop) : Prop := ∀ b w1, Q' b w1 → ∀ H1 P1, Go K H P w H1 P1 w1 → Q b H1
def ArgOk (K : PySem.W.Frag) (H P : Hp) (w : Wd) (Q' : List D → Wd → Prop) (Q : List V → Hp → Prop) : Prop := ∀ ds w1, Q' ds w1 → ∀ vs H1 P1, Go K H P w H1 P1 w1 → RepL K P1 ds vs → Q vs H1
def StOk (K : PySem.W.Frag) (H P : Hp) (w : Wd) (N' : DSt → Wd → Prop) (N : St → Hp → Prop) : Prop := ∀ S1 w1, N' S1 w1 → ∀ σ1 H1 P1, Go K H P w H1 P1 w1 → Slots K P1 S1 σ1 → N σ1 H1
def WOk (K : PySem.W.Frag) (H P : Hp) (w : Wd) (W' : DWX) (W : WX) : Prop := ∀ c x S1 w1, W' c x S1 w1 → ∀ dd σ1 H1 P1, Go K H P w H1 P1 w1 → Slots K P1 S1 σ1 → XRep K P1 x dd → W c dd σ1 H1
def XOk (K : PySem.W.Frag) (H P : Hp) (w : Wd) (E' : DX) (E : XK) : Prop := ∀ c x w1, E' c x w1 → ∀ dd H1 P1, Go K H P w H1 P1 w1 → XRep K P1 x dd → E c dd H1
structure EndsOk (K : PySem.W.Frag) (H P : Hp) (w : Wd) (D' : DEnds) (D : Ends) : Prop where
  nx : StOk K H P w D'.nx D.nx
  rt : RetOk K H P w D'.rt D.rt
  bk : StOk K H P w D'.bk D.bk
  ct : StOk K H P w D'.ct D.ct
section
variable {K : PySem.W.Frag} {H P H1 P1 : Hp} {w w1 : Wd}
theorem RetOk.go {Q' : DKt} {Q : VK} (h : RetOk K H P w Q' Q) (g : Go K H P w H1 P1 w1) : RetOk K H1 P1 w1 Q' Q := fun d w2 q v H2 P2 g2 r => h d w2 q v H2 P2 (g.trans g2) r
theorem StOk.go {N' : DSt → Wd → Prop} {N : St → Hp → Prop} (h : StOk K H P w N' N) (g : Go K H P w H1 P1 w1) : StOk K H1 P1 w1 N' N := fun S w2 q σ H2 P2 g2 r => h S w2 q σ H2 P2 (g.trans g2) r
theorem TstOk.go {Q' : Bool → Wd → Prop} {Q : Bool → Hp → Prop} (h : TstOk K H P w Q' Q) (g : Go K H P w H1 P1 w1) : TstOk K H1 P1 w1 Q' Q := fun S w2 q H2 P2 g2 => h S w2 q H2 P2 (g.trans g2)
theorem ArgOk.go {Q' : List D → Wd → Prop} {Q : List V → Hp → Prop} (h : ArgOk K H P w Q' Q) (g : Go K H P w H1 P1 w1) : ArgOk K H1 P1 w1 Q' Q := fun d w2 q v H2 P2 g2 r => h d w2 q v H2 P2 (g.trans g2) r
theorem WOk.go {W' : DWX} {W : WX} (h : WOk K H P w W' W) (g : Go K H P w H1 P1 w1) : WOk K H1 P1 w1 W' W := fun c x S w2 q dd σ H2 P2 g2 r z => h c x S w2 q dd σ H2 P2 (g.trans g2) r z
theorem XOk.go {E' : DX} {E : XK} (h : XOk K H P w E' E) (g : Go K H P w H1 P1 w1) : XOk K H1 P1 w1 E' E := fun c x w2 q dd H2 P2 g2 r => h c x w2 q dd H2 P2 (g.trans g2) r
theorem EndsOk.go {D' : DEnds} {D : Ends} (h : EndsOk K H P w D' D) (g : Go K H P w H1 P1 w1) : EndsOk K H1 P1 w1 D' D := ⟨h.nx.go g, h.rt.go g, h.bk.go g, h.ct.go g⟩
theorem WOk.none : WOk K H P w DW0 W0 := fun _ _ _ _ q => q.elim
end

def liftE (K : PySem.W.Frag) (W : WX) (W' : DWX) (t : DE) : TE := fun σ H Q => ∃ P w S Q', RH K H P w ∧ Slots K P S σ ∧ t S w Q' ∧ RetOk K H P w Q' Q ∧ WOk K H P w W' W
def liftT (K : PySem.W.Frag) (W : WX) (W' : DWX) (t : DT) : TT := fun σ H Q => ∃ P w S Q', RH K H P w ∧ Slots K P S σ ∧ t S w Q' ∧ TstOk K H P w Q' Q ∧ WOk K H P w W' W
def liftA (K : PySem.W.Frag) (W : WX) (W' : DWX) (t : DA) : TA := fun σ H Q => ∃ P w S Q', RH K H P w ∧ Slots K P S σ ∧ t S w Q' ∧ ArgOk K H P w Q' Q ∧ WOk K H P w W' W
def liftS (K : PySem.W.Frag) (W : WX) (W' : DWX) (t : DS) : TS := fun D σ H => ∃ P w S D', RH K H P w ∧ Slots K P S σ ∧ t D' S w ∧ EndsOk K H P w D' D ∧ WOk K H P w W' W
def lift (K : PySem.W.Frag) (sp : DSp) : Sp := fun vs H Q E => ∃ P w ds Q' E', RH K H P w ∧ RepL K P ds vs ∧ sp ds w Q' E' ∧ RetOk K H P w Q' Q ∧ XOk K H P w E' E

/-! ### judgements -/
def QE (X : Cx) (W : WX) (W' : DWX) (e : Expr) (t : DE) : Prop := PE X e (liftE X.K W W' t)
def QT (X : Cx) (W : WX) (W' : DWX) (e : Expr) (t : DT) : Prop := PT X e (liftT X.K W W' t)
def QW (X : Cx) (W : WX) (W' : DWX) (e : Expr) (t : DT) : Prop := PW X e (liftT X.K W W' t)
def QA (X : Cx) (W : WX) (W' : DWX) (es : List Expr) (t : DA) : Prop := PA X es (liftA X.K W W' t)
def QS (X : Cx) (W : WX) (W' : DWX) (st : Stmt) (t : DS) : Prop := PS X st (liftS X.K W W' t)
def QSs (X : Cx) (W : WX) (W' : DWX) (sts : List Stmt) (t : DS) : Prop := PSs X sts (liftS X.K W W' t)
theorem PE.imp {X : Cx} {e : Expr} {t u : TE} (h : PE X e t) (k : ∀ σ H Q, u σ H Q → t σ H Q) : PE X e u := ⟨fun pins s σ H Q I q => h.run pins s σ H Q I (k σ H Q q)⟩
theorem PT.imp {X : Cx} {e : Expr} {t u : TT} (h : PT X e t) (k : ∀ σ H Q, u σ H Q → t σ H Q) : PT X e u := ⟨fun pins s σ H Q I q => h.run pins s σ H Q I (k σ H Q q)⟩
theorem PW.imp {X : Cx} {e : Expr} {t u : TT} (h : PW X e t) (k : ∀ σ H Q, u σ H Q → t σ H Q) : PW X e u := ⟨fun wh pins s σ H Q I q => h.run wh pins s σ H Q I (k σ H Q q)⟩
theorem PA.imp {X : Cx} {e : List Expr} {t u : TA} (h : PA X e t) (k : ∀ σ H Q, u σ H Q → t σ H Q) : PA X e u := ⟨fun pos pins s σ H Q I q => h.run pos pins s σ H Q I (k σ H Q q)⟩
theorem PS.imp {X : Cx} {e : Stmt} {t u : TS} (h : PS X e t) (k : ∀ D σ H, u D σ H → t D σ H) : PS X e u := ⟨fun pins s σ H D I q => h.run pins s σ H D I (k D σ H q)⟩
theorem PSs.imp {X : Cx} {e : List Stmt} {t u : TS} (h : PSs X e t) (k : ∀ D σ H, u D σ H → t D σ H) : PSs X e u := ⟨fun pins s σ H D I q => h.run pins s σ H D I (k D σ H q)⟩

/-! ### names, constants -/
section
variable {X : Cx} {W : WX} {W' : DWX} {a b c e : Expr} {es : List Expr} {ta tb tc te : DE} {pos : Pos}
def dVar (i : Nat) : DE := fun S w Q => match S[i]? with
  | some (some d) => Q d w
  | _ => False
def dC (d : D) : DE := fun _ w Q => Q d w
theorem dVar_get {i : Nat} {S : DSt} {w : Wd} {Q : DKt} (h : dVar i S w Q) : ∃ d, S[i]? = some (some d) ∧ Q d w := by
  unfold dVar at h
  split at h
  · exact ⟨_, by assumption, h⟩
  · exact h.elim
theorem qv (i : Nat) {x : Str} {pos : Pos} (hN : X.N[i]? = some x := by rfl) (hv : Vis X.env.scope x := by first | exact Or.inl rfl | exact Or.inr (Or.inl rfl) | exact Or.inr (Or.inr rfl)) (hd : (x == ("__debug__" : Str)) = false := by decide)
    (hcd : (x == ("__classdict__" : Str)) = false := by decide) : QE X W W' (.Name x pos) (dVar i) := PE.imp (pe_var hN hv hd hcd) fun σ H Q ⟨P, w, S, Q', rh, sl, h, hq, _⟩ => by
  obtain ⟨d, q, z⟩ := dVar_get h
  obtain ⟨v, a, b⟩ := sl.2 i d q
  exact ⟨v, a, hq d w z v H P rh.go b⟩
theorem qc {v : V} {d : D} (h : PE X e (tC v)) (r : ∀ P, Rep X.K P d v) : QE X W W' e (dC d) := PE.imp h fun σ H Q ⟨P, w, S, Q', rh, sl, h, hq, _⟩ => hq d w h v H P rh.go (r P)
theorem qe_int {i j pos} : QE X W W' (.Constant (.int i) j pos) (dC (.int i)) := qc pe_int fun _ => .int i
theorem qe_bl {i j pos} : QE X W W' (.Constant (.bool i) j pos) (dC (.bl i)) := qc pe_bl fun _ => .bl i
theorem qe_non {j pos} : QE X W W' (.Constant .none j pos) (dC .non) := qc pe_non fun _ => .non
theorem qe_str {i j pos} : QE X W W' (.Constant (.str i) j pos) (dC (.str i)) := qc pe_str fun _ => .str i
/-- a module's constant -/
theorem qe_glob {x : Str} {v : V} {u : Value} {d : D} (hm : X.mg x = some u) (r : RelV v u) (rr : ∀ P, Rep X.K P d v) (hg : Gl X x := by rfl) (hd : (x == ("__debug__" : Str)) = false := by decide) : QE X W W' (.Name x pos) (dC d) := qc (pe_glob hg hm r hd) rr

/-! ### operators by values -/
abbrev DR2 := D → D → Wd → DKt → Prop
abbrev DR1 := D → Wd → DKt → Prop
abbrev DRl := List D → Wd → DKt → Prop
def TrR2 (K : PySem.W.Frag) (r : R2) (dr : DR2) : Prop := ∀ H P w x y dx dy Q' Q, RH K H P w → Rep K P dx x → Rep K P dy y → dr dx dy w Q' → RetOk K H P w Q' Q → r x y H Q
def TrR1 (K : PySem.W.Frag) (r : V → Hp → VK → Prop) (dr : DR1) : Prop := ∀ H P w x dx Q' Q, RH K H P w → Rep K P dx x → dr dx w Q' → RetOk K H P w Q' Q → r x H Q
def TrRl (K : PySem.W.Frag) (r : List V → Hp → VK → Prop) (dr : DRl) : Prop := ∀ H P w xs ds Q' Q, RH K H P w → RepL K P ds xs → dr ds w Q' → RetOk K H P w Q' Q → r xs H Q
def dOp (dr : DR2) (ta tb : DE) : DE := fun S w Q => ta S w fun x w1 => tb S w1 fun y w2 => dr x y w2 Q
def dUn (dr : DR1) (ta : DE) : DE := fun S w Q => ta S w fun x w1 => dr x w1 Q
def dCB (dr : DRl) (ta : DA) : DE := fun S w Q => ta S w fun xs w1 => dr xs w1 Q
theorem op_imp {r : R2} {dr : DR2} (hr : TrR2 X.K r dr) : ∀ σ H Q, liftE X.K W W' (dOp dr ta tb) σ H Q → tOp r (liftE X.K W W' ta) (liftE X.K W W' tb) σ H Q :=
  fun σ H Q ⟨P, w, S, Q', rh, sl, h, hq, hx⟩ => ⟨P, w, S, _, rh, sl, h, fun x w1 h1 v H1 P1 g1 r1 =>
    ⟨P1, w1, S, _, g1.rh, sl.mono g1.ex, h1, fun y w2 h2 u H2 P2 g2 r2 => hr H2 P2 w2 v u x y Q' Q g2.rh (r1.mono g2.ex) r2 h2 ((hq.go g1).go g2), hx.go g1⟩, hx⟩
theorem qe_op {op : Operator} {r : R2} {dr : DR2} (ho : OpR X (binaryOp op) r) (hr : TrR2 X.K r dr) (ha : QE X W W' a ta) (hb : QE X W W' b tb) : QE X W W' (.BinOp a op b pos) (dOp dr ta tb) := PE.imp (pe_op ho ha hb) (op_imp hr)
theorem qe_un {op : UnaryOp} {r : V → Hp → VK → Prop} {dr : DR1} (ho : UnR X (unaryOp op) r) (hr : TrR1 X.K r dr) (ha : QE X W W' a ta) : QE X W W' (.UnaryOp op a pos) (dUn dr ta) := PE.imp (pe_un ho ha)
  fun σ H Q ⟨P, w, S, Q', rh, sl, h, hq, hx⟩ => ⟨P, w, S, _, rh, sl, h, fun x w1 h1 v H1 P1 g1 r1 => hr H1 P1 w1 v x Q' Q g1.rh r1 h1 (hq.go g1), hx⟩
theorem qe_cmp {op : CmpOp} {r : R2} {dr : DR2} (ho : OpR X (compareOp op) r) (hr : TrR2 X.K r dr) (ha : QE X W W' a ta) (hb : QE X W W' b tb) (hm : behindInMarks op b = false := by first | exact nomark _ | rfl) : QE X W W' (.Compare a [op] [b] pos) (dOp dr ta tb) := PE.imp (pe_cmpR ho ha hb hm) (op_imp hr)
theorem qe_ix {r : R2} {dr : DR2} (ho : IxR X r) (hr : TrR2 X.K r dr) (ha : QE X W W' a ta) (hb : QE X W W' b tb) (hs : PlainIx b := by exact fun _ _ => rfl) : QE X W W' (.Subscript a b pos) (dOp dr ta tb) := PE.imp (pe_ix ho ha hb hs) (op_imp hr)

/-! ### arguments, displays -/
def dNil : DA := fun _ w Q => Q [] w
def dCons (ta : DE) (tr : DA) : DA := fun S w Q => ta S w fun x w1 => tr S w1 fun xs w2 => Q (x :: xs) w2
variable {t : DA}
theorem qa_nil : QA X W W' [] dNil := PA.imp pa_nil fun σ H Q ⟨P, w, S, Q', rh, sl, h, hq, hx⟩ => hq [] w h [] H P rh.go .nil
theorem qa_cons (ha : QE X W W' e te) (hr : QA X W W' es t) (hs : starEach (e :: es) X.env = (false, eval e X.env) :: starEach es X.env := by rfl) : QA X W W' (e :: es) (dCons te t) := PA.imp (pa_cons ha hr hs)
  fun σ H Q ⟨P, w, S, Q', rh, sl, h, hq, hx⟩ => ⟨P, w, S, _, rh, sl, h, fun x w1 h1 v H1 P1 g1 r1 => ⟨P1, w1, S, _, g1.rh, sl.mono g1.ex, h1, fun xs w2 h2 us H2 P2 g2 r2 => hq _ w2 h2 _ H2 P2 (g1.trans g2) (.cons (r1.mono g2.ex) r2), hx.go g1⟩, hx⟩
def dTup (t : DA) : DE := fun S w Q => t S w fun xs w1 => xs.length ≤ sizeLine ∧ Q (.tup xs) w1
def dLst (t : DA) : DE := fun S w Q => t S w fun xs w1 => xs.length ≤ sizeLine ∧ Q (.lst xs) w1
/-- a list that will be changed -/
def dLstO (t : DA) : DE := fun S w Q => t S w fun xs w1 => xs.length ≤ sizeLine ∧ ∀ p, w1 p = none → Q (.ref p) (put w1 p (.lst xs))
theorem qe_tup {x1} (h : QA X W W' es t) : QE X W W' (.Tuple es x1 pos) (dTup t) := PE.imp (pe_tup h)
  fun σ H Q ⟨P, w, S, Q', rh, sl, h, hq, hx⟩ => ⟨P, w, S, _, rh, sl, h, fun xs w1 h1 vs H1 P1 g1 r1 => ⟨by rw [r1.length]; exact h1.1, fun p hp =>
    have g2 := g1.rh.newP (o := .tup vs) hp
    hq _ w1 h1.2 _ _ _ (g1.trans g2) (.tup upd_same (r1.mono g2.ex))⟩, hx⟩
theorem qe_lst (h : QA X W W' es t) : QE X W W' (.List es pos) (dLst t) := PE.imp (pe_lst h)
  fun σ H Q ⟨P, w, S, Q', rh, sl, h, hq, hx⟩ => ⟨P, w, S, _, rh, sl, h, fun xs w1 h1 vs H1 P1 g1 r1 => ⟨by rw [r1.length]; exact h1.1, fun p hp =>
    have g2 := g1.rh.newP (o := .lst vs) hp
    hq _ w1 h1.2 _ _ _ (g1.trans g2) (.lst upd_same (r1.mono g2.ex))⟩, hx⟩
theorem qe_lstO (h : QA X W W' es t) : QE X W W' (.List es pos) (dLstO t) := PE.imp (pe_lst h)
  fun σ H Q ⟨P, w, S, Q', rh, sl, h, hq, hx⟩ => ⟨P, w, S, _, rh, sl, h, fun xs w1 h1 vs H1 P1 g1 r1 => ⟨by rw [r1.length]; exact h1.1, fun p hp =>
    have g2 := g1.rh.newW (o := .lst vs) (n := .lst xs) hp ⟨vs, rfl, r1⟩
    hq _ _ (h1.2 p (g1.rh.free hp).2) _ _ _ (g1.trans g2) (.ref p)⟩, hx⟩

/-! ### tests -/
def dB (t : DE) : DT := fun S w Q => t S w fun x w1 => match x with
  | .bl c => Q c w1
  | _ => False
def dAnd (t u : DT) : DT := fun S w Q => t S w fun c w1 => if c = true then u S w1 Q else Q false w1
def dOr (t u : DT) : DT := fun S w Q => t S w fun c w1 => if c = true then Q true w1 else u S w1 Q
def dNot (t : DT) : DT := fun S w Q => t S w fun c w1 => Q (!c) w1
variable {tA tB' : DT} {rest : List Expr}
theorem qt_val (h : QE X W W' e te) (he : ∀ whole, isTrue e X.env whole = (do let v ← whole; standAt e.pos; holding [v] (truthy v)) := by intro _; rfl) : QT X W W' e (dB te) := PT.imp (pt_val h he)
  fun σ H Q ⟨P, w, S, Q', rh, sl, h, hq, hx⟩ => ⟨P, w, S, _, rh, sl, h, fun x w1 h1 v H1 P1 g1 r1 => by
    cases r1 with
    | bl b => exact ⟨b, rfl, hq b w1 h1 H1 P1 g1⟩
    | _ => exact h1.elim, hx⟩
theorem qt_cmp {op : CmpOp} {r : R2} {dr : DR2} (ho : OpR X (compareOp op) r) (hr : TrR2 X.K r dr) (ha : QE X W W' a ta) (hb : QE X W W' b tb) (hm : behindInMarks op b = false := by first | exact nomark _ | rfl) : QT X W W' (.Compare a [op] [b] pos) (dB (dOp dr ta tb)) :=
  PT.imp (pt_cmpR ho ha hb hm) fun σ H Q ⟨P, w, S, Q', rh, sl, h, hq, hx⟩ => op_imp hr σ H (fun x H' => ∃ k, x = V.bl k ∧ Q k H') ⟨P, w, S, _, rh, sl, h, fun x w1 h1 v H1 P1 g1 r1 => by
    cases r1 with
    | bl b => exact ⟨b, rfl, hq b w1 h1 H1 P1 g1⟩
    | _ => exact h1.elim, hx⟩
theorem qw_and1 (ha : QT X W W' a tA) : QW X W W' (.BoolOp .And [a] pos) tA := pw_and1 ha
theorem qw_or1 (ha : QT X W W' a tA) : QW X W W' (.BoolOp .Or [a] pos) tA := pw_or1 ha
theorem ite_imp {c : Bool} {A B A' B' : Prop} (h : if c = true then A else B) (h1 : A → A') (h2 : B → B') : if c = true then A' else B' := by
  cases c with
  | true => exact h1 h
  | false => exact h2 h
theorem qw_and (ha : QT X W W' a tA) (hb : QW X W W' (.BoolOp .And (b :: rest) pos) tB') : QW X W W' (.BoolOp .And (a :: b :: rest) pos) (dAnd tA tB') := PW.imp (pw_and ha hb)
  fun σ H Q ⟨P, w, S, Q', rh, sl, h, hq, hx⟩ => ⟨P, w, S, _, rh, sl, h, fun c w1 h1 H1 P1 g1 => ite_imp h1 (fun z => ⟨P1, w1, S, Q', g1.rh, sl.mono g1.ex, z, hq.go g1, hx.go g1⟩) (fun z => hq false w1 z H1 P1 g1), hx⟩
theorem qw_or (ha : QT X W W' a tA) (hb : QW X W W' (.BoolOp .Or (b :: rest) pos) tB') : QW X W W' (.BoolOp .Or (a :: b :: rest) pos) (dOr tA tB') := PW.imp (pw_or ha hb)
  fun σ H Q ⟨P, w, S, Q', rh, sl, h, hq, hx⟩ => ⟨P, w, S, _, rh, sl, h, fun c w1 h1 H1 P1 g1 => ite_imp h1 (fun z => hq true w1 z H1 P1 g1) (fun z => ⟨P1, w1, S, Q', g1.rh, sl.mono g1.ex, z, hq.go g1, hx.go g1⟩), hx⟩
theorem qt_bool (h : QW X W W' e tA) : QT X W W' e tA := PW.pt h
theorem qt_not (ha : QT X W W' a tA) : QT X W W' (.UnaryOp .Not a pos) (dNot tA) := PT.imp (pt_not ha)
  fun σ H Q ⟨P, w, S, Q', rh, sl, h, hq, hx⟩ => ⟨P, w, S, _, rh, sl, h, fun c w1 h1 H1 P1 g1 => hq (!c) w1 h1 H1 P1 g1, hx⟩
def dAndV (ta tb : DE) : DE := fun S w Q => ta S w fun x w1 => match x with
  | .bl c => if c = true then tb S w1 Q else Q (.bl false) w1
  | _ => False
def dOrV (ta tb : DE) : DE := fun S w Q => ta S w fun x w1 => match x with
  | .bl c => if c = true then Q (.bl true) w1 else tb S w1 Q
  | _ => False
def dNotV (ta : DE) : DE := fun S w Q => ta S w fun x w1 => match x with
  | .bl c => Q (.bl (!c)) w1
  | _ => False
theorem qe_one {op} (h : QE X W W' a ta) : QE X W W' (.BoolOp op [a] pos) ta := pe_one h
theorem qe_and (ha : QE X W W' a ta) (hb : QE X W W' (.BoolOp .And (b :: rest) pos) tb) : QE X W W' (.BoolOp .And (a :: b :: rest) pos) (dAndV ta tb) := PE.imp (pe_and ha hb)
  fun σ H Q ⟨P, w, S, Q', rh, sl, h, hq, hx⟩ => ⟨P, w, S, _, rh, sl, h, fun x w1 h1 v H1 P1 g1 r1 => by
    cases r1 with
    | bl b => exact ⟨b, rfl, ite_imp h1 (fun z => ⟨P1, w1, S, Q', g1.rh, sl.mono g1.ex, z, hq.go g1, hx.go g1⟩) (fun z => hq _ w1 z _ H1 P1 g1 (.bl false))⟩
    | _ => exact h1.elim, hx⟩
theorem qe_or (ha : QE X W W' a ta) (hb : QE X W W' (.BoolOp .Or (b :: rest) pos) tb) : QE X W W' (.BoolOp .Or (a :: b :: rest) pos) (dOrV ta tb) := PE.imp (pe_or ha hb)
  fun σ H Q ⟨P, w, S, Q', rh, sl, h, hq, hx⟩ => ⟨P, w, S, _, rh, sl, h, fun x w1 h1 v H1 P1 g1 r1 => by
    cases r1 with
    | bl b => exact ⟨b, rfl, ite_imp h1 (fun z => hq _ w1 z _ H1 P1 g1 (.bl true)) (fun z => ⟨P1, w1, S, Q', g1.rh, sl.mono g1.ex, z, hq.go g1, hx.go g1⟩)⟩
    | _ => exact h1.elim, hx⟩
theorem qe_not (ha : QE X W W' a ta) : QE X W W' (.UnaryOp .Not a pos) (dNotV ta) := PE.imp (pe_not ha)
  fun σ H Q ⟨P, w, S, Q', rh, sl, h, hq, hx⟩ => ⟨P, w, S, _, rh, sl, h, fun x w1 h1 v H1 P1 g1 r1 => by
    cases r1 with
    | bl b => exact ⟨b, rfl, hq _ w1 h1 _ H1 P1 g1 (.bl _)⟩
    | _ => exact h1.elim, hx⟩
def dIfE (t : DT) (ta tb : DE) : DE := fun S w Q => t S w fun c w1 => if c = true then ta S w1 Q else tb S w1 Q
theorem qe_if (hc : QT X W W' c tA) (ha : QE X W W' a ta) (hb : QE X W W' b tb) : QE X W W' (.IfExp c a b pos) (dIfE tA ta tb) := PE.imp (pe_ifExp hc ha hb)
  fun σ H Q ⟨P, w, S, Q', rh, sl, h, hq, hx⟩ => ⟨P, w, S, _, rh, sl, h, fun c w1 h1 H1 P1 g1 => ite_imp h1 (fun z => ⟨P1, w1, S, Q', g1.rh, sl.mono g1.ex, z, hq.go g1, hx.go g1⟩) (fun z => ⟨P1, w1, S, Q', g1.rh, sl.mono g1.ex, z, hq.go g1, hx.go g1⟩), hx⟩
/-- a < b < c -/
def dChain (dr dr' : DR2) (ta tb tc : DE) : DE := fun S w Q => ta S w fun x w1 => tb S w1 fun y w2 => dr x y w2 fun z w3 => match z with
  | .bl k => if k = true then tc S w3 fun u w4 => dr' y u w4 Q else Q (.bl false) w3
  | _ => False
theorem chain_imp {r r' : R2} {dr dr' : DR2} (hr : TrR2 X.K r dr) (hr' : TrR2 X.K r' dr') : ∀ σ H Q, liftE X.K W W' (dChain dr dr' ta tb tc) σ H Q → tChain r r' (liftE X.K W W' ta) (liftE X.K W W' tb) (liftE X.K W W' tc) σ H Q :=
  fun σ H Q ⟨P, w, S, Q', rh, sl, h, hq, hx⟩ => ⟨P, w, S, _, rh, sl, h, fun x w1 h1 v H1 P1 g1 r1 =>
    ⟨P1, w1, S, _, g1.rh, sl.mono g1.ex, h1, fun y w2 h2 u H2 P2 g2 r2 => hr H2 P2 w2 v u x y _ _ g2.rh (r1.mono g2.ex) r2 h2 (fun z w3 h3 vz H3 P3 g3 r3 => by
      cases r3 with
      | bl k =>
        refine ⟨k, rfl, ite_imp h3 (fun q => ?_) (fun q => hq _ w3 q _ H3 P3 ((g1.trans g2).trans g3) (.bl false))⟩
        exact ⟨P3, w3, S, _, g3.rh, sl.mono ((g1.trans g2).trans g3).ex, q, fun c4 w4 h4 v4 H4 P4 g4 r4 => hr' H4 P4 w4 u v4 y c4 Q' Q g4.rh (r2.mono (g3.trans g4).ex) r4 h4 (hq.go (((g1.trans g2).trans g3).trans g4)), hx.go ((g1.trans g2).trans g3)⟩
      | _ => exact h3.elim), hx.go g1⟩, hx⟩
theorem qe_chain {op op' : CmpOp} {r r' : R2} {dr dr' : DR2} (ho : OpR X (compareOp op) r) (hr : TrR2 X.K r dr) (ho' : OpR X (compareOp op') r') (hr' : TrR2 X.K r' dr') (ha : QE X W W' a ta) (hb : QE X W W' b tb) (hc : QE X W W' c tc)
    (hm : lastMarks [op, op'] [b, c] = false := by with_unfolding_all rfl) : QE X W W' (.Compare a [op, op'] [b, c] pos) (dChain dr dr' ta tb tc) := PE.imp (pe_chain ho ho' ha hb hc hm) (chain_imp hr hr')
theorem qt_chain {op op' : CmpOp} {r r' : R2} {dr dr' : DR2} (ho : OpR X (compareOp op) r) (hr : TrR2 X.K r dr) (ho' : OpR X (compareOp op') r') (hr' : TrR2 X.K r' dr') (ha : QE X W W' a ta) (hb : QE X W W' b tb) (hc : QE X W W' c tc)
    (hm : lastMarks [op, op'] [b, c] = false := by with_unfolding_all rfl) : QT X W W' (.Compare a [op, op'] [b, c] pos) (dB (dChain dr dr' ta tb tc)) := PT.imp (pt_chain ho ho' ha hb hc hm)
  fun σ H Q ⟨P, w, S, Q', rh, sl, h, hq, hx⟩ => chain_imp hr hr' σ H (fun x H' => ∃ k, x = V.bl k ∧ Q k H') ⟨P, w, S, _, rh, sl, h, fun x w1 h1 v H1 P1 g1 r1 => by
    cases r1 with
    | bl b => exact ⟨b, rfl, hq b w1 h1 H1 P1 g1⟩
    | _ => exact h1.elim, hx⟩
end
end TD

set_option maxHeartbeats 2000000
namespace TD
open PySem PySem.Spec PyProof.Rows L2
section
variable {X : Cx} {W : WX} {W' : DWX} {a b c e : Expr} {es : List Expr} {ta tb tc te : DE} {pos : Pos} {t : DA}
/-! ### calls of own defs -/
def dCall (sp : DSp) (W' : DWX) (t : DA) : DE := fun S w Q => t S w fun ds w1 => sp ds w1 Q (fun x d w2 => W' x d S w2)
theorem call_imp {sp : DSp} {σ : St} {H P : Hp} {w : Wd} {S : DSt} {Q' : DKt} {Q : VK} {ds : List D} {vs : List V} {H1 P1 : Hp} {w1 : Wd} (g : Go X.K H P w H1 P1 w1) (sl : Slots X.K P S σ) (hq : RetOk X.K H P w Q' Q) (hx : WOk X.K H P w W' W) (r : RepL X.K P1 ds vs)
    (h : sp ds w1 Q' (fun x d w2 => W' x d S w2)) : lift X.K sp vs H1 Q (WE W σ) :=
  ⟨P1, w1, ds, Q', fun x d w2 => W' x d S w2, g.rh, r, h, hq.go g, fun c x w2 q dd H2 P2 g2 z => hx c x S w2 q dd σ H2 P2 (g.trans g2) (sl.mono (g.trans g2).ex) z⟩
theorem qe_call {sp : DSp} {k : Nat} {f : Addr} {fd : FuncData} {ps : List Str} {x : Str} {p : Pos} (F : FnOk X.prog X.w X.K X.mg X.base (L2N.CX X.prog X.w) k f fd ps (lift X.K sp)) (hr : Room k X.A) (hm : X.mg x = some (.ref f)) (hk : PySem.W.keepIn X.K (.ref f) = true) (hb : Binds X.K fd ps []) (tk : L2N.Takes X W)
    (ha : QA X W W' (e :: es) t) (hg : Gl X x := by rfl) (hdb : (x == ("__debug__" : Str)) = false := by decide) (he : starEach (e :: es) X.env = (false, eval e X.env) :: starEach es X.env := by rfl) (hpl : (backTo pos (starEach es X.env)).any (·.1) = false := by rfl) :
    QE X W W' (.Call (.Name x p) (e :: es) [] pos) (dCall sp W' t) := PE.imp (pe_callS F hr hg hm hk hb (fun σ => L2N.passAt tk σ) ha hdb he hpl)
  fun σ H Q ⟨P, w, S, Q', rh, sl, h, hq, hx⟩ => ⟨P, w, S, _, rh, sl, h, fun ds w1 h1 vs H1 P1 g1 r1 => call_imp g1 sl hq hx r1 h1, hx⟩
/-- a builtin by its name -/
theorem qe_callB {id : String} {r : List V → Hp → VK → Prop} {dr : DRl} {x : Str} {p : Pos} (hc : CallR X (.builtin id) r) (hr : TrRl X.K r dr) (hm : X.mg x = none) (hv : bootBuiltins x = some (.builtin id)) (ha : QA X W W' (e :: es) t) (hg : Gl X x := by rfl) (hn : x ≠ "__name__" := by decide) (hdb : (x == ("__debug__" : Str)) = false := by decide)
    (he : starEach (e :: es) X.env = (false, eval e X.env) :: starEach es X.env := by rfl) (hpl : (backTo pos (starEach es X.env)).any (·.1) = false := by rfl) : QE X W W' (.Call (.Name x p) (e :: es) [] pos) (dCB dr t) := PE.imp (pe_callB hc hg hm hv ha hn hdb he hpl)
  fun σ H Q ⟨P, w, S, Q', rh, sl, h, hq, hx⟩ => ⟨P, w, S, _, rh, sl, h, fun ds w1 h1 vs H1 P1 g1 r1 => hr H1 P1 w1 vs ds Q' Q g1.rh r1 h1 (hq.go g1), hx⟩
theorem qe_callTy {T : String} {r : List V → Hp → VK → Prop} {dr : DRl} {x : Str} {p : Pos} (hc : CallR X (.type T) r) (hr : TrRl X.K r dr) (hm : X.mg x = none) (hv : bootBuiltins x = some (.type T)) (ha : QA X W W' (e :: es) t) (hg : Gl X x := by rfl) (hn : x ≠ "__name__" := by decide) (hdb : (x == ("__debug__" : Str)) = false := by decide)
    (he : starEach (e :: es) X.env = (false, eval e X.env) :: starEach es X.env := by rfl) (hpl : (backTo pos (starEach es X.env)).any (·.1) = false := by rfl) : QE X W W' (.Call (.Name x p) (e :: es) [] pos) (dCB dr t) := PE.imp (pe_callTy hc hg hm hv ha hn hdb he hpl)
  fun σ H Q ⟨P, w, S, Q', rh, sl, h, hq, hx⟩ => ⟨P, w, S, _, rh, sl, h, fun ds w1 h1 vs H1 P1 g1 r1 => hr H1 P1 w1 vs ds Q' Q g1.rh r1 h1 (hq.go g1), hx⟩
/-- a builtin's method -/
abbrev DRm := D → List D → Wd → DKt → Prop
def TrRm (K : PySem.W.Frag) (T : String) (r : V → List V → Hp → VK → Prop) (dr : DRm) : Prop := ∀ H P w x xs dx ds Q' Q, RH K H P w → Rep K P dx x → RepL K P ds xs → dr dx ds w Q' → RetOk K H P w Q' Q → r x xs H Q
def dTyOk (T : String) (w : Wd) : D → Prop
  | .str _ => T = "str"
  | .lst _ => T = "list"
  | .rol _ => T = "list"
  | .tup _ => T = "tuple"
  | .rot _ => T = "tuple"
  | .ref a => match w a with
    | some (.lst _) => T = "list"
    | _ => False
  | _ => False
def dBM (T : String) (dr : DRm) (to : DE) (t : DA) : DE := fun S w Q => to S w fun x w1 => dTyOk T w1 x ∧ t S w1 fun ds w2 => dr x ds w2 Q
def dBM0 (T : String) (dr : DRm) (to : DE) : DE := fun S w Q => to S w fun x w1 => dTyOk T w1 x ∧ dr x [] w1 Q
end
/-! ### statements -/
section
variable {X : Cx} {W : WX} {W' : DWX} {a b c e : Expr} {ta tb tc te : DE} {pos pos' : Pos} {st : Stmt} {rest bs cs : List Stmt} {t u : DS} {tt : DT}
def dNext : DS := fun D S w => D.nx S w
def dSeq (t u : DS) : DS := fun D S w => t { D with nx := u D } S w
theorem qss_nil : QSs X W W' [] dNext := PSs.imp pss_nil fun D σ H ⟨P, w, S, D', rh, sl, h, hd, hx⟩ => hd.nx S w h σ H P rh.go sl
theorem qss_cons (h1 : QS X W W' st t) (h2 : QSs X W W' rest u) : QSs X W W' (st :: rest) (dSeq t u) := PSs.imp (pss_cons h1 h2)
  fun D σ H ⟨P, w, S, D', rh, sl, h, hd, hx⟩ => ⟨P, w, S, { D' with nx := u D' }, rh, sl, h, ⟨fun S1 w1 h1 σ1 H1 P1 g1 sl1 => ⟨P1, w1, S1, D', g1.rh, sl1, h1, hd.go g1, hx.go g1⟩, hd.rt, hd.bk, hd.ct⟩, hx⟩
/-- .. with a word between them, from which what follows is shown once -/
def dCut (t u : DS) : DS := fun D S w => ∃ M : DSt → Wd → Prop, t { D with nx := M } S w ∧ ∀ S2 w2, M S2 w2 → u D S2 w2
theorem qss_cut (h1 : QS X W W' st t) (h2 : QSs X W W' rest u) : QSs X W W' (st :: rest) (dCut t u) := PSs.imp (pss_cons h1 h2)
  fun D σ H ⟨P, w, S, D', rh, sl, ⟨M, h, hM⟩, hd, hx⟩ => ⟨P, w, S, { D' with nx := M }, rh, sl, h, ⟨fun S1 w1 h1 σ1 H1 P1 g1 sl1 => ⟨P1, w1, S1, D', g1.rh, sl1, hM S1 w1 h1, hd.go g1, hx.go g1⟩, hd.rt, hd.bk, hd.ct⟩, hx⟩
theorem qss_one (h1 : QS X W W' st t) : QSs X W W' [st] t := pss_one h1
/-- a node of the store becomes plain data ahead of a statement -/
def frzD : Nd → Option D
  | .lst xs => some (.lst xs)
  | .dK kvs => some (.dct (kvs.map (·.1)) (kvs.map (·.2)))
  | .dT kvs => some (.dtt (kvs.map (·.1)) (kvs.map (·.2)))
  | .ins C fs => some (.obj C (fs.map (·.1)) (fs.map (·.2)))
  | _ => none
theorem KVr.parts {K : PySem.W.Frag} {P : Hp} {κ : Type} : ∀ {l : List (κ × D)} {m : List (κ × V)}, KVr K P l m → m.map (·.1) = l.map (·.1) ∧ RepL K P (l.map (·.2)) (m.map (·.2))
  | _, _, .nil => ⟨rfl, .nil⟩
  | _, _, .cons h r => by
    obtain ⟨h1, h2⟩ := KVr.parts r
    exact ⟨by rw [List.map_cons, List.map_cons, h1, h.1], .cons h.2 h2⟩
theorem frz_rep {K : PySem.W.Frag} {H P : Hp} {w : Wd} {p : Addr} {n : Nd} {d : D} (rh : RH K H P w) (h : w p = some n) (hd : frzD n = some d) : ∃ ho, H p = some ho ∧ Rep K (upd P p ho) d (.ref p) := by
  obtain ⟨hp, ho, h1, h2⟩ := rh.own p n h
  have e : Ex P (upd P p ho) := Ex.new hp
  refine ⟨ho, h1, ?_⟩
  cases n with
  | lst xs => obtain ⟨vs, rfl, r⟩ := h2; cases hd; exact .lst upd_same (r.mono e)
  | dK kvs =>
    obtain ⟨vs, rfl, r⟩ := h2; cases hd
    obtain ⟨q1, q2⟩ := KVr.parts (KVr.mono e r)
    rw [← q1]; exact .dct upd_same q2
  | dT kvs =>
    obtain ⟨vs, rfl, r⟩ := h2; cases hd
    obtain ⟨q1, q2⟩ := KVr.parts (KVr.mono e r)
    rw [← q1]; exact .dtt upd_same q2
  | ins C fs =>
    obtain ⟨dx, gs, rfl, r, ow⟩ := h2; cases hd
    obtain ⟨q1, q2⟩ := KVr.parts (KVr.mono e r)
    rw [← q1]; exact .obj upd_same (e _ _ ow) q2
  | lkK o u kvs => cases hd
  | lkT o u kvs => cases hd
def dFrz (i : Nat) (t : DS) : DS := fun D S w => match S[i]? with
  | some (some (.ref p)) => match (w p).bind frzD with
    | some d => t D (S.set i (some d)) (rid w p)
    | none => False
  | _ => False
theorem frz_imp {K : PySem.W.Frag} {W : WX} {W' : DWX} {i : Nat} : ∀ D σ H, liftS K W W' (dFrz i t) D σ H → liftS K W W' t D σ H := fun D σ H ⟨P, w, S, D', rh, sl, h, hd, hx⟩ => by
  unfold dFrz at h
  split at h
  · rename_i p hp
    split at h
    · rename_i d hd'
      cases hw : w p with
      | none => rw [hw] at hd'; cases hd'
      | some n =>
        rw [hw] at hd'
        obtain ⟨ho, h1, h2⟩ := frz_rep rh hw hd'
        have g := rh.frz hw h1
        exact ⟨_, _, _, D', g.rh, (sl.mono g.ex).retell i hp (fun v r => by cases r; exact h2), h, hd.go g, hx.go g⟩
    · exact h.elim
  · exact h.elim
theorem qs_frz (i : Nat) (h : QS X W W' st t) : QS X W W' st (dFrz i t) := PS.imp h frz_imp
theorem qss_frz (i : Nat) (h : QSs X W W' bs t) : QSs X W W' bs (dFrz i t) := PSs.imp h frz_imp
def dBreak : DS := fun D S w => D.bk S w
def dCont : DS := fun D S w => D.ct S w
theorem qs_pass : QS X W W' (.Pass pos) dNext := PS.imp ps_pass fun D σ H ⟨P, w, S, D', rh, sl, h, hd, hx⟩ => hd.nx S w h σ H P rh.go sl
theorem qs_break : QS X W W' (.Break pos) dBreak := PS.imp ps_break fun D σ H ⟨P, w, S, D', rh, sl, h, hd, hx⟩ => hd.bk S w h σ H P rh.go sl
theorem qs_cont : QS X W W' (.Continue pos) dCont := PS.imp ps_continue fun D σ H ⟨P, w, S, D', rh, sl, h, hd, hx⟩ => hd.ct S w h σ H P rh.go sl
def dDrop (te : DE) : DS := fun D S w => te S w fun _ w1 => D.nx S w1
theorem qs_expr (he : QE X W W' e te) (hs : swapsWith e none pos.line X.env = pure false := by rfl) : QS X W W' (.Expr e pos) (dDrop te) := PS.imp (ps_expr he hs)
  fun D σ H ⟨P, w, S, D', rh, sl, h, hd, hx⟩ => ⟨P, w, S, _, rh, sl, h, fun d w1 h1 v H1 P1 g1 r1 => hd.nx S w1 h1 σ H1 P1 g1 (sl.mono g1.ex), hx⟩
def dRet (te : DE) : DS := fun D S w => te S w D.rt
theorem qs_ret (he : QE X W W' e te) : QS X W W' (.Return (some e) pos) (dRet te) := PS.imp (ps_ret he)
  fun D σ H ⟨P, w, S, D', rh, sl, h, hd, hx⟩ => ⟨P, w, S, D'.rt, rh, sl, h, hd.rt, hx⟩
def dRetN : DS := fun D _ w => D.rt .non w
theorem qs_retN : QS X W W' (.Return none pos) dRetN := PS.imp ps_retN fun D σ H ⟨P, w, S, D', rh, sl, h, hd, hx⟩ => hd.rt .non w h .non H P rh.go .non
def dIf (c : DT) (t u : DS) : DS := fun D S w => c S w fun b w1 => if b = true then t D S w1 else u D S w1
theorem qs_if (hc : QT X W W' c tt) (ha : QSs X W W' bs t) (hb : QSs X W W' cs u) : QS X W W' (.If c bs cs pos) (dIf tt t u) := PS.imp (ps_if hc ha hb)
  fun D σ H ⟨P, w, S, D', rh, sl, h, hd, hx⟩ => ⟨P, w, S, _, rh, sl, h, fun b w1 h1 H1 P1 g1 => ite_imp h1 (fun z => ⟨P1, w1, S, D', g1.rh, sl.mono g1.ex, z, hd.go g1, hx.go g1⟩) (fun z => ⟨P1, w1, S, D', g1.rh, sl.mono g1.ex, z, hd.go g1, hx.go g1⟩), hx⟩
/-- a name = e -/
def dAsg (te : DE) (i : Nat) : DS := fun D S w => te S w fun d w1 => D.nx (S.set i (some d)) w1
theorem asg_imp {i : Nat} : ∀ D σ H, liftS X.K W W' (dAsg te i) D σ H → tAsg (liftE X.K W W' te) (gName i) D σ H :=
  fun D σ H ⟨P, w, S, D', rh, sl, h, hd, hx⟩ => ⟨P, w, S, _, rh, sl, h, fun d w1 h1 v H1 P1 g1 r1 => hd.nx _ w1 h1 _ H1 P1 g1 ((sl.mono g1.ex).set i r1), hx⟩
theorem qs_set {i : Nat} {x : Str} (hN : X.N.Nodup) (he : QE X W W' e te) (hi : X.N[i]? = some x := by rfl) (hx : Loc X.env.scope x := by first | exact Or.inl rfl | exact Or.inr rfl) (hs : swapsWith e (some (.Name x pos')) pos.line X.env = pure false := by rfl)
    (hf : X.fn x = true ∨ X.env.scope.names.lookup x = some .local := by first | exact .inl rfl | exact .inr rfl | assumption) : QS X W W' (.Assign [.Name x pos'] e pos) (dAsg te i) := PS.imp (ps_set hN hi hx he hs hf) asg_imp
/-- targets -/
abbrev DG := D → DSt → Wd → (DSt → Wd → Prop) → Prop
abbrev DGs := List D → DSt → Wd → (DSt → Wd → Prop) → Prop
def liftG (K : PySem.W.Frag) (g : DG) : TG := fun v σ H N => ∃ P w S d N', RH K H P w ∧ Slots K P S σ ∧ Rep K P d v ∧ g d S w N' ∧ StOk K H P w N' N
def QG (X : Cx) (tg : Expr) (g : DG) : Prop := PG X tg (liftG X.K g)
theorem PG.imp {tg : Expr} {g h : TG} (p : PG X tg g) (k : ∀ v σ H N, h v σ H N → g v σ H N) : PG X tg h := ⟨fun pins s σ H v u Q I r q => p.run pins s σ H v u Q I r (k v σ H Q q)⟩
def dgName (i : Nat) : DG := fun d S w N => N (S.set i (some d)) w
theorem qg_name {i : Nat} {x : Str} (hN : X.N.Nodup) (hi : X.N[i]? = some x := by rfl) (hx : Loc X.env.scope x := by first | exact Or.inl rfl | exact Or.inr rfl) (hf : X.fn x = true ∨ X.env.scope.names.lookup x = some .local := by first | exact .inl rfl | exact .inr rfl | assumption) : QG X (.Name x pos) (dgName i) := PG.imp (pg_name hN hi hx hf)
  fun v σ H N ⟨P, w, S, d, N', rh, sl, r, h, hn⟩ => hn _ w h _ H P rh.go (sl.set i r)
/-- (x, y, ..), all of them names -/
def gNms : List Nat → TGs
  | [] => gNil
  | i :: r => gCons (gName i) (gNms r)
def setAll : DSt → List Nat → List D → DSt
  | S, i :: r, d :: ds => setAll (S.set i (some d)) r ds
  | S, _, _ => S
def setAllV : St → List Nat → List V → St
  | S, i :: r, d :: ds => setAllV (S.set i (some d)) r ds
  | S, _, _ => S
theorem gNms_of : ∀ (js : List Nat) (vs : List V) (σ : St) (H : Hp) (N : St → Hp → Prop), vs.length = js.length → N (setAllV σ js vs) H → gNms js vs σ H N
  | [], vs, σ, H, N, hl, h => ⟨List.eq_nil_of_length_eq_zero hl, h⟩
  | j :: r, [], σ, H, N, hl, h => by cases hl
  | j :: r, v :: vs, σ, H, N, hl, h => ⟨v, vs, rfl, gNms_of r vs _ H N (by simpa using hl) h⟩
theorem Slots.setAll {K : PySem.W.Frag} {P : Hp} : ∀ (js : List Nat) (ds : List D) (vs : List V) (S : DSt) (σ : St), Slots K P S σ → RepL K P ds vs → Slots K P (TD.setAll S js ds) (setAllV σ js vs)
  | [], ds, vs, S, σ, h, r => by cases ds <;> cases vs <;> exact h
  | j :: r, _, _, S, σ, h, .nil => h
  | j :: js, _, _, S, σ, h, .cons q r => Slots.setAll js _ _ _ _ (h.set j q) r
def dgTup (js : List Nat) : DG := fun d S w N => match d with
  | .tup ds => ds.length = js.length ∧ N (setAll S js ds) w
  | _ => False
theorem gtup_imp {js : List Nat} {n : Nat} (hn : n = js.length) : ∀ v σ H N, liftG X.K (dgTup js) v σ H N → gTup X.K n (gNms js) v σ H N := fun v σ H N ⟨P, w, S, d, N', rh, sl, r, h, hn'⟩ => by
  cases r with
  | tup q r =>
    refine ⟨_, _, rfl, SqT.of (rh.per _ _ q), by rw [r.length, h.1, hn], gNms_of js _ _ _ _ (by rw [r.length, h.1]) ?_⟩
    exact hn' _ w h.2 _ H P rh.go (Slots.setAll js _ _ _ _ sl r)
  | _ => exact h.elim
theorem qg_tup {es : List Expr} {k : Nat} {js : List Nat} (hc : X.calm = true) (h : PGs X es (gNms js)) (hn : (assignEach es X.env).length = js.length := by rfl) (hst : (assignEach es X.env).findIdx? (·.1) = none := by rfl) : QG X (.Tuple es k pos) (dgTup js) :=
  PG.imp (pg_tup hc h hn hst) (gtup_imp rfl)
def dAsgG (te : DE) (g : DG) : DS := fun D S w => te S w fun d w1 => g d S w1 D.nx
theorem qs_asg {tg : Expr} {g : DG} (he : QE X W W' e te) (hg : QG X tg g) (hs : swapsWithSole [tg] e pos.line X.env = pure false := by rfl) (hw : swappedStores [tg] e X.env = pure none := by rfl) (h1 : (assignEach [tg] X.env).map (·.2) = [assign tg X.env] := by rfl) : QS X W W' (.Assign [tg] e pos) (dAsgG te g) := PS.imp (ps_asg he hg hs hw h1)
  fun D σ H ⟨P, w, S, D', rh, sl, h, hd, hx⟩ => ⟨P, w, S, _, rh, sl, h, fun d w1 h1 v H1 P1 g1 r1 => ⟨P1, w1, S, d, D'.nx, g1.rh, sl.mono g1.ex, r1, h1, hd.nx.go g1⟩, hx⟩
/-- x += e, two ints -/
def dAug (i : Nat) (te : DE) (f : Int → Int → Int) : DS := fun D S w => match S[i]? with
  | some (some (.int x)) => te S w fun d w1 => match d with
    | .int y => D.nx (S.set i (some (.int (f x y)))) w1
    | _ => False
  | _ => False
theorem aug_imp {i : Nat} {f : Int → Int → Int} : ∀ D σ H, liftS X.K W W' (dAug i te f) D σ H → tAug i (liftE X.K W W' te) (ipI f) D σ H := fun D σ H ⟨P, w, S, D', rh, sl, h, hd, hx⟩ => by
  unfold dAug at h
  split at h
  · rename_i x hs
    obtain ⟨v, h1, h2⟩ := sl.2 i _ hs
    cases h2
    refine ⟨_, h1, P, w, S, _, rh, sl, h, fun d w1 q v H1 P1 g1 r1 => ?_, hx⟩
    cases r1 with
    | int y => exact ⟨x, y, rfl, rfl, hd.nx _ w1 q _ H1 P1 g1 ((sl.mono g1.ex).set i (.int _))⟩
    | _ => exact q.elim
  · exact h.elim
theorem qs_augAdd {i : Nat} {x : Str} (hN : X.N.Nodup) (he : QE X W W' e te) (hi : X.N[i]? = some x := by rfl) (hx : Loc X.env.scope x := by first | exact Or.inl rfl | exact Or.inr rfl)
    (hf : X.fn x = true ∨ X.env.scope.names.lookup x = some .local := by first | exact .inl rfl | exact .inr rfl | assumption) : QS X W W' (.AugAssign (.Name x pos') .Add e pos) (dAug i te fun x y => x + y) := PS.imp (ps_aug hN hi hx he ip_add hf) aug_imp
theorem qs_augSub {i : Nat} {x : Str} (hN : X.N.Nodup) (he : QE X W W' e te) (hi : X.N[i]? = some x := by rfl) (hx : Loc X.env.scope x := by first | exact Or.inl rfl | exact Or.inr rfl)
    (hf : X.fn x = true ∨ X.env.scope.names.lookup x = some .local := by first | exact .inl rfl | exact .inr rfl | assumption) : QS X W W' (.AugAssign (.Name x pos') .Sub e pos) (dAug i te fun x y => x - y) := PS.imp (ps_aug hN hi hx he ip_sub hf) aug_imp

/-! ### loops -/
def dWhile (c : DT) (tb : DS) : DS := fun D S w => ∃ Iv : Nat → DSt → Wd → Prop, (∃ m, Iv m S w) ∧ ∀ m S w, Iv m S w → c S w fun b w1 => if b = true then tb { D with nx := fun S2 w2 => ∃ m', m' < m ∧ Iv m' S2 w2, ct := fun S2 w2 => ∃ m', m' < m ∧ Iv m' S2 w2, bk := D.nx } S w1 else D.nx S w1
theorem qs_while (hp : PassesOwn (model X.prog X.w) X.A X.env X.xe) (hc : QT X W W' c tt) (hb : QSs X W W' bs t) : QS X W W' (.While c bs [] pos) (dWhile tt t) := PS.imp (ps_while hp hc hb)
  fun D σ H ⟨P, w, S, D', rh, sl, ⟨Iv, ⟨m0, h0⟩, hs⟩, hd, hx⟩ => by
    refine ⟨fun m σ2 H2 => ∃ P2 w2 S2, Go X.K H P w H2 P2 w2 ∧ Slots X.K P2 S2 σ2 ∧ Iv m S2 w2, ⟨m0, P, w, S, rh.go, sl, h0⟩, ?_⟩
    rintro m σ2 H2 ⟨P2, w2, S2, g2, sl2, h2⟩
    refine ⟨P2, w2, S2, _, g2.rh, sl2, hs m S2 w2 h2, fun b w3 h3 H3 P3 g3 => ite_imp h3 (fun z => ?_) (fun z => hd.nx S2 w3 z _ H3 P3 (g2.trans g3) (sl2.mono g3.ex)), hx.go g2⟩
    have g := g2.trans g3
    refine ⟨fun σ4 H4 => ∃ m', m' < m ∧ ∃ P4 w4 S4, Go X.K H P w H4 P4 w4 ∧ Slots X.K P4 S4 σ4 ∧ Iv m' S4 w4, fun σ4 H4 q => q, P3, w3, S2, _, g3.rh, sl2.mono g3.ex, z, ⟨?_, hd.rt.go g, hd.nx.go g, ?_⟩, hx.go g⟩
    all_goals
      rintro S4 w4 ⟨m', hm, h4⟩ σ4 H4 P4 g4 sl4
      exact ⟨m', hm, P4, w4, S4, g.trans g4, sl4, h4⟩
/-- what a loop walks -/
structure DIt where
  n : Nat
  item : Nat → D
  ok : Wd → Prop
abbrev DI := DSt → Wd → (DIt → Wd → Prop) → Prop
def ItOk (K : PySem.W.Frag) (H0 P0 : Hp) (w0 : Wd) (J : It) (j : DIt) : Prop := ∀ H P w, (∀ a u, P0 a = some u → P a = some u) → RH K H P w → j.ok w → (∀ i, i < j.n → J.go i H ∧ ∀ x H1, J.yld i H x H1 → ∃ P1, Go K H P w H1 P1 w ∧ Rep K P1 (j.item i) x) ∧ J.stop j.n H
def liftI (K : PySem.W.Frag) (W : WX) (W' : DWX) (t : DI) : TI := fun σ H R => ∃ P w S R', RH K H P w ∧ Slots K P S σ ∧ t S w R' ∧ (∀ j w1, R' j w1 → ∀ J H1 P1, Go K H P w H1 P1 w1 → ItOk K H1 P1 w1 J j → R J H1) ∧ WOk K H P w W' W
def QI (X : Cx) (W : WX) (W' : DWX) (tg iter : Expr) (t : DI) : Prop := PI X tg iter (liftI X.K W W' t)
theorem PI.imp {tg iter : Expr} {t u : TI} (p : PI X tg iter t) (k : ∀ σ H R, u σ H R → t σ H R) : PI X tg iter u := ⟨fun pins s σ H R I q => p.run pins s σ H R I (k σ H R q)⟩
def dFor (it : DI) (g : DG) (tb : DS) : DS := fun D S w => it S w fun j w1 => ∃ Iv : Nat → DSt → Wd → Prop, Iv 0 S w1 ∧
  (∀ i S2 w2, i < j.n → Iv i S2 w2 → j.ok w2 ∧ g (j.item i) S2 w2 fun S3 w3 => tb { D with nx := Iv (i + 1), ct := Iv (i + 1), bk := D.nx } S3 w3) ∧ ∀ S2 w2, Iv j.n S2 w2 → j.ok w2 ∧ D.nx S2 w2
theorem for_imp {it : DI} {g : DG} : ∀ D σ H, liftS X.K W W' (dFor it g t) D σ H → tFor (liftI X.K W W' it) (liftG X.K g) (liftS X.K W W' t) D σ H := by
  rintro D σ H ⟨P, w, S, D', rh, sl, h, hd, hx⟩
  refine ⟨P, w, S, _, rh, sl, h, fun j w1 hj J H1 P1 g1 iok => ?_, hx⟩
  obtain ⟨Iv, h0, hs, hn⟩ := hj
  refine ⟨fun i m σ2 H2 => i + m = j.n ∧ ∃ P2 w2 S2, Go X.K H1 P1 w1 H2 P2 w2 ∧ Slots X.K P2 S2 σ2 ∧ Iv i S2 w2, ⟨j.n, by omega, P1, w1, S, g1.rh.go, sl.mono g1.ex, h0⟩, ?_⟩
  rintro i m σ2 H2 ⟨him, P2, w2, S2, g2, sl2, h2⟩
  by_cases hlt : i < j.n
  · obtain ⟨ok2, q2⟩ := hs i S2 w2 hlt h2
    obtain ⟨go, yl⟩ := (iok H2 P2 w2 g2.ex g2.rh ok2).1 i hlt
    refine .inr ⟨go, fun σ4 H4 => ∃ P4 w4 S4, Go X.K H1 P1 w1 H4 P4 w4 ∧ Slots X.K P4 S4 σ4 ∧ Iv (i + 1) S4 w4, fun σ4 H4 q => ⟨m - 1, by omega, by omega, q⟩, fun x H3 y => ?_⟩
    obtain ⟨P3, g3, r3⟩ := yl x H3 y
    refine ⟨P3, w2, S2, _, _, g3.rh, sl2.mono g3.ex, r3, q2, fun S4 w4 h4 σ4 H4 P4 g4 sl4 => ?_⟩
    have gg := (g2.trans g3).trans g4
    refine ⟨P4, w4, S4, _, g4.rh, sl4, h4, ⟨?_, hd.rt.go (g1.trans gg), hd.nx.go (g1.trans gg), ?_⟩, hx.go (g1.trans gg)⟩
    all_goals
      intro S5 w5 h5 σ5 H5 P5 g5 sl5
      exact ⟨P5, w5, S5, gg.trans g5, sl5, h5⟩
  · have e : i = j.n := by omega
    subst e
    obtain ⟨ok2, q2⟩ := hn S2 w2 h2
    exact .inl ⟨(iok H2 P2 w2 g2.ex g2.rh ok2).2, hd.nx S2 w2 q2 σ2 H2 P2 (g1.trans g2) sl2⟩
theorem qs_for {tg iter : Expr} {it : DI} {g : DG} (hp : PassesOwn (model X.prog X.w) X.A X.env X.xe) (hc : X.calm = true) (hi : QI X W W' tg iter it) (hg : QG X tg g) (hb : QSs X W W' bs t) (hs : ∀ x, foldedSetIterable iter X.env x = pure x := by intro _; rfl) : QS X W W' (.For tg iter bs [] pos) (dFor it g t) := PS.imp (ps_for hp hc hi hg hb hs) for_imp
end
end TD

set_option maxHeartbeats 2000000
namespace TD
open PySem PySem.Spec PyProof.Rows L2
/-! ### comprehensions -/
def wipeD (S : DSt) : List Nat → DSt
  | [] => S
  | v :: vs => (wipeD S vs).set v none
theorem Slots.wipe {K : PySem.W.Frag} {P : Hp} {S : DSt} {σ : St} (h : Slots K P S σ) : ∀ vs : List Nat, Slots K P (wipeD S vs) (L2.wipe σ vs)
  | [] => h
  | v :: vs => (Slots.wipe h vs).del v
theorem wipe_set {σ : St} {o : Option V} {j : Nat} : ∀ {vs : List Nat}, j ∈ vs → L2.wipe (σ.set j o) vs = L2.wipe σ vs := by
  intro vs
  induction vs generalizing σ with
  | nil => intro h; cases h
  | cons v vs ih =>
    intro h
    by_cases hv : j ∈ vs
    · show (L2.wipe (σ.set j o) vs).set v none = (L2.wipe σ vs).set v none
      rw [ih hv]
    · have e : j = v := by
        rcases List.mem_cons.mp h with e | e
        · exact e
        · exact (hv e).elim
      subst e
      have com : ∀ (us : List Nat) (τ : St), j ∉ us → L2.wipe (τ.set j o) us = (L2.wipe τ us).set j o := by
        intro us
        induction us with
        | nil => intro τ _; rfl
        | cons u us ih2 =>
          intro τ hu
          show (L2.wipe (τ.set j o) us).set u none = ((L2.wipe τ us).set u none).set j o
          rw [ih2 τ (fun z => hu (List.mem_cons_of_mem _ z)), List.set_comm _ _ (fun z => hu (by rw [z]; exact List.mem_cons_self))]
      show (L2.wipe (σ.set j o) vs).set j none = (L2.wipe σ vs).set j none
      rw [com vs σ hv, List.set_set]
theorem wipe_setAll {js : List Nat} : ∀ (ks : List Nat) (vs : List V) (σ : St), (∀ k ∈ ks, k ∈ js) → L2.wipe (setAllV σ ks vs) js = L2.wipe σ js
  | [], vs, σ, _ => by cases vs <;> rfl
  | k :: ks, [], σ, _ => rfl
  | k :: ks, v :: vs, σ, h => by
    show L2.wipe (setAllV (σ.set k (some v)) ks vs) js = _
    rw [wipe_setAll ks vs _ fun x hx => h x (List.mem_cons_of_mem _ hx), wipe_set (h k List.mem_cons_self)]
theorem wipe_wipe {js : List Nat} : ∀ (ks : List Nat) (σ : St), (∀ k ∈ ks, k ∈ js) → L2.wipe (L2.wipe σ ks) js = L2.wipe σ js
  | [], σ, _ => rfl
  | k :: ks, σ, h => by
    show L2.wipe ((L2.wipe σ ks).set k none) js = _
    rw [wipe_set (h k List.mem_cons_self), wipe_wipe ks σ fun x hx => h x (List.mem_cons_of_mem _ hx)]
/-- a comprehension's target: one name, or a tuple of names -/
inductive Tgt where
  | one (j : Nat) | many (js : List Nat)
def Tgt.vs : Tgt → List Nat
  | .one j => [j]
  | .many js => js
def Tgt.tg (K : PySem.W.Frag) : Tgt → TG
  | .one j => gName j
  | .many js => gTup K js.length (gNms js)
def Tgt.dg : Tgt → D → DSt → (DSt → Prop) → Prop
  | .one j, d, S, N => N (S.set j (some d))
  | .many js, d, S, N => match d with
    | .tup ds => ds.length = js.length ∧ N (setAll S js ds)
    | _ => False
theorem Tgt.imp {K : PySem.W.Frag} {H P : Hp} {w : Wd} {S : DSt} {σ : St} {d : D} {v : V} {N' : DSt → Prop} {N : St → Hp → Prop} (T : Tgt) (rh : RH K H P w) (sl : Slots K P (wipeD S T.vs) (L2.wipe σ T.vs)) (r : Rep K P d v) (h : T.dg d (wipeD S T.vs) N')
    (k : ∀ S2 σ2, N' S2 → Slots K P S2 σ2 → L2.wipe σ2 T.vs = L2.wipe σ T.vs → N σ2 H) : T.tg K v (L2.wipe σ T.vs) H N := by
  cases T with
  | one j => exact k _ _ h (sl.set j r) (by show L2.wipe ((L2.wipe σ [j]).set j (some v)) [j] = _; rw [wipe_set (by simp), wipe_wipe [j] σ fun _ z => z] <;> rfl)
  | many js =>
    cases r with
    | tup q r =>
      refine ⟨_, _, rfl, SqT.of (rh.per _ _ q), by rw [r.length, h.1], gNms_of js _ _ _ _ (by rw [r.length, h.1]) ?_⟩
      exact k _ _ h.2 (Slots.setAll js _ _ _ _ sl r) (by show L2.wipe (setAllV (L2.wipe σ js) js _) js = _; rw [wipe_setAll js _ _ fun _ z => z, wipe_wipe js σ fun _ z => z] <;> rfl)
    | _ => exact h.elim
def LcBody (T : Tgt) (tt : DT) (te : DE) (S : DSt) (w1 : Wd) (j : DIt) (acc : Nat → List D) : Prop := acc 0 = [] ∧ j.n ≤ sizeLine ∧ j.ok w1 ∧
  ∀ i, i < j.n → T.dg (j.item i) (wipeD S T.vs) fun S2 => tt S2 w1 fun b w2 => w2 = w1 ∧ if b = true then te S2 w1 fun d w3 => w3 = w1 ∧ acc (i + 1) = acc i ++ [d] else acc (i + 1) = acc i
def dLc (it : DI) (T : Tgt) (tt : DT) (te : DE) : DE := fun S w Q => it S w fun j w1 => ∃ acc : Nat → List D, LcBody T tt te S w1 j acc ∧ Q (.lst (acc j.n)) w1
def dLcO (it : DI) (T : Tgt) (tt : DT) (te : DE) : DE := fun S w Q => it S w fun j w1 => ∃ acc : Nat → List D, LcBody T tt te S w1 j acc ∧ ∀ p, w1 p = none → Q (.ref p) (put w1 p (.lst (acc j.n)))
/-- the state within a comprehension: the new list at A stands apart -/
structure LcAt (K : PySem.W.Frag) (H1 P1 : Hp) (w1 : Wd) (A : Addr) (ds : List D) (H P : Hp) (vs : List V) : Prop where
  ex : Ex P1 P
  rh : RH K H P w1
  at_ : H A = some (.lst vs)
  pn : P A = none
  wn : w1 A = none
  rep : RepL K P ds vs
  fr : ∀ a u, a ≠ A → NT u → H1 a = some u → P1 a = none → w1 a = none → H a = some u ∧ P a = none
theorem LcAt.go {K : PySem.W.Frag} {H1 P1 H P H2 P2 : Hp} {w1 : Wd} {A : Addr} {ds : List D} {vs : List V} (h : LcAt K H1 P1 w1 A ds H P vs) (g : Go K H P w1 H2 P2 w1) : LcAt K H1 P1 w1 A ds H2 P2 vs :=
  ⟨h.ex.trans g.ex, g.rh, (g.fr A _ (fun _ z => HO.noConfusion z) h.at_ h.pn h.wn).1, (g.fr A _ (fun _ z => HO.noConfusion z) h.at_ h.pn h.wn).2.1, h.wn, h.rep.mono g.ex, fun a u ha nt h1 h2 h3 => by
    obtain ⟨q1, q2⟩ := h.fr a u ha nt h1 h2 h3
    obtain ⟨z1, z2, _⟩ := g.fr a u nt q1 q2 h3
    exact ⟨z1, z2⟩⟩
theorem LcAt.add {K : PySem.W.Frag} {H1 P1 H P : Hp} {w1 : Wd} {A : Addr} {ds : List D} {vs : List V} {d : D} {v : V} (h : LcAt K H1 P1 w1 A ds H P vs) (r : Rep K P d v) : LcAt K H1 P1 w1 A (ds ++ [d]) (upd H A (.lst (vs ++ [v]))) P (vs ++ [v]) :=
  ⟨h.ex, h.rh.setF h.pn h.wn, upd_same, h.pn, h.wn, h.rep.append (.cons r .nil), fun a u ha nt h1 h2 h3 => by rw [upd_ne ha]; exact h.fr a u ha nt h1 h2 h3⟩
theorem lc_imp {K : PySem.W.Frag} {W : WX} {W' : DWX} {it : DI} {T : Tgt} {tt : DT} {te : DE} {σ : St} {H P : Hp} {w : Wd} {S : DSt} {R' : DIt → Wd → Prop} {Q : VK} (rh : RH K H P w) (sl : Slots K P S σ) (h : it S w R') (hx : WOk K H P w W' W)
    (hR : ∀ j w1, R' j w1 → ∃ acc : Nat → List D, LcBody T tt te S w1 j acc ∧ ∀ A H1 P1 H2 P2 vs, Go K H P w H1 P1 w1 → H1 A = none → LcAt K H1 P1 w1 A (acc j.n) H2 P2 vs → Q (.ref A) H2) :
    tLc (liftI K W W' it) (T.tg K) (liftT K W0 DW0 tt) (liftE K W0 DW0 te) T.vs σ H Q := by
  refine ⟨P, w, S, R', rh, sl, h, fun j w1 hj J H1 P1 g1 iok => ?_, hx⟩
  obtain ⟨acc, ⟨a0, hn, hok, hb⟩, hQ⟩ := hR j w1 hj
  intro A hA
  obtain ⟨pA, wA⟩ := g1.rh.free hA
  refine ⟨fun i m H2 => i + m = j.n ∧ ∃ P2 vs, LcAt K H1 P1 w1 A (acc i) H2 P2 vs ∧ vs.length ≤ i, ⟨j.n, by omega, P1, [], ⟨Ex.refl _, g1.rh.setF pA wA, upd_same, pA, wA, by rw [a0]; exact .nil, fun a u ha _ h1 h2 h3 => ⟨by rw [upd_ne ha]; exact h1, h2⟩⟩, Nat.le_refl _⟩, ?_⟩
  rintro i m H2 ⟨him, P2, vs, hL, hvl⟩
  by_cases hlt : i < j.n
  · obtain ⟨go, yl⟩ := (iok H2 P2 w1 hL.ex hL.rh hok).1 i hlt
    refine .inr ⟨go, fun H4 => ∃ P4 vs4, LcAt K H1 P1 w1 A (acc (i + 1)) H4 P4 vs4 ∧ vs4.length ≤ i + 1, fun H4 q => ⟨m - 1, by omega, by omega, q⟩, fun x H3 y => ?_⟩
    obtain ⟨P3, g3, r3⟩ := yl x H3 y
    have hL3 := hL.go g3
    refine Tgt.imp T g3.rh ((sl.mono (g1.ex.trans hL3.ex)).wipe T.vs) r3 (hb i hlt) fun S4 σ4 h4 sl4 hw4 => ⟨hw4, ?_⟩
    refine ⟨P3, w1, S4, _, g3.rh, sl4, h4, fun b w5 h5 H5 P5 g5 => ?_, WOk.none⟩
    obtain ⟨e5, h5⟩ := h5
    subst e5
    have hL5 := hL3.go g5
    refine ite_imp h5 (fun z => ?_) (fun z => ?_)
    · refine ⟨P5, _, S4, _, g5.rh, sl4.mono g5.ex, z, fun d w6 h6 v6 H6 P6 g6 r6 => ?_, WOk.none⟩
      obtain ⟨e6, h6⟩ := h6
      subst e6
      have hL6 := hL5.go g6
      refine ⟨vs, hL6.at_, by omega, P6, vs ++ [v6], ?_, by rw [List.length_append]; simp; exact hvl⟩
      rw [h6]
      exact hL6.add r6
    · rw [z]
      exact ⟨P5, vs, hL5, by omega⟩
  · have e : i = j.n := by omega
    subst e
    exact .inl ⟨(iok H2 P2 w1 hL.ex hL.rh hok).2, hQ A H1 P1 H2 P2 vs g1 hA hL⟩
theorem LcAt.endP {K : PySem.W.Frag} {H1 P1 H P : Hp} {w1 : Wd} {A : Addr} {ds : List D} {vs : List V} (h : LcAt K H1 P1 w1 A ds H P vs) (hA : H1 A = none) : Go K H1 P1 w1 H (upd P A (.lst vs)) w1 ∧ Rep K (upd P A (.lst vs)) (.lst ds) (.ref A) := by
  have e : Ex P (upd P A (.lst vs)) := Ex.new h.pn
  refine ⟨⟨h.ex.trans e, ⟨fun a u q => ?_, fun a n q => ?_⟩, fun a u nt q hq hw1 => ?_⟩, .lst upd_same (h.rep.mono e)⟩
  · by_cases ha : a = A
    · subst ha; rw [upd_same] at q; rw [← q]; exact h.at_
    · rw [upd_ne ha] at q; exact h.rh.per a u q
  · obtain ⟨h1, ho, h2, h3⟩ := h.rh.own a n q
    have ha : a ≠ A := fun z => by rw [z, h.wn] at q; cases q
    rw [upd_ne ha]
    exact ⟨h1, ho, h2, h3.mono e⟩
  · have ha : a ≠ A := ne_of_none q hA
    obtain ⟨z1, z2⟩ := h.fr a u ha nt q hq hw1
    rw [upd_ne ha]
    exact ⟨z1, z2, hw1⟩
theorem LcAt.endW {K : PySem.W.Frag} {H1 P1 H P : Hp} {w1 : Wd} {A : Addr} {ds : List D} {vs : List V} (h : LcAt K H1 P1 w1 A ds H P vs) (hA : H1 A = none) : Go K H1 P1 w1 H P (put w1 A (.lst ds)) := by
  refine ⟨h.ex, ⟨h.rh.per, fun a n q => ?_⟩, fun a u nt q hq hw1 => ?_⟩
  · by_cases ha : a = A
    · subst ha; rw [put_same] at q; cases q
      exact ⟨h.pn, _, h.at_, vs, rfl, h.rep⟩
    · rw [put_ne ha] at q; exact h.rh.own a n q
  · have ha : a ≠ A := ne_of_none q hA
    obtain ⟨z1, z2⟩ := h.fr a u ha nt q hq hw1
    rw [put_ne ha]
    exact ⟨z1, z2, hw1⟩
section
variable {X : Cx} {W : WX} {W' : DWX} {it : DI} {T : Tgt} {tt : DT} {te : DE} {elt tg iter : Expr} {ifs : List Expr} {scope : Scope} {own : List (Str × Nat)} {pos pos' : Pos}
theorem lcP_imp : ∀ σ H Q, liftE X.K W W' (dLc it T tt te) σ H Q → tLc (liftI X.K W W' it) (T.tg X.K) (liftT X.K W0 DW0 tt) (liftE X.K W0 DW0 te) T.vs σ H Q :=
  fun σ H Q ⟨P, w, S, Q', rh, sl, h, hq, hx⟩ => lc_imp rh sl h hx fun j w1 ⟨acc, hb, hQ⟩ => ⟨acc, hb, fun A H1 P1 H2 P2 vs g1 hA hL => by
    obtain ⟨g2, r2⟩ := hL.endP hA
    exact hq _ w1 hQ _ H2 _ (g1.trans g2) r2⟩
theorem lcO_imp : ∀ σ H Q, liftE X.K W W' (dLcO it T tt te) σ H Q → tLc (liftI X.K W W' it) (T.tg X.K) (liftT X.K W0 DW0 tt) (liftE X.K W0 DW0 te) T.vs σ H Q :=
  fun σ H Q ⟨P, w, S, Q', rh, sl, h, hq, hx⟩ => lc_imp rh sl h hx fun j w1 ⟨acc, hb, hQ⟩ => ⟨acc, hb, fun A H1 P1 H2 P2 vs g1 hA hL =>
    hq _ _ (hQ A hL.wn) _ H2 _ (g1.trans (hL.endW hA)) (.ref A)⟩
def QTs (X : Cx) (ifs : List Expr) (t : DT) : Prop := PTs X ifs (liftT X.K W0 DW0 t)
def dYes : DT := fun _ w Q => Q true w
theorem qts_nil : QTs X [] dYes := ⟨fun pins s σ H Q I ⟨P, w, S, Q', rh, sl, h, hq, hx⟩ => pts_nil.run pins s σ H Q I (hq true w h H P rh.go)⟩
theorem qts_one {c : Expr} (h : QT X W0 DW0 c tt) : QTs X [c] tt := pts_one h
theorem qe_lc (hv : own.map (·.2) = T.vs) (hc : X.calm = true) (hN : X.N.Nodup) (hi : QI X W W' tg iter it) (ok : BlkOk X.N X.env.scope scope own)
    (hg : ∀ (s : Shared) (H : Hp) (C : Addr) (cl : List (Str × Addr)) (fp : List Addr), PG (X.blk s H scope (compEnvC scope cl C X.env) fp) tg (T.tg X.K)) (ht : ∀ (s : Shared) (H : Hp) (C : Addr) (cl : List (Str × Addr)) (fp : List Addr), QTs (X.blk s H scope (compEnvC scope cl C X.env) fp) ifs tt)
    (he : ∀ (s : Shared) (H : Hp) (C : Addr) (cl : List (Str × Addr)) (fp : List Addr), QE (X.blk s H scope (compEnvC scope cl C X.env) fp) W0 DW0 elt te) (hs : ∀ x, foldedSetIterable iter X.env x = pure x := by intro _; rfl) :
    QE X W W' (.ListComp elt [⟨tg, iter, ifs, 0⟩] scope pos) (dLc it T tt te) := by
  have q := pe_lc (pos := pos) (tt := liftT X.K W0 DW0 tt) (te := liftE X.K W0 DW0 te) hc hN hi ok hg ht he hs
  rw [hv] at q
  exact PE.imp q lcP_imp
theorem qe_lcO (hv : own.map (·.2) = T.vs) (hc : X.calm = true) (hN : X.N.Nodup) (hi : QI X W W' tg iter it) (ok : BlkOk X.N X.env.scope scope own)
    (hg : ∀ (s : Shared) (H : Hp) (C : Addr) (cl : List (Str × Addr)) (fp : List Addr), PG (X.blk s H scope (compEnvC scope cl C X.env) fp) tg (T.tg X.K)) (ht : ∀ (s : Shared) (H : Hp) (C : Addr) (cl : List (Str × Addr)) (fp : List Addr), QTs (X.blk s H scope (compEnvC scope cl C X.env) fp) ifs tt)
    (he : ∀ (s : Shared) (H : Hp) (C : Addr) (cl : List (Str × Addr)) (fp : List Addr), QE (X.blk s H scope (compEnvC scope cl C X.env) fp) W0 DW0 elt te) (hs : ∀ x, foldedSetIterable iter X.env x = pure x := by intro _; rfl) :
    QE X W W' (.ListComp elt [⟨tg, iter, ifs, 0⟩] scope pos) (dLcO it T tt te) := by
  have q := pe_lc (pos := pos) (tt := liftT X.K W0 DW0 tt) (te := liftE X.K W0 DW0 te) hc hN hi ok hg ht he hs
  rw [hv] at q
  exact PE.imp q lcO_imp
theorem qs_setLc {i : Nat} {y : Str} {py spos : Pos} (hv : own.map (·.2) = T.vs) (hc : X.calm = true) (hN : X.N.Nodup) (hy : X.N[i]? = some y) (hyl : X.env.scope.names.lookup y = some .local)
    (hsw : swapsWith (.ListComp elt [⟨tg, iter, ifs, 0⟩] scope pos) (some (.Name y py)) spos.line X.env = pure true) (hi : QI X W W' tg iter it) (ok : BlkOk X.N X.env.scope scope own)
    (hg : ∀ (s : Shared) (H : Hp) (C : Addr) (cl : List (Str × Addr)) (fp : List Addr), PG (X.blk s H scope (compEnvC scope cl C X.env) fp) tg (T.tg X.K)) (ht : ∀ (s : Shared) (H : Hp) (C : Addr) (cl : List (Str × Addr)) (fp : List Addr), QTs (X.blk s H scope (compEnvC scope cl C X.env) fp) ifs tt)
    (he : ∀ (s : Shared) (H : Hp) (C : Addr) (cl : List (Str × Addr)) (fp : List Addr), QE (X.blk s H scope (compEnvC scope cl C X.env) fp) W0 DW0 elt te) (hs : ∀ x, foldedSetIterable iter X.env x = pure x := by intro _; rfl) :
    QS X W W' (.Assign [.Name y py] (.ListComp elt [⟨tg, iter, ifs, 0⟩] scope pos) spos) (dAsg (dLc it T tt te) i) := by
  have q := ps_setLc (pos := pos) (tt := liftT X.K W0 DW0 tt) (te := liftE X.K W0 DW0 te) hc hN hy hyl hsw hi ok hg ht he hs
  rw [hv] at q
  refine PS.imp q fun D σ H ⟨P, w, S, D', rh, sl, h, hd, hx⟩ => lcP_imp σ H _ ⟨P, w, S, _, rh, sl, h, fun d w1 h1 v H1 P1 g1 r1 => hd.nx _ w1 h1 _ H1 P1 g1 ((sl.mono g1.ex).set i r1), hx⟩
theorem qs_setLcO {i : Nat} {y : Str} {py spos : Pos} (hv : own.map (·.2) = T.vs) (hc : X.calm = true) (hN : X.N.Nodup) (hy : X.N[i]? = some y) (hyl : X.env.scope.names.lookup y = some .local)
    (hsw : swapsWith (.ListComp elt [⟨tg, iter, ifs, 0⟩] scope pos) (some (.Name y py)) spos.line X.env = pure true) (hi : QI X W W' tg iter it) (ok : BlkOk X.N X.env.scope scope own)
    (hg : ∀ (s : Shared) (H : Hp) (C : Addr) (cl : List (Str × Addr)) (fp : List Addr), PG (X.blk s H scope (compEnvC scope cl C X.env) fp) tg (T.tg X.K)) (ht : ∀ (s : Shared) (H : Hp) (C : Addr) (cl : List (Str × Addr)) (fp : List Addr), QTs (X.blk s H scope (compEnvC scope cl C X.env) fp) ifs tt)
    (he : ∀ (s : Shared) (H : Hp) (C : Addr) (cl : List (Str × Addr)) (fp : List Addr), QE (X.blk s H scope (compEnvC scope cl C X.env) fp) W0 DW0 elt te) (hs : ∀ x, foldedSetIterable iter X.env x = pure x := by intro _; rfl) :
    QS X W W' (.Assign [.Name y py] (.ListComp elt [⟨tg, iter, ifs, 0⟩] scope pos) spos) (dAsg (dLcO it T tt te) i) := by
  have q := ps_setLc (pos := pos) (tt := liftT X.K W0 DW0 tt) (te := liftE X.K W0 DW0 te) hc hN hy hyl hsw hi ok hg ht he hs
  rw [hv] at q
  refine PS.imp q fun D σ H ⟨P, w, S, D', rh, sl, h, hd, hx⟩ => lcO_imp σ H _ ⟨P, w, S, _, rh, sl, h, fun d w1 h1 v H1 P1 g1 r1 => hd.nx _ w1 h1 _ H1 P1 g1 ((sl.mono g1.ex).set i r1), hx⟩
end
end TD

set_option maxHeartbeats 2000000
namespace TD
open PySem PySem.Spec PyProof.Rows L2
/-! ### reading lists -/
def getM (w : Wd) : D → Option (List D)
  | .lst xs => some xs
  | .ref a => match w a with
    | some (.lst xs) => some xs
    | _ => none
  | _ => none
def getL (w : Wd) : D → Option (List D)
  | .lst xs => some xs
  | .rol xs => some xs
  | .ref a => match w a with
    | some (.lst xs) => some xs
    | _ => none
  | _ => none
section
variable {K : PySem.W.Frag} {H P : Hp} {w : Wd} {d : D} {v : V} {ds : List D}
theorem getM_at (rh : RH K H P w) (r : Rep K P d v) (h : getM w d = some ds) : ∃ a vs, v = .ref a ∧ H a = some (.lst vs) ∧ RepL K P ds vs := by
  cases r with
  | lst q r => cases h; exact ⟨_, _, rfl, rh.per _ _ q, r⟩
  | ref a =>
    unfold getM at h
    dsimp only at h
    split at h
    · rename_i xs hw
      cases h
      obtain ⟨_, ho, h1, vs, e, r⟩ := rh.own a _ hw
      subst e
      exact ⟨a, vs, rfl, h1, r⟩
    · cases h
  | _ => cases h
theorem getL_at (rh : RH K H P w) (r : Rep K P d v) (h : getL w d = some ds) : ∃ a vs, v = .ref a ∧ SqL K H a vs ∧ RepL K P ds vs := by
  cases r with
  | rol q r => cases h; exact ⟨_, _, rfl, sqL_ex (fun u z => rh.per _ u z) q, r⟩
  | lst q r => cases h; exact ⟨_, _, rfl, SqL.of (rh.per _ _ q), r⟩
  | ref a =>
    obtain ⟨b, vs, e, q, r⟩ := getM_at (K := K) (d := .ref a) (v := .ref a) rh (.ref a) (ds := ds) h
    exact ⟨b, vs, e, SqL.of q, r⟩
  | _ => cases h
end
/-! ### arithmetic and + -/
def addD : DR2 := fun x y w Q => match x, y with
  | .int i, .int j => Q (.int (i + j)) w
  | .str a, .str b => a.length + b.length ≤ sizeLine ∧ Q (.str (a ++ b)) w
  | .tup xs, .tup ys => xs.length + ys.length ≤ sizeLine ∧ Q (.tup (xs ++ ys)) w
  | x, y => match getM w x, getM w y with
    | some xs, some ys => xs.length + ys.length ≤ sizeLine ∧ Q (.lst (xs ++ ys)) w
    | _, _ => False
def rAddA (K : PySem.W.Frag) : R2 := fun x y H Q => (∃ i j, x = .int i ∧ y = .int j ∧ Q (.int (i + j)) H) ∨ (∃ i j, x = .str i ∧ y = .str j ∧ i.length + j.length ≤ sizeLine ∧ Q (.str (i ++ j)) H) ∨ rCatA K x y H Q ∨ rCat x y H Q
theorem op_addA {X : Cx} : OpR X (binaryOp .Add) (rAddA X.K) := OpR.or op_add (OpR.or op_add_str (OpR.or op_catA op_cat))
theorem tr_lists {K : PySem.W.Frag} {H P : Hp} {w : Wd} {x y : V} {dx dy : D} {Q' : DKt} {Q : VK} (rh : RH K H P w) (rx : Rep K P dx x) (ry : Rep K P dy y) (hq : RetOk K H P w Q' Q)
    (h : match getM w dx, getM w dy with
    | some xs, some ys => xs.length + ys.length ≤ sizeLine ∧ Q' (.lst (xs ++ ys)) w
    | _, _ => False) : rCat x y H Q := by
  split at h
  · rename_i xs ys hx hy
    obtain ⟨a, vs, rfl, ha, ra⟩ := getM_at rh rx hx
    obtain ⟨b, us, rfl, hb, rb⟩ := getM_at rh ry hy
    refine ⟨a, b, vs, us, rfl, rfl, ha, hb, by rw [ra.length, rb.length]; exact h.1, fun p hp => ?_⟩
    have g := rh.newP (o := .lst (vs ++ us)) hp
    exact hq _ w h.2 _ _ _ g (.lst upd_same ((ra.append rb).mono g.ex))
  · exact h.elim
theorem tr_addA {K : PySem.W.Frag} : TrR2 K (rAddA K) addD := by
  intro H P w x y dx dy Q' Q rh rx ry h hq
  cases rx with
  | int i =>
    cases ry with
    | int j => exact .inl ⟨i, j, rfl, rfl, hq _ w h _ H P rh.go (.int _)⟩
    | _ => exact h.elim
  | str i =>
    cases ry with
    | str j => exact .inr (.inl ⟨i, j, rfl, rfl, h.1, hq _ w h.2 _ H P rh.go (.str _)⟩)
    | _ => exact h.elim
  | tup q r =>
    cases ry with
    | tup q2 r2 =>
      rename_i a vs ds b us es
      refine .inr (.inr (.inl ⟨a, b, vs, us, rfl, rfl, SqT.of (rh.per _ _ q), SqT.of (rh.per _ _ q2), by rw [r.length, r2.length]; exact h.1, fun e => ?_, fun e1 e2 => ?_, fun e1 e2 p hp => ?_⟩))
      · subst e
        cases r
        exact hq _ w h.2 _ H P rh.go (.tup q2 r2)
      · subst e2
        cases r2
        have := h.2
        rw [List.append_nil] at this
        exact hq _ w this _ H P rh.go (.tup q r)
      · have g := rh.newP (o := .tup (vs ++ us)) hp
        exact hq _ w h.2 _ _ _ g (.tup upd_same ((r.append r2).mono g.ex))
    | _ => exact h.elim
  | lst q r => exact .inr (.inr (.inr (tr_lists (dx := .lst _) rh (.lst q r) ry hq (by cases ry <;> exact h))))
  | ref a => exact .inr (.inr (.inr (tr_lists (dx := .ref a) rh (.ref a) ry hq (by cases ry <;> exact h))))
  | _ => cases ry <;> exact h.elim
def iiD (C : Int → Int → Prop) (g : Int → Int → D) : DR2 := fun x y w Q => match x, y with
  | .int i, .int j => C i j ∧ Q (g i j) w
  | _, _ => False
def iD (g : Int → Int → D) : DR2 := fun x y w Q => match x, y with
  | .int i, .int j => Q (g i j) w
  | _, _ => False
theorem tr_ii {K : PySem.W.Frag} {C : Int → Int → Prop} {g : Int → Int → Int} : TrR2 K (rI C fun i j => .int (g i j)) (iiD C fun i j => .int (g i j)) := by
  intro H P w x y dx dy Q' Q rh rx ry h hq
  cases rx with
  | int i =>
    cases ry with
    | int j => exact ⟨i, j, rfl, rfl, h.1, hq _ w h.2 _ H P rh.go (.int _)⟩
    | _ => exact h.elim
  | _ => cases ry <;> exact h.elim
theorem tr_i {K : PySem.W.Frag} {g : Int → Int → Int} : TrR2 K (rI0 fun i j => .int (g i j)) (iD fun i j => .int (g i j)) := by
  intro H P w x y dx dy Q' Q rh rx ry h hq
  cases rx with
  | int i =>
    cases ry with
    | int j => exact ⟨i, j, rfl, rfl, hq _ w h _ H P rh.go (.int _)⟩
    | _ => exact h.elim
  | _ => cases ry <;> exact h.elim
theorem tr_ib {K : PySem.W.Frag} {g : Int → Int → Bool} : TrR2 K (rI0 fun i j => .bl (g i j)) (iD fun i j => .bl (g i j)) := by
  intro H P w x y dx dy Q' Q rh rx ry h hq
  cases rx with
  | int i =>
    cases ry with
    | int j => exact ⟨i, j, rfl, rfl, hq _ w h _ H P rh.go (.bl _)⟩
    | _ => exact h.elim
  | _ => cases ry <;> exact h.elim
/-- * of ints, of a list and an int -/
def mulD : DR2 := fun x y w Q => match x, y with
  | .int i, .int j => CMul i j ∧ Q (.int (i * j)) w
  | x, .int k => match getM w x with
    | some xs => -(2 ^ 63) ≤ k ∧ k < 2 ^ 63 ∧ xs.length * k.toNat ≤ sizeLine ∧ Q (.lst (List.replicate k.toNat xs).flatten) w
    | none => False
  | _, _ => False
theorem RepL.reps {K : PySem.W.Frag} {P : Hp} {ds : List D} {vs : List V} (r : RepL K P ds vs) : ∀ n : Nat, RepL K P (List.replicate n ds).flatten (List.replicate n vs).flatten
  | 0 => .nil
  | n + 1 => by
    rw [List.replicate_succ, List.replicate_succ, List.flatten_cons, List.flatten_cons]
    exact r.append (RepL.reps r n)
theorem tr_rep {K : PySem.W.Frag} {H P : Hp} {w : Wd} {x : V} {dx : D} {k : Int} {Q' : DKt} {Q : VK} (rh : RH K H P w) (rx : Rep K P dx x) (hq : RetOk K H P w Q' Q)
    (h : match getM w dx with
    | some xs => -(2 ^ 63) ≤ k ∧ k < 2 ^ 63 ∧ xs.length * k.toNat ≤ sizeLine ∧ Q' (.lst (List.replicate k.toNat xs).flatten) w
    | none => False) : rRep x (.int k) H Q := by
  split at h
  · rename_i xs hx
    obtain ⟨a, vs, rfl, ha, ra⟩ := getM_at rh rx hx
    refine ⟨a, k, vs, rfl, rfl, ha, h.1, h.2.1, by rw [ra.length]; exact h.2.2.1, fun p hp => ?_⟩
    have g := rh.newP (o := .lst (List.replicate k.toNat vs).flatten) hp
    exact hq _ w h.2.2.2 _ _ _ g (.lst upd_same ((ra.reps _).mono g.ex))
  · exact h.elim
def rMulA : R2 := fun x y H Q => rI CMul (fun i j => .int (i * j)) x y H Q ∨ rRep x y H Q
theorem op_mulA {X : Cx} : OpR X (binaryOp .Mult) rMulA := OpR.or op_mul op_rep
theorem tr_mulA {K : PySem.W.Frag} : TrR2 K rMulA mulD := by
  intro H P w x y dx dy Q' Q rh rx ry h hq
  cases ry with
  | int j =>
    cases rx with
    | int i => exact .inl ⟨i, j, rfl, rfl, h.1, hq _ w h.2 _ H P rh.go (.int _)⟩
    | lst q r => exact .inr (tr_rep (dx := .lst _) rh (.lst q r) hq h)
    | ref a => exact .inr (tr_rep (dx := .ref a) rh (.ref a) hq h)
    | _ => exact h.elim
  | _ => cases rx <;> exact h.elim
/-! ### == and != -/
mutual
def toPy : D → Option PyData
  | .non => some .none
  | .bl b => some (.bool b)
  | .int i => some (.int i)
  | .str x => some (.str x)
  | .lst xs => (toPyL xs).map PyData.list
  | .rol xs => (toPyL xs).map PyData.list
  | .tup xs => (toPyL xs).map PyData.tuple
  | .rot xs => (toPyL xs).map PyData.tuple
  | _ => none
def toPyL : List D → Option (List PyData)
  | [] => some []
  | d :: ds => match toPy d, toPyL ds with
    | some p, some r => some (p :: r)
    | _, _ => none
end
theorem Dp.lift {K : PySem.W.Frag} {P H : Hp} (e : ∀ a u, P a = some u → H a = some u) : (∀ (d : D) (v : V) (p : PyData), Rep K P d v → toPy d = some p → Dp K H v p) := by
  intro d
  refine D.rec (motive_1 := fun d => ∀ (v : V) (p : PyData), Rep K P d v → toPy d = some p → Dp K H v p) (motive_2 := fun ds => ∀ (vs : List V) (ps : List PyData), RepL K P ds vs → toPyL ds = some ps → DpAll K H vs ps)
    ?non ?bl ?int ?str ?ty ?ref ?lst ?rol ?tup ?rot ?dct ?dtt ?obj ?exc ?nil ?cons d
  case non => intro v p r h; cases r; simp only [toPy] at h; cases h; exact .non
  case bl => intro b v p r h; cases r; simp only [toPy] at h; cases h; exact .bl b
  case int => intro b v p r h; cases r; simp only [toPy] at h; cases h; exact .int b
  case str => intro b v p r h; cases r; simp only [toPy] at h; cases h; exact .str b
  case ty => intro b v p r h; simp only [toPy] at h; cases h
  case ref => intro b v p r h; simp only [toPy] at h; cases h
  case lst =>
    intro xs ih v p r h
    cases r with
    | lst q r =>
      simp only [toPy] at h
      cases hx : toPyL xs with
      | none => rw [hx] at h; cases h
      | some ps => rw [hx] at h; cases h; exact .lst (SqL.of (e _ _ q)) (ih _ _ r hx)
  case rol =>
    intro xs ih v p r h
    cases r with
    | rol q r =>
      simp only [toPy] at h
      cases hx : toPyL xs with
      | none => rw [hx] at h; cases h
      | some ps => rw [hx] at h; cases h; exact .lst (sqL_ex (e _) q) (ih _ _ r hx)
  case tup =>
    intro xs ih v p r h
    cases r with
    | tup q r =>
      simp only [toPy] at h
      cases hx : toPyL xs with
      | none => rw [hx] at h; cases h
      | some ps => rw [hx] at h; cases h; exact .tup (SqT.of (e _ _ q)) (ih _ _ r hx)
  case rot =>
    intro xs ih v p r h
    cases r with
    | rot q r =>
      simp only [toPy] at h
      cases hx : toPyL xs with
      | none => rw [hx] at h; cases h
      | some ps => rw [hx] at h; cases h; exact .tup (sqT_ex (e _) q) (ih _ _ r hx)
  case dct => intro a b _ v p r h; simp only [toPy] at h; cases h
  case dtt => intro a b _ v p r h; simp only [toPy] at h; cases h
  case obj => intro a b c _ v p r h; simp only [toPy] at h; cases h
  case exc => intro a b c _ v p r h; simp only [toPy] at h; cases h
  case nil => intro vs ps r h; cases r; simp only [toPyL] at h; cases h; exact .nil
  case cons =>
    intro d ds ih1 ih2 vs ps r h
    cases r with
    | cons r1 r2 =>
      simp only [toPyL] at h
      split at h
      · rename_i p r' h1 h2
        cases h
        exact .cons (ih1 _ _ r1 h1) (ih2 _ _ r2 h2)
      · cases h
def pyOf (w : Wd) : D → Option PyData
  | .ref a => match w a with
    | some (.lst xs) => (toPyL xs).map PyData.list
    | _ => none
  | d => toPy d
theorem DpL.lift {K : PySem.W.Frag} {P H : Hp} (e : ∀ a u, P a = some u → H a = some u) : ∀ (ds : List D) (vs : List V) (ps : List PyData), RepL K P ds vs → toPyL ds = some ps → DpAll K H vs ps
  | [], vs, ps, r, h => by cases r; simp only [toPyL] at h; cases h; exact .nil
  | d :: ds, vs, ps, r, h => by
    cases r with
    | cons r1 r2 =>
      simp only [toPyL] at h
      split at h
      · rename_i p r' h1 h2
        cases h
        exact .cons (Dp.lift e d _ _ r1 h1) (DpL.lift e ds _ _ r2 h2)
      · cases h
theorem pyOf_dp {K : PySem.W.Frag} {P H : Hp} {w : Wd} {d : D} {v : V} {p : PyData} (rh : RH K H P w) (r : Rep K P d v) (h : pyOf w d = some p) : Dp K H v p := by
  by_cases hr : ∃ a, d = .ref a
  · obtain ⟨a, rfl⟩ := hr
    cases r
    unfold pyOf at h
    dsimp only at h
    split at h
    · rename_i xs hw
      obtain ⟨_, ho, h1, vs, e, r⟩ := rh.own a _ hw
      subst e
      cases hx : toPyL xs with
      | none => rw [hx] at h; cases h
      | some ps => rw [hx] at h; cases h; exact .lst (SqL.of h1) (DpL.lift rh.per _ _ _ r hx)
    · cases h
  · have h2 : toPy d = some p := by
      cases d with
      | ref a => exact (hr ⟨a, rfl⟩).elim
      | _ => exact h
    exact Dp.lift rh.per d v p r h2
/-- two scalars -/
def eqS : D → D → Option Bool
  | .int i, .int j => some (decide (i = j))
  | .str i, .str j => some (decide (i = j))
  | .bl i, .bl j => some (decide (i = j))
  | .non, .non => some true
  | .non, .int _ => some false
  | .int _, .non => some false
  | .non, .str _ => some false
  | .str _, .non => some false
  | _, _ => none
def eqD (neg : Bool) : DR2 := fun x y w Q => match eqS x y with
  | some b => Q (.bl (neg != b)) w
  | none => match pyOf w x, pyOf w y with
    | some d, some e => SeqAt.shaped d = true ∧ SeqAt.shaped e = true ∧ Q (.bl (neg != PyData.eqv d e)) w
    | _, _ => False
def rEqA (K : PySem.W.Frag) : R2 := fun x y H Q => rEq x y H Q ∨ rEqD K x y H Q
def rNeA (K : PySem.W.Frag) : R2 := fun x y H Q => rNe x y H Q ∨ rNeD K x y H Q
theorem op_eqA {X : Cx} (hu : X.A.units + 64 < cLine) : OpR X (compareOp .Eq) (rEqA X.K) := OpR.or op_eq (op_eqD hu)
theorem op_neA {X : Cx} (hu : X.A.units + 64 < cLine) : OpR X (compareOp .NotEq) (rNeA X.K) := OpR.or op_ne (op_neD hu)
theorem deep_of {K : PySem.W.Frag} {H P : Hp} {w : Wd} {x y : V} {dx dy : D} {Q' : DKt} {Q : VK} {neg : Bool} (rh : RH K H P w) (rx : Rep K P dx x) (ry : Rep K P dy y) (hq : RetOk K H P w Q' Q)
    (h : match pyOf w dx, pyOf w dy with
    | some d, some e => SeqAt.shaped d = true ∧ SeqAt.shaped e = true ∧ Q' (.bl (neg != PyData.eqv d e)) w
    | _, _ => False) : ∃ d e, Dp K H x d ∧ Dp K H y e ∧ SeqAt.shaped d = true ∧ SeqAt.shaped e = true ∧ Q (.bl (neg != PyData.eqv d e)) H := by
  split at h
  · rename_i d e h1 h2
    exact ⟨d, e, pyOf_dp rh rx h1, pyOf_dp rh ry h2, h.1, h.2.1, hq _ w h.2.2 _ H P rh.go (.bl _)⟩
  · exact h.elim
theorem eqS_ok {K : PySem.W.Frag} {P : Hp} {x y : V} {dx dy : D} {b : Bool} (rx : Rep K P dx x) (ry : Rep K P dy y) (h : eqS dx dy = some b) : scal x y = true ∧ decide (x = y) = b := by
  cases rx with
  | int i =>
    cases ry with
    | int j =>
      cases h
      refine ⟨rfl, ?_⟩
      by_cases q : i = j
      · subst q; simp
      · simp [q]
    | non => cases h; exact ⟨rfl, by simp⟩
    | _ => cases h
  | str i =>
    cases ry with
    | str j =>
      cases h
      refine ⟨rfl, ?_⟩
      by_cases q : i = j
      · subst q; simp
      · simp [q]
    | non => cases h; exact ⟨rfl, by simp⟩
    | _ => cases h
  | bl i =>
    cases ry with
    | bl j =>
      cases h
      refine ⟨rfl, ?_⟩
      by_cases q : i = j
      · subst q; simp
      · simp [q]
    | _ => cases h
  | non =>
    cases ry with
    | non => cases h; exact ⟨rfl, by simp⟩
    | int j => cases h; exact ⟨rfl, by simp⟩
    | str j => cases h; exact ⟨rfl, by simp⟩
    | _ => cases h
  | _ => cases ry <;> cases h
theorem tr_eqX {K : PySem.W.Frag} {neg : Bool} {H P : Hp} {w : Wd} {x y : V} {dx dy : D} {Q' : DKt} {Q : VK} (rh : RH K H P w) (rx : Rep K P dx x) (ry : Rep K P dy y) (h : eqD neg dx dy w Q') (hq : RetOk K H P w Q' Q) :
    (scal x y = true ∧ Q (.bl (neg != decide (x = y))) H) ∨ ∃ d e, Dp K H x d ∧ Dp K H y e ∧ SeqAt.shaped d = true ∧ SeqAt.shaped e = true ∧ Q (.bl (neg != PyData.eqv d e)) H := by
  unfold eqD at h
  split at h
  · rename_i b hb
    obtain ⟨h1, h2⟩ := eqS_ok rx ry hb
    exact .inl ⟨h1, by rw [h2]; exact hq _ w h _ H P rh.go (.bl _)⟩
  · exact .inr (deep_of rh rx ry hq h)
theorem tr_eq {K : PySem.W.Frag} : TrR2 K (rEqA K) (eqD false) := fun H P w x y dx dy Q' Q rh rx ry h hq => by
  rcases tr_eqX rh rx ry h hq with ⟨h1, h2⟩ | ⟨d, e, h1, h2, h3, h4, h5⟩
  · exact .inl ⟨h1, by simpa using h2⟩
  · exact .inr ⟨d, e, h1, h2, h3, h4, by simpa using h5⟩
theorem tr_ne {K : PySem.W.Frag} : TrR2 K (rNeA K) (eqD true) := fun H P w x y dx dy Q' Q rh rx ry h hq => by
  rcases tr_eqX rh rx ry h hq with ⟨h1, h2⟩ | ⟨d, e, h1, h2, h3, h4, h5⟩
  · exact .inl ⟨h1, by simpa using h2⟩
  · exact .inr ⟨d, e, h1, h2, h3, h4, by simpa using h5⟩
/-! ### is None -/
def isNon : D → Bool
  | .non => true
  | _ => false
def isN (neg : Bool) : DR2 := fun x y w Q => match y with
  | .non => Q (.bl (neg != isNon x)) w
  | _ => False
theorem isN_ok {K : PySem.W.Frag} {P : Hp} {x : V} {dx : D} (rx : Rep K P dx x) : decide (x = .non) = isNon dx := by
  cases rx <;> simp [isNon]
theorem tr_isN {K : PySem.W.Frag} : TrR2 K (fun x y H Q => y = .non ∧ Q (.bl (decide (x = .non))) H) (isN false) := fun H P w x y dx dy Q' Q rh rx ry h hq => by
  cases ry with
  | non => exact ⟨rfl, by rw [isN_ok rx]; exact hq _ w (by simpa [isN] using h) _ H P rh.go (.bl _)⟩
  | _ => exact h.elim
theorem tr_notN {K : PySem.W.Frag} : TrR2 K (fun x y H Q => y = .non ∧ Q (.bl (!decide (x = .non))) H) (isN true) := fun H P w x y dx dy Q' Q rh rx ry h hq => by
  cases ry with
  | non => exact ⟨rfl, by rw [isN_ok rx]; exact hq _ w (by simpa [isN] using h) _ H P rh.go (.bl _)⟩
  | _ => exact h.elim
/-! ### in -/
def flatD : D → Bool
  | .non => true
  | .bl _ => true
  | .int _ => true
  | .str _ => true
  | _ => false
def eqF : D → D → Bool
  | .non, .non => true
  | .bl a, .bl b => a == b
  | .bl a, .int b => (if a then 1 else 0) == b
  | .int a, .bl b => a == (if b then 1 else 0)
  | .int a, .int b => a == b
  | .str a, .str b => a == b
  | _, _ => false
def inL (x : D) (xs : List D) : Bool := xs.any fun y => eqF y x
theorem flat_ok {K : PySem.W.Frag} {P : Hp} {d : D} {v : V} (r : Rep K P d v) (h : flatD d = true) : flatV v = true := by
  cases r <;> first | rfl | cases h
theorem eqF_ok {K : PySem.W.Frag} {P : Hp} {d e : D} {v u : V} (r : Rep K P d v) (q : Rep K P e u) (h : flatD d = true) (h2 : flatD e = true) : eqV v u = eqF d e := by
  cases r <;> cases q <;> first | rfl | exact (Bool.false_ne_true h).elim | exact (Bool.false_ne_true h2).elim
theorem flats_ok {K : PySem.W.Frag} {P : Hp} {x : D} {vx : V} (rx : Rep K P x vx) (fx : flatD x = true) : ∀ {ds : List D} {vs : List V}, RepL K P ds vs → ds.all flatD = true → vs.all flatV = true ∧ inV vx vs = inL x ds
  | _, _, .nil, _ => ⟨rfl, rfl⟩
  | _, _, .cons r t, h => by
    rw [List.all_cons, Bool.and_eq_true] at h
    obtain ⟨h1, h2⟩ := flats_ok rx fx t h.2
    refine ⟨by rw [List.all_cons, h1, flat_ok r h.1] <;> rfl, ?_⟩
    unfold inV inL at *
    rw [List.any_cons, List.any_cons, eqF_ok r rx h.1 fx, h2]
def getS (w : Wd) : D → Option (List D)
  | .tup xs => some xs
  | .rot xs => some xs
  | d => getL w d
theorem getS_at {K : PySem.W.Frag} {H P : Hp} {w : Wd} {d : D} {v : V} {ds : List D} (rh : RH K H P w) (r : Rep K P d v) (h : getS w d = some ds) : ∃ a vs, v = .ref a ∧ (SqL K H a vs ∨ SqT K H a vs) ∧ RepL K P ds vs := by
  cases r with
  | tup q r => cases h; exact ⟨_, _, rfl, .inr (SqT.of (rh.per _ _ q)), r⟩
  | rot q r => cases h; exact ⟨_, _, rfl, .inr (sqT_ex (fun u z => rh.per _ u z) q), r⟩
  | lst q r => obtain ⟨a, vs, e, q, r⟩ := getL_at (d := .lst _) rh (.lst q r) h; exact ⟨a, vs, e, .inl q, r⟩
  | rol q r => obtain ⟨a, vs, e, q, r⟩ := getL_at (d := .rol _) rh (.rol q r) h; exact ⟨a, vs, e, .inl q, r⟩
  | ref a => obtain ⟨a, vs, e, q, r⟩ := getL_at (d := .ref _) rh (.ref a) h; exact ⟨a, vs, e, .inl q, r⟩
  | _ => cases h
/-- a dict's pairs -/
def getK (w : Wd) : D → Option (List (Key × D))
  | .dct ks xs => some (ks.zip xs)
  | .ref a => match w a with
    | some (.dK kvs) => some kvs
    | some (.lkK _ _ kvs) => some kvs
    | _ => none
  | _ => none
def getKT (w : Wd) : D → Option (List (List Key × D))
  | .dtt ks xs => some (ks.zip xs)
  | .ref a => match w a with
    | some (.dT kvs) => some kvs
    | some (.lkT _ _ kvs) => some kvs
    | _ => none
  | _ => none
def keyD : D → Option Key
  | .int i => some (.inl i)
  | .str x => some (.inr x)
  | _ => none
def keysD : List D → Option (List Key)
  | [] => some []
  | d :: ds => match keyD d, keysD ds with
    | some k, some r => some (k :: r)
    | _, _ => none
def keyTD : D → Option (List Key)
  | .tup xs => keysD xs
  | _ => none
def valD {κ : Type} [DecidableEq κ] (kvs : List (κ × D)) (k : κ) : Option D := (kvs.find? fun kv => decide (kv.1 = k)).map (·.2)
theorem keyD_ok {K : PySem.W.Frag} {P : Hp} {d : D} {v : V} {k : Key} (r : Rep K P d v) (h : keyD d = some k) : v = kV k := by
  cases r <;> first | cases h <;> rfl | cases h
theorem keysD_ok {K : PySem.W.Frag} {P : Hp} : ∀ {ds : List D} {vs : List V} {ks : List Key}, RepL K P ds vs → keysD ds = some ks → vs = ks.map kV
  | _, _, _, .nil, h => by cases h; rfl
  | _, _, _, .cons r t, h => by
    unfold keysD at h
    split at h
    · rename_i k r' h1 h2
      cases h
      rw [List.map_cons, keyD_ok r h1, keysD_ok t h2]
    · cases h
theorem RepL.kvr {K : PySem.W.Frag} {P : Hp} {κ : Type} : ∀ {kws : List (κ × V)} {ds : List D}, RepL K P ds (kws.map (·.2)) → KVr K P ((kws.map (·.1)).zip ds) kws
  | [], _, h => by cases h; exact .nil
  | kw :: r, _, h => by
    cases h with
    | cons h t => exact .cons ⟨rfl, h⟩ (RepL.kvr t)
theorem getK_at {K : PySem.W.Frag} {H P : Hp} {w : Wd} {d : D} {v : V} {kvs : List (Key × D)} (rh : RH K H P w) (r : Rep K P d v) (h : getK w d = some kvs) : ∃ a kws, v = .ref a ∧ Rd H a (.dK kws) ∧ KVr K P kvs kws := by
  cases r with
  | dct q r => cases h; exact ⟨_, _, rfl, .inl (rh.per _ _ q), RepL.kvr r⟩
  | ref a =>
    unfold getK at h
    dsimp only at h
    split at h
    · rename_i xs hw
      cases h
      obtain ⟨_, ho, h1, vs, e, r⟩ := rh.own a _ hw
      subst e
      exact ⟨a, vs, rfl, .inl h1, r⟩
    · rename_i o u xs hw
      cases h
      obtain ⟨_, ho, h1, e, vs, e2, r⟩ := rh.own a _ hw
      subst e e2
      exact ⟨a, vs, rfl, .inr ⟨o, h1⟩, r⟩
    · cases h
  | _ => cases h
theorem getKT_at {K : PySem.W.Frag} {H P : Hp} {w : Wd} {d : D} {v : V} {kvs : List (List Key × D)} (rh : RH K H P w) (r : Rep K P d v) (h : getKT w d = some kvs) : ∃ a kws, v = .ref a ∧ Rd H a (.dT kws) ∧ KVr K P kvs kws := by
  cases r with
  | dtt q r => cases h; exact ⟨_, _, rfl, .inl (rh.per _ _ q), RepL.kvr r⟩
  | ref a =>
    unfold getKT at h
    dsimp only at h
    split at h
    · rename_i xs hw
      cases h
      obtain ⟨_, ho, h1, vs, e, r⟩ := rh.own a _ hw
      subst e
      exact ⟨a, vs, rfl, .inl h1, r⟩
    · rename_i o u xs hw
      cases h
      obtain ⟨_, ho, h1, e, vs, e2, r⟩ := rh.own a _ hw
      subst e e2
      exact ⟨a, vs, rfl, .inr ⟨o, h1⟩, r⟩
    · cases h
  | _ => cases h
theorem KVr.val {K : PySem.W.Frag} {P : Hp} {κ : Type} [DecidableEq κ] (k : κ) : ∀ {l : List (κ × D)} {m : List (κ × V)}, KVr K P l m → (∃ d v, valD l k = some d ∧ valV m k = some v ∧ Rep K P d v) ∨ (valD l k = none ∧ valV m k = none)
  | _, _, .nil => .inr ⟨rfl, rfl⟩
  | p :: l, q :: m, .cons h r => by
    unfold valD valV
    rw [List.find?_cons, List.find?_cons]
    by_cases e : q.1 = k
    · have e2 : p.1 = k := h.1.trans e
      rw [decide_eq_true e, decide_eq_true e2]
      exact .inl ⟨p.2, q.2, rfl, rfl, h.2⟩
    · have e2 : ¬ p.1 = k := fun z => e (h.1.symm.trans z)
      rw [decide_eq_false e, decide_eq_false e2]
      exact KVr.val k r
/-- x in y -/
def inG (neg : Bool) : DR2 := fun x y w Q => match getS w y with
    | some ys => flatD x = true ∧ ys.all flatD = true ∧ Q (.bl (neg != inL x ys)) w
    | none => match keyD x, getK w y with
      | some k, some kvs => Q (.bl (neg != (valD kvs k).isSome)) w
      | _, _ => match keyTD x, getKT w y with
        | some k, some kvs => Q (.bl (neg != (valD kvs k).isSome)) w
        | _, _ => False
def inD (neg : Bool) : DR2 := fun x y w Q => match x, y with
  | .str a, .str b => match a.cps.toList with
    | [c] => Q (.bl (neg != decide (c ∈ b.cps.toList))) w
    | _ => False
  | x, y => inG neg x y w Q
end TD

set_option maxHeartbeats 2000000
namespace TD
open PySem PySem.Spec PyProof.Rows L2
/-! ### in -/
def rDIn (neg : Bool) : R2 := fun x y H Q => ∃ a o, y = .ref a ∧ DGet H a x o ∧ Q (.bl (neg != o.isSome)) H
theorem op_din {X : Cx} (hu : X.A.units + 1 < cLine) : OpR X (compareOp .In) (rDIn false) := fun pins s σ H x y v u Q I rx ry ⟨a, o, ey, g, q⟩ => by
  subst ey
  obtain rfl : u = Value.ref a := ry
  exact d_in hu I g rx fun s3 I3 => ⟨.bl o.isSome, H, I3, rfl, by simpa using q⟩
theorem op_dnin {X : Cx} (hu : X.A.units + 1 < cLine) : OpR X (compareOp .NotIn) (rDIn true) := fun pins s σ H x y v u Q I rx ry ⟨a, o, ey, g, q⟩ => by
  subst ey
  obtain rfl : u = Value.ref a := ry
  exact d_notIn hu I g rx fun s3 I3 => ⟨.bl (!o.isSome), H, I3, rfl, by simpa using q⟩
def rSgn (neg : Bool) : R2 := fun x y H Q => ∃ (c : Nat) (z : Str), x = .str ⟨#[c]⟩ ∧ y = .str z ∧ Q (.bl (neg != decide (c ∈ z.cps.toList))) H
def rInA (K : PySem.W.Frag) (neg : Bool) : R2 := fun x y H Q => rSgn neg x y H Q ∨ rIn K neg x y H Q ∨ rDIn neg x y H Q
theorem OpR.imp {X : Cx} {f : Value → Value → Sem Value} {r r' : R2} (h : OpR X f r) (k : ∀ x y H Q, r' x y H Q → r x y H Q) : OpR X f r' := fun pins s σ H x y v u Q I rx ry q => h pins s σ H x y v u Q I rx ry (k x y H Q q)
theorem op_inA {X : Cx} (hu : X.A.units + 64 < cLine) : OpR X (compareOp .In) (rInA X.K false) :=
  OpR.or (OpR.imp op_in_sign fun x y H Q ⟨c, z, e1, e2, q⟩ => ⟨c, z, e1, e2, by simpa using q⟩) (OpR.or op_in_seq (op_din (by omega)))
theorem op_ninA {X : Cx} (hu : X.A.units + 64 < cLine) : OpR X (compareOp .NotIn) (rInA X.K true) :=
  OpR.or (OpR.imp op_notIn_sign fun x y H Q ⟨c, z, e1, e2, q⟩ => ⟨c, z, e1, e2, by simpa using q⟩) (OpR.or op_notIn_seq (op_dnin (by omega)))
theorem str_one {a : Str} {c : Nat} (h : a.cps.toList = [c]) : a = ⟨#[c]⟩ := by
  obtain ⟨z⟩ := a
  have e : z = #[c] := by
    apply Array.toList_inj.mp
    simpa using h
  rw [e]
theorem tr_in {K : PySem.W.Frag} {neg : Bool} : TrR2 K (rInA K neg) (inD neg) := by
  intro H P w x y dx dy Q' Q rh rx ry h hq
  have fin : ∀ b, Q' (.bl b) w → Q (.bl b) H := fun b q => hq _ w q _ H P rh.go (.bl b)
  have gen : inG neg dx dy w Q' → rInA K neg x y H Q := by
    clear h
    unfold inG
    intro h
    split at h
    · rename_i ys hy
      obtain ⟨a, vs, rfl, sq, r⟩ := getS_at rh ry hy
      obtain ⟨f1, f2⟩ := flats_ok rx h.1 r h.2.1
      refine .inr (.inl ⟨a, vs, rfl, sq, flat_ok rx h.1, f1, ?_⟩)
      rw [f2]
      have := fin _ h.2.2
      cases neg <;> simpa using this
    · split at h
      · rename_i k kvs h1 h2
        obtain ⟨a, kws, rfl, rd, r⟩ := getK_at rh ry h2
        have e := keyD_ok rx h1
        subst e
        refine .inr (.inr ⟨a, valV kws k, rfl, .inl ⟨kws, k, rd, rfl, rfl⟩, ?_⟩)
        rcases KVr.val k r with ⟨d, v, e1, e2, _⟩ | ⟨e1, e2⟩
        · rw [e2]; rw [e1] at h; exact fin _ h
        · rw [e2]; rw [e1] at h; exact fin _ h
      · split at h
        · rename_i k kvs h1 h2
          obtain ⟨a, kws, rfl, rd, r⟩ := getKT_at rh ry h2
          cases rx with
          | tup q rt =>
            have e := keysD_ok rt h1
            refine .inr (.inr ⟨a, valV kws k, rfl, .inr ⟨kws, k, _, rd, rfl, ?_, rfl⟩, ?_⟩)
            · rw [← e]; exact rh.per _ _ q
            · rcases KVr.val k r with ⟨d, v, e1, e2, _⟩ | ⟨e1, e2⟩
              · rw [e2]; rw [e1] at h; exact fin _ h
              · rw [e2]; rw [e1] at h; exact fin _ h
          | _ => cases h1
        · exact h.elim
  cases rx with
  | str a =>
    cases ry with
    | str b =>
      unfold inD at h
      dsimp only at h
      split at h
      · rename_i c hc
        exact .inl ⟨c, b, by rw [str_one hc], rfl, fin _ h⟩
      · exact h.elim
    | _ => exact gen h
  | _ => exact gen h
/-! ### subscripts -/
def ixG : DR2 := fun x y w Q => match getS w x with
    | some xs => match y with
      | .int i => match atI xs i with
        | some d => Q d w
        | none => False
      | _ => False
    | none => match keyD y, getK w x with
      | some k, some kvs => match valD kvs k with
        | some d => Q d w
        | none => False
      | _, _ => match keyTD y, getKT w x with
        | some k, some kvs => match valD kvs k with
          | some d => Q d w
          | none => False
        | _, _ => False
def ixD : DR2 := fun x y w Q => match x, y with
  | .str z, .int i => z.length ≤ sizeLine ∧ match atI z.cps.toList i with
    | some c => Q (.str ⟨#[c]⟩) w
    | none => False
  | x, y => ixG x y w Q
def rDGet : R2 := fun x y H Q => ∃ a v, x = .ref a ∧ DGet H a y (some v) ∧ Q v H
theorem ix_dict {X : Cx} (hu : X.A.units + 1 < cLine) : IxR X rDGet := fun value slice pins s σ H x y v u Q I rx ry ⟨a, z, ex, g, q⟩ hs => by
  subst ex
  obtain rfl : v = Value.ref a := rx
  exact tail_any (dict_typeIs I g) PySem.F.slot_dict_getitem.lookup (d_getItem hu I g ry fun w' s3 I3 rw' => ⟨z, H, I3, rw', q⟩) hs
def rIxA (K : PySem.W.Frag) : R2 := fun x y H Q => rIx K x y H Q ∨ rDGet x y H Q
theorem ix_any {X : Cx} (hu : X.A.units + 64 < cLine) : IxR X (rIxA X.K) := IxR.or ix_seq (ix_dict (by omega))
theorem atI_rep {K : PySem.W.Frag} {P : Hp} {ds : List D} {vs : List V} {i : Int} {d : D} (r : RepL K P ds vs) (h : atI ds i = some d) : ∃ v, atI vs i = some v ∧ Rep K P d v := by
  unfold atI at h ⊢
  rw [r.length]
  cases e : ixN ds.length i with
  | none => rw [e] at h; cases h
  | some j => rw [e] at h; exact r.get h
theorem tr_ix {K : PySem.W.Frag} : TrR2 K (rIxA K) ixD := by
  intro H P w x y dx dy Q' Q rh rx ry h hq
  have gen : ixG dx dy w Q' → rIxA K x y H Q := by
    clear h
    unfold ixG
    intro h
    split at h
    · rename_i xs hx
      cases ry with
      | int i =>
        dsimp only at h
        split at h
        · rename_i d hd
          obtain ⟨a, vs, rfl, sq, r⟩ := getS_at rh rx hx
          obtain ⟨v, h1, h2⟩ := atI_rep r hd
          have q := hq _ w h _ H P rh.go h2
          rcases sq with sq | sq
          · exact .inl (.inl ⟨a, vs, i, v, rfl, rfl, sq, h1, q⟩)
          · exact .inl (.inr (.inl ⟨a, vs, i, v, rfl, rfl, sq, h1, q⟩))
        · exact h.elim
      | _ => exact h.elim
    · split at h
      · rename_i k kvs h1 h2
        obtain ⟨a, kws, rfl, rd, r⟩ := getK_at rh rx h2
        have e := keyD_ok ry h1
        subst e
        rcases KVr.val k r with ⟨d, v, e1, e2, e3⟩ | ⟨e1, e2⟩
        · rw [e1] at h; exact .inr ⟨a, v, rfl, .inl ⟨kws, k, rd, rfl, e2.symm⟩, hq _ w h _ H P rh.go e3⟩
        · rw [e1] at h; exact h.elim
      · split at h
        · rename_i k kvs h1 h2
          obtain ⟨a, kws, rfl, rd, r⟩ := getKT_at rh rx h2
          cases ry with
          | tup q rt =>
            have e := keysD_ok rt h1
            rcases KVr.val k r with ⟨d, v, e1, e2, e3⟩ | ⟨e1, e2⟩
            · rw [e1] at h
              exact .inr ⟨a, v, rfl, .inr ⟨kws, k, _, rd, rfl, by rw [← e]; exact rh.per _ _ q, e2.symm⟩, hq _ w h _ H P rh.go e3⟩
            · rw [e1] at h; exact h.elim
          | _ => cases h1
        · exact h.elim
  cases rx with
  | str z =>
    cases ry with
    | int i =>
      unfold ixD at h
      dsimp only at h
      obtain ⟨hz, h⟩ := h
      split at h
      · rename_i c hc
        exact .inl (.inr (.inr ⟨z, i, c, rfl, rfl, hz, hc, hq _ w h _ H P rh.go (.str _)⟩))
      · exact h.elim
    | _ => exact gen h
  | _ => exact gen h
/-! ### slices -/
abbrev DO := DSt → Wd → (Option Int → Wd → Prop) → Prop
def PartOk (K : PySem.W.Frag) (H P : Hp) (w : Wd) (Q' : Option Int → Wd → Prop) (Q : Option Int → Hp → Prop) : Prop := ∀ o w1, Q' o w1 → ∀ H1 P1, Go K H P w H1 P1 w1 → Q o H1
def liftO (K : PySem.W.Frag) (W : WX) (W' : DWX) (t : DO) : TO := fun σ H Q => ∃ P w S Q', RH K H P w ∧ Slots K P S σ ∧ t S w Q' ∧ PartOk K H P w Q' Q ∧ WOk K H P w W' W
def QO (X : Cx) (W : WX) (W' : DWX) (e : Option Expr) (t : DO) : Prop := PO X e (liftO X.K W W' t)
def dNoPart : DO := fun _ w Q => Q none w
def dPart (t : DE) : DO := fun S w Q => t S w fun x w1 => match x with
  | .int i => Q (some i) w1
  | _ => False
def cutD (xs : List D) (lo hi : Option Int) : List D := (xs.drop (HT.sIx xs.length 0 lo)).take (HT.sIx xs.length xs.length hi - HT.sIx xs.length 0 lo)
def slD : D → Option Int → Option Int → Wd → DKt → Prop := fun x lo hi w Q => match x with
  | .str z => z.length ≤ sizeLine ∧ Q (.str (cutS z lo hi)) w
  | .tup xs => Q (.tup (cutD xs lo hi)) w
  | x => match getL w x with
    | some xs => Q (.lst (cutD xs lo hi)) w
    | none => False
/-- a slice that will be changed -/
def slDO : D → Option Int → Option Int → Wd → DKt → Prop := fun x lo hi w Q => match getL w x with
    | some xs => ∀ p, w p = none → Q (.ref p) (put w p (.lst (cutD xs lo hi)))
    | none => False
def dSl (r : D → Option Int → Option Int → Wd → DKt → Prop) (te : DE) (tl th : DO) : DE := fun S w Q => te S w fun x w1 => tl S w1 fun l w2 => th S w2 fun u w3 => r x l u w3 Q
section
variable {X : Cx} {W : WX} {W' : DWX} {e : Expr} {te : DE} {lo hi : Option Expr} {tl th : DO} {pos p2 : Pos}
theorem PO.imp {o : Option Expr} {t u : TO} (h : PO X o t) (k : ∀ σ H Q, u σ H Q → t σ H Q) : PO X o u := ⟨fun pins s σ H Q I q => h.run pins s σ H Q I (k σ H Q q)⟩
theorem qo_none : QO X W W' none dNoPart := PO.imp po_none fun σ H Q ⟨P, w, S, Q', rh, sl, h, hq, hx⟩ => hq none w h H P rh.go
theorem qo_some (h : QE X W W' e te) : QO X W W' (some e) (dPart te) := PO.imp (po_some h) fun σ H Q ⟨P, w, S, Q', rh, sl, h, hq, hx⟩ => ⟨P, w, S, _, rh, sl, h, fun x w1 h1 v H1 P1 g1 r1 => by
  cases r1 with
  | int i => exact ⟨i, rfl, hq _ w1 h1 H1 P1 g1⟩
  | _ => exact h1.elim, hx⟩
def TrSl (K : PySem.W.Frag) (r : V → Option Int → Option Int → Hp → VK → Prop) (dr : D → Option Int → Option Int → Wd → DKt → Prop) : Prop := ∀ H P w x dx lo hi Q' Q, RH K H P w → Rep K P dx x → dr dx lo hi w Q' → RetOk K H P w Q' Q → r x lo hi H Q
theorem qe_slice {r : V → Option Int → Option Int → Hp → VK → Prop} {dr : D → Option Int → Option Int → Wd → DKt → Prop} (hr : SlR X r) (ht : TrSl X.K r dr) (he : QE X W W' e te) (hl : QO X W W' lo tl) (hu : QO X W W' hi th) : QE X W W' (.Subscript e (.Slice lo hi none p2) pos) (dSl dr te tl th) := PE.imp (pe_slice hr he hl hu)
  fun σ H Q ⟨P, w, S, Q', rh, sl, h, hq, hx⟩ => ⟨P, w, S, _, rh, sl, h, fun x w1 h1 v H1 P1 g1 r1 => ⟨P1, w1, S, _, g1.rh, sl.mono g1.ex, h1, fun l w2 h2 H2 P2 g2 => ⟨P2, w2, S, _, g2.rh, sl.mono (g1.trans g2).ex, h2, fun u w3 h3 H3 P3 g3 =>
    ht H3 P3 w3 v x l u Q' Q g3.rh (r1.mono (g2.trans g3).ex) h3 (hq.go ((g1.trans g2).trans g3)), hx.go (g1.trans g2)⟩, hx.go g1⟩, hx⟩
end
def rSlAll (K : PySem.W.Frag) : V → Option Int → Option Int → Hp → VK → Prop := fun x lo hi H Q => rSlS x lo hi H Q ∨ rSlA K x lo hi H Q ∨ rSlL K x lo hi H Q
theorem sl_all {X : Cx} : SlR X (rSlAll X.K) := SlR.or sl_str (SlR.or sl_tupA sl_list)
theorem RepL.cut {K : PySem.W.Frag} {P : Hp} {ds : List D} {vs : List V} (r : RepL K P ds vs) (lo hi : Option Int) : RepL K P (cutD ds lo hi) (cutV vs lo hi) := by
  unfold cutD cutV
  rw [r.length]
  exact (r.drop _).take _
theorem tr_slL {K : PySem.W.Frag} {H P : Hp} {w : Wd} {x : V} {dx : D} {lo hi : Option Int} {xs : List D} {Q' : DKt} {Q : VK} (rh : RH K H P w) (rx : Rep K P dx x) (hx : getL w dx = some xs) (h : Q' (.lst (cutD xs lo hi)) w) (hq : RetOk K H P w Q' Q) : rSlL K x lo hi H Q := by
  obtain ⟨a, vs, rfl, sq, r⟩ := getL_at rh rx hx
  refine ⟨a, vs, rfl, sq, fun p hp => ?_⟩
  have g := rh.newP (o := .lst (cutV vs lo hi)) hp
  exact hq _ w h _ _ _ g (.lst upd_same ((r.cut lo hi).mono g.ex))
theorem tr_sl {K : PySem.W.Frag} : TrSl K (rSlAll K) slD := by
  intro H P w x dx lo hi Q' Q rh rx h hq
  have gen : (match getL w dx with
    | some xs => Q' (.lst (cutD xs lo hi)) w
    | none => False) → rSlAll K x lo hi H Q := fun h => by
    split at h
    · rename_i xs hx; exact .inr (.inr (tr_slL rh rx hx h hq))
    · exact h.elim
  cases rx with
  | str z => exact .inl ⟨z, rfl, h.1, hq _ w h.2 _ H P rh.go (.str _)⟩
  | tup q r =>
    rename_i a vs ds
    refine .inr (.inl ⟨_, _, rfl, SqT.of (rh.per _ _ q), fun e => ?_, fun _ p hp => ?_⟩)
    · have e1 : cutD ds lo hi = ds := by
        unfold cutD
        rw [r.length] at e
        rw [e.1, e.2]
        simp
      have h' : Q' (.tup (cutD ds lo hi)) w := h
      rw [e1] at h'
      exact hq _ w h' _ H P rh.go (.tup q r)
    · have g := rh.newP (o := .tup (cutV vs lo hi)) hp
      exact hq _ w h _ _ _ g (.tup upd_same ((r.cut lo hi).mono g.ex))
  | _ => exact gen h
theorem tr_slO {K : PySem.W.Frag} : TrSl K (rSlAll K) slDO := by
  intro H P w x dx lo hi Q' Q rh rx h hq
  unfold slDO at h
  split at h
  · rename_i xs hx
    obtain ⟨a, vs, rfl, sq, r⟩ := getL_at rh rx hx
    refine .inr (.inr ⟨a, vs, rfl, sq, fun p hp => ?_⟩)
    have g := rh.newW (o := .lst (cutV vs lo hi)) (n := .lst (cutD xs lo hi)) hp ⟨_, rfl, r.cut lo hi⟩
    exact hq _ _ (h p (rh.free hp).2) _ _ _ g (.ref p)
  · exact h.elim
/-! ### built-in functions -/
def lenD : DRl := fun ds w Q => match ds with
  | [.str z] => z.length ≤ sizeLine ∧ Q (.int z.length) w
  | [x] => match getS w x with
    | some xs => Q (.int xs.length) w
    | none => match getK w x with
      | some kvs => Q (.int kvs.length) w
      | none => False
  | _ => False
def rLenA (K : PySem.W.Frag) : List V → Hp → VK → Prop := fun xs H Q => (∃ x n, xs = [x] ∧ LenV K x H n ∧ Q (.int n) H) ∨ ∃ a kvs, xs = [.ref a] ∧ Rd H a (.dK kvs) ∧ Q (.int kvs.length) H
theorem call_lenA {X : Cx} : CallR X (.builtin "len") (rLenA X.K) := fun pins s σ H xs us Q I r h => by
  rcases h with h | ⟨a, kvs, e, rd, q⟩
  · exact call_len pins s σ H xs us Q I r h
  · subst e
    obtain ⟨u, rfl, ru⟩ := vals1 r
    obtain rfl : u = Value.ref a := ru
    exact d_len I rd fun t s' I' => ⟨.int kvs.length, H, I', ⟨t, rfl⟩, q⟩
theorem KVr.len {K : PySem.W.Frag} {P : Hp} {κ : Type} {l : List (κ × D)} {m : List (κ × V)} (h : KVr K P l m) : m.length = l.length := (Paired.length h).symm
theorem tr_len {K : PySem.W.Frag} : TrRl K (rLenA K) lenD := by
  intro H P w xs ds Q' Q rh r h hq
  cases r with
  | nil => exact h.elim
  | cons r1 r2 =>
    cases r2 with
    | cons _ _ => cases r1 <;> exact h.elim
    | nil =>
      rename_i d v
      have gen : (match getS w d with
        | some xs => Q' (.int xs.length) w
        | none => match getK w d with
          | some kvs => Q' (.int kvs.length) w
          | none => False) → rLenA K [v] H Q := fun h => by
        split at h
        · rename_i xs hx
          obtain ⟨a, vs, rfl, sq, r⟩ := getS_at rh r1 hx
          refine .inl ⟨.ref a, vs.length, rfl, ?_, by rw [r.length]; exact hq _ w h _ H P rh.go (.int _)⟩
          rcases sq with sq | sq
          · exact .inl ⟨vs, sq, rfl⟩
          · exact .inr ⟨vs, sq, rfl⟩
        · split at h
          · rename_i kvs hk
            obtain ⟨a, kws, rfl, rd, r⟩ := getK_at rh r1 hk
            exact .inr ⟨a, kws, rfl, rd, by rw [r.len]; exact hq _ w h _ H P rh.go (.int _)⟩
          · exact h.elim
      cases r1 with
      | str z => exact .inl ⟨.str z, z.length, rfl, ⟨h.1, rfl⟩, hq _ w h.2 _ H P rh.go (.int _)⟩
      | _ => exact gen h
def listD (own : Bool) : DRl := fun ds w Q => match ds with
  | [x] => match getS w x with
    | some xs => if own = true then ∀ p, w p = none → Q (.ref p) (put w p (.lst xs)) else Q (.lst xs) w
    | none => False
  | _ => False
theorem tr_list {K : PySem.W.Frag} {own : Bool} : TrRl K (fun xs H Q => ∃ p ys, xs = [.ref p] ∧ (SqL K H p ys ∨ SqT K H p ys) ∧ ∀ l, H l = none → Q (.ref l) (upd H l (.lst ys))) (listD own) := by
  intro H P w xs ds Q' Q rh r h hq
  unfold listD at h
  split at h
  · rename_i x
    cases r with
    | cons r1 r2 =>
      cases r2
      split at h
      · rename_i xs hx
        obtain ⟨a, vs, rfl, sq, r⟩ := getS_at rh r1 hx
        refine ⟨a, vs, rfl, sq, fun l hl => ?_⟩
        cases own with
        | true =>
          have g := rh.newW (o := .lst vs) (n := .lst xs) hl ⟨vs, rfl, r⟩
          exact hq _ _ (h l (rh.free hl).2) _ _ _ g (.ref l)
        | false =>
          have g := rh.newP (o := .lst vs) hl
          exact hq _ w h _ _ _ g (.lst upd_same (r.mono g.ex))
      · exact h.elim
  · exact h.elim
def tupleD : DRl := fun ds w Q => match ds with
  | [.tup xs] => Q (.tup xs) w
  | [x] => match getL w x with
    | some xs => Q (.tup xs) w
    | none => False
  | _ => False
theorem tr_tuple {K : PySem.W.Frag} : TrRl K (fun xs H Q => ∃ p ys, xs = [.ref p] ∧ ((SqL K H p ys ∧ ∀ l, H l = none → Q (.ref l) (upd H l (.tup ys))) ∨ (SqT K H p ys ∧ Q (.ref p) H))) tupleD := by
  intro H P w xs ds Q' Q rh r h hq
  cases r with
  | nil => exact h.elim
  | cons r1 r2 =>
    cases r2 with
    | cons _ _ => cases r1 <;> exact h.elim
    | nil =>
      rename_i d v
      have gen : (match getL w d with
        | some xs => Q' (.tup xs) w
        | none => False) → ∃ p ys, [v] = [.ref p] ∧ ((SqL K H p ys ∧ ∀ l, H l = none → Q (.ref l) (upd H l (.tup ys))) ∨ (SqT K H p ys ∧ Q (.ref p) H)) := fun h => by
        split at h
        · rename_i xs hx
          obtain ⟨a, vs, rfl, sq, r⟩ := getL_at rh r1 hx
          refine ⟨a, vs, rfl, .inl ⟨sq, fun l hl => ?_⟩⟩
          have g := rh.newP (o := .tup vs) hl
          exact hq _ w h _ _ _ g (.tup upd_same (r.mono g.ex))
        · exact h.elim
      cases r1 with
      | tup q r => exact ⟨_, _, rfl, .inr ⟨SqT.of (rh.per _ _ q), hq _ w h _ H P rh.go (.tup q r)⟩⟩
      | _ => exact gen h
def intsD : List D → Option (List Int)
  | [] => some []
  | .int i :: r => (intsD r).map (i :: ·)
  | _ => none
def blsD : List D → Option (List Bool)
  | [] => some []
  | .bl i :: r => (blsD r).map (i :: ·)
  | _ => none
theorem intsD_ok {K : PySem.W.Frag} {P : Hp} : ∀ {ds : List D} {vs : List V} {ns : List Int}, RepL K P ds vs → intsD ds = some ns → vs = ns.map V.int
  | _, _, _, .nil, h => by cases h; rfl
  | _, _, _, .cons r t, h => by
    cases r with
    | int i =>
      unfold intsD at h
      cases e : intsD _ with
      | none => rw [e] at h; cases h
      | some ms => rw [e] at h; cases h; rw [intsD_ok t e]; rfl
    | _ => cases h
theorem blsD_ok {K : PySem.W.Frag} {P : Hp} : ∀ {ds : List D} {vs : List V} {ns : List Bool}, RepL K P ds vs → blsD ds = some ns → vs = ns.map V.bl
  | _, _, _, .nil, h => by cases h; rfl
  | _, _, _, .cons r t, h => by
    cases r with
    | bl i =>
      unfold blsD at h
      cases e : blsD _ with
      | none => rw [e] at h; cases h
      | some ms => rw [e] at h; cases h; rw [blsD_ok t e]; rfl
    | _ => cases h
theorem intsD_map : ∀ ns : List Int, intsD (ns.map D.int) = some ns
  | [] => rfl
  | n :: r => by show (intsD (r.map D.int)).map (n :: ·) = _; rw [intsD_map r]; rfl
theorem blsD_map : ∀ ns : List Bool, blsD (ns.map D.bl) = some ns
  | [] => rfl
  | n :: r => by show (blsD (r.map D.bl)).map (n :: ·) = _; rw [blsD_map r]; rfl
def nsD (w : Wd) (d : D) : Option (List Int) := (getL w d).bind intsD
def bsD (w : Wd) (d : D) : Option (List Bool) := (getL w d).bind blsD
theorem nsD_at {K : PySem.W.Frag} {H P : Hp} {w : Wd} {d : D} {v : V} {ns : List Int} (rh : RH K H P w) (r : Rep K P d v) (h : nsD w d = some ns) : ∃ a, v = .ref a ∧ SqL K H a (ns.map V.int) := by
  unfold nsD at h
  cases e : getL w d with
  | none => rw [e] at h; cases h
  | some ds =>
    rw [e] at h
    obtain ⟨a, vs, rfl, sq, r⟩ := getL_at rh r e
    exact ⟨a, rfl, by rw [← intsD_ok r h]; exact sq⟩
theorem bsD_at {K : PySem.W.Frag} {H P : Hp} {w : Wd} {d : D} {v : V} {ns : List Bool} (rh : RH K H P w) (r : Rep K P d v) (h : bsD w d = some ns) : ∃ a, v = .ref a ∧ SqL K H a (ns.map V.bl) := by
  unfold bsD at h
  cases e : getL w d with
  | none => rw [e] at h; cases h
  | some ds =>
    rw [e] at h
    obtain ⟨a, vs, rfl, sq, r⟩ := getL_at rh r e
    exact ⟨a, rfl, by rw [← blsD_ok r h]; exact sq⟩
def sumD : DRl := fun ds w Q => match ds with
  | [x] => match nsD w x with
    | some ns => Q (.int ns.sum) w
    | none => False
  | _ => False
def allD : DRl := fun ds w Q => match ds with
  | [x] => match bsD w x with
    | some bs => Q (.bl (bs.all id)) w
    | none => False
  | _ => False
theorem tr_sum {K : PySem.W.Frag} : TrRl K (rSum K) sumD := by
  intro H P w xs ds Q' Q rh r h hq
  unfold sumD at h
  split at h
  · cases r with
    | cons r1 r2 =>
      cases r2
      split at h
      · rename_i ns hn
        obtain ⟨a, rfl, sq⟩ := nsD_at rh r1 hn
        exact ⟨a, ns, rfl, sq, hq _ w h _ H P rh.go (.int _)⟩
      · exact h.elim
  · exact h.elim
theorem tr_all {K : PySem.W.Frag} : TrRl K (rAll K) allD := by
  intro H P w xs ds Q' Q rh r h hq
  unfold allD at h
  split at h
  · cases r with
    | cons r1 r2 =>
      cases r2
      split at h
      · rename_i ns hn
        obtain ⟨a, rfl, sq⟩ := bsD_at rh r1 hn
        exact ⟨a, ns, rfl, sq, hq _ w h _ H P rh.go (.bl _)⟩
      · exact h.elim
  · exact h.elim
/-- max, min: of two ints, of a list of ints -/
def maxD : DRl := fun ds w Q => match ds with
  | [.int i, .int j] => Q (.int (if j > i then j else i)) w
  | [x] => match nsD w x with
    | some ns => 0 < ns.length ∧ ∀ m, m ∈ ns → (∀ y, y ∈ ns → y ≤ m) → Q (.int m) w
    | none => False
  | _ => False
def minD : DRl := fun ds w Q => match ds with
  | [.int i, .int j] => Q (.int (if j < i then j else i)) w
  | [x] => match nsD w x with
    | some ns => 0 < ns.length ∧ ∀ m, m ∈ ns → (∀ y, y ∈ ns → m ≤ y) → Q (.int m) w
    | none => False
  | _ => False
theorem CallR.or {X : Cx} {f : Value} {r r' : List V → Hp → VK → Prop} (h : CallR X f r) (h' : CallR X f r') : CallR X f (fun xs H Q => r xs H Q ∨ r' xs H Q) := fun pins s σ H xs us Q I rs q => by
  rcases q with q | q
  · exact h pins s σ H xs us Q I rs q
  · exact h' pins s σ H xs us Q I rs q
theorem tr_max {K : PySem.W.Frag} : TrRl K (fun xs H Q => (∃ i j, xs = [.int i, .int j] ∧ Q (.int (if j > i then j else i)) H) ∨ rMax K xs H Q) maxD := by
  intro H P w xs ds Q' Q rh r h hq
  unfold maxD at h
  split at h
  · rename_i i j
    cases r with
    | cons r1 r2 => cases r2 with
      | cons r3 r4 => cases r4; cases r1; cases r3; exact .inl ⟨i, j, rfl, hq _ w h _ H P rh.go (.int _)⟩
  · cases r with
    | cons r1 r2 =>
      cases r2
      split at h
      · rename_i ns hn
        obtain ⟨a, rfl, sq⟩ := nsD_at rh r1 hn
        exact .inr ⟨a, ns, rfl, sq, h.1, fun m h1 h2 => hq _ w (h.2 m h1 h2) _ H P rh.go (.int _)⟩
      · exact h.elim
  · exact h.elim
theorem tr_min {K : PySem.W.Frag} : TrRl K (fun xs H Q => (∃ i j, xs = [.int i, .int j] ∧ Q (.int (if j < i then j else i)) H) ∨ rMin K xs H Q) minD := by
  intro H P w xs ds Q' Q rh r h hq
  unfold minD at h
  split at h
  · rename_i i j
    cases r with
    | cons r1 r2 => cases r2 with
      | cons r3 r4 => cases r4; cases r1; cases r3; exact .inl ⟨i, j, rfl, hq _ w h _ H P rh.go (.int _)⟩
  · cases r with
    | cons r1 r2 =>
      cases r2
      split at h
      · rename_i ns hn
        obtain ⟨a, rfl, sq⟩ := nsD_at rh r1 hn
        exact .inr ⟨a, ns, rfl, sq, h.1, fun m h1 h2 => hq _ w (h.2 m h1 h2) _ H P rh.go (.int _)⟩
      · exact h.elim
  · exact h.elim
def absD : DRl := fun ds w Q => match ds with
  | [.int i] => Q (.int (if i < 0 then -i else i)) w
  | _ => False
theorem tr_abs {K : PySem.W.Frag} : TrRl K (fun xs H Q => ∃ i, xs = [.int i] ∧ Q (.int (if i < 0 then -i else i)) H) absD := by
  intro H P w xs ds Q' Q rh r h hq
  unfold absD at h
  split at h
  · cases r with
    | cons r1 r2 => cases r2; cases r1; exact ⟨_, rfl, hq _ w h _ H P rh.go (.int _)⟩
  · exact h.elim
/-- isinstance(x, a built-in class) -/
def tyN (w : Wd) : D → Option String
  | .non => some "NoneType"
  | .bl _ => some "bool"
  | .int _ => some "int"
  | .str _ => some "str"
  | .lst _ => some "list"
  | .tup _ => some "tuple"
  | .ref a => match w a with
    | some (.lst _) => some "list"
    | some (.dK _) => some "dict"
    | _ => none
  | _ => none
def subTy (a n : String) : Bool := a == n || (a == "bool" && n == "int")
def tys : List String := ["NoneType", "bool", "int", "str", "list", "tuple", "dict"]
def tys2 : List String := ["bool", "int", "str", "list", "tuple"]
theorem kit_tys : (tys.all fun a => tys2.all fun n => decide (kitB a n = some (subTy a n))) = true := by decide +kernel
theorem kit_of_tys {a n : String} (h : a ∈ tys) (h2 : n ∈ tys2) : kitB a n = some (subTy a n) := of_decide_eq_true (List.all_eq_true.mp (List.all_eq_true.mp kit_tys a h) n h2)
def isiD : DRl := fun ds w Q => match ds with
  | [x, .ty n] => match tyN w x with
    | some a => n ∈ tys2 ∧ Q (.bl (subTy a n)) w
    | none => False
  | _ => False
theorem tyN_ok {K : PySem.W.Frag} {H P : Hp} {w : Wd} {d : D} {v : V} {a : String} (rh : RH K H P w) (r : Rep K P d v) (h : tyN w d = some a) : a ∈ tys ∧ TyX K H v (.type a) := by
  cases r with
  | non => cases h; exact ⟨by decide, .base .non⟩
  | bl b => cases h; exact ⟨by decide, .base (.bl b)⟩
  | int b => cases h; exact ⟨by decide, .base (.int b)⟩
  | str b => cases h; exact ⟨by decide, .base (.str b)⟩
  | lst q _ => cases h; exact ⟨by decide, .base (.lst (rh.per _ _ q))⟩
  | tup q _ => cases h; exact ⟨by decide, .base (.tup (rh.per _ _ q))⟩
  | ref b =>
    unfold tyN at h
    dsimp only at h
    split at h
    · rename_i xs hw
      cases h
      obtain ⟨_, ho, h1, vs, e, r⟩ := rh.own b _ hw
      subst e
      exact ⟨by decide, .base (.lst h1)⟩
    · rename_i xs hw
      cases h
      obtain ⟨_, ho, h1, vs, e, r⟩ := rh.own b _ hw
      subst e
      exact ⟨by decide, .base (.dK h1)⟩
    · cases h
  | _ => cases h
theorem tr_isi {K : PySem.W.Frag} : TrRl K (rIsi K) isiD := by
  intro H P w xs ds Q' Q rh r h hq
  unfold isiD at h
  split at h
  · cases r with
    | cons r1 r2 => cases r2 with
      | cons r3 r4 =>
        cases r4; cases r3
        split at h
        · rename_i a ha
          obtain ⟨h1, h2⟩ := tyN_ok rh r1 ha
          exact ⟨_, _, _, _, _, rfl, .ty _, h2, kit_ty (kit_of_tys h1 h.1), hq _ w h.2 _ H P rh.go (.bl _)⟩
        · exact h.elim
  · exact h.elim
end TD

set_option maxHeartbeats 2000000
namespace TD
open PySem PySem.Spec PyProof.Rows L2
/-! ### methods of built-in types -/
theorem tyV_of {K : PySem.W.Frag} {H P : Hp} {w : Wd} {T : String} {d : D} {v : V} (rh : RH K H P w) (r : Rep K P d v) (h : dTyOk T w d) (hT : T ≠ "tuple") : tyV K T v H := by
  cases r with
  | str z => exact h
  | lst q _ => exact .inl ⟨h, _, SqL.of (rh.per _ _ q)⟩
  | rol q _ => exact .inl ⟨h, _, sqL_ex (fun u z => rh.per _ u z) q⟩
  | tup q _ => exact (hT h).elim
  | rot q _ => exact (hT h).elim
  | ref a =>
    unfold dTyOk at h
    dsimp only at h
    split at h
    · rename_i xs hw
      obtain ⟨_, ho, h1, vs, e, r⟩ := rh.own a _ hw
      subst e
      exact .inl ⟨h, _, SqL.of h1⟩
    · exact h.elim
  | _ => exact h.elim
section
variable {X : Cx} {W : WX} {W' : DWX} {o e : Expr} {es : List Expr} {to te : DE} {t : DA} {name : Str} {apos cpos : Pos} {T id : String} {r : V → List V → Hp → VK → Prop} {dr : DRm}
theorem qe_bm0 (pa : PlainAttrs T) (slot : Slot T name id) (hty : typeOf (.builtin id) = pure (.type "method_descriptor")) (hm : MtR X id r) (hr : TrRm X.K T r dr) (ho : QE X W W' o to) (hT : T ≠ "tuple" := by decide)
    (hbase : attributeBase o name X.env (eval o X.env) = eval o X.env := by rfl) (hline : (apos.endLine == cpos.line) = true := by rfl) : QE X W W' (.Call (.Attribute o name apos) [] [] cpos) (dBM0 T dr to) := PE.imp (pe_bm0 pa slot hty hm ho hbase hline)
  fun σ H Q ⟨P, w, S, Q', rh, sl, h, hq, hx⟩ => ⟨P, w, S, _, rh, sl, h, fun x w1 h1 v H1 P1 g1 r1 => ⟨tyV_of g1.rh r1 h1.1 hT, hr H1 P1 w1 v [] x [] Q' Q g1.rh r1 .nil h1.2 (hq.go g1)⟩, hx⟩
theorem qe_bm (pa : PlainAttrs T) (slot : Slot T name id) (hty : typeOf (.builtin id) = pure (.type "method_descriptor")) (hm : MtR X id r) (hr : TrRm X.K T r dr) (ho : QE X W W' o to) (ha : QA X W W' (e :: es) t) (hT : T ≠ "tuple" := by decide)
    (hbase : attributeBase o name X.env (eval o X.env) = eval o X.env := by rfl)
    (hfew : ((backTo cpos (starEach (e :: es) X.env)).all (fun x => !x.1) && (backToKw cpos (keywordEach [] X.env)).all (fun x => x.1.isSome)
      && decide ((e :: es).length + ([] : List Keyword).length + (if ([] : List Keyword).isEmpty then 0 else 1) < 30)) = true := by rfl)
    (hline : (apos.endLine == cpos.line) = true := by rfl) (hs : starEach (e :: es) X.env = (false, eval e X.env) :: starEach es X.env := by rfl) (hplain : (backTo cpos (starEach es X.env)).any (·.1) = false := by rfl) :
    QE X W W' (.Call (.Attribute o name apos) (e :: es) [] cpos) (dBM T dr to t) := PE.imp (pe_bm pa slot hty hm ho ha hbase hfew hline hs hplain)
  fun σ H Q ⟨P, w, S, Q', rh, sl, h, hq, hx⟩ => ⟨P, w, S, _, rh, sl, h, fun x w1 h1 v H1 P1 g1 r1 => ⟨tyV_of g1.rh r1 h1.1 hT, P1, w1, S, _, g1.rh, sl.mono g1.ex, h1.2, fun ds w2 h2 us H2 P2 g2 r2 =>
    hr H2 P2 w2 v us x ds Q' Q g2.rh (r1.mono g2.ex) r2 h2 (hq.go (g1.trans g2)), hx.go g1⟩, hx⟩
end
/-- the node of a list -/
def atL (w : Wd) (d : D) (k : Addr → List D → Prop) : Prop := match d with
  | .ref a => match w a with
    | some (.lst xs) => k a xs
    | _ => False
  | _ => False
theorem atL_ok {K : PySem.W.Frag} {H P : Hp} {w : Wd} {d : D} {v : V} {k : Addr → List D → Prop} (rh : RH K H P w) (r : Rep K P d v) (h : atL w d k) : ∃ a xs vs, v = .ref a ∧ w a = some (.lst xs) ∧ H a = some (.lst vs) ∧ RepL K P xs vs ∧ k a xs := by
  cases r with
  | ref a =>
    unfold atL at h
    dsimp only at h
    split at h
    · rename_i xs hw
      obtain ⟨_, ho, h1, vs, e, r⟩ := rh.own a _ hw
      subst e
      exact ⟨a, xs, vs, rfl, hw, h1, r, h⟩
    · exact h.elim
  | _ => exact h.elim
def appD : DRm := fun x ds w Q => match ds with
  | [d] => atL w x fun a xs => xs.length < sizeLine ∧ Q .non (put w a (.lst (xs ++ [d])))
  | _ => False
theorem tr_app {K : PySem.W.Frag} : TrRm K "list" rAppend appD := by
  intro H P w x xs dx ds Q' Q rh rx rs h hq
  unfold appD at h
  split at h
  · cases rs with
    | cons r1 r2 =>
      cases r2
      obtain ⟨a, ys, vs, rfl, hw, hh, r, h1, h2⟩ := atL_ok rh rx h
      refine ⟨a, vs, _, rfl, rfl, hh, by rw [r.length]; exact h1, ?_⟩
      exact hq _ _ h2 _ _ _ (rh.setW hw ⟨_, rfl, r.append (.cons r1 .nil)⟩) .non
  · exact h.elim
def popD : DRm := fun x ds w Q => match ds with
  | [] => atL w x fun a xs => match xs[xs.length - 1]? with
    | some d => Q d (put w a (.lst xs.dropLast))
    | none => False
  | _ => False
theorem tr_pop {K : PySem.W.Frag} : TrRm K "list" rPop popD := by
  intro H P w x xs dx ds Q' Q rh rx rs h hq
  unfold popD at h
  split at h
  · cases rs
    obtain ⟨a, ys, vs, rfl, hw, hh, r, h2⟩ := atL_ok rh rx h
    split at h2
    · rename_i d hd
      obtain ⟨v, hv, rv⟩ := r.get hd
      refine ⟨a, vs, v, rfl, rfl, hh, by rw [r.length]; exact hv, ?_⟩
      exact hq _ _ h2 _ _ _ (rh.setW hw ⟨_, rfl, r.dropLast⟩) rv
    · exact h2.elim
  · exact h.elim
def extD : DRm := fun x ds w Q => match ds with
  | [d] => atL w x fun a xs => match getM w d with
    | some ys => xs.length + ys.length ≤ sizeLine ∧ Q .non (put w a (.lst (xs ++ ys)))
    | none => False
  | _ => False
theorem tr_ext {K : PySem.W.Frag} : TrRm K "list" rExtend extD := by
  intro H P w x xs dx ds Q' Q rh rx rs h hq
  unfold extD at h
  split at h
  · cases rs with
    | cons r1 r2 =>
      cases r2
      obtain ⟨a, ys, vs, rfl, hw, hh, r, h2⟩ := atL_ok rh rx h
      split at h2
      · rename_i zs hz
        obtain ⟨b, us, rfl, hb, rb⟩ := getM_at rh r1 hz
        refine ⟨a, b, vs, us, rfl, rfl, hh, hb, by rw [r.length, rb.length]; exact h2.1, ?_⟩
        exact hq _ _ h2.2 _ _ _ (rh.setW hw ⟨_, rfl, r.append rb⟩) .non
      · exact h2.elim
  · exact h.elim
def clrD : DRm := fun x ds w Q => match ds with
  | [] => atL w x fun a xs => Q .non (put w a (.lst []))
  | _ => False
theorem tr_clr {K : PySem.W.Frag} : TrRm K "list" rClear clrD := by
  intro H P w x xs dx ds Q' Q rh rx rs h hq
  unfold clrD at h
  split at h
  · cases rs
    obtain ⟨a, ys, vs, rfl, hw, hh, r, h2⟩ := atL_ok rh rx h
    exact ⟨a, vs, rfl, rfl, hh, hq _ _ h2 _ _ _ (rh.setW hw ⟨_, rfl, .nil⟩) .non⟩
  · exact h.elim
def revD : DRm := fun x ds w Q => match ds with
  | [] => atL w x fun a xs => Q .non (put w a (.lst xs.reverse))
  | _ => False
theorem tr_rev {K : PySem.W.Frag} : TrRm K "list" rReverse revD := by
  intro H P w x xs dx ds Q' Q rh rx rs h hq
  unfold revD at h
  split at h
  · cases rs
    obtain ⟨a, ys, vs, rfl, hw, hh, r, h2⟩ := atL_ok rh rx h
    exact ⟨a, vs, rfl, rfl, hh, hq _ _ h2 _ _ _ (rh.setW hw ⟨_, rfl, r.reverse⟩) .non⟩
  · exact h.elim
/-! ### o[i] = e -/
def liftSet (K : PySem.W.Frag) : D → D → D → Wd → (Wd → Prop) → Prop := fun o i v w N => match i with
  | .int k => atL w o fun a xs => match ixN xs.length k with
    | some j => N (put w a (.lst (xs.set j v)))
    | none => False
  | _ => False
def dSet (tv to ti : DE) : DS := fun D S w => tv S w fun v w1 => to S w1 fun o w2 => ti S w2 fun i w3 => match i with
  | .int k => atL w3 o fun a xs => match ixN xs.length k with
    | some j => D.nx S (put w3 a (.lst (xs.set j v)))
    | none => False
  | _ => False
section
variable {X : Cx} {W : WX} {W' : DWX} {o i e : Expr} {to ti te : DE} {pos tpos : Pos}
theorem qs_setL (he : QE X W W' e te) (ho : QE X W W' o to) (hi : QE X W W' i ti) (hp : PS X (.Assign [.Subscript o i tpos] e pos) (tAsg (liftE X.K W W' te) (gSub (liftE X.K W W' to) (liftE X.K W W' ti) rSetL))) : QS X W W' (.Assign [.Subscript o i tpos] e pos) (dSet te to ti) := PS.imp hp
  fun D σ H ⟨P, w, S, D', rh, sl, h, hd, hx⟩ => ⟨P, w, S, _, rh, sl, h, fun v w1 h1 vv H1 P1 g1 r1 => ⟨P1, w1, S, _, g1.rh, sl.mono g1.ex, h1, fun o w2 h2 vo H2 P2 g2 r2 => ⟨P2, w2, S, _, g2.rh, sl.mono (g1.trans g2).ex, h2, fun i w3 h3 vi H3 P3 g3 r3 => by
    have g := (g1.trans g2).trans g3
    cases r3 with
    | int k =>
      dsimp only at h3
      obtain ⟨a, ys, vs, rfl, hw, hh, r, h4⟩ := atL_ok g3.rh (r2.mono g3.ex) h3
      split at h4
      · rename_i j hj
        refine ⟨a, vs, k, j, rfl, rfl, hh, by rw [r.length]; exact hj, ?_⟩
        have g4 := g3.rh.setW hw (o := .lst (vs.set j vv)) (m := .lst (ys.set j v)) ⟨_, rfl, r.set (r1.mono (g2.trans g3).ex) j⟩
        exact hd.nx _ _ h4 _ _ _ (g.trans g4) (sl.mono (g.trans g4).ex)
      · exact h4.elim
    | _ => exact h3.elim, hx.go (g1.trans g2)⟩, hx.go g1⟩, hx⟩
end
/-! ### what is walked -/
def itOf (xs : List D) (ok : Wd → Prop) : DIt := ⟨xs.length, fun i => xs.getD i .non, ok⟩
theorem getD_at {xs : List D} {i : Nat} (h : i < xs.length) : xs[i]? = some (xs.getD i .non) := by
  rw [List.getElem?_eq_getElem h, List.getD_eq_getElem?_getD, List.getElem?_eq_getElem h]
  rfl
/-- where the list stands -/
def atSeq (w : Wd) (d : D) (R : List D → (Wd → Prop) → Prop) : Prop := match d with
  | .lst xs => R xs fun _ => True
  | .rol xs => R xs fun _ => True
  | .ref a => match w a with
    | some (.lst xs) => R xs fun w2 => w2 a = some (.lst xs)
    | _ => False
  | _ => False
theorem atSeq_ok {K : PySem.W.Frag} {H P : Hp} {w : Wd} {d : D} {v : V} {R : List D → (Wd → Prop) → Prop} (rh : RH K H P w) (r : Rep K P d v) (h : atSeq w d R) :
    ∃ a xs vs ok, v = .ref a ∧ R xs ok ∧ SqL K H a vs ∧ RepL K P xs vs ∧ ∀ H2 P2 w2, Ex P P2 → RH K H2 P2 w2 → ok w2 → ∃ us, SqL K H2 a us ∧ RepL K P2 xs us := by
  cases r with
  | lst q r =>
    refine ⟨_, _, _, _, rfl, h, SqL.of (rh.per _ _ q), r, fun H2 P2 w2 e rh2 _ => ⟨_, SqL.of (rh2.per _ _ (e _ _ q)), r.mono e⟩⟩
  | rol q r =>
    refine ⟨_, _, _, _, rfl, h, sqL_ex (fun u z => rh.per _ u z) q, r, fun H2 P2 w2 e rh2 _ => ⟨_, sqL_ex (fun u z => rh2.per _ u (e _ _ z)) q, r.mono e⟩⟩
  | ref a =>
    unfold atSeq at h
    dsimp only at h
    split at h
    · rename_i xs hw
      obtain ⟨_, ho, h1, vs, e, r⟩ := rh.own a _ hw
      subst e
      refine ⟨a, xs, vs, _, rfl, h, SqL.of h1, r, fun H2 P2 w2 e rh2 ok => ?_⟩
      obtain ⟨_, ho, h1, vs, e, r⟩ := rh2.own a _ ok
      subst e
      exact ⟨vs, SqL.of h1, r⟩
    · exact h.elim
  | _ => exact h.elim
section
variable {X : Cx} {W : WX} {W' : DWX} {tg e e2 : Expr} {te : DE} {ta : DA} {p pos tpos : Pos}
def diL (te : DE) : DI := fun S w R => te S w fun d w1 => atSeq w1 d fun xs ok => R (itOf xs ok) w1
theorem sqL_fun {K : PySem.W.Frag} {H : Hp} {a : Addr} {xs ys : List V} {its : List Value} (h : SqL K H a xs) : SqL K H a xs := h
theorem itl_ok {K : PySem.W.Frag} {H P : Hp} {w : Wd} {a : Addr} {xs : List D} {ok : Wd → Prop} (h : ∀ H2 P2 w2, Ex P P2 → RH K H2 P2 w2 → ok w2 → ∃ us, SqL K H2 a us ∧ RepL K P2 xs us) : ItOk K H P w (Itl K a) (itOf xs ok) := by
  intro H2 P2 w2 e rh2 hk
  obtain ⟨us, sq, r⟩ := h H2 P2 w2 e rh2 hk
  refine ⟨fun i hi => ?_, us, sq, by rw [r.length]; exact Nat.le_refl _⟩
  obtain ⟨v, hv, rv⟩ := r.get (getD_at hi)
  refine ⟨⟨us, v, sq, hv⟩, fun x H3 ⟨eH, hy⟩ => ⟨P2, by rw [eH]; exact rh2.go, ?_⟩⟩
  have q := hy us sq
  rw [hv] at q
  cases q
  exact rv
theorem qi_list (he : QE X W W' e te) : QI X W W' tg e (diL te) := PI.imp (pi_list he)
  fun σ H R ⟨P, w, S, R', rh, sl, h, hR, hx⟩ => ⟨P, w, S, _, rh, sl, h, fun d w1 h1 v H1 P1 g1 r1 => by
    obtain ⟨a, xs, vs, ok, rfl, hr, sq, r, st⟩ := atSeq_ok g1.rh r1 h1
    exact ⟨a, rfl, ⟨vs, sq⟩, hR _ w1 hr _ H1 P1 g1 (itl_ok st)⟩, hx⟩
def diT (te : DE) : DI := fun S w R => te S w fun d w1 => match d with
  | .tup xs => R (itOf xs fun _ => True) w1
  | .rot xs => R (itOf xs fun _ => True) w1
  | _ => False
theorem itt_ok {K : PySem.W.Frag} {H P : Hp} {w : Wd} {a : Addr} {xs : List D} {ok : Wd → Prop} (h : ∀ H2 P2 w2, Ex P P2 → RH K H2 P2 w2 → ok w2 → ∃ us, SqT K H2 a us ∧ RepL K P2 xs us) : ItOk K H P w (Itt K a) (itOf xs ok) := by
  intro H2 P2 w2 e rh2 hk
  obtain ⟨us, sq, r⟩ := h H2 P2 w2 e rh2 hk
  refine ⟨fun i hi => ?_, us, sq, by rw [r.length]; exact Nat.le_refl _⟩
  obtain ⟨v, hv, rv⟩ := r.get (getD_at hi)
  refine ⟨⟨us, v, sq, hv⟩, fun x H3 ⟨eH, hy⟩ => ⟨P2, by rw [eH]; exact rh2.go, ?_⟩⟩
  have q := hy us sq
  rw [hv] at q
  cases q
  exact rv
theorem qi_tup (he : QE X W W' e te) : QI X W W' tg e (diT te) := PI.imp (pi_tup he)
  fun σ H R ⟨P, w, S, R', rh, sl, h, hR, hx⟩ => ⟨P, w, S, _, rh, sl, h, fun d w1 h1 v H1 P1 g1 r1 => by
    cases r1 with
    | tup q r => exact ⟨_, rfl, ⟨_, SqT.of (g1.rh.per _ _ q)⟩, hR _ w1 h1 _ H1 P1 g1 (itt_ok fun H2 P2 w2 e rh2 _ => ⟨_, SqT.of (rh2.per _ _ (e _ _ q)), r.mono e⟩)⟩
    | rot q r => exact ⟨_, rfl, ⟨_, sqT_ex (fun u z => g1.rh.per _ u z) q⟩, hR _ w1 h1 _ H1 P1 g1 (itt_ok fun H2 P2 w2 e rh2 _ => ⟨_, sqT_ex (fun u z => rh2.per _ u (e _ _ z)) q, r.mono e⟩)⟩
    | _ => exact h1.elim, hx⟩
def itR (lo : Int) (n : Nat) : DIt := ⟨n, fun i => .int (lo + i), fun _ => True⟩
theorem itr_ok {K : PySem.W.Frag} {H P : Hp} {w : Wd} {lo : Int} {n : Nat} : ItOk K H P w (Itr lo n) (itR lo n) := fun H2 P2 w2 e rh2 _ => ⟨fun i hi => ⟨hi, fun x H3 ⟨eH, ex⟩ => ⟨P2, by rw [eH]; exact rh2.go, by rw [ex]; exact .int _⟩⟩, Nat.le_refl _⟩
def diR1 (ta : DA) : DI := fun S w R => ta S w fun ds w1 => match ds with
  | [.int j] => -(2 ^ 62) ≤ j ∧ j < 2 ^ 62 ∧ R (itR 0 j.toNat) w1
  | _ => False
def diR2 (ta : DA) : DI := fun S w R => ta S w fun ds w1 => match ds with
  | [.int i, .int j] => (-(2 ^ 62) ≤ i ∧ i < 2 ^ 62 ∧ -(2 ^ 62) ≤ j ∧ j < 2 ^ 62) ∧ R (itR i (j - i).toNat) w1
  | _ => False
theorem qi_range1 {a : Expr} (hm : X.mg "range" = none) (ha : QA X W W' [a] ta) (hg : Gl X "range" := by rfl) (hs : starEach [a] X.env = [(false, eval a X.env)] := by rfl) : QI X W W' tg (.Call (.Name "range" p) [a] [] pos) (diR1 ta) := PI.imp (pi_range1 hg hm ha hs)
  fun σ H R ⟨P, w, S, R', rh, sl, h, hR, hx⟩ => ⟨P, w, S, _, rh, sl, h, fun ds w1 h1 vs H1 P1 g1 r1 => by
    dsimp only at h1
    split at h1
    · cases r1 with
      | cons q1 q2 => cases q2; cases q1; exact ⟨_, rfl, h1.1, h1.2.1, hR _ w1 h1.2.2 _ H1 P1 g1 itr_ok⟩
    · exact h1.elim, hx⟩
theorem qi_range2 {a b : Expr} (hm : X.mg "range" = none) (ha : QA X W W' [a, b] ta) (hg : Gl X "range" := by rfl) (hs : starEach [a, b] X.env = [(false, eval a X.env), (false, eval b X.env)] := by rfl) (hs2 : starEach [b] X.env = [(false, eval b X.env)] := by rfl) : QI X W W' tg (.Call (.Name "range" p) [a, b] [] pos) (diR2 ta) := PI.imp (pi_range2 hg hm ha hs hs2)
  fun σ H R ⟨P, w, S, R', rh, sl, h, hR, hx⟩ => ⟨P, w, S, _, rh, sl, h, fun ds w1 h1 vs H1 P1 g1 r1 => by
    dsimp only at h1
    split at h1
    · cases r1 with
      | cons q1 q2 => cases q2 with
        | cons q3 q4 => cases q4; cases q1; cases q3; exact ⟨_, _, rfl, h1.1, hR _ w1 h1.2 _ H1 P1 g1 itr_ok⟩
    · exact h1.elim, hx⟩
def itS (z : Str) : DIt := ⟨z.cps.size, fun i => .str ⟨#[z.cps.toList.getD i 0]⟩, fun _ => True⟩
def diS (te : DE) : DI := fun S w R => te S w fun d w1 => match d with
  | .str z => R (itS z) w1
  | _ => False
theorem qi_str (he : QE X W W' e te) : QI X W W' tg e (diS te) := PI.imp (pi_str he)
  fun σ H R ⟨P, w, S, R', rh, sl, h, hR, hx⟩ => ⟨P, w, S, _, rh, sl, h, fun d w1 h1 v H1 P1 g1 r1 => by
    cases r1 with
    | str z =>
      refine ⟨z, rfl, hR _ w1 h1 _ H1 P1 g1 fun H2 P2 w2 e rh2 _ => ⟨fun i hi => ⟨hi, fun x H3 ⟨eH, c, hc, ex⟩ => ⟨P2, by rw [eH]; exact rh2.go, ?_⟩⟩, Nat.le_refl _⟩⟩
      rw [ex]
      have e1 : z.cps.toList.getD i 0 = c := by
        rw [List.getD_eq_getElem?_getD, Array.getElem?_toList, hc]; rfl
      show Rep X.K P2 (.str ⟨#[z.cps.toList.getD i 0]⟩) _
      rw [e1]
      exact .str _
    | _ => exact h1.elim, hx⟩
def itE (xs : List D) (ok : Wd → Prop) : DIt := ⟨xs.length, fun i => .tup [.int (i : Nat), xs.getD i .non], ok⟩
def diE (ta : DA) : DI := fun S w R => ta S w fun ds w1 => match ds with
  | [d] => atSeq w1 d fun xs ok => R (itE xs ok) w1
  | _ => False
theorem qi_enum {elts : List Expr} {kk : Nat} (hm : X.mg "enumerate" = none) (ha : QA X W W' [e] ta) (hg : Gl X "enumerate" := by rfl) (hs : starEach [e] X.env = [(false, eval e X.env)] := by rfl) :
    QI X W W' (.Tuple elts kk tpos) (.Call (.Name "enumerate" p) [e] [] pos) (diE ta) := PI.imp (pi_enum hg hm ha hs)
  fun σ H R ⟨P, w, S, R', rh, sl, h, hR, hx⟩ => ⟨P, w, S, _, rh, sl, h, fun ds w1 h1 vs H1 P1 g1 r1 => by
    dsimp only at h1
    split at h1
    · cases r1 with
      | cons q1 q2 =>
        cases q2
        obtain ⟨a, xs, vs, ok, rfl, hr, sq, r, st⟩ := atSeq_ok g1.rh q1 h1
        refine ⟨a, vs, rfl, sq, hR _ w1 hr _ H1 P1 g1 fun H2 P2 w2 e rh2 hk => ?_⟩
        obtain ⟨us, sq, r⟩ := st H2 P2 w2 e rh2 hk
        refine ⟨fun i hi => ?_, us, sq, by rw [r.length]; exact Nat.le_refl _⟩
        obtain ⟨v, hv, rv⟩ := r.get (getD_at hi)
        refine ⟨⟨us, v, sq, hv⟩, fun x H3 ⟨T, y, ex, hT, eH, hy⟩ => ?_⟩
        have q := hy us sq
        rw [hv] at q
        cases q
        subst ex eH
        have g := rh2.newP (o := .tup [.int (i : Nat), v]) hT
        exact ⟨_, g, .tup upd_same (.cons (.int _) (.cons (rv.mono g.ex) .nil))⟩
    · exact h1.elim, hx⟩
def itV (xs : List D) (ok : Wd → Prop) : DIt := ⟨xs.length, fun i => xs.getD (xs.length - 1 - i) .non, ok⟩
def diV (ta : DA) : DI := fun S w R => ta S w fun ds w1 => match ds with
  | [d] => atSeq w1 d fun xs ok => R (itV xs ok) w1
  | _ => False
theorem qi_rev (hm : X.mg "reversed" = none) (ha : QA X W W' [e] ta) (hg : Gl X "reversed" := by rfl) (hs : starEach [e] X.env = [(false, eval e X.env)] := by rfl) : QI X W W' tg (.Call (.Name "reversed" p) [e] [] pos) (diV ta) := PI.imp (pi_reversed hg hm ha hs)
  fun σ H R ⟨P, w, S, R', rh, sl, h, hR, hx⟩ => ⟨P, w, S, _, rh, sl, h, fun ds w1 h1 vs H1 P1 g1 r1 => by
    dsimp only at h1
    split at h1
    · cases r1 with
      | cons q1 q2 =>
        cases q2
        obtain ⟨a, xs, vs, ok, rfl, hr, sq, r, st⟩ := atSeq_ok g1.rh q1 h1
        have el := r.length
        refine ⟨a, vs, rfl, sq, hR _ w1 hr _ H1 P1 g1 fun H2 P2 w2 e rh2 hk => ?_⟩
        obtain ⟨us, sq, r⟩ := st H2 P2 w2 e rh2 hk
        rw [el]
        refine ⟨fun i hi => ?_, Nat.le_refl _⟩
        have hi' : i < xs.length := hi
        obtain ⟨v, hv, rv⟩ := r.get (getD_at (show xs.length - 1 - i < xs.length by omega))
        refine ⟨⟨hi', us, v, sq, hv⟩, fun x H3 ⟨eH, hy⟩ => ⟨P2, by rw [eH]; exact rh2.go, ?_⟩⟩
        have q := hy us sq
        rw [hv] at q
        cases q
        exact rv
    · exact h1.elim, hx⟩
def itZ (xs ys : List D) (ok : Wd → Prop) : DIt := ⟨min xs.length ys.length, fun i => .tup [xs.getD i .non, ys.getD i .non], ok⟩
def diZ (ta : DA) : DI := fun S w R => ta S w fun ds w1 => match ds with
  | [d, e] => atSeq w1 d fun xs ok => atSeq w1 e fun ys ok2 => R (itZ xs ys fun w2 => ok w2 ∧ ok2 w2) w1
  | _ => False
theorem qi_zip {elts : List Expr} {kk : Nat} (hm : X.mg "zip" = none) (ha : QA X W W' [e, e2] ta) (hg : Gl X "zip" := by rfl) (hs : starEach [e, e2] X.env = (false, eval e X.env) :: starEach [e2] X.env := by rfl) (hpl : (backTo pos (starEach [e2] X.env)).any (·.1) = false := by rfl) :
    QI X W W' (.Tuple elts kk tpos) (.Call (.Name "zip" p) [e, e2] [] pos) (diZ ta) := PI.imp (pi_zip hg hm ha hs hpl)
  fun σ H R ⟨P, w, S, R', rh, sl, h, hR, hx⟩ => ⟨P, w, S, _, rh, sl, h, fun ds w1 h1 vs H1 P1 g1 r1 => by
    dsimp only at h1
    split at h1
    · cases r1 with
      | cons q1 q2 => cases q2 with
        | cons q3 q4 =>
          cases q4
          obtain ⟨a, xs, vs, ok, rfl, hr, sq, r, st⟩ := atSeq_ok g1.rh q1 h1
          obtain ⟨b, ys, us, ok2, rfl, hr2, sq2, r2, st2⟩ := atSeq_ok g1.rh q3 hr
          refine ⟨a, b, vs, us, rfl, sq, sq2, hR _ w1 hr2 _ H1 P1 g1 fun H2 P2 w2 e rh2 hk => ?_⟩
          obtain ⟨us, sq, r⟩ := st H2 P2 w2 e rh2 hk.1
          obtain ⟨zs, sq2, r2⟩ := st2 H2 P2 w2 e rh2 hk.2
          refine ⟨fun i hi => ?_, us, zs, sq, sq2, ?_⟩
          · have hi' : i < min xs.length ys.length := hi
            obtain ⟨v, hv, rv⟩ := r.get (getD_at (show i < xs.length by omega))
            obtain ⟨u, hu, ru⟩ := r2.get (getD_at (show i < ys.length by omega))
            refine ⟨⟨us, zs, v, u, sq, sq2, hv, hu⟩, fun x H3 ⟨T, y, z, ex, hT, eH, hy, hz⟩ => ?_⟩
            have q := hy us sq
            have q' := hz zs sq2
            rw [hv] at q
            rw [hu] at q'
            cases q
            cases q'
            subst ex eH
            have g := rh2.newP (o := .tup [v, u]) hT
            exact ⟨_, g, .tup upd_same (.cons (rv.mono g.ex) (.cons (ru.mono g.ex) .nil))⟩
          · rw [r.length, r2.length]
            show _ ≤ min xs.length ys.length ∨ _ ≤ min xs.length ys.length
            omega
    · exact h1.elim, hx⟩
end
/-! ### a def -/
def startD (N : List Str) (ds : List D) : DSt := ds.map some ++ List.replicate (N.length - ds.length) none
theorem slots_start {K : PySem.W.Frag} {P : Hp} (N : List Str) : ∀ {ds : List D} {vs : List V}, RepL K P ds vs → Slots K P (startD N ds) (L2.start N vs) := by
  intro ds vs r
  refine ⟨by unfold startD L2.start; simp [r.length], fun i d h => ?_⟩
  unfold startD at h
  unfold L2.start
  by_cases hi : i < ds.length
  · rw [List.getElem?_append_left (by simpa using hi), List.getElem?_map] at h
    cases e : ds[i]? with
    | none => rw [e] at h; cases h
    | some d' =>
      rw [e] at h
      cases h
      obtain ⟨v, hv, rv⟩ := r.get e
      refine ⟨v, ?_, rv⟩
      rw [List.getElem?_append_left (by simp [r.length, hi]), List.getElem?_map, hv]
      rfl
  · rw [List.getElem?_append_right (by simp; omega)] at h
    have := List.getElem?_eq_some_iff.mp h
    obtain ⟨h1, h2⟩ := this
    simp at h2
theorem fn_ok {P : Program} {w : World} {K : PySem.W.Frag} {mg : Str → Option Value} {base : Heap} {x qual : Str} {params : Arguments} {body : List Stmt} {scope : Scope} {dvs : List V} {kws : List (Str × V)} {f : Addr} {fd : FuncData} {N ps : List Str} {k : Nat} {sp : DSp} {t : DX → DS}
    (F : FunD K x qual params body scope dvs kws f fd) (Sc : FnScope N ps scope) (len : ∀ ds w Q E, sp ds w Q E → ds.length = ps.length)
    (bd : ∀ (cdv : Value) (A : Around) (outer : List Env) (s : Shared) (H : Hp) (E : XK) (E' : DX), Room k (A.deeper (envOfC qual scope s.heap.objs.size f cdv)) →
      QSs (cxOf (L2N.CX P w) P w K mg base N qual scope f cdv A outer s H E) (fun c d _ H => E c d H) (fun c d _ w => E' c d w) body (t E'))
    (red : ∀ ds w Q E, sp ds w Q E → t E { nx := fun _ w1 => Q .non w1, rt := Q } (startD N ds) w) : FnOk P w K mg base (L2N.CX P w) (k + 1) f fd ps (lift K sp) :=
  F.ok Sc (fun vs H Q E ⟨P, w, ds, Q', E', rh, r, h, _⟩ => by rw [r.length]; exact len ds w Q' E' h) fun cdv A outer s H vs Q E hr ⟨P', w', ds, Q', E', rh, r, h, hq, hx⟩ =>
    ⟨_, bd cdv A outer s H E E' hr, P', w', startD N ds, { nx := fun _ w1 => Q' .non w1, rt := Q' }, rh, slots_start N r, red ds w' Q' E' h,
      ⟨fun S1 w1 h1 σ1 H1 P1 g1 _ => hq _ w1 h1 _ H1 P1 g1 .non, hq, fun _ _ z => z.elim, fun _ _ z => z.elim⟩, fun c x S1 w1 h1 dd σ1 H1 P1 g1 _ z => hx c x w1 h1 dd H1 P1 g1 z⟩
end TD

set_option maxHeartbeats 2000000
namespace TD
open PySem PySem.Spec PyProof.Rows L2
/-! ### short words for the printed derivations -/
abbrev subD : DR2 := iD fun i j => .int (i - j)
abbrev fdivD : DR2 := iiD CDiv fun i j => .int (i / j)
abbrev modD : DR2 := iiD (fun _ j => 0 < j) fun i j => .int (i % j)
abbrev powD : DR2 := iiD CPow fun i j => .int (i ^ j.toNat)
abbrev ltD : DR2 := iD fun i j => .bl (decide (i < j))
abbrev leD : DR2 := iD fun i j => .bl (decide (i ≤ j))
abbrev gtD : DR2 := iD fun i j => .bl (decide (j < i))
abbrev geD : DR2 := iD fun i j => .bl (decide (j ≤ i))
def negD : DR1 := fun x w Q => match x with
  | .int i => Q (.int (-i)) w
  | _ => False
theorem tr_neg {K : PySem.W.Frag} : TrR1 K (rU fun i => .int (-i)) negD := by
  intro H P w x dx Q' Q rh rx h hq
  cases rx with
  | int i => exact ⟨i, rfl, hq _ w h _ H P rh.go (.int _)⟩
  | _ => exact h.elim
section
variable {X : Cx} {W : WX} {W' : DWX} {a b c e : Expr} {es : List Expr} {ta tb tc te : DE} {pos p : Pos} {t : DA} {j : Nat}
theorem qe_add (ha : QE X W W' a ta) (hb : QE X W W' b tb) : QE X W W' (.BinOp a .Add b pos) (dOp addD ta tb) := qe_op op_addA tr_addA ha hb
theorem qe_sub (ha : QE X W W' a ta) (hb : QE X W W' b tb) : QE X W W' (.BinOp a .Sub b pos) (dOp subD ta tb) := qe_op op_sub tr_i ha hb
theorem qe_mul (ha : QE X W W' a ta) (hb : QE X W W' b tb) : QE X W W' (.BinOp a .Mult b pos) (dOp mulD ta tb) := qe_op op_mulA tr_mulA ha hb
theorem qe_fdiv (ha : QE X W W' a ta) (hb : QE X W W' b tb) : QE X W W' (.BinOp a .FloorDiv b pos) (dOp fdivD ta tb) := qe_op op_fdiv tr_ii ha hb
theorem qe_mod (ha : QE X W W' a ta) (hb : QE X W W' b tb) : QE X W W' (.BinOp a .Mod b pos) (dOp modD ta tb) := qe_op op_mod tr_ii ha hb
theorem qe_pow (ha : QE X W W' a ta) (hb : QE X W W' b tb) : QE X W W' (.BinOp a .Pow b pos) (dOp powD ta tb) := qe_op op_pow tr_ii ha hb
theorem qe_neg (ha : QE X W W' a ta) : QE X W W' (.UnaryOp .USub a pos) (dUn negD ta) := qe_un un_neg tr_neg ha
theorem qe_eq (hr : Room j X.A) (ha : QE X W W' a ta) (hb : QE X W W' b tb) : QE X W W' (.Compare a [.Eq] [b] pos) (dOp (eqD false) ta tb) := qe_cmp (op_eqA hr.units) tr_eq ha hb
theorem qe_ne (hr : Room j X.A) (ha : QE X W W' a ta) (hb : QE X W W' b tb) : QE X W W' (.Compare a [.NotEq] [b] pos) (dOp (eqD true) ta tb) := qe_cmp (op_neA hr.units) tr_ne ha hb
theorem qe_lt (ha : QE X W W' a ta) (hb : QE X W W' b tb) : QE X W W' (.Compare a [.Lt] [b] pos) (dOp ltD ta tb) := qe_cmp op_lt tr_ib ha hb
theorem qe_le (ha : QE X W W' a ta) (hb : QE X W W' b tb) : QE X W W' (.Compare a [.LtE] [b] pos) (dOp leD ta tb) := qe_cmp op_le tr_ib ha hb
theorem qe_gt (ha : QE X W W' a ta) (hb : QE X W W' b tb) : QE X W W' (.Compare a [.Gt] [b] pos) (dOp gtD ta tb) := qe_cmp op_gt tr_ib ha hb
theorem qe_ge (ha : QE X W W' a ta) (hb : QE X W W' b tb) : QE X W W' (.Compare a [.GtE] [b] pos) (dOp geD ta tb) := qe_cmp op_ge tr_ib ha hb
theorem qe_is (ha : QE X W W' a ta) (hb : QE X W W' b tb) : QE X W W' (.Compare a [.Is] [b] pos) (dOp (isN false) ta tb) := qe_cmp op_isN tr_isN ha hb
theorem qe_isnt (ha : QE X W W' a ta) (hb : QE X W W' b tb) : QE X W W' (.Compare a [.IsNot] [b] pos) (dOp (isN true) ta tb) := qe_cmp op_notN tr_notN ha hb
theorem qe_in (hr : Room j X.A) (ha : QE X W W' a ta) (hb : QE X W W' b tb) (hm : behindInMarks .In b = false := by rfl) : QE X W W' (.Compare a [.In] [b] pos) (dOp (inD false) ta tb) := qe_cmp (op_inA hr.units) tr_in ha hb hm
theorem qe_nin (hr : Room j X.A) (ha : QE X W W' a ta) (hb : QE X W W' b tb) (hm : behindInMarks .NotIn b = false := by rfl) : QE X W W' (.Compare a [.NotIn] [b] pos) (dOp (inD true) ta tb) := qe_cmp (op_ninA hr.units) tr_in ha hb hm
theorem qt_eq (hr : Room j X.A) (ha : QE X W W' a ta) (hb : QE X W W' b tb) : QT X W W' (.Compare a [.Eq] [b] pos) (dB (dOp (eqD false) ta tb)) := qt_cmp (op_eqA hr.units) tr_eq ha hb
theorem qt_ne (hr : Room j X.A) (ha : QE X W W' a ta) (hb : QE X W W' b tb) : QT X W W' (.Compare a [.NotEq] [b] pos) (dB (dOp (eqD true) ta tb)) := qt_cmp (op_neA hr.units) tr_ne ha hb
theorem qt_lt (ha : QE X W W' a ta) (hb : QE X W W' b tb) : QT X W W' (.Compare a [.Lt] [b] pos) (dB (dOp ltD ta tb)) := qt_cmp op_lt tr_ib ha hb
theorem qt_le (ha : QE X W W' a ta) (hb : QE X W W' b tb) : QT X W W' (.Compare a [.LtE] [b] pos) (dB (dOp leD ta tb)) := qt_cmp op_le tr_ib ha hb
theorem qt_gt (ha : QE X W W' a ta) (hb : QE X W W' b tb) : QT X W W' (.Compare a [.Gt] [b] pos) (dB (dOp gtD ta tb)) := qt_cmp op_gt tr_ib ha hb
theorem qt_ge (ha : QE X W W' a ta) (hb : QE X W W' b tb) : QT X W W' (.Compare a [.GtE] [b] pos) (dB (dOp geD ta tb)) := qt_cmp op_ge tr_ib ha hb
theorem qt_is (ha : QE X W W' a ta) (hb : QE X W W' b tb) : QT X W W' (.Compare a [.Is] [b] pos) (dB (dOp (isN false) ta tb)) := qt_cmp op_isN tr_isN ha hb
theorem qt_isnt (ha : QE X W W' a ta) (hb : QE X W W' b tb) : QT X W W' (.Compare a [.IsNot] [b] pos) (dB (dOp (isN true) ta tb)) := qt_cmp op_notN tr_notN ha hb
theorem qt_in (hr : Room j X.A) (ha : QE X W W' a ta) (hb : QE X W W' b tb) (hm : behindInMarks .In b = false := by rfl) : QT X W W' (.Compare a [.In] [b] pos) (dB (dOp (inD false) ta tb)) := qt_cmp (op_inA hr.units) tr_in ha hb hm
theorem qt_nin (hr : Room j X.A) (ha : QE X W W' a ta) (hb : QE X W W' b tb) (hm : behindInMarks .NotIn b = false := by rfl) : QT X W W' (.Compare a [.NotIn] [b] pos) (dB (dOp (inD true) ta tb)) := qt_cmp (op_ninA hr.units) tr_in ha hb hm
/-- a <= b <= c of ints: l, e for < and <= -/
theorem qe_ee (ha : QE X W W' a ta) (hb : QE X W W' b tb) (hc : QE X W W' c tc) (hm : lastMarks [.LtE, .LtE] [b, c] = false := by with_unfolding_all rfl) : QE X W W' (.Compare a [.LtE, .LtE] [b, c] pos) (dChain leD leD ta tb tc) := qe_chain op_le tr_ib op_le tr_ib ha hb hc hm
theorem qe_el (ha : QE X W W' a ta) (hb : QE X W W' b tb) (hc : QE X W W' c tc) (hm : lastMarks [.LtE, .Lt] [b, c] = false := by with_unfolding_all rfl) : QE X W W' (.Compare a [.LtE, .Lt] [b, c] pos) (dChain leD ltD ta tb tc) := qe_chain op_le tr_ib op_lt tr_ib ha hb hc hm
theorem qt_ee (ha : QE X W W' a ta) (hb : QE X W W' b tb) (hc : QE X W W' c tc) (hm : lastMarks [.LtE, .LtE] [b, c] = false := by with_unfolding_all rfl) : QT X W W' (.Compare a [.LtE, .LtE] [b, c] pos) (dB (dChain leD leD ta tb tc)) := qt_chain op_le tr_ib op_le tr_ib ha hb hc hm
theorem qt_el (ha : QE X W W' a ta) (hb : QE X W W' b tb) (hc : QE X W W' c tc) (hm : lastMarks [.LtE, .Lt] [b, c] = false := by with_unfolding_all rfl) : QT X W W' (.Compare a [.LtE, .Lt] [b, c] pos) (dB (dChain leD ltD ta tb tc)) := qt_chain op_le tr_ib op_lt tr_ib ha hb hc hm
theorem qe_sub_ (hr : Room j X.A) (ha : QE X W W' a ta) (hb : QE X W W' b tb) (hs : PlainIx b := by exact fun _ _ => rfl) : QE X W W' (.Subscript a b pos) (dOp ixD ta tb) := qe_ix (ix_any hr.units) tr_ix ha hb hs
theorem qe_sl {lo hi : Option Expr} {tl th : DO} {p2 : Pos} (he : QE X W W' e te) (hl : QO X W W' lo tl) (hu : QO X W W' hi th) : QE X W W' (.Subscript e (.Slice lo hi none p2) pos) (dSl slD te tl th) := qe_slice sl_all tr_sl he hl hu
theorem qe_slO {lo hi : Option Expr} {tl th : DO} {p2 : Pos} (he : QE X W W' e te) (hl : QO X W W' lo tl) (hu : QO X W W' hi th) : QE X W W' (.Subscript e (.Slice lo hi none p2) pos) (dSl slDO te tl th) := qe_slice sl_all tr_slO he hl hu
theorem qe_gint {x : Str} {i : Int} (hm : ∃ t, X.mg x = some (.int i t)) (hg : Gl X x := by rfl) (hd : (x == ("__debug__" : Str)) = false := by decide) : QE X W W' (.Name x pos) (dC (.int i)) := by
  obtain ⟨t, h⟩ := hm
  exact qe_glob h (v := .int i) ⟨t, rfl⟩ (fun _ => .int i) hg hd
theorem qe_gstr {x z : Str} (hm : ∃ t, X.mg x = some (.str z t)) (hg : Gl X x := by rfl) (hd : (x == ("__debug__" : Str)) = false := by decide) : QE X W W' (.Name x pos) (dC (.str z)) := by
  obtain ⟨t, h⟩ := hm
  exact qe_glob h (v := .str z) ⟨t, rfl⟩ (fun _ => .str z) hg hd
theorem qe_ty {x : Str} {n : String} (hm : X.mg x = none) (hv : bootBuiltins x = some (.type n)) (hg : Gl X x := by rfl) (hn : x ≠ "__name__" := by decide) (hd : (x == ("__debug__" : Str)) = false := by decide) : QE X W W' (.Name x pos) (dC (.ty n)) := qc (pe_bltn (v := .ty n) hg hm hv rfl hn hd) fun _ => .ty n
theorem qe_len (hm : X.mg "len" = none) (ha : QA X W W' [e] t) (hg : Gl X "len" := by rfl) (he : starEach [e] X.env = (false, eval e X.env) :: starEach [] X.env := by rfl) : QE X W W' (.Call (.Name "len" p) [e] [] pos) (dCB lenD t) := qe_callB call_lenA tr_len hm PySem.boot_len ha hg (by decide) (by decide) he
end
theorem tk0 {X : Cx} : L2N.Takes X W0 := fun _ _ x => by
  obtain ⟨_, _, _, _, _, _, _, _, _, _, _, _, _, _, _, _, z⟩ := x
  exact z.elim
/-- an own def under its name -/
structure Own (P : Program) (w : World) (K : PySem.W.Frag) (mg : Str → Option Value) (base : Heap) (x : Str) (k : Nat) (ps : List Str) (sp : DSp) : Prop where
  ex : ∃ f fd, FnOk P w K mg base (L2N.CX P w) k f fd ps (lift K sp) ∧ mg x = some (.ref f) ∧ PySem.W.keepIn K (.ref f) = true ∧ Binds K fd ps []
theorem qe_fn {X : Cx} {W : WX} {W' : DWX} {e : Expr} {es : List Expr} {pos p : Pos} {t : DA} {sp : DSp} {k j : Nat} {ps : List Str} {x : Str} (G : Own X.prog X.w X.K X.mg X.base x k ps sp) (hr : Room j X.A) (tk : L2N.Takes X W)
    (ha : QA X W W' (e :: es) t) (hj : k ≤ j := by first | decide | omega) (hg : Gl X x := by rfl) (hdb : (x == ("__debug__" : Str)) = false := by decide) (he : starEach (e :: es) X.env = (false, eval e X.env) :: starEach es X.env := by rfl) (hpl : (backTo pos (starEach es X.env)).any (·.1) = false := by rfl) :
    QE X W W' (.Call (.Name x p) (e :: es) [] pos) (dCall sp W' t) := by
  obtain ⟨f, fd, F, hm, hk, hb⟩ := G.ex
  exact qe_call F (hr.mono hj) hm hk hb tk ha hg hdb he hpl
end TD

set_option maxHeartbeats 2000000
namespace TD
open PySem PySem.Spec PyProof.Rows L2
/-! ### equations for the walk -/
section
variable {w : Wd} {Q : DKt} {i j : Int} {a b : Str} {xs ys : List D} {x y d : D} {p : Addr} {neg : Bool}
theorem addD_ii : addD (.int i) (.int j) w Q = Q (.int (i + j)) w := rfl
theorem addD_ss : addD (.str a) (.str b) w Q = (a.length + b.length ≤ sizeLine ∧ Q (.str (a ++ b)) w) := rfl
theorem addD_tt : addD (.tup xs) (.tup ys) w Q = (xs.length + ys.length ≤ sizeLine ∧ Q (.tup (xs ++ ys)) w) := rfl
theorem addD_ll : addD (.lst xs) (.lst ys) w Q = (xs.length + ys.length ≤ sizeLine ∧ Q (.lst (xs ++ ys)) w) := rfl
theorem subD_ii : subD (.int i) (.int j) w Q = Q (.int (i - j)) w := rfl
theorem mulD_ii : mulD (.int i) (.int j) w Q = (CMul i j ∧ Q (.int (i * j)) w) := rfl
theorem mulD_li : mulD (.lst xs) (.int j) w Q = (-(2 ^ 63) ≤ j ∧ j < 2 ^ 63 ∧ xs.length * j.toNat ≤ sizeLine ∧ Q (.lst (List.replicate j.toNat xs).flatten) w) := rfl
theorem fdivD_ii : fdivD (.int i) (.int j) w Q = (CDiv i j ∧ Q (.int (i / j)) w) := rfl
theorem modD_ii : modD (.int i) (.int j) w Q = (0 < j ∧ Q (.int (i % j)) w) := rfl
theorem powD_ii : powD (.int i) (.int j) w Q = (CPow i j ∧ Q (.int (i ^ j.toNat)) w) := rfl
theorem negD_i : negD (.int i) w Q = Q (.int (-i)) w := rfl
theorem ltD_ii : ltD (.int i) (.int j) w Q = Q (.bl (decide (i < j))) w := rfl
theorem leD_ii : leD (.int i) (.int j) w Q = Q (.bl (decide (i ≤ j))) w := rfl
theorem gtD_ii : gtD (.int i) (.int j) w Q = Q (.bl (decide (j < i))) w := rfl
theorem geD_ii : geD (.int i) (.int j) w Q = Q (.bl (decide (j ≤ i))) w := rfl
theorem eqD_ii : eqD neg (.int i) (.int j) w Q = Q (.bl (neg != decide (i = j))) w := rfl
theorem eqD_ss : eqD neg (.str a) (.str b) w Q = Q (.bl (neg != decide (a = b))) w := rfl
theorem eqD_bb {k l : Bool} : eqD neg (.bl k) (.bl l) w Q = Q (.bl (neg != decide (k = l))) w := rfl
theorem eqD_nn : eqD neg .non .non w Q = Q (.bl (neg != true)) w := rfl
theorem eqD_ni : eqD neg .non (.int i) w Q = Q (.bl (neg != false)) w := rfl
theorem eqD_in : eqD neg (.int i) .non w Q = Q (.bl (neg != false)) w := rfl
theorem eqD_deep {dx dy : PyData} (hs : eqS x y = none) (hx : pyOf w x = some dx) (hy : pyOf w y = some dy) : eqD neg x y w Q = (SeqAt.shaped dx = true ∧ SeqAt.shaped dy = true ∧ Q (.bl (neg != PyData.eqv dx dy)) w) := by
  unfold eqD; rw [hs, hx, hy]
theorem isN_x : isN neg x .non w Q = Q (.bl (neg != isNon x)) w := rfl
theorem isNon_non : isNon .non = true := rfl
theorem isNon_int : isNon (.int i) = false := rfl
theorem isNon_str : isNon (.str a) = false := rfl
theorem isNon_bl {k : Bool} : isNon (.bl k) = false := rfl
theorem isNon_lst : isNon (.lst xs) = false := rfl
theorem isNon_tup : isNon (.tup xs) = false := rfl
theorem isNon_ref : isNon (.ref p) = false := rfl
theorem lenD_l : lenD [.lst xs] w Q = Q (.int xs.length) w := rfl
theorem lenD_r : lenD [.rol xs] w Q = Q (.int xs.length) w := rfl
theorem lenD_t : lenD [.tup xs] w Q = Q (.int xs.length) w := rfl
theorem lenD_s : lenD [.str a] w Q = (a.length ≤ sizeLine ∧ Q (.int a.length) w) := rfl
theorem lenD_w (h : w p = some (.lst xs)) : lenD [.ref p] w Q = Q (.int xs.length) w := by
  unfold lenD; simp only [getS, getL, h]
theorem lenD_k {kvs : List (Key × D)} (h : w p = some (.dK kvs)) : lenD [.ref p] w Q = Q (.int kvs.length) w := by
  unfold lenD; simp only [getS, getL, getK, h]
theorem ixD_l (h : atI xs i = some d) : ixD (.lst xs) (.int i) w Q = Q d w := by
  unfold ixD ixG; simp only [getS, getL, h]
theorem ixD_r (h : atI xs i = some d) : ixD (.rol xs) (.int i) w Q = Q d w := by
  unfold ixD ixG; simp only [getS, getL, h]
theorem ixD_t (h : atI xs i = some d) : ixD (.tup xs) (.int i) w Q = Q d w := by
  unfold ixD ixG; simp only [getS, h]
theorem ixD_w (hw : w p = some (.lst xs)) (h : atI xs i = some d) : ixD (.ref p) (.int i) w Q = Q d w := by
  unfold ixD ixG; simp only [getS, getL, hw, h]
theorem ixD_s {c : Nat} (hz : a.length ≤ sizeLine) (h : atI a.cps.toList i = some c) : ixD (.str a) (.int i) w Q = Q (.str ⟨#[c]⟩) w := by
  unfold ixD; simp only [h, hz, true_and]
theorem inD_l (hx : flatD x = true) (h : xs.all flatD = true) (hs : ∀ z, x ≠ .str z ∨ True) : inD neg x (.lst xs) w Q = Q (.bl (neg != inL x xs)) w := by
  have e : inD neg x (.lst xs) w Q = inG neg x (.lst xs) w Q := by cases x <;> rfl
  rw [e]; unfold inG; simp only [getS, getL, hx, h, true_and]
theorem inD_lst (hx : flatD x = true) (h : xs.all flatD = true) : inD neg x (.lst xs) w Q = Q (.bl (neg != inL x xs)) w := inD_l hx h fun _ => .inr trivial
theorem inD_tup (hx : flatD x = true) (h : xs.all flatD = true) : inD neg x (.tup xs) w Q = Q (.bl (neg != inL x xs)) w := by
  have e : inD neg x (.tup xs) w Q = inG neg x (.tup xs) w Q := by cases x <;> rfl
  rw [e]; unfold inG; simp only [getS, hx, h, true_and]
theorem inD_rot (hx : flatD x = true) (h : xs.all flatD = true) : inD neg x (.rot xs) w Q = Q (.bl (neg != inL x xs)) w := by
  have e : inD neg x (.rot xs) w Q = inG neg x (.rot xs) w Q := by cases x <;> rfl
  rw [e]; unfold inG; simp only [getS, hx, h, true_and]
theorem inD_w (hw : w p = some (.lst xs)) (hx : flatD x = true) (h : xs.all flatD = true) : inD neg x (.ref p) w Q = Q (.bl (neg != inL x xs)) w := by
  have e : inD neg x (.ref p) w Q = inG neg x (.ref p) w Q := by cases x <;> rfl
  rw [e]; unfold inG; simp only [getS, getL, hw, hx, h, true_and]
theorem inD_c {c : Nat} (h : a.cps.toList = [c]) : inD neg (.str a) (.str b) w Q = Q (.bl (neg != decide (c ∈ b.cps.toList))) w := by
  unfold inD; simp only [h]
theorem slD_l {lo hi : Option Int} : slD (.lst xs) lo hi w Q = Q (.lst (cutD xs lo hi)) w := rfl
theorem slD_t {lo hi : Option Int} : slD (.tup xs) lo hi w Q = Q (.tup (cutD xs lo hi)) w := rfl
theorem slD_s {lo hi : Option Int} : slD (.str a) lo hi w Q = (a.length ≤ sizeLine ∧ Q (.str (cutS a lo hi)) w) := rfl
theorem listD_l : listD false [.lst xs] w Q = Q (.lst xs) w := rfl
theorem listD_r : listD false [.rol xs] w Q = Q (.lst xs) w := rfl
theorem listD_t : listD false [.tup xs] w Q = Q (.lst xs) w := rfl
theorem listD_w (h : w p = some (.lst xs)) : listD false [.ref p] w Q = Q (.lst xs) w := by
  unfold listD; simp only [getS, getL, h]; rfl
theorem listD_lO : listD true [.lst xs] w Q = (∀ p, w p = none → Q (.ref p) (put w p (.lst xs))) := rfl
theorem listD_tO : listD true [.tup xs] w Q = (∀ p, w p = none → Q (.ref p) (put w p (.lst xs))) := rfl
theorem tupleD_l : tupleD [.lst xs] w Q = Q (.tup xs) w := rfl
theorem tupleD_t : tupleD [.tup xs] w Q = Q (.tup xs) w := rfl
theorem tupleD_w (h : w p = some (.lst xs)) : tupleD [.ref p] w Q = Q (.tup xs) w := by
  unfold tupleD; simp only [getL, h]
theorem sumD_l {ns : List Int} : sumD [.lst (ns.map D.int)] w Q = Q (.int ns.sum) w := by
  unfold sumD nsD; simp only [getL, Option.bind_some, intsD_map]
theorem allD_l {bs : List Bool} : allD [.lst (bs.map D.bl)] w Q = Q (.bl (bs.all id)) w := by
  unfold allD bsD; simp only [getL, Option.bind_some, blsD_map]
theorem maxD_ii : maxD [.int i, .int j] w Q = Q (.int (if j > i then j else i)) w := rfl
theorem minD_ii : minD [.int i, .int j] w Q = Q (.int (if j < i then j else i)) w := rfl
theorem absD_i : absD [.int i] w Q = Q (.int (if i < 0 then -i else i)) w := rfl
theorem atL_w {k : Addr → List D → Prop} (h : w p = some (.lst xs)) : atL w (.ref p) k = k p xs := by
  unfold atL; simp only [h]
theorem atSeq_l {R : List D → (Wd → Prop) → Prop} : atSeq w (.lst xs) R = R xs (fun _ => True) := rfl
theorem atSeq_r {R : List D → (Wd → Prop) → Prop} : atSeq w (.rol xs) R = R xs (fun _ => True) := rfl
theorem atSeq_w {R : List D → (Wd → Prop) → Prop} (h : w p = some (.lst xs)) : atSeq w (.ref p) R = R xs (fun w2 => w2 p = some (.lst xs)) := by
  unfold atSeq; simp only [h]
theorem dTy_w (h : w p = some (.lst xs)) : dTyOk "list" w (.ref p) := by
  unfold dTyOk; simp only [h]
theorem dTy_l : dTyOk "list" w (.lst xs) := rfl
theorem dTy_s : dTyOk "str" w (.str a) := rfl
end
theorem dFrz_w {i : Nat} {t : DS} {E : DEnds} {S : DSt} {w : Wd} {p : Addr} {n : Nd} {d : D} (hs : S[i]? = some (some (.ref p))) (hw : w p = some n) (hf : frzD n = some d) : dFrz i t E S w = t E (S.set i (some d)) (rid w p) := by
  unfold dFrz; rw [hs]; simp only [hw, Option.bind_some, hf]
theorem app_w {w : Wd} {p : Addr} {xs : List D} {d : D} {Q : DKt} (h : w p = some (.lst xs)) : appD (.ref p) [d] w Q = (xs.length < sizeLine ∧ Q .non (put w p (.lst (xs ++ [d])))) := by
  unfold appD; simp only [atL_w h]
theorem ext_w {w : Wd} {p : Addr} {xs ys : List D} {d : D} {Q : DKt} (h : w p = some (.lst xs)) (hd : getM w d = some ys) : extD (.ref p) [d] w Q = (xs.length + ys.length ≤ sizeLine ∧ Q .non (put w p (.lst (xs ++ ys)))) := by
  unfold extD; simp only [atL_w h, hd]
theorem pop_w {w : Wd} {p : Addr} {xs : List D} {d : D} {Q : DKt} (h : w p = some (.lst (xs ++ [d]))) : popD (.ref p) [] w Q = Q d (put w p (.lst xs)) := by
  unfold popD
  have e : (xs ++ [d])[(xs ++ [d]).length - 1]? = some d := by simp
  simp only [atL_w h, e, List.dropLast_concat]
theorem clr_w {w : Wd} {p : Addr} {xs : List D} {Q : DKt} (h : w p = some (.lst xs)) : clrD (.ref p) [] w Q = Q .non (put w p (.lst [])) := by
  unfold clrD; simp only [atL_w h]
theorem dTy_put {w : Wd} {p : Addr} {xs : List D} : dTyOk "list" (put w p (.lst xs)) (.ref p) = True := by
  unfold dTyOk; simp only [put_same]
theorem app_put {w : Wd} {p : Addr} {xs : List D} {d : D} {Q : DKt} : appD (.ref p) [d] (put w p (.lst xs)) Q = (xs.length < sizeLine ∧ Q .non (put w p (.lst (xs ++ [d])))) := by
  rw [app_w put_same, put_put]
theorem put_none {w : Wd} {a b : Addr} {n : Nd} (h : put w a n b = none) : b ≠ a ∧ w b = none := by
  by_cases e : b = a
  · subst e; rw [put_same] at h; cases h
  · rw [put_ne e] at h; exact ⟨e, h⟩
theorem put_comm {w : Wd} {a b : Addr} {n m : Nd} (h : a ≠ b) : put (put w a n) b m = put (put w b m) a n := by
  funext c; unfold put
  by_cases e1 : c = b
  · have e2 : ¬ c = a := fun z => h (z.symm.trans e1)
    rw [if_pos e1, if_neg e2, if_pos e1]
  · rw [if_neg e1, if_neg e1]
theorem put_21 {w : Wd} {a b : Addr} {n n' m : Nd} (h : a ≠ b) : put (put (put w a n) b m) a n' = put (put w a n') b m := by
  rw [put_comm h, put_put, ← put_comm h]
theorem put_31 {w : Wd} {a b c : Addr} {n n' m l : Nd} (h : a ≠ b) (h2 : a ≠ c) : put (put (put (put w a n) b m) c l) a n' = put (put (put w a n') b m) c l := by
  rw [put_comm (a := c) (b := a) (Ne.symm h2), put_21 h]
theorem rid_ne {w : Wd} {a b : Addr} {n : Nd} (h : a ≠ b) : rid (put w a n) b = put (rid w b) a n := by
  funext c; unfold put rid
  by_cases e1 : c = b
  · have e2 : ¬ c = a := fun z => h (z.symm.trans e1)
    rw [if_pos e1, if_neg e2, if_pos e1]
  · rw [if_neg e1, if_neg e1]
theorem rid_none {w : Wd} {a : Addr} (h : w a = none) : rid w a = w := by
  funext c; unfold rid; split
  · next e => rw [e, h]
  · rfl
theorem frzD_lst {xs : List D} : frzD (.lst xs) = some (.lst xs) := rfl
theorem CMul.l {i j : Int} (h1 : -(2 ^ 64) < i) (h2 : i < 2 ^ 64) : CMul i j := .inl ⟨h1, h2⟩
theorem CMul.r {i j : Int} (h1 : -(2 ^ 64) < j) (h2 : j < 2 ^ 64) : CMul i j := .inr ⟨h1, h2⟩
theorem small {n : Nat} (h : n ≤ 100000) : n ≤ sizeLine := by rw [sizeLine_eq]; omega
theorem smallL {n : Nat} (h : n ≤ 100000) : n < sizeLine := by rw [sizeLine_eq]; omega
/-! ### items -/
theorem atI_of {α : Type} {xs : List α} {i : Int} {v : α} (h0 : 0 ≤ i) (h : xs[i.toNat]? = some v) : atI xs i = some v := by
  have := atI_nat h
  rwa [Int.toNat_of_nonneg h0] at this
theorem atI_ints {ns : List Int} {i : Int} (h0 : 0 ≤ i) (h1 : i < ns.length) : atI (ns.map D.int) i = some (.int (ns.getD i.toNat 0)) := by
  refine atI_of h0 ?_
  have hl : i.toNat < ns.length := by omega
  rw [List.getElem?_map, List.getElem?_eq_getElem hl, List.getD_eq_getElem?_getD, List.getElem?_eq_getElem hl]
  rfl
theorem all_ints (ns : List Int) : (ns.map D.int).all flatD = true := by
  rw [List.all_map]; exact List.all_eq_true.mpr fun _ _ => rfl
theorem inL_ints {n : Int} (ns : List Int) : inL (.int n) (ns.map D.int) = decide (n ∈ ns) := by
  unfold inL
  rw [List.any_map]
  induction ns with
  | nil => rfl
  | cons m r ih =>
    rw [List.any_cons, ih]
    show ((m == n) || _) = _
    by_cases e : m = n
    · subst e; simp
    · have e2 : ¬ n = m := fun z => e z.symm
      simp [e, e2]
theorem toPyL_ints : ∀ ns : List Int, toPyL (ns.map D.int) = some (ns.map PyData.int)
  | [] => by simp [toPyL]
  | n :: r => by
    rw [List.map_cons, List.map_cons]
    unfold toPyL
    rw [toPyL_ints r]
    simp [toPy]
theorem pos_ints_len (ns : List Int) : (ns.map D.int).length = ns.length := List.length_map _
/-! ### loops -/
section
variable {ta : DA} {te : DE} {g : DG} {tb : DS} {E : DEnds} {S : DSt} {w : Wd} (Iv : Nat → DSt → Wd → Prop)
theorem dFor_r1 {n : Int} (ha : ∀ R : List D → Wd → Prop, R [.int n] w → ta S w R) (h1 : -(2 ^ 62) ≤ n) (h2 : n < 2 ^ 62) (h0 : Iv 0 S w)
    (hs : ∀ (i : Nat) S2 w2, (i : Int) < n → Iv i S2 w2 → g (.int i) S2 w2 fun S3 w3 => tb { E with nx := Iv (i + 1), ct := Iv (i + 1), bk := E.nx } S3 w3) (hd : ∀ S2 w2, Iv n.toNat S2 w2 → E.nx S2 w2) : dFor (diR1 ta) g tb E S w := by
  refine ha _ ⟨h1, h2, Iv, h0, fun i S2 w2 hi h => ⟨trivial, ?_⟩, fun S2 w2 h => ⟨trivial, hd S2 w2 h⟩⟩
  have hi' : i < n.toNat := hi
  have e : (itR 0 n.toNat).item i = .int i := by show D.int (0 + (i : Int)) = _; rw [Int.zero_add]
  rw [e]
  exact hs i S2 w2 (by omega) h
theorem dFor_r2 {a b : Int} (ha : ∀ R : List D → Wd → Prop, R [.int a, .int b] w → ta S w R) (h1 : -(2 ^ 62) ≤ a ∧ a < 2 ^ 62 ∧ -(2 ^ 62) ≤ b ∧ b < 2 ^ 62) (h0 : Iv 0 S w)
    (hs : ∀ (i : Nat) S2 w2, a + (i : Int) < b → Iv i S2 w2 → g (.int (a + i)) S2 w2 fun S3 w3 => tb { E with nx := Iv (i + 1), ct := Iv (i + 1), bk := E.nx } S3 w3) (hd : ∀ S2 w2, Iv (b - a).toNat S2 w2 → E.nx S2 w2) : dFor (diR2 ta) g tb E S w := by
  refine ha _ ⟨h1, Iv, h0, fun i S2 w2 hi h => ⟨trivial, ?_⟩, fun S2 w2 h => ⟨trivial, hd S2 w2 h⟩⟩
  have hi' : i < (b - a).toNat := hi
  exact hs i S2 w2 (by omega) h
/-- over plain data -/
theorem dFor_l {xs : List D} (ha : ∀ R : D → Wd → Prop, R (.lst xs) w → te S w R) (h0 : Iv 0 S w)
    (hs : ∀ (i : Nat) d S2 w2, xs[i]? = some d → Iv i S2 w2 → g d S2 w2 fun S3 w3 => tb { E with nx := Iv (i + 1), ct := Iv (i + 1), bk := E.nx } S3 w3) (hd : ∀ S2 w2, Iv xs.length S2 w2 → E.nx S2 w2) : dFor (diL te) g tb E S w := by
  refine ha _ ⟨Iv, h0, fun i S2 w2 hi h => ⟨trivial, ?_⟩, fun S2 w2 h => ⟨trivial, hd S2 w2 h⟩⟩
  exact hs i _ S2 w2 (getD_at hi) h
theorem dFor_rol {xs : List D} (ha : ∀ R : D → Wd → Prop, R (.rol xs) w → te S w R) (h0 : Iv 0 S w)
    (hs : ∀ (i : Nat) d S2 w2, xs[i]? = some d → Iv i S2 w2 → g d S2 w2 fun S3 w3 => tb { E with nx := Iv (i + 1), ct := Iv (i + 1), bk := E.nx } S3 w3) (hd : ∀ S2 w2, Iv xs.length S2 w2 → E.nx S2 w2) : dFor (diL te) g tb E S w := by
  refine ha _ ⟨Iv, h0, fun i S2 w2 hi h => ⟨trivial, ?_⟩, fun S2 w2 h => ⟨trivial, hd S2 w2 h⟩⟩
  exact hs i _ S2 w2 (getD_at hi) h
/-- over a node -/
theorem dFor_w {p : Addr} {xs : List D} (ha : ∀ R : D → Wd → Prop, R (.ref p) w → te S w R) (hw : w p = some (.lst xs)) (h0 : Iv 0 S w)
    (hs : ∀ (i : Nat) d S2 w2, xs[i]? = some d → Iv i S2 w2 → w2 p = some (.lst xs) ∧ g d S2 w2 fun S3 w3 => tb { E with nx := Iv (i + 1), ct := Iv (i + 1), bk := E.nx } S3 w3) (hd : ∀ S2 w2, Iv xs.length S2 w2 → w2 p = some (.lst xs) ∧ E.nx S2 w2) : dFor (diL te) g tb E S w := by
  refine ha _ ?_
  rw [atSeq_w hw]
  exact ⟨Iv, h0, fun i S2 w2 hi h => hs i _ S2 w2 (getD_at hi) h, fun S2 w2 h => hd S2 w2 h⟩
theorem dFor_t {xs : List D} (ha : ∀ R : D → Wd → Prop, R (.tup xs) w → te S w R) (h0 : Iv 0 S w)
    (hs : ∀ (i : Nat) d S2 w2, xs[i]? = some d → Iv i S2 w2 → g d S2 w2 fun S3 w3 => tb { E with nx := Iv (i + 1), ct := Iv (i + 1), bk := E.nx } S3 w3) (hd : ∀ S2 w2, Iv xs.length S2 w2 → E.nx S2 w2) : dFor (diT te) g tb E S w := by
  refine ha _ ⟨Iv, h0, fun i S2 w2 hi h => ⟨trivial, ?_⟩, fun S2 w2 h => ⟨trivial, hd S2 w2 h⟩⟩
  exact hs i _ S2 w2 (getD_at hi) h
theorem dFor_e {xs : List D} (ha : ∀ R : List D → Wd → Prop, R [.lst xs] w → ta S w R) (h0 : Iv 0 S w)
    (hs : ∀ (i : Nat) d S2 w2, xs[i]? = some d → Iv i S2 w2 → g (.tup [.int i, d]) S2 w2 fun S3 w3 => tb { E with nx := Iv (i + 1), ct := Iv (i + 1), bk := E.nx } S3 w3) (hd : ∀ S2 w2, Iv xs.length S2 w2 → E.nx S2 w2) : dFor (diE ta) g tb E S w := by
  refine ha _ ⟨Iv, h0, fun i S2 w2 hi h => ⟨trivial, ?_⟩, fun S2 w2 h => ⟨trivial, hd S2 w2 h⟩⟩
  exact hs i _ S2 w2 (getD_at hi) h
end
theorem dWhile_by {c : DT} {tb : DS} {E : DEnds} {S : DSt} {w : Wd} (Iv : Nat → DSt → Wd → Prop) (m : Nat) (h0 : Iv m S w)
    (hs : ∀ m S w, Iv m S w → c S w fun b w1 => if b = true then tb { E with nx := fun S2 w2 => ∃ m', m' < m ∧ Iv m' S2 w2, ct := fun S2 w2 => ∃ m', m' < m ∧ Iv m' S2 w2, bk := E.nx } S w1 else E.nx S w1) : dWhile c tb E S w := ⟨Iv, ⟨m, h0⟩, hs⟩
/-! ### comprehensions -/
section
variable {ta : DA} {te tl : DE} {tt : DT} {S : DSt} {w : Wd} {Q : DKt} {T : Tgt}
theorem lc_map {j : DIt} {f : Nat → D} (hn : j.n ≤ sizeLine) (hok : j.ok w) (h : ∀ i, i < j.n → T.dg (j.item i) (wipeD S T.vs) fun S2 => te S2 w fun d w3 => w3 = w ∧ d = f i) : LcBody T dYes te S w j fun i => (List.range i).map f := by
  refine ⟨rfl, hn, hok, fun i hi => ?_⟩
  have q := h i hi
  have e : (List.range (i + 1)).map f = (List.range i).map f ++ [f i] := by rw [List.range_succ, List.map_append]; rfl
  have k : ∀ S2, (te S2 w fun d w3 => w3 = w ∧ d = f i) → dYes S2 w fun b w2 => w2 = w ∧ if b = true then te S2 w fun d w3 => w3 = w ∧ (List.range (i + 1)).map f = (List.range i).map f ++ [d] else (List.range (i + 1)).map f = (List.range i).map f := by
    intro S2 z
    refine ⟨rfl, ?_⟩
    show te S2 w _
    have e2 : (fun d w3 => w3 = w ∧ (List.range (i + 1)).map f = (List.range i).map f ++ [d]) = fun (d : D) (w3 : Wd) => w3 = w ∧ d = f i := by
      funext d w3
      rw [e]
      apply propext
      constructor
      · rintro ⟨h1, h2⟩
        have := List.append_cancel_left h2
        exact ⟨h1, by simpa using this.symm⟩
      · rintro ⟨h1, h2⟩
        exact ⟨h1, by rw [h2]⟩
    rw [e2]
    exact z
  cases T with
  | one j2 => exact k _ q
  | many js =>
    unfold Tgt.dg at q ⊢
    dsimp only at q ⊢
    split at q
    · rename_i ds hd
      exact ⟨q.1, k _ q.2⟩
    · exact q.elim
theorem dLc_r1 {n : Int} {f : Nat → D} (ha : ∀ R : List D → Wd → Prop, R [.int n] w → ta S w R) (h1 : 0 ≤ n) (h2 : n ≤ 100000) {j : Nat} (he : ∀ i : Nat, (i : Int) < n → te ((wipeD S [j]).set j (some (.int i))) w fun d w3 => w3 = w ∧ d = f i)
    (hq : Q (.lst ((List.range n.toNat).map f)) w) : dLc (diR1 ta) (.one j) dYes te S w Q := by
  refine ha _ ⟨by omega, by omega, fun i => (List.range i).map f, lc_map (small (show n.toNat ≤ 100000 by omega)) trivial fun i hi => ?_, hq⟩
  have hi' : i < n.toNat := hi
  have e : (itR 0 n.toNat).item i = .int i := by show D.int (0 + (i : Int)) = _; rw [Int.zero_add]
  rw [e]
  exact he i (by omega)
theorem dLc_l {xs : List D} {f : Nat → D} (ha : ∀ R : D → Wd → Prop, R (.lst xs) w → tl S w R) (h2 : xs.length ≤ 100000) {j : Nat} (he : ∀ (i : Nat) d, xs[i]? = some d → te ((wipeD S [j]).set j (some d)) w fun d w3 => w3 = w ∧ d = f i)
    (hq : Q (.lst ((List.range xs.length).map f)) w) : dLc (diL tl) (.one j) dYes te S w Q := by
  refine ha _ ⟨fun i => (List.range i).map f, lc_map (small h2) trivial fun i hi => ?_, hq⟩
  exact he i _ (getD_at hi)
end
end TD

set_option maxHeartbeats 2000000
namespace TD
open PySem PySem.Spec PyProof.Rows L2
/-! ### what a plain expression, a plain test comes to -/
def EvE (te : DE) (S : DSt) (w : Wd) (d : D) : Prop := ∀ Q : DKt, Q d w → te S w Q
def EvT (t : DT) (S : DSt) (w : Wd) (b : Bool) : Prop := ∀ Q : Bool → Wd → Prop, Q b w → t S w Q
def EvA (t : DA) (S : DSt) (w : Wd) (ds : List D) : Prop := ∀ Q : List D → Wd → Prop, Q ds w → t S w Q
structure Gd (a : Bool) (P : Prop) : Prop where
  run : a = true → P
structure Gn (a : Bool) (P : Prop) : Prop where
  run : a = false → P
section
variable {S : DSt} {w : Wd} {ta tb te : DE} {t u : DT} {tr : DA} {x y z d : D} {a b c : Bool} {D' : DEnds} {s1 s2 : DS} {ds : List D} {Q : DKt}
theorem eve_c : EvE (dC d) S w d := fun _ q => q
theorem eve_var {i : Nat} (h : S[i]? = some (some d)) : EvE (dVar i) S w d := fun Q q => by unfold dVar; rw [h]; exact q
theorem eve_op {dr : DR2} (ha : EvE ta S w x) (hb : EvE tb S w y) (hr : ∀ Q : DKt, Q z w → dr x y w Q) : EvE (dOp dr ta tb) S w z := fun Q q => ha _ (hb _ (hr Q q))
theorem eve_un {dr : DR1} (ha : EvE ta S w x) (hr : ∀ Q : DKt, Q z w → dr x w Q) : EvE (dUn dr ta) S w z := fun Q q => ha _ (hr Q q)
theorem eve_cb {dr : DRl} (ha : EvA tr S w ds) (hr : ∀ Q : DKt, Q z w → dr ds w Q) : EvE (dCB dr tr) S w z := fun Q q => ha _ (hr Q q)
theorem eva_nil : EvA dNil S w [] := fun _ q => q
theorem eva_cons (ha : EvE ta S w x) (hr : EvA tr S w ds) : EvA (dCons ta tr) S w (x :: ds) := fun Q q => ha _ (hr _ q)
theorem eve_tup (h : EvA tr S w ds) (hl : ds.length ≤ sizeLine) : EvE (dTup tr) S w (.tup ds) := fun Q q => h _ ⟨hl, q⟩
theorem eve_lst (h : EvA tr S w ds) (hl : ds.length ≤ sizeLine) : EvE (dLst tr) S w (.lst ds) := fun Q q => h _ ⟨hl, q⟩
theorem evt_B (h : EvE te S w (.bl b)) : EvT (dB te) S w b := fun Q q => h _ q
theorem evt_and (h1 : EvT t S w a) (h2 : Gd a (EvT u S w b)) : EvT (dAnd t u) S w (a && b) := fun Q q => h1 _ (by
  cases a with
  | true => exact h2.run rfl Q q
  | false => exact q)
theorem evt_or (h1 : EvT t S w a) (h2 : Gn a (EvT u S w b)) : EvT (dOr t u) S w (a || b) := fun Q q => h1 _ (by
  cases a with
  | true => exact q
  | false => exact h2.run rfl Q q)
theorem evt_not (h : EvT t S w a) : EvT (dNot t) S w (!a) := fun Q q => h _ q
theorem eve_and (h1 : EvE ta S w (.bl a)) (h2 : Gd a (EvE tb S w (.bl b))) : EvE (dAndV ta tb) S w (.bl (a && b)) := fun Q q => h1 _ (by
  cases a with
  | true => exact h2.run rfl Q q
  | false => exact q)
theorem eve_or (h1 : EvE ta S w (.bl a)) (h2 : Gn a (EvE tb S w (.bl b))) : EvE (dOrV ta tb) S w (.bl (a || b)) := fun Q q => h1 _ (by
  cases a with
  | true => exact q
  | false => exact h2.run rfl Q q)
theorem eve_not (h1 : EvE ta S w (.bl a)) : EvE (dNotV ta) S w (.bl (!a)) := fun Q q => h1 _ q
theorem eve_if (h : EvT t S w b) (h1 : Gd b (EvE ta S w x)) (h2 : Gn b (EvE tb S w y)) : EvE (dIfE t ta tb) S w (if b = true then x else y) := fun Q q => h _ (by
  cases b with
  | true => exact h1.run rfl Q q
  | false => exact h2.run rfl Q q)
theorem eve_chain {dr dr' : DR2} {tc : DE} (ha : EvE ta S w x) (hb : EvE tb S w y) (hr : ∀ Q : DKt, Q (.bl a) w → dr x y w Q) (hc : Gd a (EvE tc S w z)) (hr' : Gd a (∀ Q : DKt, Q (.bl b) w → dr' y z w Q)) : EvE (dChain dr dr' ta tb tc) S w (.bl (a && b)) := fun Q q => ha _ (hb _ (hr _ (by
  cases a with
  | true => exact hc.run rfl _ (hr'.run rfl Q q)
  | false => exact q)))
theorem dIf_ev (h : EvT t S w b) (h1 : b = true → s1 D' S w) (h2 : b = false → s2 D' S w) : dIf t s1 s2 D' S w := h _ (by
  cases b with
  | true => exact h1 rfl
  | false => exact h2 rfl)
theorem dSeq_if (h : EvT t S w b) (h1 : b = true → s1 { D' with nx := u' D' } S w) (h2 : b = false → s2 { D' with nx := u' D' } S w) : dSeq (dIf t s1 s2) u' D' S w := dIf_ev (D' := { D' with nx := u' D' }) h h1 h2
theorem dSeq_ret (h : EvT t S w b) (h1 : b = true → s1 { D' with nx := u' D' } S w) (h2 : b = false → u' D' S w) : dSeq (dIf t s1 dNext) u' D' S w := dIf_ev (D' := { D' with nx := u' D' }) h h1 h2
theorem dSeq_asg {i : Nat} (h : EvE te S w d) (k : u' D' (S.set i (some d)) w) : dSeq (dAsg te i) u' D' S w := h _ k
theorem dSeq_app {i : Nat} {p : Addr} {xs : List D} (hs : S[i]? = some (some (.ref p))) (hw : w p = some (.lst xs)) (h : EvE te S w d) (hl : xs.length < sizeLine) (k : u' D' S (put w p (.lst (xs ++ [d])))) : dSeq (dDrop (dBM "list" appD (dVar i) (dCons te dNil))) u' D' S w := by
  simp only [dSeq, dDrop, dBM, dVar, hs, dCons, dNil]
  refine ⟨dTy_w hw, h _ ?_⟩
  rw [app_w hw]
  exact ⟨hl, k⟩
theorem dApp_ev {i : Nat} {p : Addr} {xs : List D} (hs : S[i]? = some (some (.ref p))) (hw : w p = some (.lst xs)) (h : EvE te S w d) (hl : xs.length < sizeLine) (k : D'.nx S (put w p (.lst (xs ++ [d])))) : dDrop (dBM "list" appD (dVar i) (dCons te dNil)) D' S w := by
  simp only [dSeq, dDrop, dBM, dVar, hs, dCons, dNil]
  refine ⟨dTy_w hw, h _ ?_⟩
  rw [app_w hw]
  exact ⟨hl, k⟩
theorem dAsg_ev {i : Nat} (h : EvE te S w d) (k : D'.nx (S.set i (some d)) w) : dAsg te i D' S w := h _ k
theorem dCut_if {t1 t2 : DS} (M : DSt → Wd → Prop) (h : EvT t S w b) (h1 : b = true → t1 { D' with nx := M } S w) (h2 : b = false → t2 { D' with nx := M } S w) (k : ∀ S2 w2, M S2 w2 → u' D' S2 w2) : dCut (dIf t t1 t2) u' D' S w := ⟨M, dIf_ev (D' := { D' with nx := M }) h h1 h2, k⟩
theorem dRet_ev (h : EvE te S w d) (k : D'.rt d w) : dRet te D' S w := h _ k
theorem ev_eq (h : EvE te S w x) (e : x = y) : EvE te S w y := e ▸ h
theorem evt_eq (h : EvT t S w a) (e : a = b) : EvT t S w b := e ▸ h
end
end TD

set_option maxHeartbeats 2000000
namespace TD
open PySem PySem.Spec PyProof.Rows L2
/-! ### the end: a law's def kept in the lifted words -/
theorem ints_rep {K : PySem.W.Frag} {P : Hp} : ∀ ns : List Int, RepL K P (ns.map D.int) (ns.map V.int)
  | [] => .nil
  | n :: r => .cons (.int n) (ints_rep r)
theorem walk_td {l : PySem.W.OpenLaw} {n k : Nat} {prog : Program} {lo : List Str} {XA : (Str → Option Value) → Heap → Prop} {YA : World → Heap → Prop} {dr : DefRec} {x : Str} {sp : DSp}
    (hm : l.most = some n) (hz : n ≤ sizeLine) (hd : dr.params.defaults = []) (hr : Room k callerA)
    (hs : ∀ ns : List Int, ns.length ≤ n → sp [.rol (ns.map D.int)] (fun _ => none) (fun d _ => d = .bl true) fun _ _ _ => False)
    (F : ∀ (w : World) (mg : Str → Option Value) (f : Addr) (h : Heap), YA w h → h.Ns mainGlobals mg → mg dr.name = some (.ref f) →
      ∃ (K : PySem.W.Frag) (fd : FuncData), K.In h ∧ (∀ (s : Shared) (u : Value), BindsTo s fd ⟨[u], []⟩ [(x, u)]) ∧ ∀ base : Heap, K.In base → base.Ns mainGlobals mg → FnOk l.prog w K mg base (L2N.CX l.prog w) k f fd [x] (lift K sp)) :
    PySem.W.WalkO prog lo XA YA l.row.toRowW dr [] (fun f vs => PySem.call f vs) := by
  refine Att.attach_call hm hd fun w s0 s1 mg mb f o pm cd doc a vs ns G Y ho hdd hcd hmg hobj hints hlen hg => ?_
  obtain ⟨K, fd, KX, hb, hF⟩ := F w mg f _ Y G.T.g hmg
  refine law_call KX G.T.g G.T.b G.T.builtins G.T.nolimit hg hobj hints (Nat.le_trans hlen hz) hr hF hb (fun H hO hS => ?_) fun H e s' z => ?_
  · refine ⟨H, fun _ => none, [.rol (ns.map D.int)], _, _, ⟨fun _ _ q => q, fun _ _ z => (nomatch z)⟩, .cons (.rol hS (ints_rep ns)) .nil, hs ns hlen, ?_, fun _ _ _ z => z.elim⟩
    rintro d w1 rfl v H1 P1 g r
    cases r
    rfl
  · obtain ⟨_, _, _, _, _, _, _, _, _, _, _, _, z⟩ := z
    exact z
end TD

set_option maxHeartbeats 2000000
namespace TD
open PySem PySem.Spec PyProof.Rows L2
abbrev iL (ns : List Int) : D := .lst (ns.map D.int)
theorem eqD_same {neg : Bool} {x y : D} {w : Wd} {Q : DKt} {d : PyData} (hs : eqS x y = none) (hx : pyOf w x = some d) (hy : pyOf w y = some d) (hsh : SeqAt.shaped d = true) : eqD neg x y w Q = Q (.bl (neg != true)) w := by
  rw [eqD_deep hs hx hy]
  have e : PyData.eqv d d = true := SeqAt.eqv_refl d (SeqAt.canLay_of_shaped hsh)
  rw [e]
  simp only [hsh, true_and]
theorem canLay_lists : ∀ ls : List (List Int), PyData.canLayAll0 (ls.map fun ns => .list (ns.map PyData.int)) = true
  | [] => rfl
  | l :: r => by simp [PyData.canLayAll0, PyData.canLay0, PySem.W.ke_canLayAll0, canLay_lists r]
theorem depth_lists : ∀ ls : List (List Int), PyData.depthAll (ls.map fun ns => .list (ns.map PyData.int)) ≤ 1
  | [] => by simp [PyData.depthAll]
  | l :: r => by
    have := depth_lists r
    simp [PyData.depthAll, PyData.depth, PySem.W.ke_depthAll]; omega
theorem shaped_lists (ls : List (List Int)) : SeqAt.shaped (.list (ls.map fun ns => .list (ns.map PyData.int))) = true := by
  have := depth_lists ls
  unfold SeqAt.shaped PyData.canLay0 PyData.depth
  rw [canLay_lists, Bool.true_and, decide_eq_true_eq]
  omega
theorem toPyL_lists : ∀ ls : List (List Int), toPyL (ls.map fun ns => iL ns) = some (ls.map fun ns => .list (ns.map PyData.int))
  | [] => by simp [toPyL]
  | l :: r => by
    rw [List.map_cons, List.map_cons]
    unfold toPyL
    rw [toPyL_lists r]
    simp [toPy, toPyL_ints]
theorem pyOf_lists {w : Wd} (ls : List (List Int)) : pyOf w (.lst (ls.map fun ns => iL ns)) = some (.list (ls.map fun ns => .list (ns.map PyData.int))) := by
  show toPy (.lst _) = _
  rw [toPy, toPyL_lists]; rfl

/-! ### comprehensions with a test -/
section
variable {ta : DA} {te tl : DE} {tt : DT} {S : DSt} {w : Wd} {Q : DKt} {T : Tgt}
theorem dg_imp {d : D} {S : DSt} {k k' : DSt → Prop} (h : T.dg d S k) (hk : ∀ S2, k S2 → k' S2) : T.dg d S k' := by
  cases T with
  | one j => exact hk _ h
  | many js =>
    unfold Tgt.dg at h ⊢
    dsimp only at h ⊢
    split at h
    · exact ⟨h.1, hk _ h.2⟩
    · exact h.elim
theorem lc_fm {j : DIt} {c : Nat → Bool} {f : Nat → D} (hn : j.n ≤ sizeLine) (hok : j.ok w) (h : ∀ i, i < j.n → T.dg (j.item i) (wipeD S T.vs) fun S2 => EvT tt S2 w (c i) ∧ (c i = true → EvE te S2 w (f i))) : LcBody T tt te S w j fun i => ((List.range i).filter c).map f := by
  refine ⟨rfl, hn, hok, fun i hi => dg_imp (h i hi) ?_⟩
  rintro S2 ⟨h1, h2⟩
  refine h1 _ ⟨rfl, ?_⟩
  have e : (List.range (i + 1)).filter c = (List.range i).filter c ++ (if c i = true then [i] else []) := by
    rw [List.range_succ, List.filter_append]
    congr 1
    cases hc : c i <;> simp [hc]
  dsimp only
  rw [e]
  cases hc : c i with
  | true => exact h2 hc _ ⟨rfl, by simp⟩
  | false => simp
theorem dLc_r1f {n : Int} {c : Nat → Bool} {f : Nat → D} (ha : ∀ R : List D → Wd → Prop, R [.int n] w → ta S w R) (h1 : 0 ≤ n) (h2 : n ≤ 100000) {j : Nat} (he : ∀ i : Nat, (i : Int) < n → EvT tt ((wipeD S [j]).set j (some (.int i))) w (c i) ∧ (c i = true → EvE te ((wipeD S [j]).set j (some (.int i))) w (f i)))
    (hq : Q (.lst (((List.range n.toNat).filter c).map f)) w) : dLc (diR1 ta) (.one j) tt te S w Q := by
  refine ha _ ⟨by omega, by omega, _, lc_fm (c := c) (f := f) (small (show n.toNat ≤ 100000 by omega)) trivial fun i hi => ?_, hq⟩
  have hi' : i < n.toNat := hi
  have e : (itR 0 n.toNat).item i = .int i := by show D.int (0 + (i : Int)) = _; rw [Int.zero_add]
  rw [e]
  exact he i (by omega)
theorem dLcO_r1f {n : Int} {c : Nat → Bool} {f : Nat → D} (ha : ∀ R : List D → Wd → Prop, R [.int n] w → ta S w R) (h1 : 0 ≤ n) (h2 : n ≤ 100000) {j : Nat} (he : ∀ i : Nat, (i : Int) < n → EvT tt ((wipeD S [j]).set j (some (.int i))) w (c i) ∧ (c i = true → EvE te ((wipeD S [j]).set j (some (.int i))) w (f i)))
    (hq : ∀ p, w p = none → Q (.ref p) (put w p (.lst (((List.range n.toNat).filter c).map f)))) : dLcO (diR1 ta) (.one j) tt te S w Q := by
  refine ha _ ⟨by omega, by omega, _, lc_fm (c := c) (f := f) (small (show n.toNat ≤ 100000 by omega)) trivial fun i hi => ?_, hq⟩
  have hi' : i < n.toNat := hi
  have e : (itR 0 n.toNat).item i = .int i := by show D.int (0 + (i : Int)) = _; rw [Int.zero_add]
  rw [e]
  exact he i (by omega)
theorem lc_fl {xs : List D} {j : DIt} {c : D → Bool} {f : D → D} (hj : j.n = xs.length) (hi : ∀ i d, xs[i]? = some d → j.item i = d) (hn : xs.length ≤ 100000) (hok : j.ok w) (h : ∀ d ∈ xs, T.dg d (wipeD S T.vs) fun S2 => EvT tt S2 w (c d) ∧ (c d = true → EvE te S2 w (f d))) : LcBody T tt te S w j fun i => ((xs.take i).filter c).map f := by
  refine ⟨rfl, by rw [hj]; exact small hn, hok, fun i hl => ?_⟩
  have hl' : i < xs.length := by omega
  have hd := List.getElem?_eq_getElem hl'
  rw [hi i _ hd]
  refine dg_imp (h _ (List.getElem_mem hl')) ?_
  rintro S2 ⟨h1, h2⟩
  refine h1 _ ⟨rfl, ?_⟩
  have e : (xs.take (i + 1)).filter c = (xs.take i).filter c ++ (if c xs[i] = true then [xs[i]] else []) := by
    rw [List.take_add_one, List.filter_append, hd]
    congr 1
    cases hc : c xs[i] <;> simp [hc]
  dsimp only
  rw [e]
  cases hc : c xs[i] with
  | true => exact h2 hc _ ⟨rfl, by simp⟩
  | false => simp
theorem dLc_lf {xs : List D} {c : D → Bool} {f : D → D} (ha : ∀ R : D → Wd → Prop, R (.lst xs) w → tl S w R) (h2 : xs.length ≤ 100000) (he : ∀ d ∈ xs, T.dg d (wipeD S T.vs) fun S2 => EvT tt S2 w (c d) ∧ (c d = true → EvE te S2 w (f d)))
    (hq : Q (.lst ((xs.filter c).map f)) w) : dLc (diL tl) T tt te S w Q := by
  refine ha _ ⟨_, lc_fl (xs := xs) rfl (fun i d h => by show xs.getD i _ = d; rw [List.getD_eq_getElem?_getD, h]; rfl) h2 trivial he, ?_⟩
  show Q (.lst (((xs.take xs.length).filter c).map f)) w
  rw [List.take_length]; exact hq
theorem dLcO_lf {xs : List D} {c : D → Bool} {f : D → D} (ha : ∀ R : D → Wd → Prop, R (.lst xs) w → tl S w R) (h2 : xs.length ≤ 100000) (he : ∀ d ∈ xs, T.dg d (wipeD S T.vs) fun S2 => EvT tt S2 w (c d) ∧ (c d = true → EvE te S2 w (f d)))
    (hq : ∀ p, w p = none → Q (.ref p) (put w p (.lst ((xs.filter c).map f)))) : dLcO (diL tl) T tt te S w Q := by
  refine ha _ ⟨_, lc_fl (xs := xs) rfl (fun i d h => by show xs.getD i _ = d; rw [List.getD_eq_getElem?_getD, h]; rfl) h2 trivial he, ?_⟩
  show ∀ p, w p = none → Q (.ref p) (put w p (.lst (((xs.take xs.length).filter c).map f)))
  rw [List.take_length]; exact hq
theorem evt_yes : EvT dYes S w true := fun _ q => q
end
end TD

set_option maxHeartbeats 2000000
namespace TD
open PySem PySem.Spec PyProof.Rows L2
/-! ### more words: o[i] = e, sorted, xs[::-1] -/
section
variable {X : Cx} {W : WX} {W' : DWX} {o i e : Expr} {to ti te : DE} {pos tpos : Pos}
theorem qs_setI (he : QE X W W' e te) (ho : QE X W W' o to) (hi : QE X W W' i ti)
    (ha : ∀ v, assign (.Subscript o i tpos) X.env v = (do
      let ov ← holding [v] (eval o X.env)
      let iv ← holding [v, ov] (eval i X.env)
      standAt tpos; holding [v, ov, iv] (setItem ov iv v); release [v, ov, iv] []) := by intro _; rfl)
    (hs : swapsWithSole [.Subscript o i tpos] e pos.line X.env = pure false := by rfl) (hw : swappedStores [.Subscript o i tpos] e X.env = pure none := by rfl)
    (h1 : (assignEach [.Subscript o i tpos] X.env).map (·.2) = [assign (.Subscript o i tpos) X.env] := by rfl) : QS X W W' (.Assign [.Subscript o i tpos] e pos) (dSet te to ti) :=
  qs_setL he ho hi (ps_asg he (pg_sub ho hi set_list ha) hs hw h1)
end
def sortD : DRl := fun ds w Q => match ds with
  | [x] => match nsD w x with
    | some ns => ∀ ms : List Int, ms.Perm ns → ms.Pairwise (· ≤ ·) → Q (.lst (ms.map D.int)) w
    | none => False
  | _ => False
theorem tr_sort {K : PySem.W.Frag} : TrRl K (rSortedI K) sortD := by
  intro H P w xs ds Q' Q rh r h hq
  unfold sortD at h
  split at h
  · cases r with
    | cons r1 r2 =>
      cases r2
      split at h
      · rename_i ns hn
        obtain ⟨a, rfl, sq⟩ := nsD_at rh r1 hn
        refine ⟨a, ns, rfl, sq, fun ms p h1 h2 hp => ?_⟩
        have g := rh.newP (o := .lst (ms.map V.int)) hp
        exact hq _ w (h ms h1 h2) _ _ _ g (.lst upd_same (ints_rep ms))
      · exact h.elim
  · exact h.elim
theorem sortD_l {ns : List Int} {w : Wd} {Q : DKt} : sortD [.lst (ns.map D.int)] w Q = (∀ ms : List Int, ms.Perm ns → ms.Pairwise (· ≤ ·) → Q (.lst (ms.map D.int)) w) := by
  unfold sortD nsD; simp only [getL, Option.bind_some, intsD_map]
def dRev (te : DE) : DE := fun S w Q => te S w fun x w1 => match x with
  | .lst xs => Q (.lst xs.reverse) w1
  | _ => False
theorem qe_rev {X : Cx} {W : WX} {W' : DWX} {e : Expr} {te : DE} {k : Nat} {p1 p2 p3 pos : Pos} (he : QE X W W' e te) : QE X W W' (.Subscript e (.Slice none none (some (.UnaryOp .USub (.Constant (.int 1) k p1) p2)) p3) pos) (dRev te) := PE.imp (pe_revL he)
  fun σ H Q ⟨P, w, S, Q', rh, sl, h, hq, hx⟩ => ⟨P, w, S, _, rh, sl, h, fun d w1 h1 v H1 P1 g1 r1 => by
    cases r1 with
    | lst q r =>
      rename_i a vs ds
      refine ⟨_, _, rfl, SqL.of (g1.rh.per _ _ q), fun p hp => ?_⟩
      have g := g1.rh.newP (o := .lst vs.reverse) hp
      exact hq _ w1 h1 _ _ _ (g1.trans g) (.lst upd_same (r.mono g.ex).reverse)
    | _ => exact h1.elim, hx⟩
/-! ### short words -/
theorem atL_put {w : Wd} {p : Addr} {xs : List D} {k : Addr → List D → Prop} : atL (put w p (.lst xs)) (.ref p) k = k p xs := atL_w put_same
theorem two_sorted : ∀ {as bs : List Int}, as.Perm bs → as.Pairwise (· ≤ ·) → bs.Pairwise (· ≤ ·) → as = bs
  | [], bs, h, _, _ => by have := h.length_eq; cases bs with | nil => rfl | cons b r => simp at this
  | a :: as, [], h, _, _ => by have := h.length_eq; simp at this
  | a :: as, b :: bs, h, h1, h2 => by
    have e : a = b := by
      have ha : a ∈ b :: bs := h.mem_iff.mp (List.mem_cons_self)
      have hb : b ∈ a :: as := h.mem_iff.mpr (List.mem_cons_self)
      have l1 : b ≤ a := by
        rcases List.mem_cons.mp ha with z | z
        · omega
        · exact (List.pairwise_cons.mp h2).1 a z
      have l2 : a ≤ b := by
        rcases List.mem_cons.mp hb with z | z
        · omega
        · exact (List.pairwise_cons.mp h1).1 b z
      omega
    subst e
    rw [two_sorted (h.cons_inv) (List.pairwise_cons.mp h1).2 (List.pairwise_cons.mp h2).2]
end TD

set_option maxHeartbeats 2000000
namespace TD
open PySem PySem.Spec PyProof.Rows L2
/-- a statement that is not reached -/
def dNever : DS := fun _ _ _ => False
theorem qs_never {X : Cx} {W : WX} {W' : DWX} {s : Stmt} : QS X W W' s dNever := ⟨fun _ _ _ _ _ _ h => by
  obtain ⟨_, _, _, _, _, _, h, _⟩ := h
  exact h.elim⟩
end TD

set_option maxHeartbeats 2000000
namespace TD
open PySem PySem.Spec PyProof.Rows L2
/-! ### exceptions of own classes without fields -/
def cls (K : PySem.W.Frag) (x : Str) : Value := .ref (He.ga K x)
structure XF (K : PySem.W.Frag) (mg : Str → Option Value) (x : Str) : Prop where
  g : mg x = some (.ref (He.ga K x))
  e : (He.Fa.exc x).ok K = true
def dRaise (c : Value) (W' : DWX) : DS := fun _ S w => W' c none S w
section
variable {X : Cx} {W : WX} {W' : DWX}
theorem qs_raise {x m : Str} {j : Nat} {p p2 pos pos2 : Pos} (f : XF X.K X.mg x) (tk : L2N.Takes X W) (hc : X.calm = true := by rfl) (hg : Gl X x := by rfl) (hdb : (x == ("__debug__" : Str)) = false := by decide) :
    QS X W W' (.Raise (some (.Call (.Name x p) [.Constant (.str m) j p2] [] pos)) none pos2) (dRaise (cls X.K x) W') := by
  obtain ⟨e1, e2, e3, e4⟩ := He.exc_ok f.e
  refine PS.imp (L2N.ps_raise hc tk (L2N.pmk_own PySem.F.excBase_ValueError e1 f.g e2 (raises_own e3 e4) hg hdb)) ?_
  rintro D σ H ⟨P, w, S, D', rh, sl, h, hd, hx⟩
  exact hx _ none S w h none σ H P rh.go sl rfl
/-! ### try .. except C as n -/
def wAsD (K : PySem.W.Frag) (c : Value) (i : Nat) (ts : Addr → Value → Option D → DS) (Wout : DWX) (D' : DEnds) : DWX := fun cl x S w =>
  ∃ b, PySem.W.exmOne K cl c = some b ∧ (b = true → ∀ a, w a = none → ts a cl x { nx := fun S' w' => D'.nx (S'.set i none) w', rt := D'.rt, bk := fun S' w' => D'.bk (S'.set i none) w', ct := fun S' w' => D'.ct (S'.set i none) w' } (S.set i (some (.ref a))) w) ∧ (b = false → Wout cl x S w)
def dTryAs (K : PySem.W.Frag) (c : Value) (i : Nat) (tb : DWX → DS) (ts : Addr → Value → Option D → DS) (Wout : DWX) : DS := fun D' S w => tb (wAsD K c i ts Wout D') D' S w
theorem qs_tryAs {x n : Str} {c : Value} {i : Nat} {body suite : List Stmt} {b₀ : Stmt} {np pos pos' : Pos} {tb : DWX → DS} {ts : Addr → Value → Option D → DS} (hN : X.N.Nodup) (hc : Names X x c) (tk : L2N.Takes X W)
    (hb : ∀ (V : WX) (V' : DWX) (pn : List (Addr × Obj)) (xe : Value → Shared → Prop), L2N.Takes (X.tr pn xe) V → PassesOwn (model X.prog X.w) X.A X.env xe → QSs (X.tr pn xe) V V' body (tb V'))
    (hsu : ∀ (a : Addr) (oe : Obj) (cl : Value) (d : Option Addr) (pn : List (Addr × Obj)) (x : Option D), L2N.Zn cl d oe → (∃ vs, oe.data = .fields vs) → (x = none → d = none) → QSs (X.suite a ((a, oe) :: pn)) W0 DW0 (b₀ :: suite) (ts a cl x))
    (hs : X.stack = X.env :: X.outer := by rfl) (hf : X.env.frame = some X.env.locals := by rfl) (hi : X.N[i]? = some n := by rfl) (hln : X.env.kindOf n = some .local := by rfl) :
    QS X W W' (.Try body [.ExceptHandler (some (.Name x np)) (some n) (b₀ :: suite) pos'] [] [] pos) (dTryAs X.K c i tb ts W') := by
  refine PS.imp (L2N.ps_try_as (tb := fun V D σ H => ∃ V', liftS X.K V V' (tb V') D σ H) (ts := fun a cl d D σ H => ∃ x, (x = none → d = none) ∧ liftS X.K W0 DW0 (ts a cl x) D σ H) hs hf hN hi hln hc tk
    (fun V pn xe tk' po => ⟨fun pins s σ H D I ⟨V', h⟩ => (hb V V' pn xe tk' po).run pins s σ H D I h⟩)
    (fun a oe cl d pn hz hv => ⟨fun pins s σ H D I ⟨x, hx, h⟩ => (hsu a oe cl d pn x hz hv hx).run pins s σ H D I h⟩)) ?_
  rintro D σ H ⟨P, w, S, D', rh, sl, h, hd, hx⟩
  refine ⟨wAsD X.K c i ts W' D', P, w, S, D', rh, sl, h, hd, ?_⟩
  rintro cl x S1 w1 ⟨b, hb1, hy, hn⟩ dd σ1 H1 P1 g sl1 xr
  refine ⟨b, hb1, fun e a ha => ⟨x, ?_, P1, w1, _, _, g.rh, sl1.set i (.ref a), hy e a (g.rh.free ha).2, ?_, WOk.none⟩, fun e => hx cl x S1 w1 (hn e) dd σ1 H1 P1 g sl1 xr⟩
  · rintro rfl; exact xr
  · exact ⟨fun S2 w2 q σ2 H2 P2 g2 r => (hd.nx.go g) _ w2 q _ H2 P2 g2 (r.del i), hd.rt.go g, fun S2 w2 q σ2 H2 P2 g2 r => (hd.bk.go g) _ w2 q _ H2 P2 g2 (r.del i), fun S2 w2 q σ2 H2 P2 g2 r => (hd.ct.go g) _ w2 q _ H2 P2 g2 (r.del i)⟩
/-! ### isinstance(n, C) in the suite -/
def dIsE (K : PySem.W.Frag) (i : Nat) (a : Addr) (cl : Value) (x : Option D) (cv : Value) : DE := fun S w Q => S[i]? = some (some (.ref a)) ∧ x = none ∧ ∃ C b, cl = .ref C ∧ ExcC K C ∧ PySem.W.kitOne K (.ref C) cv = some b ∧ Q (.bl b) w
theorem qe_isEv {a : Addr} {oe : Obj} {pn : List (Addr × Obj)} {cl : Value} {d : Option Addr} {x : Option D} {i : Nat} {n y : Str} {p p1 p2 pos : Pos} {cv : Value} {vv : V} (hz : L2N.Zn cl d oe) (hf : ∃ vs, oe.data = .fields vs) (hx : x = none → d = none)
    (hy : PE (X.suite a ((a, oe) :: pn)) (.Name y p2) (tC vv)) (hu : ∀ u, RelV vv u → u = cv) (hn : PE (X.suite a ((a, oe) :: pn)) (.Name n p1) (tVar i)) (hm : X.mg "isinstance" = none) (hg : Gl X "isinstance" := by rfl)
    (he : starEach [.Name n p1, .Name y p2] X.env = (false, eval (.Name n p1) X.env) :: starEach [.Name y p2] X.env := by rfl) (hpl : (backTo pos (starEach [.Name y p2] X.env)).any (·.1) = false := by rfl) :
    QE (X.suite a ((a, oe) :: pn)) W W' (.Call (.Name "isinstance" p) [.Name n p1, .Name y p2] [] pos) (dIsE X.K i a cl x cv) := by
  refine ⟨fun pins s σ H Q I h => ?_⟩
  obtain ⟨P, w, S, Q', rh, sl, ⟨hs, h0, C, b, rfl, hC, hk, hq⟩, hr, _⟩ := h
  obtain ⟨v, hv, rv⟩ := sl.2 i _ hs
  cases rv
  have hd := hx h0
  subst hd
  refine (pe_callB (X := X.suite a ((a, oe) :: pn)) (call_isE (X := X) hC hz.zc hf) hg hm (by decide +kernel) (pa_cons hn (pa_cons hy pa_nil)) (by decide) (by decide) he hpl).run pins s σ H Q I ?_
  exact ⟨_, hv, vv, cv, b, rfl, hu, hk, hr _ w hq _ H P rh.go (.bl b)⟩
theorem qe_isE {a : Addr} {oe : Obj} {pn : List (Addr × Obj)} {cl : Value} {d : Option Addr} {x : Option D} {i : Nat} {n y : Str} {p p1 p2 pos : Pos} (hz : L2N.Zn cl d oe) (hf : ∃ vs, oe.data = .fields vs) (hx : x = none → d = none)
    (f : XF X.K X.mg y) (hn : PE (X.suite a ((a, oe) :: pn)) (.Name n p1) (tVar i)) (hm : X.mg "isinstance" = none) (hgy : Gl X y := by rfl) (hdy : (y == ("__debug__" : Str)) = false := by decide) (hg : Gl X "isinstance" := by rfl)
    (he : starEach [.Name n p1, .Name y p2] X.env = (false, eval (.Name n p1) X.env) :: starEach [.Name y p2] X.env := by rfl) (hpl : (backTo pos (starEach [.Name y p2] X.env)).any (·.1) = false := by rfl) :
    QE (X.suite a ((a, oe) :: pn)) W W' (.Call (.Name "isinstance" p) [.Name n p1, .Name y p2] [] pos) (dIsE X.K i a cl x (cls X.K y)) :=
  qe_isEv hz hf hx (pe_glob (v := .ref (He.ga X.K y)) hgy f.g rfl hdy) (fun _ r => r) hn hm hg he hpl
theorem qe_isET {a : Addr} {oe : Obj} {pn : List (Addr × Obj)} {cl : Value} {d : Option Addr} {x : Option D} {i : Nat} {n y : Str} {T : String} {p p1 p2 pos : Pos} (hz : L2N.Zn cl d oe) (hf : ∃ vs, oe.data = .fields vs) (hx : x = none → d = none)
    (hmy : X.mg y = none) (hvy : bootBuiltins y = some (.type T)) (hn : PE (X.suite a ((a, oe) :: pn)) (.Name n p1) (tVar i)) (hm : X.mg "isinstance" = none) (hgy : Gl X y := by rfl) (hny : y ≠ "__name__" := by decide) (hdy : (y == ("__debug__" : Str)) = false := by decide) (hg : Gl X "isinstance" := by rfl)
    (he : starEach [.Name n p1, .Name y p2] X.env = (false, eval (.Name n p1) X.env) :: starEach [.Name y p2] X.env := by rfl) (hpl : (backTo pos (starEach [.Name y p2] X.env)).any (·.1) = false := by rfl) :
    QE (X.suite a ((a, oe) :: pn)) W W' (.Call (.Name "isinstance" p) [.Name n p1, .Name y p2] [] pos) (dIsE X.K i a cl x (.type T)) :=
  qe_isEv hz hf hx (pe_bltn (v := .ty T) hgy hmy hvy rfl hny hdy) (fun _ r => r) hn hm hg he hpl
end
def dRevO (te : DE) : DE := fun S w Q => te S w fun x w1 => match x with
  | .lst xs => ∀ p, w1 p = none → Q (.ref p) (put w1 p (.lst xs.reverse))
  | _ => False
theorem qe_revO {X : Cx} {W : WX} {W' : DWX} {e : Expr} {te : DE} {k : Nat} {p1 p2 p3 pos : Pos} (he : QE X W W' e te) : QE X W W' (.Subscript e (.Slice none none (some (.UnaryOp .USub (.Constant (.int 1) k p1) p2)) p3) pos) (dRevO te) := PE.imp (pe_revL he)
  fun σ H Q ⟨P, w, S, Q', rh, sl, h, hq, hx⟩ => ⟨P, w, S, _, rh, sl, h, fun d w1 h1 v H1 P1 g1 r1 => by
    cases r1 with
    | lst q r =>
      rename_i a vs ds
      refine ⟨_, _, rfl, SqL.of (g1.rh.per _ _ q), fun p hp => ?_⟩
      have g := g1.rh.newW (o := .lst vs.reverse) (n := .lst ds.reverse) hp ⟨_, rfl, r.reverse⟩
      exact hq _ _ (h1 p (g1.rh.free hp).2) _ _ _ (g1.trans g) (.ref p)
    | _ => exact h1.elim, hx⟩
end TD

set_option maxHeartbeats 2000000
namespace TD
open PySem PySem.Spec PyProof.Rows L2
/-! ### making an own exception by its __init__, nothing being handled: its context is None -/
theorem made_ctx {X : Cx} {pins : List (Addr × Obj)} {σ : L2.St} {H1 H2 : Hp} {Q : XK} {m0 m1 m2 : Heap} {ga gb : Array GenState} {da db : Drawn} {ta tb : Nat} {oa ob : OsState} {a C d : Addr} {fs : List (Str × V)}
    (r : Raises X (.ref C)) (J : Inv X pins σ H1 ⟨m0, ga, da, ta, oa⟩) (new : m0.objs.size ≤ a) (keep : ∀ b o, m0.get? b = some o → m1.get? b = some o)
    (un : Un (frs X.stack) [] (upd H1 a (exo a C none)) H2 m1 m2) (ok : HOk X.prog X.w H2 m2) (same : ob = oa) (bare : AllBare gb) (atA : H2 a = some (exo a C (some d))) (atD : H2 d = some (exd d fs)) (was : H1 d = none)
    (q : Q (.ref C) (some d) (upd (del H2 a) d (.xd fs))) : L2N.MkP X pins σ Q (.ref a) ⟨m2, gb, db, tb, ob⟩ := by
  obtain ⟨t, G, JG, kG, fresh, obj, gone⟩ := mk_end0 (d2 := db) (t2 := tb) J new keep un ok same bare atA atD was
  exact ⟨a, _, _, ⟨G, gb, db, tb, ob⟩, _, .ref C, some d, rfl, JG, kG, fresh, obj, ⟨rfl, rfl, fun vs e => by cases e; rfl⟩, rfl, rfl, gone, rfl, bare, r, q⟩
theorem makes_ctx {X : Cx} {cx : CXT} {x : Str} {e : Expr} {es : List Expr} {ta : TA} {p pos : Pos} {C fI : Addr} {k : Nat} {fd : FuncData} {ps : List Str} {sp : Sp} (T : OexC X.K C) (hi : PySem.W.findIn X.K (.ref C) "__init__" = some (some (.ref fI)))
    (ht : PySem.W.typeIn X.K (.ref fI) = some (.type "function")) (F : FnOk X.prog X.w X.K X.mg X.base cx k fI fd ps sp) (room : Room (k + 1) X.A) (bd : Binds X.K fd ps []) (out : Passes cx X fun _ _ _ => False) (gl : Gl X x) (mgx : X.mg x = some (.ref C)) (args : PA X (e :: es) ta)
    (dbg : (x == ("__debug__" : Str)) = false := by decide) (st : starEach (e :: es) X.env = (false, eval e X.env) :: starEach es X.env := by rfl) (pl : (backTo pos (starEach es X.env)).any (·.1) = false := by rfl) :
    L2N.PMk X (.Call (.Name x p) (e :: es) [] pos) (tMkO C sp [] ta) := by
  intro pins s σ H Q I h
  obtain ⟨_, _, _, _, bases, _, _, _, _, _, _, _, _, _, _, atC, okB⟩ := T.cls
  refine wpAny_Call_Name_kw (ld_glob I gl mgx (PySem.W.callWith_K (h₀ := X.base) I.ok.mod.kin T.kC (thn (args.run pos pins s σ H _ I h) ?_) st pl) dbg)
  rintro us ⟨m, g, dr, tk, os⟩ ⟨vs, H1, J, rv, few, go⟩
  refine ⟨J.kIn, ?_⟩
  have up : m.objs.size ≤ m.objs.size + 1 := Nat.le_succ _
  have body := go (m.objs.size + 1) (J.hok.fresh up)
  let m1 : Heap := (m.push (PySem.W.kdv_tup us)).push (PySem.HandSPX.excO C m.objs.size)
  have old : ∀ b o, m.get? b = some o → m1.get? b = some o := fun b o z => Heap.get?_push_of_some _ (Heap.get?_push_of_some _ z)
  have here : m1.get? (m.objs.size + 1) = some (PySem.HandSPX.excO C m.objs.size) := by
    show ((m.push (PySem.W.kdv_tup us)).push (PySem.HandSPX.excO C m.objs.size)).get? (m.objs.size + 1) = _
    heap_get
  have J1 : Inv X pins σ (upd H1 (m.objs.size + 1) (exo (m.objs.size + 1) C none)) ⟨m1, g, dr, tk, os⟩ := J.laid (t' := tk) (a := m.objs.size + 1) (o := exo (m.objs.size + 1) C none) (h' := m1) old up (exo_ok here)
  rw [List.append_nil] at body
  have rv1 : Vals (V.ref (m.objs.size + 1) :: vs) (Value.ref (m.objs.size + 1) :: us) := .cons rfl rv
  have cnt : (Value.ref (m.objs.size + 1) :: us).length = ps.length := by rw [← F.len _ _ _ _ body]; exact rv1.length.symm
  have fits : us.length ≤ sizeLine := by rw [← Paired.length rv, sizeLine_eq]; omega
  have bd' := bd ⟨m1, g, dr, tk, os⟩ (Value.ref (m.objs.size + 1) :: us) J1.kIn (by rw [List.append_nil]; exact cnt)
  rw [List.append_nil] at bd'
  have inner := F.run _ X.stack _ _ ⟨Value.ref (m.objs.size + 1) :: us, []⟩ (Value.ref (m.objs.size + 1) :: us) _ _ (fun _ _ _ => False) (room.make C us []) (J1.env0.make C us []) bd' rv1 body
  refine wpAny_call (PySem.HandSPX.call_own PySem.F.excBase_ValueError (fun Y => PySem.HandSPX.refsVE_contains Y bases okB) (J.kIn _ _ atC) (PySem.W.looks_findIn J.kIn hi) (fun self => PySem.W.bind_fn J.kIn self ht) fits (codeAny_mono inner ?_))
  rintro (er | fl) s2 z
  · exact out pins σ _ _ er s2 J1 z
  · cases fl with
    | ret u =>
      obtain ⟨v, H2, same, bare, un, ok, ru, rfl, d, fs, atA, atD, was, q⟩ := z
      exact ⟨ru, made_ctx (raises_own T.exC T.tyC) J up old un ok same bare atA atD was q⟩
    | next => exact z.elim
    | brk => exact z.elim
    | cont => exact z.elim
end TD

set_option maxHeartbeats 2000000
namespace TD
open PySem PySem.Spec PySem.Calls PyProof.Rows
open PySem.W (findIn specialIn takesIn subIn hasDictIn mroIn InstAt findObj clsIn)
/-! ### isinstance of a caught error that has a dict -/
theorem find_data {K : PySem.W.Frag} {C : Addr} {od : Option Obj} {nm : Str} {v g : Value} (some_ : (clsIn K C).isSome = true) (at_ : findIn K (.ref C) nm = some (some v)) (get_ : specialIn K v "__get__" = some (some g)) (tak : takesIn K v = some true) : findObj K C od nm = some (.bind g v) := by
  obtain ⟨cd, e⟩ := Option.isSome_iff_exists.mp some_
  unfold findObj
  rw [e, Option.bind_some, at_, Option.bind_some]
  simp [get_, tak]
section
variable {prog : Program} {w : World} {A : Around} {E : Value → Shared → Prop} {s : Shared} {K : PySem.W.Frag} {x C : Addr} {ox : Obj} {od : Option Obj}
theorem class_attr {Q : Option Value → Shared → Prop} (c : L2.ExcC K C) (inK : K.In s.heap) (J : InstAt s.heap x ox C od) (h : Q (some (.ref C)) { s with toks := s.toks + 1 }) : wpAny (model prog w) A (getAttr? (.ref x) "__class__") Q E s := by
  have isC : (clsIn K C).isSome = true := by
    obtain ⟨cd, e, _⟩ := PySem.W.any_some c.hd
    rw [e]; rfl
  have fo := find_data (od := od) isC c.ha c.hn c.ht
  obtain ⟨m, g, d, t, os⟩ := s
  have y0 := J.type (M := model prog w)
  have y1 := PySem.W.looks_findIn (M := model prog w) inK c.hg
  have y2 := PySem.W.looks_findIn (M := model prog w) inK c.hk
  have y3 := PySem.W.looks_find (M := model prog w) inK J fo
  have isB : PySem.W.Looks (model prog w) m (isInstance (.ref x) (.type "BaseException")) true := y0.andThen (PySem.W.looks_subIn inK c.hs)
  have n2 : (Value.builtin "BaseException.__getattribute__" == Value.builtin "object.__getattribute__") = false := by decide +kernel
  have n1 : (onTheHeap (Value.ref C) && Value.builtin "BaseException.__getattribute__" == Value.builtin "object.__getattribute__") = false := by
    rw [n2]; rfl
  unfold getAttr? getAttrBy? getAttrBy
  refine wpAny_bind (wpAny_mkText (wpAny_bind (wpAny_attempt (wpAny_holding (wpAny_bind (y0.at (wpAny_bind (y1.at ?_))))))))
  change wpAny _ _ (if (onTheHeap (Value.ref C) && Value.builtin "BaseException.__getattribute__" == Value.builtin "object.__getattribute__") = true then _ else _) _ _ _
  rw [n1, if_neg Bool.false_ne_true]
  unfold getAttrByItsOwn hookBefore
  refine wpAny_bind ?_
  have oh : onTheHeap (Value.ref C) = true := rfl
  rw [if_pos oh]
  refine y2.at (wpAny_bind (wpAny_attempt (wpAny_holding ?_)))
  unfold callGetattribute
  have no : ¬ (false && onTheHeap (Value.builtin "BaseException.__getattribute__")) = true := Bool.false_ne_true
  rw [if_neg no]
  unfold boundAndCalled
  rw [PySem.F.excAttr_ValueError.ga.bind (.ref x)]
  refine wpAny_bind (wpAny_pure ?_)
  change wpAny _ _ (call (.builtin "BaseException.__getattribute__") [.ref x, .str "__class__" t]) _ _ _
  refine wpAny_call (codeAny_call_builtin PySem.F.excAttr_ValueError.ga.plain PySem.F.entry_bexc_ga (@PySem.W.check_slot (model prog w) _ _ ⟨m, g, d, t + 1, os⟩ "BaseException.__getattribute__" "BaseException" "__getattribute__" (.ref x) [.str "__class__" t] [] _ (by decide +kernel) (by decide +kernel) isB (PySem.F.args_bexc_ga (.ref x) (.str "__class__" t)) ?_))
  unfold Builtin.«object.__getattribute__»
  refine wpAny_bind (wpAny_of_eq (a := ((Value.ref x : Value), [Value.str "__class__" t])) (by first | rfl | (simp only [slotArgs]; rfl)) (wpAny_bind (wpAny_pure (wpAny_bind (y0.at (wpAny_bind (y3.at ?_)))))))
  change wpAny _ _ (holding [Value.builtin "object.__class__"] (call (.builtin "getset_descriptor.__get__") [.builtin "object.__class__", .ref x, .ref C]) >>= ret) _ _ _
  refine wpAny_bind (wpAny_holding (wpAny_call (PySem.W.class_get (s := ⟨m, g, d, t + 1, os⟩) (ox := ox) (od := od) inK J c.hm (wpAny_pure ?_))))
  change wpAny _ _ (handedOut (.ref C)) _ _ _
  rw [PySem.W.handedOut_of (v := .ref C) rfl]
  first
    | exact wpAny_pure (wpAny_pure h)
    | exact wpAny_pure h
    | exact wpAny_pure (wpAny_bind (wpAny_pure (wpAny_pure h)))
theorem kit_exc (c : L2.ExcC K C) : PySem.W.KitX K (.ref x) (.ref C) (fun h => InstAt h x ox C od) where
  ty := fun _ _ _ J => J.type
  it := fun _ _ inK _ => by
    obtain ⟨cd, e, _⟩ := PySem.W.any_some c.hd
    unfold clsIn at e
    split at e
    · rename_i look
      intro A' Q' E' s' k q
      unfold isType loadHead
      exact wpAny_bind (wpAny_loadPart (k _ _ (inK _ _ look)) (wpAny_pure q))
    · cases e
  ne := fun h tp dd its n sl inK there => by
    obtain ⟨cd, e, _⟩ := PySem.W.any_some c.hd
    refine Bool.eq_false_iff.mpr fun q => ?_
    obtain rfl : C = tp := Value.ref.inj (beq_iff_eq.mp q)
    unfold clsIn at e
    split at e
    · rename_i look
      cases (inK _ _ look).symm.trans there
    · cases e
  ca := fun inK J k => class_attr c inK J k
end
open L2
/-- isinstance(e, c) in a suite, whatever dict e has -/
theorem call_isD {X : Cx} {a C dd : Addr} {oe : Obj} {pn : List (Addr × Obj)} (c : ExcC X.K C) (hz : Zc (.ref C) (some dd) oe) (hf : ∃ vs, oe.data = .fields vs) : CallR (X.suite a ((a, oe) :: pn)) (.builtin "isinstance") (fun xs H Q => ∃ fs, H dd = some (.xd fs) ∧ rIsE X.K C a xs H Q) := by
  intro pins s σ H xs us Q I r h
  obtain ⟨fs, hd, cc, cv, b, rfl, hcv, e, q⟩ := h
  cases r with
  | cons rx rr =>
    cases rr with
    | cons rt rr =>
      cases rr
      cases rx
      obtain rfl := hcv _ rt
      obtain ⟨here, _⟩ := I.pin (a, oe) (List.mem_append.mpr (.inl List.mem_cons_self))
      obtain ⟨vs, hv⟩ := hf
      have ok : ObjOk X.prog X.w H s.heap dd (.xd fs) := I.hok dd _ hd
      obtain ⟨mA, hns, _⟩ := ok
      obtain ⟨od, ho, _⟩ := lookIn_ns hns
      have J : InstAt s.heap a oe C (some od) := ⟨here, hz.1, by unfold PySem.W.notCls; rw [hv] <;> rfl, by rw [hz.2]; exact ho⟩
      exact PySem.W.kia_one (kit_exc c) I.kIn J e (fun z => nomatch z) fun tk => ⟨.bl b, H, I.kept (t' := tk) fun _ _ z => z, rfl, q⟩
end TD

set_option maxHeartbeats 2000000
namespace TD
open PySem PySem.Spec PyProof.Rows L2
/-! ### try .. except C as n, the error may carry a field -/
def excD (a dd : Addr) : Option D → D
  | none => .ref a
  | some d => .exc a dd d
def wXD (K : PySem.W.Frag) (c : Value) (i : Nat) (ts : Addr → Addr → Value → Option D → DS) (Wout : DWX) (D' : DEnds) : DWX := fun cl x S w =>
  ∃ b, PySem.W.exmOne K cl c = some b ∧ (b = true → ∀ a dd, w a = none → ts a dd cl x { nx := fun S' w' => D'.nx (S'.set i none) w', rt := D'.rt, bk := fun S' w' => D'.bk (S'.set i none) w', ct := fun S' w' => D'.ct (S'.set i none) w' } (S.set i (some (excD a dd x))) w) ∧ (b = false → Wout cl x S w)
def dTryX (K : PySem.W.Frag) (c : Value) (i : Nat) (tb : DWX → DS) (ts : Addr → Addr → Value → Option D → DS) (Wout : DWX) : DS := fun D' S w => tb (wXD K c i ts Wout D') D' S w
section
variable {X : Cx} {W : WX} {W' : DWX}
theorem qs_tryX {x n : Str} {c : Value} {i : Nat} {body suite : List Stmt} {b₀ : Stmt} {np pos pos' : Pos} {tb : DWX → DS} {ts : Addr → Addr → Value → Option D → DS} (hN : X.N.Nodup) (hc : Names X x c) (tk : L2N.Takes X W)
    (hb : ∀ (V : WX) (V' : DWX) (pn : List (Addr × Obj)) (xe : Value → Shared → Prop), L2N.Takes (X.tr pn xe) V → PassesOwn (model X.prog X.w) X.A X.env xe → QSs (X.tr pn xe) V V' body (tb V'))
    (hsu : ∀ (a dd : Addr) (oe : Obj) (cl : Value) (d : Option Addr) (pn : List (Addr × Obj)) (x : Option D), L2N.Zn cl d oe → (∃ vs, oe.data = .fields vs) → (x = none → d = none) ∧ (∀ v, x = some v → d = some dd) → QSs (X.suite a ((a, oe) :: pn)) W0 DW0 (b₀ :: suite) (ts a dd cl x))
    (hs : X.stack = X.env :: X.outer := by rfl) (hf : X.env.frame = some X.env.locals := by rfl) (hi : X.N[i]? = some n := by rfl) (hln : X.env.kindOf n = some .local := by rfl) :
    QS X W W' (.Try body [.ExceptHandler (some (.Name x np)) (some n) (b₀ :: suite) pos'] [] [] pos) (dTryX X.K c i tb ts W') := by
  refine PS.imp (L2N.ps_try_as (tb := fun V D σ H => ∃ V', liftS X.K V V' (tb V') D σ H) (ts := fun a cl d D σ H => ∃ dd x, ((x = none → d = none) ∧ ∀ v, x = some v → d = some dd) ∧ liftS X.K W0 DW0 (ts a dd cl x) D σ H) hs hf hN hi hln hc tk
    (fun V pn xe tk' po => ⟨fun pins s σ H D I ⟨V', h⟩ => (hb V V' pn xe tk' po).run pins s σ H D I h⟩)
    (fun a oe cl d pn hz hv => ⟨fun pins s σ H D I ⟨dd, x, hx, h⟩ => (hsu a dd oe cl d pn x hz hv hx).run pins s σ H D I h⟩)) ?_
  rintro D σ H ⟨P, w, S, D', rh, sl, h, hd, hx⟩
  refine ⟨wXD X.K c i ts W' D', P, w, S, D', rh, sl, h, hd, ?_⟩
  rintro cl x S1 w1 ⟨b, hb1, hy, hn⟩ d0 σ1 H1 P1 g sl1 xr
  have ends : EndsOk X.K H1 P1 w1 { nx := fun S' w' => D'.nx (S'.set i none) w', rt := D'.rt, bk := fun S' w' => D'.bk (S'.set i none) w', ct := fun S' w' => D'.ct (S'.set i none) w' } { nx := fun σ' H' => D.nx (σ'.set i none) H', rt := D.rt, bk := fun σ' H' => D.bk (σ'.set i none) H', ct := fun σ' H' => D.ct (σ'.set i none) H' } :=
    ⟨fun S2 w2 q σ2 H2 P2 g2 r => (hd.nx.go g) _ w2 q _ H2 P2 g2 (r.del i), hd.rt.go g, fun S2 w2 q σ2 H2 P2 g2 r => (hd.bk.go g) _ w2 q _ H2 P2 g2 (r.del i), fun S2 w2 q σ2 H2 P2 g2 r => (hd.ct.go g) _ w2 q _ H2 P2 g2 (r.del i)⟩
  refine ⟨b, hb1, fun e a ha => ?_, fun e => hx cl x S1 w1 (hn e) d0 σ1 H1 P1 g sl1 xr⟩
  cases x with
  | none => exact ⟨a, none, ⟨fun _ => xr, fun _ z => (nomatch z)⟩, P1, w1, _, _, g.rh, sl1.set i (.ref a), hy e a a (g.rh.free ha).2, ends, WOk.none⟩
  | some v =>
    obtain ⟨dd, u, rfl, hp, rv⟩ := xr
    exact ⟨dd, some v, ⟨fun z => (nomatch z), fun _ _ => rfl⟩, P1, w1, _, _, g.rh, sl1.set i (.exc hp rv), hy e a dd (g.rh.free ha).2, ends, WOk.none⟩
def dIsX (K : PySem.W.Frag) (i : Nat) (a dd : Addr) (cl : Value) (x : Option D) (cv : Value) : DE := fun S w Q => S[i]? = some (some (excD a dd x)) ∧ ∃ C b, cl = .ref C ∧ ExcC K C ∧ PySem.W.kitOne K (.ref C) cv = some b ∧ Q (.bl b) w
theorem qe_isXv {a dd : Addr} {oe : Obj} {pn : List (Addr × Obj)} {cl : Value} {d : Option Addr} {x : Option D} {i : Nat} {n y : Str} {p p1 p2 pos : Pos} {cv : Value} {vv : V} (hz : L2N.Zn cl d oe) (hf : ∃ vs, oe.data = .fields vs) (hx : (x = none → d = none) ∧ ∀ v, x = some v → d = some dd)
    (hy : PE (X.suite a ((a, oe) :: pn)) (.Name y p2) (tC vv)) (hu : ∀ u, RelV vv u → u = cv) (hn : PE (X.suite a ((a, oe) :: pn)) (.Name n p1) (tVar i)) (hm : X.mg "isinstance" = none) (hg : Gl X "isinstance" := by rfl)
    (he : starEach [.Name n p1, .Name y p2] X.env = (false, eval (.Name n p1) X.env) :: starEach [.Name y p2] X.env := by rfl) (hpl : (backTo pos (starEach [.Name y p2] X.env)).any (·.1) = false := by rfl) :
    QE (X.suite a ((a, oe) :: pn)) W W' (.Call (.Name "isinstance" p) [.Name n p1, .Name y p2] [] pos) (dIsX X.K i a dd cl x cv) := by
  refine ⟨fun pins s σ H Q I h => ?_⟩
  obtain ⟨P, w, S, Q', rh, sl, ⟨hs, C, b, rfl, hC, hk, hq⟩, hr, _⟩ := h
  obtain ⟨v, hv, rv⟩ := sl.2 i _ hs
  have res := hr _ w hq _ H P rh.go (.bl b)
  cases x with
  | none =>
    have hd := hx.1 rfl
    subst hd
    cases rv
    exact (pe_callB (X := X.suite a ((a, oe) :: pn)) (call_isE (X := X) hC hz.zc hf) hg hm (by decide +kernel) (pa_cons hn (pa_cons hy pa_nil)) (by decide) (by decide) he hpl).run pins s σ H Q I ⟨_, hv, vv, cv, b, rfl, hu, hk, res⟩
  | some z =>
    have hd := hx.2 z rfl
    subst hd
    cases rv with
    | exc hp _ => exact (pe_callB (X := X.suite a ((a, oe) :: pn)) (call_isD (X := X) hC hz.zc hf) hg hm (by decide +kernel) (pa_cons hn (pa_cons hy pa_nil)) (by decide) (by decide) he hpl).run pins s σ H Q I ⟨_, hv, _, rh.per _ _ hp, vv, cv, b, rfl, hu, hk, res⟩
/-- n.at -/
def dAtX (K : PySem.W.Frag) (i : Nat) (a dd : Addr) (cl : Value) (x : Option D) : DE := fun S w Q => S[i]? = some (some (excD a dd x)) ∧ ∃ C v, cl = .ref C ∧ XfC K C ∧ PySem.W.findIn K (.ref C) "at" = some none ∧ x = some v ∧ Q v w
theorem qe_atX {a dd : Addr} {oe : Obj} {pn : List (Addr × Obj)} {cl : Value} {d : Option Addr} {x : Option D} {i : Nat} {n : Str} {p1 pos : Pos} (hz : L2N.Zn cl d oe) (hf : ∃ vs, oe.data = .fields vs) (hx : (x = none → d = none) ∧ ∀ v, x = some v → d = some dd)
    (hn : PE (X.suite a ((a, oe) :: pn)) (.Name n p1) (tVar i)) (hb : attributeBase (.Name n p1) "at" X.env (eval (.Name n p1) X.env) = eval (.Name n p1) X.env := by rfl) : QE (X.suite a ((a, oe) :: pn)) W W' (.Attribute (.Name n p1) "at" pos) (dAtX X.K i a dd cl x) := by
  refine ⟨fun pins s σ H Q I h => ?_⟩
  obtain ⟨P, w, S, Q', rh, sl, ⟨hs, C, v, rfl, hC, hno, rfl, hq⟩, hr, _⟩ := h
  obtain ⟨u, hu, ru⟩ := sl.2 i _ hs
  have hd := hx.2 v rfl
  subst hd
  cases ru with
  | exc hp rv => exact (pe_xf hC hno hz.zc hf hn hb).run pins s σ H Q I ⟨_, hu, rfl, rfl, dd, _, _, rfl, rh.per _ _ hp, rfl, hr _ w hq _ H P rh.go rv⟩
end
end TD

set_option maxHeartbeats 2000000
namespace TD
open PySem PySem.Spec PyProof.Rows L2
/-! ### raise C(e), C's __init__ keeping e under the name at -/
def oexB (K : PySem.W.Frag) (C : Addr) : Bool := (match K.lookup C with
  | some ⟨.type "type", _, .cls cd, sl⟩ => (match cd.mro, sl.toList with
    | .ref C' :: bm, [_, _, _, _, some (.builtin n), _] => decide (C' = C) && (decide (n = "ValueError.__new__") && (!cd.hasDel && (cd.hasDict && PySem.HandSPX.refsVE bm)))
    | _, _ => false)
  | _ => false) && (He.eqO (PySem.W.findIn K (.ref C) "__setattr__") (some (some (.builtin "object.__setattr__"))) && (decide (PySem.W.subIn K (.ref C) (.type "BaseException") = some true) && (decide (PySem.W.typeIn K (.ref C) = some (.type "type")) && PySem.W.keepIn K (.ref C))))
theorem oexB_ok {K : PySem.W.Frag} {C : Addr} (h : oexB K C = true) : OexC K C := by
  unfold oexB at h
  simp only [Bool.and_eq_true, decide_eq_true_eq] at h
  obtain ⟨h1, h2, h3, h4, h5⟩ := h
  refine ⟨?_, He.eqO_ok h2, h3, h4, h5⟩
  split at h1
  · rename_i dd cd sl look
    split at h1
    · rename_i C' bm k0 k1 k2 k3 n k5 hm hs
      simp only [Bool.and_eq_true, decide_eq_true_eq, Bool.not_eq_true'] at h1
      obtain ⟨rfl, rfl, noDel, hasD, tail⟩ := h1
      obtain ⟨nm, bs, mro, ns, qn, hd, sn, sub, ab, col, del⟩ := cd
      dsimp only at hm noDel hasD
      subst hm noDel hasD
      obtain ⟨l⟩ := sl
      dsimp only at hs
      subst hs
      exact ⟨nm, qn, ns, bs, bm, sn, sub, ab, col, dd, k0, k1, k2, k3, k5, look, tail⟩
    · cases h1
  · cases h1
def spI (C : Addr) : Sp := fun vs H Q _ => ∃ a v, vs = [.ref a, v] ∧ H a = some (exo a C none) ∧ ∀ dx, H dx = none → dx ≠ a → Q .non (upd (upd H dx (exd dx [("at", v)])) a (exo a C (some dx)))
theorem ok_initAt {P : Program} {w : World} {K : PySem.W.Frag} {mg : Str → Option Value} {base : Heap} {x qual : Str} {params : Arguments} {body : List Stmt} {scope : Scope} {f C : Addr} {fd : FuncData} (F : FunD K x qual params body scope [] [] f fd) (Sc : FnScope ["self", "at"] ["self", "at"] scope) (T : OexC K C) (no : PySem.W.findIn K (.ref C) "at" = some none)
    (bd : ∀ (cdv : Value) (A : Around) (outer : List Env) (s : Shared) (H : Hp) (E : XK), PSs (cxOf (L2N.CX P w) P w K mg base ["self", "at"] qual scope f cdv A outer s H E) body (tOst K "at" (tVar 0) (tVar 1))) : FnOk P w K mg base (L2N.CX P w) 1 f fd ["self", "at"] (spI C) :=
  F.ok Sc (fun vs H Q E ⟨_, _, e, _⟩ => by rw [e]; rfl) fun cdv A outer s H vs Q E hr ⟨a, v, e, ha, q⟩ =>
    ⟨_, bd cdv A outer s H E, by rw [e]; exact ⟨_, rfl, _, rfl, a, C, rfl, T, no, .inl ⟨ha, fun dx h1 h2 => q dx h1 h2⟩⟩⟩
structure XA (P : Program) (w : World) (K : PySem.W.Frag) (mg : Str → Option Value) (base : Heap) (x : Str) : Prop where
  g : mg x = some (.ref (He.ga K x))
  t : OexC K (He.ga K x)
  ex : ∃ fI fd, PySem.W.findIn K (.ref (He.ga K x)) "__init__" = some (some (.ref fI)) ∧ PySem.W.typeIn K (.ref fI) = some (.type "function") ∧ FnOk P w K mg base (L2N.CX P w) 1 fI fd ["self", "at"] (spI (He.ga K x)) ∧ Binds K fd ["self", "at"] []
def dRaiseAt (c : Value) (W' : DWX) (te : DE) : DS := fun _ S w => te S w fun d w1 => W' c (some d) S w1
theorem qs_raiseAt {X : Cx} {W : WX} {W' : DWX} {x : Str} {e : Expr} {te : DE} {p pos pos2 : Pos} {j : Nat} (f : XA X.prog X.w X.K X.mg X.base x) (hr : Room j X.A) (tk : L2N.Takes X W) (he : QE X W W' e te) (hj : 2 ≤ j := by first | decide | omega) (hc : X.calm = true := by rfl) (hg : Gl X x := by rfl) (hdb : (x == ("__debug__" : Str)) = false := by decide)
    (st : starEach [e] X.env = (false, eval e X.env) :: starEach [] X.env := by rfl) : QS X W W' (.Raise (some (.Call (.Name x p) [e] [] pos)) none pos2) (dRaiseAt (cls X.K x) W' te) := by
  obtain ⟨fI, fd, hi, ht, F, bd⟩ := f.ex
  refine PS.imp (L2N.ps_raise hc tk (makes_ctx (k := 1) f.t hi ht F (hr.mono hj) bd (fun _ _ _ _ _ _ _ z => by obtain ⟨_, _, _, _, _, _, _, _, _, _, _, _, z⟩ := z; exact z.elim) hg f.g (pa_cons he pa_nil st) hdb st rfl)) ?_
  rintro D σ H ⟨P, w, S, D', rh, sl, h, hd, hx⟩
  refine ⟨P, w, S, _, rh, sl, h, fun d w1 h1 v H1 P1 g1 r1 => ⟨(show 1 ≤ 1000 by decide), fun a ha => ?_⟩, hx⟩
  refine ⟨a, v, rfl, upd_same, fun dx h2 h3 => ⟨rfl, dx, [("at", v)], upd_same, by rw [upd_ne h3, upd_same], by rwa [upd_ne h3] at h2, ?_⟩⟩
  have h4 : H1 dx = none := by rwa [upd_ne h3] at h2
  have e : upd (del (upd (upd (upd H1 a (exo a (He.ga X.K x) none)) dx (exd dx [("at", v)])) a (exo a (He.ga X.K x) (some dx))) a) dx (.xd [("at", v)]) = upd H1 dx (.xd [("at", v)]) := by
    funext b
    by_cases e1 : b = dx
    · rw [e1, upd_same, upd_same]
    · rw [upd_ne e1, upd_ne e1]
      by_cases e2 : b = a
      · rw [e2, del_same, ha]
      · rw [del_ne e2, upd_ne e2, upd_ne e1, upd_ne e2]
  rw [e]
  have g := g1.rh.newP (o := .xd [("at", v)]) h4
  exact hx _ (some d) S w1 h1 (some dx) σ _ _ (g1.trans g) (sl.mono (g1.trans g).ex) ⟨dx, v, rfl, upd_same, r1.mono g.ex⟩
end TD

set_option maxHeartbeats 2000000
namespace TD
open PySem PySem.Spec PyProof.Rows L2
/-! ### a head that tells more -/
inductive XFa where
  | exC (x : Str)
  | kit (x y : Str) (b : Bool)
  | kiT (x : Str) (T : String) (b : Bool)
  | tup (x : Str) (vs : List He.Dv)
  | oex (x : Str)
  | xf (x f : Str)
  | exCs (xs : List Str)
  | kits (xs ys : List Str)
  | exms (xs : List Str) (y : Str)
def exCb (K : PySem.W.Frag) (x : Str) : Bool := He.eqO (PySem.W.findIn K (.ref (He.ga K x)) "__getattribute__") (some (some (.builtin "BaseException.__getattribute__"))) && (He.eqO (PySem.W.findIn K (.ref (He.ga K x)) "__getattr__") (some none) && (decide (PySem.W.subIn K (.ref (He.ga K x)) (.type "BaseException") = some true) && (PySem.W.hasDictIn K (He.ga K x) &&
      (He.eqO (PySem.W.findIn K (.ref (He.ga K x)) "__class__") (some (some (.builtin "object.__class__"))) && (He.eqO (PySem.W.specialIn K (.builtin "object.__class__") "__get__") (some (some (.builtin "getset_descriptor.__get__"))) && (decide (PySem.W.takesIn K (.builtin "object.__class__") = some true) && decide (PySem.W.mroIn K (He.ga K x) (.type "object") = some true)))))))
def XFa.ok (K : PySem.W.Frag) : XFa → Bool
  | .exC x => He.eqO (PySem.W.findIn K (.ref (He.ga K x)) "__getattribute__") (some (some (.builtin "BaseException.__getattribute__"))) && (He.eqO (PySem.W.findIn K (.ref (He.ga K x)) "__getattr__") (some none) && (decide (PySem.W.subIn K (.ref (He.ga K x)) (.type "BaseException") = some true) && (PySem.W.hasDictIn K (He.ga K x) &&
      (He.eqO (PySem.W.findIn K (.ref (He.ga K x)) "__class__") (some (some (.builtin "object.__class__"))) && (He.eqO (PySem.W.specialIn K (.builtin "object.__class__") "__get__") (some (some (.builtin "getset_descriptor.__get__"))) && (decide (PySem.W.takesIn K (.builtin "object.__class__") = some true) && decide (PySem.W.mroIn K (He.ga K x) (.type "object") = some true)))))))
  | .kit x y b => decide (PySem.W.kitOne K (.ref (He.ga K x)) (.ref (He.ga K y)) = some b)
  | .kiT x T b => decide (PySem.W.kitOne K (.ref (He.ga K x)) (.type T) = some b)
  | .tup x vs => He.tupB K x vs
  | .oex x => oexB K (He.ga K x) && decide (PySem.W.typeIn K (.ref (He.ma K (He.ga K x) "__init__")) = some (.type "function")) && He.eqO (PySem.W.findIn K (.ref (He.ga K x)) "__init__") (some (some (.ref (He.ma K (He.ga K x) "__init__"))))
  | .xf x f => xfB K (He.ga K x) && He.eqO (PySem.W.findIn K (.ref (He.ga K x)) f) (some none)
  | .exCs xs => xs.all fun x => exCb K x
  | .kits xs ys => xs.all fun x => ys.all fun y => decide (PySem.W.kitOne K (.ref (He.ga K x)) (.ref (He.ga K y)) = some (decide (x = y)))
  | .exms xs y => xs.all fun x => decide (PySem.W.exmOne K (.ref (He.ga K x)) (.ref (He.ga K y)) = some true)
theorem ex_oex {K : PySem.W.Frag} {x : Str} (h : (XFa.oex x).ok K = true) : OexC K (He.ga K x) ∧ PySem.W.typeIn K (.ref (He.ma K (He.ga K x) "__init__")) = some (.type "function") ∧ PySem.W.findIn K (.ref (He.ga K x)) "__init__" = some (some (.ref (He.ma K (He.ga K x) "__init__"))) := by
  simp only [XFa.ok, Bool.and_eq_true, decide_eq_true_eq] at h
  exact ⟨oexB_ok h.1.1, h.1.2, He.eqO_ok h.2⟩
theorem ex_xf {K : PySem.W.Frag} {x f : Str} (h : (XFa.xf x f).ok K = true) : XfC K (He.ga K x) ∧ PySem.W.findIn K (.ref (He.ga K x)) f = some none := by
  simp only [XFa.ok, Bool.and_eq_true] at h
  exact ⟨xfB_ok h.1, He.eqO_ok h.2⟩
/-- a tuple of the module's -/
structure GT (K : PySem.W.Frag) (mg : Str → Option Value) (x : Str) (ds : List D) : Prop where
  g : mg x = some (.ref (He.ga K x))
  r : ∀ P, Rep K P (.rot ds) (.ref (He.ga K x))
theorem gt_of {K : PySem.W.Frag} {mg : Str → Option Value} {x : Str} {vs : List He.Dv} {ds : List D} (g : mg x = some (.ref (He.ga K x))) (h : (XFa.tup x vs).ok K = true) (r : ∀ P, RepL K P ds (vs.map (He.Dv.v K))) : GT K mg x ds :=
  ⟨g, fun P => .rot (He.tupB_ok h P) (r P)⟩
theorem qe_gobj {X : Cx} {W : WX} {W' : DWX} {x : Str} {ds : List D} {pos : Pos} (f : GT X.K X.mg x ds) (hg : Gl X x := by rfl) (hd : (x == ("__debug__" : Str)) = false := by decide) : QE X W W' (.Name x pos) (dC (.rot ds)) := qe_glob f.g (v := .ref (He.ga X.K x)) rfl f.r hg hd
theorem ex_C {K : PySem.W.Frag} {x : Str} (h : (XFa.exC x).ok K = true) : ExcC K (He.ga K x) := by
  simp only [XFa.ok, Bool.and_eq_true, decide_eq_true_eq] at h
  obtain ⟨h1, h2, h3, h4, h5, h6, h7, h8⟩ := h
  exact ⟨He.eqO_ok h1, He.eqO_ok h2, h3, h4, He.eqO_ok h5, He.eqO_ok h6, h7, h8⟩
theorem ex_exCs {K : PySem.W.Frag} {xs : List Str} (h : (XFa.exCs xs).ok K = true) : ∀ x ∈ xs, ExcC K (He.ga K x) := fun x hx => ex_C (x := x) (List.all_eq_true.mp h x hx)
theorem ex_kits {K : PySem.W.Frag} {xs ys : List Str} (h : (XFa.kits xs ys).ok K = true) : ∀ x ∈ xs, ∀ y ∈ ys, PySem.W.kitOne K (cls K x) (cls K y) = some (decide (x = y)) := fun x hx y hy => of_decide_eq_true (List.all_eq_true.mp (List.all_eq_true.mp h x hx) y hy)
theorem ex_exms {K : PySem.W.Frag} {xs : List Str} {y : Str} (h : (XFa.exms xs y).ok K = true) : ∀ x ∈ xs, PySem.W.exmOne K (cls K x) (cls K y) = some true := fun x hx => of_decide_eq_true (List.all_eq_true.mp h x hx)
theorem ex_kit {K : PySem.W.Frag} {x y : Str} {b : Bool} (h : (XFa.kit x y b).ok K = true) : PySem.W.kitOne K (cls K x) (cls K y) = some b := of_decide_eq_true h
theorem ex_kiT {K : PySem.W.Frag} {x : Str} {T : String} {b : Bool} (h : (XFa.kiT x T b).ok K = true) : PySem.W.kitOne K (cls K x) (.type T) = some b := of_decide_eq_true h
def obX (sel : (Addr → Option Obj) → List Addr) (fa : List He.Fa) (fn : List He.DefD) (ex : List XFa) (g : Addr → Option Obj) : He.AlD × Bool :=
  let K := He.frG g (sel g)
  (He.obsD fa fn K, ex.all fun e => e.ok K)
def hookX (sel : (Addr → Option Obj) → List Addr) (fa : List He.Fa) (fn : List He.DefD) (ex : List XFa) : PySem.W.Hook where
  α := He.AlD × Bool
  obs := fun s => obX sel fa fn ex s.heap.get?
  val := fun _ => (He.valD fn, true)
  says := fun _ h => ∃ K : PySem.W.Frag, K.In h ∧ He.SaysD fa fn K ∧ (ex.all fun e => e.ok K) = true
  of := fun _ _ e => ⟨_, He.frG_in, congrArg Prod.fst e, congrArg Prod.snd e⟩
  keeps := fun _ _ _ ⟨K, hK, c⟩ k => ⟨K, PySem.W.Frag.In.keeps hK k, c⟩
theorem obX_eq {sel : (Addr → Option Obj) → List Addr} {fa : List He.Fa} {fn : List He.DefD} {ex : List XFa} {g : Addr → Option Obj} {s : Shared} (h : ∀ a, g a = s.heap.get? a) : obX sel fa fn ex g = (hookX sel fa fn ex).obs s := by
  rw [show g = s.heap.get? from funext h] <;> rfl
theorem ex_at {ex : List XFa} {K : PySem.W.Frag} (h : (ex.all fun e => e.ok K) = true) (i : Nat) {e : XFa} (he : ex[i]? = some e := by rfl) : e.ok K = true := List.all_eq_true.mp h e (List.mem_of_getElem? he)
end TD

set_option maxHeartbeats 2000000
namespace TD
open PySem PySem.Spec PyProof.Rows L2
/-! ### text.index, list(range(n)) -/
def sindexD : DRm := fun x ds w Q => match x, ds with
  | .str a, [.str b] => ∃ i rest, Builtin.Str.occurrences a b 0 a.length 1 = i :: rest ∧ Q (.int (i : Nat)) w
  | _, _ => False
theorem tr_sindex {K : PySem.W.Frag} : TrRm K "str" (fun x xs H Q => ∃ a b i rest, x = .str a ∧ xs = [.str b] ∧ Builtin.Str.occurrences a b 0 a.length 1 = i :: rest ∧ Q (.int (i : Nat)) H) sindexD := by
  intro H P w x xs dx ds Q' Q rh rx rs h hq
  unfold sindexD at h
  split at h
  · obtain ⟨i, rest, ho, h⟩ := h
    cases rx
    cases rs with
    | cons r1 r2 =>
      cases r1
      cases r2
      exact ⟨_, _, i, rest, rfl, rfl, ho, hq _ w h _ H P rh.go (.int _)⟩
  · exact h.elim
def dListR (te : DE) : DE := fun S w Q => te S w fun x w1 => match x with
  | .int n => 0 ≤ n ∧ n ≤ 16777216 ∧ Q (.lst ((List.range n.toNat).map fun (i : Nat) => .int i)) w1
  | _ => False
theorem rg_rep {K : PySem.W.Frag} {P : Hp} : ∀ l : List Nat, RepL K P (l.map fun (i : Nat) => D.int i) (l.map fun (i : Nat) => V.int (0 + (i : Nat)))
  | [] => .nil
  | n :: r => .cons (by show Rep K P (.int n) (.int (0 + (n : Int))); rw [Int.zero_add]; exact .int _) (rg_rep r)
theorem qe_listR {X : Cx} {W : WX} {W' : DWX} {e : Expr} {te : DE} {p p2 pos pos2 : Pos} (hm : X.mg "list" = none) (hm2 : X.mg "range" = none) (he : QE X W W' e te) (hc : X.calm = true := by rfl) (hg : Gl X "list" := by rfl) (hg2 : Gl X "range" := by rfl)
    (na : starEach [e] X.env = (false, eval e X.env) :: starEach [] X.env := by rfl) (na2 : starEach [.Call (.Name "range" p2) [e] [] pos2] X.env = (false, eval (.Call (.Name "range" p2) [e] [] pos2) X.env) :: starEach [] X.env := by rfl) :
    QE X W W' (.Call (.Name "list" p) [.Call (.Name "range" p2) [e] [] pos2] [] pos) (dListR te) := PE.imp (pe_listRg hc hg hm (prg_1 hg2 hm2 he na) na2)
  fun σ H Q ⟨P, w, S, Q', rh, sl, h, hq, hx⟩ => ⟨P, w, S, _, rh, sl, h, fun d w1 h1 v H1 P1 g1 r1 => by
    cases r1 with
    | int n =>
      dsimp only at h1
      obtain ⟨h0, h2, h1⟩ := h1
      refine ⟨n, rfl, RgOk.of_le (Int.le_refl 0) h2 (by decide) h0, fun q hq' => ?_⟩
      have g := g1.rh.newP (o := .lst (rgV 0 n)) hq'
      refine hq _ w1 h1 _ _ _ (g1.trans g) (.lst upd_same ?_)
      unfold rgV
      rw [Int.sub_zero]
      exact rg_rep _
    | _ => exact h1.elim, hx⟩
end TD

set_option maxHeartbeats 2000000
namespace TD
open PySem PySem.Spec PyProof.Rows L2
/-! ### list(zip(a, b)) -/
theorem zip_no_len : typeLookup (.type "zip") "__len__" = pure none := by rw [typeLookup_type, builtinLookup_eq_fast]; kernel_rfl
theorem zip_no_hint : typeLookup (.type "zip") "__length_hint__" = pure none := by rw [typeLookup_type, builtinLookup_eq_fast]; kernel_rfl
/-- tuples laid one behind the other -/
inductive LaidT : Hp → List (List V) → List Addr → Hp → Prop
  | nil {H : Hp} : LaidT H [] [] H
  | snoc {H H1 : Hp} {ps : List (List V)} {ts : List Addr} {p : List V} {t : Addr} : LaidT H ps ts H1 → H1 t = none → LaidT H (ps ++ [p]) (ts ++ [t]) (upd H1 t (.tup p))
theorem LaidT.len {H H1 : Hp} {ps : List (List V)} {ts : List Addr} (h : LaidT H ps ts H1) : ps.length = ts.length := by
  induction h with
  | nil => rfl
  | snoc _ _ ih => simp [ih]
theorem LaidT.ex {H H1 : Hp} {ps : List (List V)} {ts : List Addr} (h : LaidT H ps ts H1) : Ex H H1 := by
  induction h with
  | nil => exact Ex.refl _
  | snoc _ n ih => exact ih.trans (Ex.new n)
def pairAt (xs ys : List V) : List (List V) := (xs.zip ys).map fun z => [z.1, z.2]
theorem pairAt_len (xs ys : List V) : (pairAt xs ys).length = min xs.length ys.length := by unfold pairAt; rw [List.length_map, List.length_zip]
section
variable {X : Cx} {pins : List (Addr × Obj)} {σ : L2.St} {A : Around} {R : Result → Shared → Prop} {z TI TO i1 i2 a b S : Addr} {xs ys : List V} {H0 : Hp}
def ZSt (z TI TO i1 i2 a b S : Addr) (i : Nat) (h : Heap) : Prop :=
  IsPair h TI (.ref i1) (.ref i2) ∧ h.IsListIter i1 a i ∧ h.IsListIter i2 b i ∧
  ((IsZip h z TI TO .none ∧ ∃ x y, IsPair h TO x y) ∨ ∃ T f oT, IsZipHeld h z TI TO T f ∧ h.get? T = some oT ∧ T ≠ z ∧ T ≠ i1 ∧ T ≠ i2 ∧ T ≠ S)
theorem upd3 {H : Hp} {S T : Addr} {l l' o : HO} (h : T ≠ S) : upd (upd (upd H S l) T o) S l' = upd (upd H T o) S l' := by
  funext c
  by_cases e : c = S
  · subst e; rw [upd_same, upd_same]
  · rw [upd_ne e, upd_ne e]
    by_cases e2 : c = T
    · subst e2; rw [upd_same, upd_same]
    · rw [upd_ne e2, upd_ne e2, upd_ne e]
theorem lz_loop (D : ZipApart z TI TO i1 i2 a b) (hSf : S ∉ [z, TI, TO, i1, i2]) (hTOS : TO < S) (hSa : S ≠ a) (hSb : S ≠ b) (hh : A.handled = none) (hn : min xs.length ys.length ≤ sizeLine)
    (hR : ∀ (H : Hp) (ts : List Addr) (s' : Shared), LaidT H0 (pairAt xs ys) ts H → H S = none → Inv X pins σ (upd H S (.lst (ts.map V.ref))) s' → R (.ok (.ret .none)) s') :
    ∀ (k i : Nat) (s : Shared) (H : Hp) (ts : List Addr), min xs.length ys.length - i = k → i ≤ min xs.length ys.length → LaidT H0 ((pairAt xs ys).take i) ts H → H S = none → SqL X.K H a xs → SqL X.K H b ys → Inv X pins σ (upd H S (.lst (ts.map V.ref))) s → (∀ c ∈ [z, TI, TO, i1, i2], FpOk X pins H c) → ZSt z TI TO i1 i2 a b S i s.heap →
      codeAny (model X.prog X.w) A (.builtin "list.extend.loop" ⟨[.ref S, .ref z, .none], []⟩) R s := by
  have sub4 : ∀ {c : Addr}, c ∉ [z, TI, TO, i1, i2] → c ≠ z ∧ c ≠ TO ∧ c ≠ i1 ∧ c ≠ i2 := fun {c} h => by
    simp only [List.mem_cons, List.not_mem_nil, or_false, not_or] at h
    exact ⟨h.1, h.2.2.1, h.2.2.2.1, h.2.2.2.2⟩
  have hSz : S ≠ z := (sub4 hSf).1
  have hSi1 : S ≠ i1 := (sub4 hSf).2.2.1
  have hSi2 : S ≠ i2 := (sub4 hSf).2.2.2
  have hSTO : S ≠ TO := (sub4 hSf).2.1
  have hSTI : S ≠ TI := fun e => hSf (by rw [e]; simp)
  have lS : ∀ {H : Hp} {l : HO} {c : Addr} {us : List V}, c ≠ S → SqL X.K H c us → SqL X.K (upd H S l) c us := fun {H l c us} n h => sqL_ex (fun u e => by rw [upd_ne n]; exact e) h
  intro k
  induction k with
  | zero =>
    intro i s H ts hk hi L hS qa qb I hf st
    have hin : i = min xs.length ys.length := by omega
    obtain ⟨its, rv, p1, _⟩ := I.list (lS (Ne.symm hSa) qa)
    obtain ⟨its2, rv2, p2, _⟩ := I.list (lS (Ne.symm hSb) qb)
    have l1 := rv.length
    have l2 := rv2.length
    have hend : its.toArray[i]? = none ∨ its2.toArray[i]? = none := by
      rcases Nat.le_total xs.length ys.length with q | q
      · exact .inl (by simp; omega)
      · exact .inr (by simp; omega)
    have hL : (pairAt xs ys).take i = pairAt xs ys := List.take_of_length_le (by rw [pairAt_len]; omega)
    rw [hL] at L
    have hf' : ∀ c ∈ [z, TI, TO, i1, i2], FpOk X pins (upd H S (.lst (ts.map V.ref))) c := fun c hc => by
      refine ⟨?_, (hf c hc).2⟩
      rw [upd_ne (fun e : c = S => hSf (by rw [← e]; exact hc))]; exact (hf c hc).1
    refine codeAny_builtin F.entry_extend_loop ?_
    rw [Around.under_plainId F.plain_extend_loop _]
    show wpAny _ A.in1 (pyNext (.ref z) >>= _) _ _ s
    obtain ⟨hTI, h1, h2, hz⟩ := st
    refine wpAny_bind ?_
    rcases hz with ⟨hz, x0, y0, hTO⟩ | ⟨T, f, oT, hz, hT, _⟩
    · exact wpAny_pyNext_zip_end hh D hz hTI hTO h1 h2 p1.isList p2.isList hend fun h' hk => wpAny_pure (hR H ts _ L hS (I.turnedL (t' := s.toks) (ch := [z, TI, TO, i1, i2]) (fun c o hb q =>
        hk c o (sub4 hb).1 (sub4 hb).2.1 (sub4 hb).2.2.1 (sub4 hb).2.2.2 q) hf'))
    · exact wpAny_pyNext_zip_end_held hh D hz hT hTI h1 h2 p1.isList p2.isList hend fun h' hk => wpAny_pure (hR H ts _ L hS (I.turnedL (t' := s.toks) (ch := [z, TI, TO, i1, i2]) (fun c o hb q =>
        hk c o (sub4 hb).1 (sub4 hb).2.2.1 (sub4 hb).2.2.2 q) hf'))
  | succ k ih =>
    intro i s H ts hk hi L hS qa qb I hf st
    have hlt : i < min xs.length ys.length := by omega
    obtain ⟨its, rv, p1, _⟩ := I.list (lS (Ne.symm hSa) qa)
    obtain ⟨its2, rv2, p2, _⟩ := I.list (lS (Ne.symm hSb) qb)
    obtain ⟨x, hx⟩ : ∃ x, xs[i]? = some x := ⟨_, List.getElem?_eq_getElem (by omega)⟩
    obtain ⟨y, hy⟩ : ∃ y, ys[i]? = some y := ⟨_, List.getElem?_eq_getElem (by omega)⟩
    obtain ⟨u, hu, ru⟩ := rv.get hx
    obtain ⟨u2, hu2, ru2⟩ := rv2.get hy
    have hf' : ∀ c ∈ [z, TI, TO, i1, i2], FpOk X pins (upd H S (.lst (ts.map V.ref))) c := fun c hc => by
      refine ⟨?_, (hf c hc).2⟩
      rw [upd_ne (fun e : c = S => hSf (by rw [← e]; exact hc))]; exact (hf c hc).1
    have hpair : (pairAt xs ys)[i]? = some [x, y] := by
      unfold pairAt
      rw [List.getElem?_map, show (xs.zip ys)[i]? = some (x, y) from List.getElem?_zip_eq_some.mpr ⟨hx, hy⟩]; rfl
    have hlen : ts.length = i := by
      rw [← L.len, List.length_take, pairAt_len]; omega
    refine codeAny_builtin F.entry_extend_loop ?_
    rw [Around.under_plainId F.plain_extend_loop _]
    show wpAny _ A.in1 (pyNext (.ref z) >>= _) _ _ s
    obtain ⟨hTI, h1, h2, hz⟩ := st
    have hSlt : S < s.heap.objs.size := by
      obtain ⟨_, its3, n, _, _, e⟩ := I.lstM (l := S) upd_same
      exact Heap.lt_size e
    have hzlt : z < s.heap.objs.size := by
      rcases hz with ⟨hz, _⟩ | ⟨T, f, oT, hz, _⟩
      · exact Heap.lt_size hz
      · exact Heap.lt_size hz
    have hi1lt : i1 < s.heap.objs.size := by obtain ⟨o, e, _⟩ := h1; exact Heap.lt_size e
    have hi2lt : i2 < s.heap.objs.size := by obtain ⟨o, e, _⟩ := h2; exact Heap.lt_size e
    -- behind the drawing
    have key : ∀ h' : Heap, h'.IsListIter i1 a (i + 1) → h'.IsListIter i2 b (i + 1) → IsPair h' s.heap.objs.size u u2 → (∀ c o, c ∉ [z, TI, TO, i1, i2] → s.heap.get? c = some o → h'.get? c = some o) → IsPair h' TI (.ref i1) (.ref i2) → (∃ T f oT, IsZipHeld h' z TI TO T f ∧ h'.get? T = some oT ∧ T ≠ z ∧ T ≠ i1 ∧ T ≠ i2 ∧ T ≠ S) →
        wpAny (model X.prog X.w) A.in1 (updateSeq S (·.push (.ref s.heap.objs.size)) >>= fun _ => again (.builtin "list.extend.loop" ⟨[.ref S, .ref z, .none], []⟩))
          (fun fin s' => match fin with | .done f => R (.ok f) s' | .again c' => c'.quiet = true ∧ codeAny (model X.prog X.w) A c' R s') (fun e s' => R (.error e) s') { s with heap := h' } := by
      intro h' h1' h2' hp hk hTI' hz'
      have new : ObjOk X.prog X.w (upd (upd H S (.lst (ts.map V.ref))) s.heap.objs.size (.tup [x, y])) h' s.heap.objs.size (.tup [x, y]) :=
        ⟨by show 2 ≤ sizeLine; decide, [u, u2], .cons ru (.cons ru2 .nil), ⟨_, hp, rfl, _, rfl⟩⟩
      have I1 : Inv X pins σ (upd (upd H S (.lst (ts.map V.ref))) s.heap.objs.size (.tup [x, y])) { s with heap := h' } :=
        I.turnedNew (t' := s.toks) (ch := [z, TI, TO, i1, i2]) hk hf' (Nat.le_refl _) new
      have hTS : s.heap.objs.size ≠ S := Nat.ne_of_gt hSlt
      have hHS : (upd (upd H S (.lst (ts.map V.ref))) s.heap.objs.size (.tup [x, y])) S = some (.lst (ts.map V.ref)) := by rw [upd_ne (Ne.symm hTS), upd_same]
      have hHT : H s.heap.objs.size = none := by
        have q := I.hok.fresh (Nat.le_refl s.heap.objs.size)
        rwa [upd_ne hTS] at q
      obtain ⟨_, its3, n, r3, hl3, e3⟩ := I1.lstM hHS
      have hl3' : its3.length = i := by rw [← hl3, List.length_map]; exact hlen
      have I2 := I1.lset (t' := s.toks) (its' := its3 ++ [.ref s.heap.objs.size]) (f := (·.push (.ref s.heap.objs.size))) (ys := (ts ++ [s.heap.objs.size]).map V.ref) hHS e3 (by simp) (by rw [List.map_append]; exact r3.append (.cons rfl .nil)) (by rw [List.length_map, List.length_append, hlen]; show i + 1 ≤ _; omega)
      rw [upd3 hTS] at I2
      have up : ∀ c o, c ≠ S → h'.get? c = some o → (h'.update S (Obj.mapSeq (·.push (.ref s.heap.objs.size)))).get? c = some o := fun c o hc e => (Heap.get?_update_other _ _ (Ne.symm hc)).trans e
      refine wpAny_bind (wpAny_updateSeq e3 rfl (wpAny_pure ⟨plainId_quiet F.plain_extend_loop _, ?_⟩) (by rw [List.size_toArray]; omega) (by show (its3.toArray.push _).size ≤ _; rw [Array.size_push, List.size_toArray]; omega))
      have L2 : LaidT H0 ((pairAt xs ys).take (i + 1)) (ts ++ [s.heap.objs.size]) (upd H s.heap.objs.size (.tup [x, y])) := by
        rw [List.take_add_one, hpair]
        exact .snoc L hHT
      refine ih (i + 1) _ (upd H s.heap.objs.size (.tup [x, y])) (ts ++ [s.heap.objs.size]) (by omega) (by omega) L2 (by rw [upd_ne (Ne.symm hTS)]; exact hS) (sqL_ex (fun v e => by rw [upd_ne (ne_of_none e hHT)]; exact e) qa) (sqL_ex (fun v e => by rw [upd_ne (ne_of_none e hHT)]; exact e) qb) I2 (fun c hc => ?_) ⟨up _ _ (Ne.symm hSTI) hTI', ?_, ?_, .inr ?_⟩
      · refine ⟨?_, (hf c hc).2⟩
        have hcl : c < s.heap.objs.size := by
          have e' : c = z ∨ c = TI ∨ c = TO ∨ c = i1 ∨ c = i2 := by simpa using hc
          rcases e' with q | q | q | q | q
          · rw [q]; exact hzlt
          · rw [q]; exact Heap.lt_size hTI
          · rw [q]; exact Nat.lt_trans hTOS hSlt
          · rw [q]; exact hi1lt
          · rw [q]; exact hi2lt
        rw [upd_ne (Nat.ne_of_lt hcl)]; exact (hf c hc).1
      · exact h1'.at fun o e => up _ o (Ne.symm hSi1) e
      · exact h2'.at fun o e => up _ o (Ne.symm hSi2) e
      · obtain ⟨T, f, oT, g1, g2, g3, g4, g5, g6⟩ := hz'
        exact ⟨T, f, oT, up _ _ (Ne.symm hSz) g1, up _ _ g6 g2, g3, g4, g5, g6⟩
    refine wpAny_bind ?_
    rcases hz with ⟨hz, x0, y0, hTO⟩ | ⟨T, f, oT, hz, hT, t1, t2, t3, t4⟩
    · refine wpAny_pyNext_zip_item D hz hTI hTO h1 h2 p1.isList p2.isList (x := u) (y := u2) (by simpa using hu) (by simpa using hu2) fun h' z' TO' h1' h2' hT hsz hk => ?_
      exact key h' h1' h2' hT (fun c o hb q => hk c o (sub4 hb).1 (sub4 hb).2.1 (sub4 hb).2.2.1 (sub4 hb).2.2.2 q) (hk _ _ D.TIz D.TITO D.TIi1 D.TIi2 hTI) ⟨_, _, _, z', hT, Nat.ne_of_gt hzlt, Nat.ne_of_gt hi1lt, Nat.ne_of_gt hi2lt, Nat.ne_of_gt hSlt⟩
    · refine wpAny_pyNext_zip_item_held D hz hT hTI h1 h2 p1.isList p2.isList (x := u) (y := u2) (by simpa using hu) (by simpa using hu2) fun h' z' h1' h2' hT' hsz hk => ?_
      exact key h' h1' h2' hT' (fun c o hb q => hk c o (sub4 hb).1 (sub4 hb).2.2.1 (sub4 hb).2.2.2 q) (hk _ _ D.TIz D.TIi1 D.TIi2 hTI) ⟨T, true, oT, z', hk _ _ t1 t2 t3 hT, t1, t2, t3, t4⟩
theorem call_list_zip {s : Shared} {H : Hp} {Q' : Value → Shared → Prop} {E : Value → Shared → Prop} (I : Inv X pins σ H s) (hc : X.calm = true) (D : ZipApart z TI TO i1 i2 a b) (hn : min xs.length ys.length ≤ sizeLine) (qa : SqL X.K H a xs) (qb : SqL X.K H b ys)
    (hf : ∀ c ∈ [z, TI, TO, i1, i2], FpOk X pins H c) (hz : IsZip s.heap z TI TO .none) (hTI : IsPair s.heap TI (.ref i1) (.ref i2)) {x0 y0 : Value} (hTO : IsPair s.heap TO x0 y0) (h1 : s.heap.IsListIter i1 a 0) (h2 : s.heap.IsListIter i2 b 0)
    (hQ : ∀ (H1 : Hp) (ts : List Addr) (S : Addr) (s' : Shared), LaidT H (pairAt xs ys) ts H1 → H1 S = none → Inv X pins σ (upd H1 S (.lst (ts.map V.ref))) s' → Q' (.ref S) s') :
    wpAny (model X.prog X.w) X.A (call (.type "list") [.ref z]) Q' E s := by
  have zl : z < s.heap.objs.size := Heap.lt_size hz
  have hSa : s.heap.objs.size ≠ z := Nat.ne_of_gt zl
  obtain ⟨its, rv, p1, _⟩ := I.list qa
  obtain ⟨its2, rv2, p2, _⟩ := I.list qb
  have la : a < s.heap.objs.size := p1.lt
  have lb : b < s.heap.objs.size := p2.lt
  have li1 : i1 < s.heap.objs.size := by obtain ⟨o, e, _⟩ := h1; exact Heap.lt_size e
  have li2 : i2 < s.heap.objs.size := by obtain ⟨o, e, _⟩ := h2; exact Heap.lt_size e
  refine callType_codes (Q₁ := fun obj s₁ => obj = .ref s.heap.objs.size ∧ s₁ = { s with heap := s.heap.push { cls := .type "list", data := .seq #[] } }) F.called_list (F.typeCall_list_1 _) F.entry_list_init
    (code_list_new _ ⟨rfl, rfl⟩) fun obj s₁ h₁ => ?_
  obtain ⟨rfl, rfl⟩ := h₁
  have hS : (s.heap.push { cls := .type "list", data := .seq #[] }).get? s.heap.objs.size = some { cls := .type "list", data := .seq #[] } := Heap.get?_push_size _ rfl
  refine ⟨⟨_, hS, rfl⟩, F.args_list_init_2 _ _, ?_⟩
  show wpAny _ X.A.in1.in1 (do let old ← Builtin.List.listItems (.ref s.heap.objs.size); Builtin.List.listUpdate (.ref s.heap.objs.size) (fun _ => #[]); letGo old.toList.reverse; Builtin.List.listExtendWith (.ref s.heap.objs.size) (.ref z) .none) _ _ _
  refine wpAny_bind ?_
  unfold Builtin.List.listItems
  refine wpAny_bind (wpAny_seqItems hS rfl (wpAny_pure ?_))
  show wpAny _ X.A.in1.in1 (updateSeq s.heap.objs.size (fun _ => #[]) >>= fun _ => letGo (#[] : Array Value).toList.reverse >>= fun _ => Builtin.List.listExtendWith (.ref s.heap.objs.size) (.ref z) .none) _ _ _
  refine wpAny_bind (wpAny_updateSeq hS rfl ?_)
  have hS2 := Heap.get?_update_self (Obj.mapSeq (fun _ => (#[] : Array Value))) hS rfl
  refine wpAny_bind (wpAny_letGo ?_)
  unfold Builtin.List.listExtendWith
  have up : ∀ (h : Heap) (f : Obj → Obj), (∀ b o, s.heap.get? b = some o → h.get? b = some o) → ∀ b o, s.heap.get? b = some o → (h.update s.heap.objs.size f).get? b = some o := fun h f q b o e =>
    (Heap.get?_update_other _ _ (Ne.symm (Nat.ne_of_lt (Heap.lt_size e)))).trans (q b o e)
  have k1 : ∀ b o, s.heap.get? b = some o → (s.heap.push { cls := .type "list", data := .seq #[] }).get? b = some o := fun b o e => Heap.get?_push_of_some _ e
  have k2 := up _ (Obj.mapSeq (fun _ => (#[] : Array Value))) k1
  have zty : ∀ {h : Heap}, (∀ b o, s.heap.get? b = some o → h.get? b = some o) → ({ s with heap := h } : Shared).TypeIs (.ref z) "zip" := fun {h} q => ⟨_, q _ _ hz, rfl⟩
  refine wpAny_bind (wpAny_typeOf (zty k2) ?_)
  have g1 : Builtin.List.listSameRef (.ref s.heap.objs.size) (.ref z) = false := by simp [Builtin.List.listSameRef, hSa]
  have g2 : (Value.type "zip" == Value.type "list") = false := by decide
  have g3 : (Value.type "zip" == Value.type "tuple") = false := by decide
  simp only [g1, g2, g3, Bool.or_false, Bool.false_eq_true, if_false]
  refine wpAny_bind (wpAny_pyIter_zip (s := { s with heap := _ }) (k2 _ _ hz) ?_)
  refine wpAny_bind (wpAny_holding ?_)
  unfold Builtin.List.listLengthHint
  refine wpAny_bind (wpAny_specialOf (zty k2) zip_no_len ?_)
  show wpAny _ X.A.in1.in1 (specialOf (Value.ref z) (Str.ofString "__length_hint__") >>= _) _ _ _
  refine wpAny_bind (wpAny_specialOf (zty k2) zip_no_hint ?_)
  refine wpAny_pure ?_
  show wpAny _ X.A.in1.in1 (rule "list.extend.makes-room" >>= fun _ => Builtin.List.listTouch (.ref s.heap.objs.size) >>= fun _ =>
    again (.builtin "list.extend.loop" ⟨[.ref s.heap.objs.size, .ref z, .none], []⟩)) _ _ _
  refine wpAny_bind (wpAny_rule ?_)
  refine wpAny_bind ?_
  show wpAny _ X.A.in1.in1 (updateSeq s.heap.objs.size (·.push .none) >>= fun _ => updateSeq s.heap.objs.size (·.pop)) _ _ _
  refine wpAny_bind (wpAny_updateSeq hS2 rfl ?_)
  have hS3 := Heap.get?_update_self (Obj.mapSeq (·.push Value.none)) hS2 rfl
  refine wpAny_updateSeq (hz := by seq_fits) hS3 rfl ?_
  have hS4 := Heap.get?_update_self (Obj.mapSeq (·.pop)) hS3 rfl
  have k4 := up _ (Obj.mapSeq (·.pop)) (up _ (Obj.mapSeq (·.push Value.none)) k2)
  refine wpAny_pure ⟨plainId_quiet F.plain_extend_loop _, ?_⟩
  have I4 := I.laid (t' := s.toks) (a := s.heap.objs.size) (o := .lst []) k4 (Nat.le_refl _) ⟨Nat.zero_le _, [], _, .nil, hS4⟩
  exact lz_loop (A := X.A.in1) (S := s.heap.objs.size) (H0 := H) D (by
      intro hm
      have e' : s.heap.objs.size = z ∨ s.heap.objs.size = TI ∨ s.heap.objs.size = TO ∨ s.heap.objs.size = i1 ∨ s.heap.objs.size = i2 := by simpa using hm
      rcases e' with q | q | q | q | q
      · exact hSa q
      · exact absurd (Heap.lt_size hTI) (by rw [← q]; exact Nat.lt_irrefl _)
      · exact absurd (Heap.lt_size hTO) (by rw [← q]; exact Nat.lt_irrefl _)
      · exact absurd li1 (by rw [← q]; exact Nat.lt_irrefl _)
      · exact absurd li2 (by rw [← q]; exact Nat.lt_irrefl _)) (Heap.lt_size hTO) (Nat.ne_of_gt la) (Nat.ne_of_gt lb) (I.ok.hd hc) hn
    (fun H1 ts s' L hS I' => ⟨rfl, hQ H1 ts _ s' L hS I'⟩) _ 0 _ H [] rfl (Nat.zero_le _) .nil (I.hok.fresh (Nat.le_refl _)) qa qb I4 hf ⟨k4 _ _ hTI, h1.at fun o e => k4 _ o e, h2.at fun o e => k4 _ o e, .inl ⟨k4 _ _ hz, _, _, k4 _ _ hTO⟩⟩
/-- list(zip(e, e2)) -/
def tLZ (K : PySem.W.Frag) (ta : TA) : TE := fun σ H Q => ta σ H fun vs H1 => ∃ a b xs ys, vs = [.ref a, .ref b] ∧ SqL K H1 a xs ∧ SqL K H1 b ys ∧ min xs.length ys.length ≤ sizeLine ∧ ∀ ts H2 S, LaidT H1 (pairAt xs ys) ts H2 → H2 S = none → Q (.ref S) (upd H2 S (.lst (ts.map V.ref)))
theorem pe_listZip {e e2 : Expr} {ta : TA} {p p2 pos pos2 : Pos} (hc : X.calm = true) (hg : Gl X "list") (hm : X.mg "list" = none) (hg2 : Gl X "zip") (hm2 : X.mg "zip" = none) (ha : PA X [e, e2] ta)
    (hs : starEach [e, e2] X.env = (false, eval e X.env) :: starEach [e2] X.env := by rfl) (hpl : (backTo pos2 (starEach [e2] X.env)).any (·.1) = false := by rfl)
    (na : starEach [.Call (.Name "zip" p2) [e, e2] [] pos2] X.env = (false, eval (.Call (.Name "zip" p2) [e, e2] [] pos2) X.env) :: starEach [] X.env := by rfl) :
    PE X (.Call (.Name "list" p) [.Call (.Name "zip" p2) [e, e2] [] pos2] [] pos) (tLZ X.K ta) := by
  refine ⟨fun pins s σ H Q I h => ?_⟩
  refine Call_ (ld_blt I hg hm boot_list (PyProof.Rows.callWith_type1 (args_cons (thn (Q := fun x s1 => ∃ (z : Addr), x = .ref z ∧ wpAny (model X.prog X.w) X.A (call (.type "list") [.ref z]) (EP X pins σ Q) X.xe s1) ?_ fun x s1 ⟨z, ex, h1⟩ => args_nil ?_) na) na))
  · refine Call_ (ld_blt I hg2 hm2 PyProof.Rows.boot_zip (PyProof.Rows.callWith_type1 (thn (ha.run pos2 pins s σ H _ I h) fun us s1 ⟨vs, H1, I1, r1, q1⟩ => ?_) hs hpl))
    obtain ⟨a, b, xs, ys, ex, hqx, hqy, hn, q⟩ := q1
    subst ex
    cases r1 with
    | cons r rr =>
      cases rr with
      | cons r' rr =>
        cases rr
        cases r
        cases r'
        obtain ⟨its, rv, p1, _⟩ := I1.list hqx
        obtain ⟨its2, rv2, p2, _⟩ := I1.list hqy
        have la : a < s1.heap.objs.size := p1.lt
        have lb : b < s1.heap.objs.size := p2.lt
        refine call_zip_2 p1.isList p2.isList fun h' hz hTI hTO h1 h2 hsz hk => ⟨_, rfl, ?_⟩
        have I2 : Inv X pins σ H1 { s1 with heap := h' } := I1.kept (t' := s1.toks) hk
        refine call_list_zip I2 hc (PySem.W.ktu_apart s1.heap.objs.size a b la lb) hn hqx hqy (fun c hcm => ?_) hz hTI hTO h1 h2 fun H2 ts S s' L hS I' => ⟨.ref S, _, I', rfl, q ts H2 S L hS⟩
        have e' : c = s1.heap.objs.size + 4 ∨ c = s1.heap.objs.size + 2 ∨ c = s1.heap.objs.size + 3 ∨ c = s1.heap.objs.size ∨ c = s1.heap.objs.size + 1 := by simpa using hcm
        have hle : s1.heap.objs.size ≤ c := by
          rcases e' with z | z | z | z | z
          · rw [z]; exact Nat.le_add_right _ _
          · rw [z]; exact Nat.le_add_right _ _
          · rw [z]; exact Nat.le_add_right _ _
          · rw [z]; exact Nat.le_refl _
          · rw [z]; exact Nat.le_add_right _ _
        exact I1.fpOk hle (I1.hok.fresh hle)
  · subst ex; exact h1
end
/-! as trees -/
def dListZ (ta : DA) : DE := fun S w Q => ta S w fun ds w1 => match ds with
  | [d, e] => ∃ xs ys, d = .lst xs ∧ e = .lst ys ∧ xs.length ≤ sizeLine ∧ Q (.lst ((xs.zip ys).map fun z => .tup [z.1, z.2])) w1
  | _ => False
theorem LaidT.go {K : PySem.W.Frag} {H H2 P : Hp} {w : Wd} {ps : List (List V)} {ts : List Addr} (L : LaidT H ps ts H2) (r : RH K H P w) :
    ∃ P2, Go K H P w H2 P2 w ∧ ∀ (ds : List (List D)), ds.length = ps.length → (∀ (i : Nat) (d : List D) (p : List V), ds[i]? = some d → ps[i]? = some p → RepL K P d p) → RepL K P2 (ds.map D.tup) (ts.map V.ref) := by
  induction L with
  | nil => exact ⟨P, r.go, fun ds h _ => by rw [List.length_nil, List.length_eq_zero_iff] at h; rw [h]; exact .nil⟩
  | @snoc H1 ps ts p t L n ih =>
    obtain ⟨P2, g, f⟩ := ih
    have g2 := g.rh.newP (o := .tup p) n
    refine ⟨_, g.trans g2, fun ds hl h => ?_⟩
    rcases List.eq_nil_or_concat ds with rfl | ⟨ds', d, rfl⟩
    · simp at hl
    · have hl' : ds'.length = ps.length := by simpa using hl
      rw [List.concat_eq_append] at h ⊢
      rw [List.map_append, List.map_append]
      refine RepL.append ((f ds' hl' fun i d p h1 h2 => h i d p ?_ ?_).mono g2.ex) (.cons (.tup upd_same ((h ds'.length d p (by simp) (by rw [hl']; simp)).mono (g.trans g2).ex)) .nil)
      · rw [List.getElem?_append_left (List.getElem?_eq_some_iff.mp h1).1]; exact h1
      · rw [List.getElem?_append_left (List.getElem?_eq_some_iff.mp h2).1]; exact h2
theorem qe_listZ {X : Cx} {W : WX} {W' : DWX} {e e2 : Expr} {ta : DA} {p p2 pos pos2 : Pos} (hm : X.mg "list" = none) (hm2 : X.mg "zip" = none) (ha : QA X W W' [e, e2] ta) (hc : X.calm = true := by rfl) (hg : Gl X "list" := by rfl) (hg2 : Gl X "zip" := by rfl)
    (hs : starEach [e, e2] X.env = (false, eval e X.env) :: starEach [e2] X.env := by rfl) (hpl : (backTo pos2 (starEach [e2] X.env)).any (·.1) = false := by rfl)
    (na : starEach [.Call (.Name "zip" p2) [e, e2] [] pos2] X.env = (false, eval (.Call (.Name "zip" p2) [e, e2] [] pos2) X.env) :: starEach [] X.env := by rfl) :
    QE X W W' (.Call (.Name "list" p) [.Call (.Name "zip" p2) [e, e2] [] pos2] [] pos) (dListZ ta) := PE.imp (pe_listZip hc hg hm hg2 hm2 ha hs hpl na)
  fun σ H Q ⟨P, w, S, Q', rh, sl, h, hq, hx⟩ => ⟨P, w, S, _, rh, sl, h, fun ds w1 h1 vs H1 P1 g1 r1 => by
    match ds, h1 with
    | [d, e], ⟨xs, ys, e1, e2, hl, h1⟩ =>
      subst e1 e2
      cases r1 with
      | cons ra r1 =>
        cases r1 with
        | cons rb r1 =>
          cases r1
          cases ra with
          | lst pa rpa =>
            cases rb with
            | lst pb rpb =>
              rename_i a va b vb
              refine ⟨a, b, va, vb, rfl, .inl (.inl (g1.rh.per _ _ pa)), .inl (.inl (g1.rh.per _ _ pb)), by rw [rpa.length]; omega, fun ts H2 S L hS => ?_⟩
              obtain ⟨P2, g2, f⟩ := L.go g1.rh
              have g3 := g2.rh.newP (o := .lst (ts.map V.ref)) hS
              refine hq _ w1 h1 _ _ _ ((g1.trans g2).trans g3) (.lst upd_same (RepL.mono g3.ex ?_))
              have q := f ((xs.zip ys).map fun z => [z.1, z.2]) (by unfold pairAt; simp [rpa.length, rpb.length]) (fun i d p h1 h2 => ?_)
              · rw [List.map_map] at q; exact q
              · unfold pairAt at h2
                rw [List.getElem?_map] at h1 h2
                cases z1 : (xs.zip ys)[i]? with
                | none => rw [z1] at h1; cases h1
                | some q1 =>
                  cases z2 : (va.zip vb)[i]? with
                  | none => rw [z2] at h2; cases h2
                  | some q2 =>
                    rw [z1] at h1
                    rw [z2] at h2
                    cases h1
                    cases h2
                    obtain ⟨u1, u2⟩ := List.getElem?_zip_eq_some.mp z1
                    obtain ⟨v1, v2⟩ := List.getElem?_zip_eq_some.mp z2
                    obtain ⟨w1, e1, r1⟩ := rpa.get u1
                    obtain ⟨w2, e2, r2⟩ := rpb.get u2
                    rw [v1] at e1
                    rw [v2] at e2
                    cases e1
                    cases e2
                    exact .cons r1 (.cons r2 .nil), hx⟩
end TD

set_option maxHeartbeats 2000000
namespace TD
open PySem PySem.Spec PyProof.Rows L2
local macro_rules | `(tactic| walk_at "td") => `(tactic| simp only [dSeq, dIf, dB, dOp, dUn, dCB, dVar, dC, dRet, dRetN, dNext, dDrop, dAsg, dAnd, dOr, dNot, dAndV, dOrV, dNotV, dIfE, dChain, dCons, dNil, dTup, dLst, dLstO, dCall, dSl, dPart, dNoPart, dBM, dBM0, dAug, dAsgG, dgName, dgTup, setAll, dCont, dBreak,
  addD_ii, addD_ss, addD_tt, addD_ll, subD_ii, mulD_ii, mulD_li, fdivD_ii, modD_ii, powD_ii, negD_i, ltD_ii, leD_ii, gtD_ii, geD_ii, eqD_ii, eqD_ss, eqD_bb, eqD_nn, eqD_ni, eqD_in, isN_x, isNon_non, isNon_int, isNon_str, isNon_bl, isNon_lst, isNon_tup, isNon_ref, lenD_l, lenD_r, lenD_t, lenD_s, slD_l, slD_t, slD_s, listD_l, listD_r, listD_t, listD_lO, listD_tO, tupleD_l, tupleD_t, sumD_l, allD_l, maxD_ii, minD_ii, absD_i, atSeq_l, atSeq_r, wipeD, dTy_put, app_put, true_and, and_true, dFrz, put_same, Option.bind_some, frzD_lst,
  startD, List.map_cons, List.map_nil, List.cons_append, List.nil_append, List.length_cons, List.length_nil, List.getElem?_cons_zero, List.getElem?_cons_succ, List.set_cons_zero, List.set_cons_succ, List.replicate_succ, List.replicate_zero, List.append_nil, Nat.reduceAdd, Nat.reduceSub, Int.reduceToNat, decide_eq_true_eq, Bool.false_bne, Bool.true_bne, Bool.not_eq_true', Bool.not_eq_true, decide_eq_false_iff_not, Bool.false_eq_true, if_true, if_false, ite_true, ite_false, reduceIte])
/-! ### the script's cells -/
def cellM (ns : List Int) (i : Int) : Int :=
  if i < ns.length then ns.getD i.toNat 0 else if ns.length = 0 then 29 * i + 5 else ns.getD (i % ns.length).toNat 0 % 1000003 + 103 * i
def sp__law_cell : DSp := fun ds w Q _ => ∃ (ns : List Int) (i : Int), ds = [.rol (ns.map D.int), .int i] ∧ 0 ≤ i ∧ i < 2 ^ 60 ∧ Q (.int (cellM ns i)) w
def t__law_cell (E : DX) : DS :=
  let W' : DWX := fun c d _ w => E c d w
  (dSeq (dIf (dB (dOp ltD (dVar 1) (dCB lenD (dCons (dVar 0) dNil)))) (dRet (dOp ixD (dVar 0) (dVar 1))) dNext) (dSeq (dIf (dB (dOp (eqD false) (dCB lenD (dCons (dVar 0) dNil)) (dC (.int 0)))) (dRet (dOp addD (dOp mulD (dC (.int 29)) (dVar 1)) (dC (.int 5)))) dNext) (dRet (dOp addD (dOp modD (dOp ixD (dVar 0) (dOp modD (dVar 1) (dCB lenD (dCons (dVar 0) dNil)))) (dC (.int 1000003))) (dOp mulD (dC (.int 103)) (dVar 1))))))
theorem red__law_cell : ∀ ds w Q E, sp__law_cell ds w Q E → t__law_cell E { nx := fun _ w1 => Q .non w1, rt := Q } (startD ["_law_script", "_law_at"] ds) w := by
  rintro ds w Q E ⟨ns, i, rfl, h0, h1, q⟩
  unfold t__law_cell
  walk_at "td"
  rw [pos_ints_len]
  unfold cellM at q
  split
  · rename_i hi
    rw [if_pos hi] at q
    rw [ixD_r (atI_ints h0 hi)]
    exact q
  · rename_i hi
    rw [if_neg hi] at q
    split
    · rename_i hl
      rw [if_pos (by omega)] at q
      exact ⟨.inl ⟨by decide, by decide⟩, q⟩
    · rename_i hl
      rw [if_neg (by omega)] at q
      have hp : (0 : Int) < ns.length := by omega
      refine ⟨hp, ?_⟩
      have m0 : 0 ≤ i % (ns.length : Int) := Int.emod_nonneg i (by omega)
      have m1 : i % (ns.length : Int) < ns.length := Int.emod_lt_of_pos i hp
      rw [ixD_r (atI_ints m0 m1), modD_ii]
      exact ⟨by decide, .inl ⟨by decide, by decide⟩, q⟩
/-! ### rows of numbers -/
def digM (size : Int) : Nat → Int → List Int
  | 0, _ => []
  | n + 1, r => r % size :: digM size n (r / size)
def seedM (k : Nat) (s : Int) : Int := (s * 48271 + 12345 + k) % 2147483647
def mixM (s : Int) : Int := s * (s % 65521 + 3) / 1009 % 1000003
def lcgM (size : Int) : Nat → Nat → Int → List Int
  | 0, _, _ => []
  | n + 1, k, s => mixM (seedM k s) % size :: lcgM size n (k + 1) (seedM k s)
def rowM (c : Int) (many : Nat) (size : Int) : List Int := if 10 ^ 18 ≤ c then digM size many (c - 10 ^ 18) else lcgM size many 0 (c % 2147483647)
theorem digM_ok {size : Int} (h : 0 < size) : ∀ (n : Nat) (r : Int), (digM size n r).length = n ∧ ∀ x ∈ digM size n r, 0 ≤ x ∧ x < size
  | 0, _ => ⟨rfl, fun _ z => nomatch z⟩
  | n + 1, r => by
    obtain ⟨h1, h2⟩ := digM_ok h n (r / size)
    refine ⟨by show (digM size n (r / size)).length + 1 = _; rw [h1], fun x hx => ?_⟩
    rcases List.mem_cons.mp hx with e | e
    · rw [e]; exact ⟨Int.emod_nonneg _ (by omega), Int.emod_lt_of_pos _ h⟩
    · exact h2 x e
theorem lcgM_ok {size : Int} (h : 0 < size) : ∀ (n k : Nat) (s : Int), (lcgM size n k s).length = n ∧ ∀ x ∈ lcgM size n k s, 0 ≤ x ∧ x < size
  | 0, _, _ => ⟨rfl, fun _ z => nomatch z⟩
  | n + 1, k, s => by
    obtain ⟨h1, h2⟩ := lcgM_ok h n (k + 1) (seedM k s)
    refine ⟨by show (lcgM size n (k + 1) (seedM k s)).length + 1 = _; rw [h1], fun x hx => ?_⟩
    rcases List.mem_cons.mp hx with e | e
    · rw [e]; exact ⟨Int.emod_nonneg _ (by omega), Int.emod_lt_of_pos _ h⟩
    · exact h2 x e
theorem rowM_len {c : Int} {many : Nat} {size : Int} (h : 0 < size) : (rowM c many size).length = many := by
  unfold rowM; split
  · exact (digM_ok h _ _).1
  · exact (lcgM_ok h _ _ _).1
theorem rowM_mem {c : Int} {many : Nat} {size : Int} (h : 0 < size) : ∀ x ∈ rowM c many size, 0 ≤ x ∧ x < size := by
  unfold rowM; split
  · exact (digM_ok h _ _).2
  · exact (lcgM_ok h _ _ _).2
theorem rowM_at {c : Int} {many : Nat} {size : Int} (h : 0 < size) {i : Nat} (hi : i < many) : 0 ≤ (rowM c many size).getD i 0 ∧ (rowM c many size).getD i 0 < size := by
  have hl : i < (rowM c many size).length := by rw [rowM_len h]; exact hi
  rw [List.getD_eq_getElem?_getD, List.getElem?_eq_getElem hl]
  exact rowM_mem h _ (List.getElem_mem hl)
def sp__law_row : DSp := fun ds w Q _ => ∃ (c : Int) (many : Nat) (size : Int), ds = [.int c, .int many, .int size] ∧ many ≤ 1000 ∧ 0 < size ∧ size < 1000000 ∧ Q (.lst ((rowM c many size).map D.int)) w
def t__law_row (E : DX) : DS :=
  let W' : DWX := fun c d _ w => E c d w
  (dSeq (dAsg (dLstO dNil) 3) (dSeq (dIf (dB (dOp geD (dVar 0) (dOp powD (dC (.int 10)) (dC (.int 18))))) (dSeq (dAsg (dOp subD (dVar 0) (dOp powD (dC (.int 10)) (dC (.int 18)))) 6) (dSeq (dFor (diR1 (dCons (dVar 1) dNil)) (dgName 5) (dSeq (dDrop (dBM "list" appD (dVar 3) (dCons (dOp modD (dVar 6) (dVar 2)) dNil))) (dAsg (dOp fdivD (dVar 6) (dVar 2)) 6))) (dFrz 3 (dRet (dVar 3))))) dNext) (dSeq (dAsg (dOp modD (dVar 0) (dC (.int 2147483647))) 4) (dSeq (dFor (diR1 (dCons (dVar 1) dNil)) (dgName 5) (dSeq (dAsg (dOp modD (dOp addD (dOp addD (dOp mulD (dVar 4) (dC (.int 48271))) (dC (.int 12345))) (dVar 5)) (dC (.int 2147483647))) 4) (dSeq (dAsg (dOp modD (dOp fdivD (dOp mulD (dVar 4) (dOp addD (dOp modD (dVar 4) (dC (.int 65521))) (dC (.int 3)))) (dC (.int 1009))) (dC (.int 1000003))) 7) (dDrop (dBM "list" appD (dVar 3) (dCons (dOp modD (dVar 7) (dVar 2)) dNil)))))) (dFrz 3 (dRet (dVar 3)))))))
theorem red__law_row : ∀ ds w Q E, sp__law_row ds w Q E → t__law_row E { nx := fun _ w1 => Q .non w1, rt := Q } (startD ["_law_cell_here", "_law_many", "_law_size", "_law_row_here", "_law_seed", "_law_k", "_law_rest", "_law_mixed"] ds) w := by
  rintro ds w Q E ⟨c, many, size, rfl, hm, hs0, hs1, q⟩
  unfold t__law_row
  walk_at "td"
  refine ⟨by decide, fun p hp => ⟨⟨by decide, by decide, by decide⟩, ?_⟩⟩
  unfold rowM at q
  split
  · rename_i hc
    rw [if_pos hc] at q
    refine ⟨⟨by decide, by decide, by decide⟩, ?_⟩
    refine dFor_r1 (fun i S2 w2 => ∃ (pre : List Int) (rest : Int) (k : Option D), pre.length = i ∧ pre ++ digM size (many - i) rest = digM size many (c - 10 ^ 18) ∧
      S2 = [some (.int c), some (.int many), some (.int size), some (.ref p), none, k, some (.int rest), none] ∧ w2 = put w p (.lst (pre.map D.int))) (n := many) (fun R h => h) (by omega) (by omega) ⟨[], _, none, rfl, rfl, rfl, rfl⟩ ?_ ?_
    · rintro i S2 w2 hi ⟨pre, rest, k, hl, he, rfl, rfl⟩
      walk_at "td"
      refine ⟨hs0, smallL (by rw [pos_ints_len]; omega), ⟨hs0, by omega⟩, pre ++ [rest % size], rest / size, _, by simp [hl], ?_, rfl, by simp⟩
      have e : many - i = (many - (i + 1)) + 1 := by omega
      rw [← he, e, List.append_assoc]
      rfl
    · rintro S2 w2 ⟨pre, rest, k, hl, he, rfl, rfl⟩
      walk_at "td"
      rw [rid_put hp]
      have e : many - ((many : Int)).toNat = 0 := by omega
      rw [e] at he
      rw [← he] at q
      simpa [digM] using q
  · rename_i hc
    rw [if_neg hc] at q
    refine ⟨by decide, ?_⟩
    refine dFor_r1 (fun i S2 w2 => ∃ (pre : List Int) (seed : Int) (k m : Option D), 0 ≤ seed ∧ seed < 2147483647 ∧ pre.length = i ∧ pre ++ lcgM size (many - i) i seed = lcgM size many 0 (c % 2147483647) ∧
      S2 = [some (.int c), some (.int many), some (.int size), some (.ref p), some (.int seed), k, none, m] ∧ w2 = put w p (.lst (pre.map D.int))) (n := many) (fun R h => h) (by omega) (by omega) ⟨[], _, none, none, Int.emod_nonneg _ (by decide), Int.emod_lt_of_pos _ (by decide), rfl, rfl, rfl, rfl⟩ ?_ ?_
    · rintro i S2 w2 hi ⟨pre, seed, k, m, s0, s1, hl, he, rfl, rfl⟩
      walk_at "td"
      have a0 : 0 ≤ seedM i seed := Int.emod_nonneg _ (by decide)
      have a1 : seedM i seed < 2147483647 := Int.emod_lt_of_pos _ (by decide)
      have b0 : 0 ≤ seedM i seed % 65521 := Int.emod_nonneg _ (by decide)
      have b1 : seedM i seed % 65521 < 65521 := Int.emod_lt_of_pos _ (by decide)
      refine ⟨.inr ⟨by decide, by decide⟩, by decide, by decide, .inl ⟨by show -(2 ^ 64) < seedM i seed; omega, by show seedM i seed < 2 ^ 64; omega⟩, ⟨by decide, by decide⟩, by decide, hs0, smallL (by rw [pos_ints_len]; omega), ?_⟩
      refine ⟨pre ++ [mixM (seedM i seed) % size], seedM i seed, _, _, a0, a1, by simp [hl], ?_, rfl, by simp [mixM, seedM]⟩
      have e : many - i = (many - (i + 1)) + 1 := by omega
      rw [← he, e, List.append_assoc]
      rfl
    · rintro S2 w2 ⟨pre, seed, k, m, s0, s1, hl, he, rfl, rfl⟩
      walk_at "td"
      rw [rid_put hp]
      have e : many - ((many : Int)).toNat = 0 := by omega
      rw [e] at he
      rw [← he] at q
      simpa [lcgM] using q
/-! ### like -/
section
variable {w : Wd} {Q : DKt} {x y d : D} {xs : List D} {i : Int} {a n : String}
theorem getM_cases (h : getM w x = some xs) : x = .lst xs ∨ ∃ p, x = .ref p ∧ w p = some (.lst xs) := by
  unfold getM at h
  split at h
  · cases h; exact .inl rfl
  · split at h
    · rename_i p _ ys hw; cases h; exact .inr ⟨p, rfl, hw⟩
    · cases h
  · cases h
theorem tyN_m (h : getM w x = some xs) : tyN w x = some "list" := by
  rcases getM_cases h with e | ⟨p, e, hw⟩
  · rw [e]; rfl
  · rw [e]; unfold tyN; simp only [hw]
theorem isNon_m (h : getM w x = some xs) : isNon x = false := by
  rcases getM_cases h with e | ⟨p, e, hw⟩ <;> (rw [e]; rfl)
theorem lenD_m (h : getM w x = some xs) : lenD [x] w Q = Q (.int xs.length) w := by
  rcases getM_cases h with e | ⟨p, e, hw⟩
  · rw [e]; rfl
  · rw [e]; exact lenD_w hw
theorem ixD_m (h : getM w x = some xs) (ha : atI xs i = some d) : ixD x (.int i) w Q = Q d w := by
  rcases getM_cases h with e | ⟨p, e, hw⟩
  · rw [e]; exact ixD_l ha
  · rw [e]; exact ixD_w hw ha
theorem isiD_of (h : tyN w x = some a) (hn : n ∈ tys2) : isiD [x, .ty n] w Q = Q (.bl (subTy a n)) w := by
  unfold isiD; simp only [h, hn, true_and]
end
/-- the same data -/
def likeD (w : Wd) : Nat → D → D → Prop
  | 0, _, _ => False
  | n + 1, x, y => (x = .non ∧ y = .non) ∨ (∃ b, x = .bl b ∧ y = .bl b) ∨ (∃ i, x = .int i ∧ y = .int i) ∨ (∃ s, x = .str s ∧ y = .str s) ∨
    (∃ xs ys, x = .tup xs ∧ y = .tup ys ∧ xs.length = ys.length ∧ ys.length ≤ 100000 ∧ ∀ (i : Nat) d e, xs[i]? = some d → ys[i]? = some e → likeD w n d e) ∨
    ∃ xs ys, getM w x = some xs ∧ getM w y = some ys ∧ xs.length = ys.length ∧ ys.length ≤ 100000 ∧ ∀ (i : Nat) d e, xs[i]? = some d → ys[i]? = some e → likeD w n d e
def sp_like (n : Nat) : DSp := fun ds w Q _ => ∃ x y, ds = [x, y] ∧ likeD w n x y ∧ Q (.bl true) w
theorem like0 {K : PySem.W.Frag} {vs : List V} {H : Hp} {Q : VK} {E : XK} (h : lift K (sp_like 0) vs H Q E) : False := by
  obtain ⟨_, _, _, _, _, _, _, ⟨_, _, _, z, _⟩, _⟩ := h
  exact z
def t__law_like (n : Nat) (E : DX) : DS :=
  let W' : DWX := fun c d _ w => E c d w
  (dSeq (dIf (dB (dOp (isN false) (dVar 1) (dC .non))) (dRet (dOp (isN false) (dVar 0) (dC .non))) dNext) (dSeq (dIf (dB (dCB isiD (dCons (dVar 1) (dCons (dC (.ty "bool")) dNil)))) (dRet (dAndV (dCB isiD (dCons (dVar 0) (dCons (dC (.ty "bool")) dNil))) (dOp (eqD false) (dVar 0) (dVar 1)))) dNext) (dSeq (dIf (dB (dCB isiD (dCons (dVar 1) (dCons (dC (.ty "int")) dNil)))) (dRet (dAndV (dCB isiD (dCons (dVar 0) (dCons (dC (.ty "int")) dNil))) (dAndV (dNotV (dCB isiD (dCons (dVar 0) (dCons (dC (.ty "bool")) dNil)))) (dOp (eqD false) (dVar 0) (dVar 1))))) dNext) (dSeq (dIf (dB (dCB isiD (dCons (dVar 1) (dCons (dC (.ty "str")) dNil)))) (dRet (dAndV (dCB isiD (dCons (dVar 0) (dCons (dC (.ty "str")) dNil))) (dOp (eqD false) (dVar 0) (dVar 1)))) dNext) (dSeq (dIf (dOr (dB (dOp (eqD true) (dCB isiD (dCons (dVar 1) (dCons (dC (.ty "list")) dNil))) (dCB isiD (dCons (dVar 0) (dCons (dC (.ty "list")) dNil))))) (dB (dOp (eqD true) (dCB isiD (dCons (dVar 1) (dCons (dC (.ty "tuple")) dNil))) (dCB isiD (dCons (dVar 0) (dCons (dC (.ty "tuple")) dNil)))))) (dRet (dC (.bl false))) dNext) (dRet (dAndV (dOp (eqD false) (dCB lenD (dCons (dVar 0) dNil)) (dCB lenD (dCons (dVar 1) dNil))) (dCB allD (dCons (dLc (diR1 (dCons (dCB lenD (dCons (dVar 1) dNil)) dNil)) (.one 2) dYes (dCall (sp_like n) DW0 (dCons (dOp ixD (dVar 0) (dVar 2)) (dCons (dOp ixD (dVar 1) (dVar 2)) dNil)))) dNil)))))))))
/-- the last row, where both are rows of one length -/
theorem like_rows {n : Nat} {w : Wd} {x y : D} {xs ys : List D} {Q : DKt} (hlx : ∀ Q : DKt, lenD [x] w Q = Q (.int xs.length) w) (hly : ∀ Q : DKt, lenD [y] w Q = Q (.int ys.length) w) (hix : ∀ (i : Nat) d (Q : DKt), xs[i]? = some d → ixD x (.int i) w Q = Q d w) (hiy : ∀ (i : Nat) d (Q : DKt), ys[i]? = some d → ixD y (.int i) w Q = Q d w)
    (hl : xs.length = ys.length) (hm : ys.length ≤ 100000) (h : ∀ (i : Nat) d e, xs[i]? = some d → ys[i]? = some e → likeD w n d e) (q : Q (.bl true) w) {o : Option D} :
    dCB allD (dCons (dLc (diR1 (dCons (dCB lenD (dCons (dVar 1) dNil)) dNil)) (.one 2) dYes (dCall (sp_like n) DW0 (dCons (dOp ixD (dVar 0) (dVar 2)) (dCons (dOp ixD (dVar 1) (dVar 2)) dNil)))) dNil) [some x, some y, o] w Q := by
  show dLc (diR1 (dCons (dCB lenD (dCons (dVar 1) dNil)) dNil)) (.one 2) dYes (dCall (sp_like n) DW0 (dCons (dOp ixD (dVar 0) (dVar 2)) (dCons (dOp ixD (dVar 1) (dVar 2)) dNil))) [some x, some y, o] w (fun d w1 => allD [d] w1 Q)
  refine dLc_r1 (n := ys.length) (f := fun _ => .bl true) (fun R h => ?_) (by omega) (by omega) (fun i hi => ?_) ?_
  · walk_at "td"
    rw [hly]
    exact h
  · have hiy' : i < ys.length := by omega
    have hix' : i < xs.length := by omega
    walk_at "td"
    rw [hix i _ _ (List.getElem?_eq_getElem hix')]
    rw [hiy i _ _ (List.getElem?_eq_getElem hiy')]
    exact ⟨_, _, rfl, h i _ _ (List.getElem?_eq_getElem hix') (List.getElem?_eq_getElem hiy'), rfl, rfl⟩
  · show allD [.lst _] w Q
    have e : ((List.range ((ys.length : Int)).toNat).map fun _ => D.bl true) = ((List.range ((ys.length : Int)).toNat).map fun _ => true).map D.bl := by rw [List.map_map]; rfl
    rw [e, allD_l]
    have e2 : ((List.range ((ys.length : Int)).toNat).map fun _ => true).all id = true := by simp
    rw [e2]
    exact q
theorem red__law_like (n : Nat) : ∀ ds w Q E, sp_like (n + 1) ds w Q E → t__law_like n E { nx := fun _ w1 => Q .non w1, rt := Q } (startD ["_law_found", "_law_due", "_law_k"] ds) w := by
  rintro ds w Q E ⟨x, y, rfl, h, q⟩
  have z1 : subTy "int" "bool" = false := by decide
  have z2 : subTy "str" "bool" = false := by decide
  have z3 : subTy "str" "int" = false := by decide
  have z4 : subTy "bool" "bool" = true := by decide
  have z5 : subTy "int" "int" = true := by decide
  have z6 : subTy "str" "str" = true := by decide
  have l1 : subTy "list" "bool" = false := by decide
  have l2 : subTy "list" "int" = false := by decide
  have l3 : subTy "list" "str" = false := by decide
  have l4 : subTy "list" "list" = true := by decide
  have l5 : subTy "list" "tuple" = false := by decide
  have t1 : subTy "tuple" "bool" = false := by decide
  have t2 : subTy "tuple" "int" = false := by decide
  have t3 : subTy "tuple" "str" = false := by decide
  have t4 : subTy "tuple" "list" = false := by decide
  have t5 : subTy "tuple" "tuple" = true := by decide
  have m1 : "bool" ∈ tys2 := by decide
  have m2 : "int" ∈ tys2 := by decide
  have m3 : "str" ∈ tys2 := by decide
  have m4 : "list" ∈ tys2 := by decide
  have m5 : "tuple" ∈ tys2 := by decide
  unfold t__law_like
  rcases h with ⟨rfl, rfl⟩ | ⟨b, rfl, rfl⟩ | ⟨i, rfl, rfl⟩ | ⟨s, rfl, rfl⟩ | ⟨xs, ys, rfl, rfl, hl, hm, h⟩ | ⟨xs, ys, hx, hy, hl, hm, h⟩
  · walk_at "td"; exact q
  · have e : tyN w (.bl b) = some "bool" := rfl
    walk_at "td"; simp only [isiD_of e m1, z4]; walk_at "td"; simpa using q
  · have e : tyN w (.int i) = some "int" := rfl
    walk_at "td"; simp only [isiD_of e m1, isiD_of e m2, z1, z5]; walk_at "td"; simpa using q
  · have e : tyN w (.str s) = some "str" := rfl
    walk_at "td"; simp only [isiD_of e m1, isiD_of e m2, isiD_of e m3, z2, z3, z6]; walk_at "td"; simpa using q
  · have ex : tyN w (.tup xs) = some "tuple" := rfl
    have ey : tyN w (.tup ys) = some "tuple" := rfl
    repeat (first | (simp only [isiD_of ex m1, isiD_of ex m2, isiD_of ex m3, isiD_of ex m4, isiD_of ex m5, isiD_of ey m1, isiD_of ey m2, isiD_of ey m3, isiD_of ey m4, isiD_of ey m5, t1, t2, t3, t4, t5, hl]) | walk_at "td")
    have k := like_rows (x := .tup xs) (y := .tup ys) (o := none) (Q := Q) (fun Q => lenD_t) (fun Q => lenD_t) (fun i d Q hd => ixD_t (atI_nat hd)) (fun i d Q hd => ixD_t (atI_nat hd)) hl hm h q
    exact k
  · have ex := tyN_m hx
    have ey := tyN_m hy
    repeat (first | (simp only [isNon_m hy, isiD_of ex m1, isiD_of ex m2, isiD_of ex m3, isiD_of ex m4, isiD_of ex m5, isiD_of ey m1, isiD_of ey m2, isiD_of ey m3, isiD_of ey m4, isiD_of ey m5, l1, l2, l3, l4, l5, lenD_m hx, lenD_m hy, hl]) | walk_at "td")
    have k := like_rows (x := x) (y := y) (o := none) (Q := Q) (fun Q => lenD_m hx) (fun Q => lenD_m hy) (fun i d Q hd => ixD_m hx (atI_nat hd)) (fun i d Q hd => ixD_m hy (atI_nat hd)) hl hm h q
    exact k
end TD

set_option maxHeartbeats 4000000
namespace TD
open PySem PySem.Spec PyProof.Rows L2
theorem like_int {w : Wd} {n : Nat} (i : Int) : likeD w (n + 1) (.int i) (.int i) := .inr (.inr (.inl ⟨i, rfl, rfl⟩))
theorem like_str {w : Wd} {n : Nat} (s : Str) : likeD w (n + 1) (.str s) (.str s) := .inr (.inr (.inr (.inl ⟨s, rfl, rfl⟩)))
theorem like_bl {w : Wd} {n : Nat} (b : Bool) : likeD w (n + 1) (.bl b) (.bl b) := .inr (.inl ⟨b, rfl, rfl⟩)
theorem like_non {w : Wd} {n : Nat} : likeD w (n + 1) .non .non := .inl ⟨rfl, rfl⟩
theorem like_rows2 {w : Wd} {n : Nat} {x y : D} {xs : List D} (hx : getM w x = some xs) (hy : getM w y = some xs) (hl : xs.length ≤ 100000) (h : ∀ d ∈ xs, likeD w n d d) : likeD w (n + 1) x y :=
  .inr (.inr (.inr (.inr (.inr ⟨xs, xs, hx, hy, rfl, hl, fun i d e hd he => by rw [hd] at he; cases he; exact h d (List.mem_of_getElem? hd)⟩))))
theorem like_tup {w : Wd} {n : Nat} {xs ys : List D} (hl : xs.length = ys.length) (hm : ys.length ≤ 100000) (h : ∀ (i : Nat) d e, xs[i]? = some d → ys[i]? = some e → likeD w n d e) : likeD w (n + 1) (.tup xs) (.tup ys) :=
  .inr (.inr (.inr (.inr (.inl ⟨xs, ys, rfl, rfl, hl, hm, h⟩))))
theorem like_tup2 {w : Wd} {n : Nat} {a b c d : D} (h1 : likeD w n a c) (h2 : likeD w n b d) : likeD w (n + 1) (.tup [a, b]) (.tup [c, d]) :=
  like_tup rfl (show 2 ≤ 100000 by decide) fun i x y hx hy => by
    match i with
    | 0 => cases hx; cases hy; exact h1
    | 1 => cases hx; cases hy; exact h2
theorem like_ints {w : Wd} {n : Nat} {x y : D} {ns : List Int} (hx : getM w x = some (ns.map D.int)) (hy : getM w y = some (ns.map D.int)) (hl : ns.length ≤ 100000) : likeD w (n + 2) x y :=
  like_rows2 hx hy (by rw [List.length_map]; exact hl) fun d hd => by
    obtain ⟨i, _, rfl⟩ := List.mem_map.mp hd
    exact like_int i
theorem getM_l {w : Wd} {xs : List D} : getM w (.lst xs) = some xs := rfl
theorem getM_w {w : Wd} {p : Addr} {xs : List D} (h : w p = some (.lst xs)) : getM w (.ref p) = some xs := by
  unfold getM; simp only [h]
theorem pyOf_ints {w : Wd} (ns : List Int) : pyOf w (iL ns) = some (.list (ns.map PyData.int)) := by
  show toPy (.lst _) = _
  rw [toPy, toPyL_ints]; rfl
theorem pyOf_refInts {w : Wd} {p : Addr} {ns : List Int} (h : w p = some (.lst (ns.map D.int))) : pyOf w (.ref p) = some (.list (ns.map PyData.int)) := by
  unfold pyOf; simp only [h, toPyL_ints]; rfl
end TD

set_option maxHeartbeats 4000000
namespace TD
open PySem PySem.Spec PyProof.Rows L2
local macro_rules | `(tactic| walk_at "td") => `(tactic| simp only [dSeq, dIf, dB, dOp, dUn, dCB, dVar, dC, dRet, dRetN, dNext, dDrop, dAsg, dAnd, dOr, dNot, dAndV, dOrV, dNotV, dIfE, dChain, dCons, dNil, dTup, dLst, dLstO, dCall, dSl, dPart, dNoPart, dBM, dBM0, dAug, dAsgG, dgName, dgTup, setAll, dCont, dBreak,
  addD_ii, addD_ss, addD_tt, addD_ll, subD_ii, mulD_ii, mulD_li, fdivD_ii, modD_ii, powD_ii, negD_i, ltD_ii, leD_ii, gtD_ii, geD_ii, eqD_ii, eqD_ss, eqD_bb, eqD_nn, eqD_ni, eqD_in, isN_x, isNon_non, isNon_int, isNon_str, isNon_bl, isNon_lst, isNon_tup, isNon_ref, lenD_l, lenD_r, lenD_t, lenD_s, slD_l, slD_t, slD_s, listD_l, listD_r, listD_t, listD_lO, listD_tO, tupleD_l, tupleD_t, sumD_l, allD_l, maxD_ii, minD_ii, absD_i, atSeq_l, atSeq_r, wipeD, dTy_put, app_put, true_and, and_true, dFrz, put_same, Option.bind_some, frzD_lst,
  startD, List.map_cons, List.map_nil, List.cons_append, List.nil_append, List.length_cons, List.length_nil, List.getElem?_cons_zero, List.getElem?_cons_succ, List.set_cons_zero, List.set_cons_succ, List.replicate_succ, List.replicate_zero, List.append_nil, Nat.reduceAdd, Nat.reduceSub, Int.reduceToNat, decide_eq_true_eq, Bool.false_bne, Bool.true_bne, Bool.not_eq_true', Bool.not_eq_true, decide_eq_false_iff_not, Bool.false_eq_true, if_true, if_false, ite_true, ite_false, reduceIte])
/-! ### arms: what each keeper may do -/
def dO : Option Int → D
  | none => .non
  | some i => .int i
def behindM (sh fogs : List Int) (p : Nat) : Option Int := if p = 0 ∨ (p : Int) - 1 ∈ fogs then none else some (sh.getD (p - 1) 0)
def aheadM (sh fogs : List Int) (p : Nat) : Option Int := if p + 1 = sh.length ∨ (p : Int) ∈ fogs then none else some (sh.getD (p + 1) 0)
def raiseM (sh : List Int) (waits : Bool) (fogs : List Int) (p : Nat) : Str :=
  if 0 < p ∧ behindM sh fogs p = none then "fog behind" else if (p = 0 ∧ waits = false) ∨ (0 < p ∧ behindM sh fogs p = some 0) then "nothing comes" else if p + 1 < sh.length ∧ aheadM sh fogs p = none then "fog ahead"
  else if p + 1 < sh.length ∧ ¬ aheadM sh fogs p = some 0 then "not clear ahead" else ""
def lowerM (sh : List Int) (fogs : List Int) (p : Nat) : Str :=
  if 0 < p ∧ behindM sh fogs p = none then "fog behind" else if 0 < p ∧ ¬ behindM sh fogs p = some 0 then "still shown behind" else if p + 1 < sh.length ∧ aheadM sh fogs p = none then "fog ahead"
  else if p + 1 < sh.length ∧ aheadM sh fogs p = some 0 then "not copied ahead" else ""
def reasonM (sh : List Int) (waits : Bool) (asleep fogs : List Int) (p : Nat) : Str :=
  if (p : Int) ∈ asleep then "asleep" else
    let told := if sh.getD p 0 = 0 then raiseM sh waits fogs p else lowerM sh fogs p
    if told = "" then "ready" else told
def sp_sees_behind : DSp := fun ds w Q _ => ∃ (sh fogs : List Int) (p : Nat), ds = [iL sh, iL fogs, .int p] ∧ p < sh.length ∧ Q (dO (behindM sh fogs p)) w
def sp_sees_ahead : DSp := fun ds w Q _ => ∃ (sh fogs : List Int) (p : Nat), ds = [iL sh, iL fogs, .int p] ∧ p < sh.length ∧ Q (dO (aheadM sh fogs p)) w
def sp_reason_raising : DSp := fun ds w Q _ => ∃ (sh : List Int) (waits : Bool) (fogs : List Int) (p : Nat), ds = [iL sh, .bl waits, iL fogs, .int p] ∧ p < sh.length ∧ Q (.str (raiseM sh waits fogs p)) w
def sp_reason_lowering : DSp := fun ds w Q _ => ∃ (sh fogs : List Int) (p : Nat), ds = [iL sh, iL fogs, .int p] ∧ p < sh.length ∧ Q (.str (lowerM sh fogs p)) w
def sp_reason : DSp := fun ds w Q _ => ∃ (sh : List Int) (waits : Bool) (asleep fogs : List Int) (p : Nat), ds = [iL sh, .bl waits, iL asleep, iL fogs, .int p] ∧ p < sh.length ∧ Q (.str (reasonM sh waits asleep fogs p)) w
def t_sees_behind (E : DX) : DS :=
  let W' : DWX := fun c d _ w => E c d w
  (dSeq (dIf (dOr (dB (dOp (eqD false) (dVar 2) (dC (.int 0)))) (dB (dOp (inD false) (dOp subD (dVar 2) (dC (.int 1))) (dVar 1)))) (dRet (dC .non)) dNext) (dRet (dOp ixD (dVar 0) (dOp subD (dVar 2) (dC (.int 1))))))
def t_sees_ahead (E : DX) : DS :=
  let W' : DWX := fun c d _ w => E c d w
  (dSeq (dIf (dOr (dB (dOp (eqD false) (dVar 2) (dOp subD (dCB lenD (dCons (dVar 0) dNil)) (dC (.int 1))))) (dB (dOp (inD false) (dVar 2) (dVar 1)))) (dRet (dC .non)) dNext) (dRet (dOp ixD (dVar 0) (dOp addD (dVar 2) (dC (.int 1))))))
def t_reason_raising (E : DX) : DS :=
  let W' : DWX := fun c d _ w => E c d w
  (dSeq (dAsg (dCall sp_sees_behind W' (dCons (dVar 0) (dCons (dVar 2) (dCons (dVar 3) dNil)))) 4) (dSeq (dAsg (dCall sp_sees_ahead W' (dCons (dVar 0) (dCons (dVar 2) (dCons (dVar 3) dNil)))) 5) (dSeq (dIf (dAnd (dB (dOp gtD (dVar 3) (dC (.int 0)))) (dB (dOp (isN false) (dVar 4) (dC .non)))) (dRet (dC (.str "fog behind"))) dNext) (dSeq (dIf (dOr (dAnd (dB (dOp (eqD false) (dVar 3) (dC (.int 0)))) (dNot (dB (dVar 1)))) (dAnd (dB (dOp gtD (dVar 3) (dC (.int 0)))) (dB (dOp (eqD false) (dVar 4) (dC (.int 0)))))) (dRet (dC (.str "nothing comes"))) dNext) (dSeq (dIf (dAnd (dB (dOp ltD (dVar 3) (dOp subD (dCB lenD (dCons (dVar 0) dNil)) (dC (.int 1))))) (dB (dOp (isN false) (dVar 5) (dC .non)))) (dRet (dC (.str "fog ahead"))) dNext) (dSeq (dIf (dAnd (dB (dOp ltD (dVar 3) (dOp subD (dCB lenD (dCons (dVar 0) dNil)) (dC (.int 1))))) (dB (dOp (eqD true) (dVar 5) (dC (.int 0))))) (dRet (dC (.str "not clear ahead"))) dNext) (dRet (dC (.str "")))))))))
def t_reason_lowering (E : DX) : DS :=
  let W' : DWX := fun c d _ w => E c d w
  (dSeq (dAsg (dCall sp_sees_behind W' (dCons (dVar 0) (dCons (dVar 1) (dCons (dVar 2) dNil)))) 3) (dSeq (dAsg (dCall sp_sees_ahead W' (dCons (dVar 0) (dCons (dVar 1) (dCons (dVar 2) dNil)))) 4) (dSeq (dIf (dAnd (dB (dOp gtD (dVar 2) (dC (.int 0)))) (dB (dOp (isN false) (dVar 3) (dC .non)))) (dRet (dC (.str "fog behind"))) dNext) (dSeq (dIf (dAnd (dB (dOp gtD (dVar 2) (dC (.int 0)))) (dB (dOp (eqD true) (dVar 3) (dC (.int 0))))) (dRet (dC (.str "still shown behind"))) dNext) (dSeq (dIf (dAnd (dB (dOp ltD (dVar 2) (dOp subD (dCB lenD (dCons (dVar 0) dNil)) (dC (.int 1))))) (dB (dOp (isN false) (dVar 4) (dC .non)))) (dRet (dC (.str "fog ahead"))) dNext) (dSeq (dIf (dAnd (dB (dOp ltD (dVar 2) (dOp subD (dCB lenD (dCons (dVar 0) dNil)) (dC (.int 1))))) (dB (dOp (eqD false) (dVar 4) (dC (.int 0))))) (dRet (dC (.str "not copied ahead"))) dNext) (dRet (dC (.str "")))))))))
def t_reason (E : DX) : DS :=
  let W' : DWX := fun c d _ w => E c d w
  (dSeq (dIf (dB (dOp (inD false) (dVar 4) (dVar 2))) (dRet (dC (.str "asleep"))) dNext) (dSeq (dIf (dB (dOp (eqD false) (dOp ixD (dVar 0) (dVar 4)) (dC (.int 0)))) (dAsg (dCall sp_reason_raising W' (dCons (dVar 0) (dCons (dVar 1) (dCons (dVar 3) (dCons (dVar 4) dNil))))) 5) (dAsg (dCall sp_reason_lowering W' (dCons (dVar 0) (dCons (dVar 3) (dCons (dVar 4) dNil)))) 5)) (dSeq (dIf (dB (dOp (eqD false) (dVar 5) (dC (.str "")))) (dRet (dC (.str "ready"))) dNext) (dRet (dVar 5)))))
theorem red_sees_behind : ∀ ds w Q E, sp_sees_behind ds w Q E → t_sees_behind E { nx := fun _ w1 => Q .non w1, rt := Q } (startD ["shown", "fogs", "place"] ds) w := by
  rintro ds w Q E ⟨sh, fogs, p, rfl, hp, q⟩
  unfold t_sees_behind
  walk_at "td"
  unfold behindM at q
  simp only [inD_lst (x := .int _) rfl (all_ints _), inL_ints]
  walk_at "td"
  by_cases h0 : p = 0
  · subst h0; simpa [dO] using q
  · have h1 : ¬ (p : Int) = 0 := by omega
    by_cases h2 : (p : Int) - 1 ∈ fogs
    · simp only [h0, h1, h2, or_true, if_true, if_false] at q ⊢; exact q
    · simp only [h0, h1, h2, or_false, if_true, if_false] at q ⊢
      rw [ixD_l (atI_ints (by omega) (by omega))]
      have e : ((p : Int) - 1).toNat = p - 1 := by omega
      rw [e]; exact q
theorem red_sees_ahead : ∀ ds w Q E, sp_sees_ahead ds w Q E → t_sees_ahead E { nx := fun _ w1 => Q .non w1, rt := Q } (startD ["shown", "fogs", "place"] ds) w := by
  rintro ds w Q E ⟨sh, fogs, p, rfl, hp, q⟩
  unfold t_sees_ahead
  walk_at "td"
  unfold aheadM at q
  simp only [inD_lst (x := .int _) rfl (all_ints _), inL_ints, pos_ints_len]
  walk_at "td"
  by_cases h0 : p + 1 = sh.length
  · have h1 : (p : Int) = (sh.length : Int) - 1 := by omega
    simp only [h0, h1, true_or, if_true] at q ⊢; exact q
  · have h1 : ¬ (p : Int) = (sh.length : Int) - 1 := by omega
    by_cases h2 : (p : Int) ∈ fogs
    · simp only [h0, h1, h2, or_true, if_true, if_false] at q ⊢; exact q
    · simp only [h0, h1, h2, or_false, if_true, if_false] at q ⊢
      rw [ixD_l (atI_ints (by omega) (by omega))]
      have e : ((p : Int) + 1).toNat = p + 1 := by omega
      rw [e]; exact q
theorem red_reason_raising : ∀ ds w Q E, sp_reason_raising ds w Q E → t_reason_raising E { nx := fun _ w1 => Q .non w1, rt := Q } (startD ["shown", "waits", "fogs", "place", "behind", "ahead"] ds) w := by
  rintro ds w Q E ⟨sh, waits, fogs, p, rfl, hp, q⟩
  unfold t_reason_raising
  walk_at "td"
  refine ⟨sh, fogs, p, rfl, hp, sh, fogs, p, rfl, hp, ?_⟩
  unfold raiseM at q
  have e1 : ((p : Int) < (sh.length : Int) - 1) = (p + 1 < sh.length) := by apply propext; omega
  have e2 : ((0 : Int) < (p : Int)) = (0 < p) := by apply propext; omega
  have e3 : ((p : Int) = 0) = (p = 0) := by apply propext; omega
  cases hb : behindM sh fogs p <;> cases ha : aheadM sh fogs p <;> simp only [hb, ha, dO] at q ⊢ <;> walk_at "td" <;> simp only [pos_ints_len, e1, e2, e3] <;> grind
theorem red_reason_lowering : ∀ ds w Q E, sp_reason_lowering ds w Q E → t_reason_lowering E { nx := fun _ w1 => Q .non w1, rt := Q } (startD ["shown", "fogs", "place", "behind", "ahead"] ds) w := by
  rintro ds w Q E ⟨sh, fogs, p, rfl, hp, q⟩
  unfold t_reason_lowering
  walk_at "td"
  refine ⟨sh, fogs, p, rfl, hp, sh, fogs, p, rfl, hp, ?_⟩
  unfold lowerM at q
  have e1 : ((p : Int) < (sh.length : Int) - 1) = (p + 1 < sh.length) := by apply propext; omega
  have e2 : ((0 : Int) < (p : Int)) = (0 < p) := by apply propext; omega
  have e3 : ((p : Int) = 0) = (p = 0) := by apply propext; omega
  cases hb : behindM sh fogs p <;> cases ha : aheadM sh fogs p <;> simp only [hb, ha, dO] at q ⊢ <;> walk_at "td" <;> simp only [pos_ints_len, e1, e2, e3] <;> grind
theorem red_reason : ∀ ds w Q E, sp_reason ds w Q E → t_reason E { nx := fun _ w1 => Q .non w1, rt := Q } (startD ["shown", "waits", "asleep", "fogs", "place", "told"] ds) w := by
  rintro ds w Q E ⟨sh, waits, asleep, fogs, p, rfl, hp, q⟩
  unfold t_reason
  walk_at "td"
  simp only [inD_lst (x := .int _) rfl (all_ints _), inL_ints]
  walk_at "td"
  rw [ixD_l (atI_ints (by omega) (by omega))]
  walk_at "td"
  unfold reasonM at q
  have e : ((p : Int)).toNat = p := by omega
  simp only [e]
  by_cases h1 : (p : Int) ∈ asleep
  · simp only [h1, if_true] at q ⊢; exact q
  · simp only [h1, if_false] at q ⊢
    by_cases h2 : sh.getD p 0 = 0
    · simp only [h2, if_true] at q ⊢
      refine ⟨sh, waits, fogs, p, rfl, hp, ?_⟩
      walk_at "td"
      grind
    · simp only [h2, if_false] at q ⊢
      refine ⟨sh, fogs, p, rfl, hp, ?_⟩
      walk_at "td"
      grind
end TD

set_option maxHeartbeats 4000000
namespace TD
open PySem PySem.Spec PyProof.Rows L2
local macro_rules | `(tactic| walk_at "td") => `(tactic| simp only [dSeq, dIf, dB, dOp, dUn, dCB, dVar, dC, dRet, dRetN, dNext, dDrop, dAsg, dAnd, dOr, dNot, dAndV, dOrV, dNotV, dIfE, dChain, dCons, dNil, dTup, dLst, dLstO, dCall, dSl, dPart, dNoPart, dBM, dBM0, dAug, dAsgG, dgName, dgTup, setAll, dCont, dBreak,
  addD_ii, addD_ss, addD_tt, addD_ll, subD_ii, mulD_ii, mulD_li, fdivD_ii, modD_ii, powD_ii, negD_i, ltD_ii, leD_ii, gtD_ii, geD_ii, eqD_ii, eqD_ss, eqD_bb, eqD_nn, eqD_ni, eqD_in, isN_x, isNon_non, isNon_int, isNon_str, isNon_bl, isNon_lst, isNon_tup, isNon_ref, lenD_l, lenD_r, lenD_t, lenD_s, slD_l, slD_t, slD_s, listD_l, listD_r, listD_t, listD_lO, listD_tO, tupleD_l, tupleD_t, sumD_l, allD_l, maxD_ii, minD_ii, absD_i, atSeq_l, atSeq_r, wipeD, dTy_put, app_put, true_and, and_true, dFrz, put_same, Option.bind_some, frzD_lst,
  startD, List.map_cons, List.map_nil, List.cons_append, List.nil_append, List.length_cons, List.length_nil, List.getElem?_cons_zero, List.getElem?_cons_succ, List.set_cons_zero, List.set_cons_succ, List.replicate_succ, List.replicate_zero, List.append_nil, Nat.reduceAdd, Nat.reduceSub, Int.reduceToNat, decide_eq_true_eq, Bool.false_bne, Bool.true_bne, Bool.not_eq_true', Bool.not_eq_true, decide_eq_false_iff_not, Bool.false_eq_true, if_true, if_false, ite_true, ite_false, reduceIte])
local macro_rules | `(tactic| walk_at "leaf") => `(tactic| (intro Q q; first | exact q | exact ⟨by omega, q⟩ | exact ⟨⟨by omega, by omega⟩, q⟩ | exact ⟨.inl ⟨by omega, by omega⟩, q⟩ | exact ⟨.inr ⟨by omega, by omega⟩, q⟩ | (rw [ixD_l (atI_ints (by first | omega | grind) (by first | omega | grind))]; exact q) | (rw [inD_lst rfl (all_ints _), inL_ints]; exact q) | (rw [lenD_l, List.length_map]; exact q) | (rw [lenD_r, List.length_map]; exact q)))
local macro_rules | `(tactic| walk_at "ev") => `(tactic| repeat' (first | exact eve_var rfl | exact eve_c | exact eva_nil | apply evt_and | apply evt_or | apply evt_not | apply evt_B | apply eva_cons | apply eve_and | apply eve_or | apply eve_not | apply eve_chain | apply eve_op | apply eve_un | apply eve_cb | (refine Gd.mk (fun _ => ?_)) | (refine Gn.mk (fun _ => ?_)) | walk_at "leaf"))
local macro_rules | `(tactic| walk_at "bl") => `(tactic| simp only [Bool.false_bne, Bool.true_bne, Bool.and_eq_true, Bool.or_eq_true, Bool.and_eq_false_iff, Bool.or_eq_false_iff, Bool.not_eq_true', Bool.not_eq_false', Bool.not_not, decide_eq_true_eq, decide_eq_false_iff_not] at *)
/-! ### stretches of arms -/
def goF : Nat → Option Nat → List Int → List (Nat × Nat)
  | _, none, [] => []
  | i, some f, [] => [(f, i - 1)]
  | i, none, x :: r => if x = 0 then goF (i + 1) none r else goF (i + 1) (some i) r
  | i, some f, x :: r => if x = 0 then (f, i - 1) :: goF (i + 1) none r else goF (i + 1) (some f) r
def runsM (sh : List Int) : List (Nat × Nat) := goF 0 none sh
abbrev pr (x : Nat × Nat) : D := .tup [.int x.1, .int x.2]
def opn : Option Nat → Nat → List (Nat × Nat)
  | none, _ => []
  | some f, i => [(f, i - 1)]
theorem goF_nil (i : Nat) (o : Option Nat) : goF i o [] = opn o i := by cases o <;> rfl
theorem atI_last {α : Type} {xs : List α} {d : α} : atI (xs ++ [d]) (-1) = some d := by
  have e : ixN (xs ++ [d]).length (-1) = some xs.length := by
    unfold ixN; simp; omega
  unfold atI; rw [e]; simp
theorem ixN_last {α : Type} {xs : List α} {d : α} : ixN (xs ++ [d]).length (-1) = some xs.length := by unfold ixN; simp; omega
theorem set_last {α : Type} {xs : List α} {d e : α} : (xs ++ [d]).set xs.length e = xs ++ [e] := by simp
def sp_runs : DSp := fun ds w Q _ => ∃ (sh : List Int), ds = [iL sh] ∧ sh.length ≤ 10000 ∧ ∀ p, w p = none → Q (.ref p) (put w p (.lst ((runsM sh).map pr)))
def t_runs (E : DX) : DS :=
  let W' : DWX := fun c d _ w => E c d w
  (dSeq (dAsg (dLstO dNil) 1) (dSeq (dFor (diE (dCons (dVar 0) dNil)) (dgTup [2, 3]) (dIf (dB (dOp (eqD true) (dVar 3) (dC (.int 0)))) (dIf (dAnd (dB (dOp gtD (dCB lenD (dCons (dVar 1) dNil)) (dC (.int 0)))) (dB (dOp (eqD false) (dOp ixD (dOp ixD (dVar 1) (dUn negD (dC (.int 1)))) (dC (.int 1))) (dOp subD (dVar 2) (dC (.int 1)))))) (dSet (dTup (dCons (dOp ixD (dOp ixD (dVar 1) (dUn negD (dC (.int 1)))) (dC (.int 0))) (dCons (dVar 2) dNil))) (dVar 1) (dUn negD (dC (.int 1)))) (dDrop (dBM "list" appD (dVar 1) (dCons (dTup (dCons (dVar 2) (dCons (dVar 2) dNil))) dNil)))) dNext)) (dRet (dVar 1))))
theorem goF_len : ∀ (l : List Int) (i : Nat) (o : Option Nat), (goF i o l).length ≤ l.length + 1
  | [], i, o => by rw [goF_nil]; cases o <;> simp [opn]
  | x :: r, i, none => by unfold goF; split <;> (have := goF_len r (i + 1) none; have := goF_len r (i + 1) (some i); simp only [List.length_cons]; omega)
  | x :: r, i, some f => by unfold goF; split <;> (have := goF_len r (i + 1) none; have := goF_len r (i + 1) (some f); simp only [List.length_cons]; omega)
structure RunsAt (sh : List Int) (i : Nat) (cl : List (Nat × Nat)) (o : Option Nat) : Prop where
  eq : cl ++ goF i o (sh.drop i) = runsM sh
  lt : ∀ x ∈ cl, x.2 + 1 < i
  op : ∀ f, o = some f → 1 ≤ i
  len : (cl ++ opn o i).length ≤ i
theorem red_runs : ∀ ds w Q E, sp_runs ds w Q E → t_runs E { nx := fun _ w1 => Q .non w1, rt := Q } (startD ["shown", "found", "place", "sign"] ds) w := by
  rintro ds w Q E ⟨sh, rfl, hl, q⟩
  unfold t_runs
  walk_at "td"
  refine ⟨by decide, fun p hp => ?_⟩
  refine dFor_e (xs := sh.map D.int) (fun i S2 w2 => ∃ (cl : List (Nat × Nat)) (o : Option Nat) (k m : Option D), RunsAt sh i cl o ∧ S2 = [some (iL sh), some (.ref p), k, m] ∧ w2 = put w p (.lst ((cl ++ opn o i).map pr))) (fun R h => h)
    ⟨[], none, none, none, ⟨rfl, fun _ z => (nomatch z), fun _ z => (nomatch z), Nat.le_refl _⟩, rfl, rfl⟩ ?_ ?_
  · rintro i d S2 w2 hd ⟨cl, o, k, m, ⟨he, hlt, hop, hln⟩, rfl, rfl⟩
    obtain ⟨x, hx, rfl⟩ : ∃ x, sh[i]? = some x ∧ d = .int x := by
      rw [List.getElem?_map] at hd
      cases e : sh[i]? with
      | none => rw [e] at hd; cases hd
      | some x => rw [e] at hd; cases hd; exact ⟨x, rfl, rfl⟩
    obtain ⟨hi, hxe⟩ := List.getElem?_eq_some_iff.mp hx
    have hdr : sh.drop i = x :: sh.drop (i + 1) := by rw [List.drop_eq_getElem_cons hi, hxe]
    rw [hdr] at he
    walk_at "td"
    by_cases h0 : x = 0
    · subst h0
      simp only [if_true, not_true, if_false]
      cases o with
      | none =>
        refine ⟨cl, none, _, _, ⟨by unfold goF at he; simpa using he, fun y hy => by have := hlt y hy; omega, fun _ z => (nomatch z), by simp [opn] at hln ⊢; omega⟩, rfl, rfl⟩
      | some f =>
        have h1 := hop f rfl
        refine ⟨cl ++ [(f, i - 1)], none, _, _, ⟨by unfold goF at he; simpa using he, fun y hy => ?_, fun _ z => (nomatch z), by simp [opn] at hln ⊢; omega⟩, rfl, by simp [opn]⟩
        rcases List.mem_append.mp hy with z | z
        · have := hlt y z; omega
        · have := List.mem_singleton.mp z; subst this; show i - 1 + 1 < i + 1; omega
    · simp only [h0, if_true, not_false_iff, if_false]
      cases o with
      | some f =>
        have h1 := hop f rfl
        have e1 : (cl ++ opn (some f) i).map pr = cl.map pr ++ [pr (f, i - 1)] := by simp [opn]
        simp only [e1]
        simp only [lenD_w put_same, ixD_w put_same atI_last]
        walk_at "td"
        rw [if_pos (by simp <;> omega)]
        rw [ixD_w put_same atI_last, ixD_t (d := .int ((i - 1 : Nat) : Int)) rfl]
        have e3 : ((i - 1 : Nat) : Int) = (i : Int) - 1 := by omega
        walk_at "td"
        rw [if_pos e3]
        unfold dSet
        walk_at "td"
        rw [ixD_w put_same atI_last, ixD_t (d := .int f) rfl]
        refine ⟨by decide, ?_⟩
        simp only [atL_put, ixN_last, put_put, set_last]
        refine ⟨cl, some f, _, _, ⟨by unfold goF at he; simpa [h0] using he, fun y hy => by have := hlt y hy; omega, fun _ _ => by omega, by simp [opn] at hln ⊢; omega⟩, rfl, by simp [opn]⟩
      | none =>
        have app : ∀ k' m' : Option D, ∃ (cl2 : List (Nat × Nat)) (o2 : Option Nat) (k m : Option D), RunsAt sh (i + 1) cl2 o2 ∧ [some (iL sh), some (D.ref p), k', m'] = [some (iL sh), some (.ref p), k, m] ∧ put w p (.lst (cl.map pr ++ [pr (i, i)])) = put w p (.lst ((cl2 ++ opn o2 (i + 1)).map pr)) := fun k' m' =>
          ⟨cl, some i, k', m', ⟨by unfold goF at he; simpa [h0] using he, fun y hy => by have := hlt y hy; omega, fun _ _ => by omega, by simp [opn] at hln ⊢; omega⟩, rfl, by simp [opn]⟩
        have e1 : (cl ++ opn none i).map pr = cl.map pr := by simp [opn]
        have hl2 : (cl.map pr).length < sizeLine := smallL (by simp [opn] at hln; rw [List.length_map]; omega)
        simp only [e1]
        simp only [lenD_w put_same]
        walk_at "td"
        rcases List.eq_nil_or_concat cl with rfl | ⟨cl', y, rfl⟩
        · rw [if_neg (by simp)]
          walk_at "td"
          exact ⟨by decide, hl2, app _ _⟩
        · have hy := hlt y (by simp)
          have e3 : ((cl'.concat y).map pr) = cl'.map pr ++ [pr y] := by simp
          rw [if_pos (by simp <;> omega)]
          rw [ixD_w (d := pr y) put_same (by rw [e3]; exact atI_last), ixD_t (d := .int (y.2 : Int)) rfl]
          walk_at "td"
          rw [if_neg (by omega)]
          exact ⟨by decide, hl2, app _ _⟩
  · rintro S2 w2 ⟨cl, o, k, m, ⟨he, hlt, hop, hln⟩, rfl, rfl⟩
    walk_at "td"
    have e : cl ++ opn o (sh.map D.int).length = runsM sh := by
      rw [← goF_nil, ← he, List.length_map, List.drop_length]
    rw [e]
    exact q p hp
end TD

set_option maxHeartbeats 4000000
namespace TD
open PySem PySem.Spec PyProof.Rows L2
local macro_rules | `(tactic| walk_at "td") => `(tactic| simp only [dSeq, dIf, dB, dOp, dUn, dCB, dVar, dC, dRet, dRetN, dNext, dDrop, dAsg, dAnd, dOr, dNot, dAndV, dOrV, dNotV, dIfE, dChain, dCons, dNil, dTup, dLst, dLstO, dCall, dSl, dPart, dNoPart, dBM, dBM0, dAug, dAsgG, dgName, dgTup, setAll, dCont, dBreak,
  addD_ii, addD_ss, addD_tt, addD_ll, subD_ii, mulD_ii, mulD_li, fdivD_ii, modD_ii, powD_ii, negD_i, ltD_ii, leD_ii, gtD_ii, geD_ii, eqD_ii, eqD_ss, eqD_bb, eqD_nn, eqD_ni, eqD_in, isN_x, isNon_non, isNon_int, isNon_str, isNon_bl, isNon_lst, isNon_tup, isNon_ref, lenD_l, lenD_r, lenD_t, lenD_s, slD_l, slD_t, slD_s, listD_l, listD_r, listD_t, listD_lO, listD_tO, tupleD_l, tupleD_t, sumD_l, allD_l, maxD_ii, minD_ii, absD_i, atSeq_l, atSeq_r, wipeD, dTy_put, app_put, true_and, and_true, dFrz, put_same, Option.bind_some, frzD_lst,
  startD, List.map_cons, List.map_nil, List.cons_append, List.nil_append, List.length_cons, List.length_nil, List.getElem?_cons_zero, List.getElem?_cons_succ, List.set_cons_zero, List.set_cons_succ, List.replicate_succ, List.replicate_zero, List.append_nil, Nat.reduceAdd, Nat.reduceSub, Int.reduceToNat, decide_eq_true_eq, Bool.false_bne, Bool.true_bne, Bool.not_eq_true', Bool.not_eq_true, decide_eq_false_iff_not, Bool.false_eq_true, Bool.true_eq_false, if_true, if_false, ite_true, ite_false, reduceIte])
local macro_rules | `(tactic| walk_at "leaf") => `(tactic| (intro Q q; first | exact q | exact ⟨by omega, q⟩ | exact ⟨⟨by omega, by omega⟩, q⟩ | exact ⟨.inl ⟨by omega, by omega⟩, q⟩ | exact ⟨.inr ⟨by omega, by omega⟩, q⟩ | (rw [ixD_l (atI_ints (by first | omega | grind) (by first | omega | grind))]; exact q) | (rw [inD_lst rfl (all_ints _), inL_ints]; exact q) | (rw [lenD_l, List.length_map]; exact q) | (rw [lenD_r, List.length_map]; exact q)))
local macro_rules | `(tactic| walk_at "ev") => `(tactic| repeat' (first | exact eve_var rfl | exact eve_c | exact eva_nil | apply evt_and | apply evt_or | apply evt_not | apply evt_B | apply eva_cons | apply eve_and | apply eve_or | apply eve_not | apply eve_chain | apply eve_op | apply eve_un | apply eve_cb | (refine Gd.mk (fun _ => ?_)) | (refine Gn.mk (fun _ => ?_)) | walk_at "leaf"))
local macro_rules | `(tactic| walk_at "bl") => `(tactic| simp only [Bool.false_bne, Bool.true_bne, Bool.and_eq_true, Bool.or_eq_true, Bool.and_eq_false_iff, Bool.or_eq_false_iff, Bool.not_eq_true', Bool.not_eq_false', Bool.not_not, decide_eq_true_eq, decide_eq_false_iff_not] at *)
/-! ### rows of signs, some unknown -/
abbrev vL (vs : List (Option Int)) : D := .lst (vs.map dO)
def pyO : Option Int → PyData
  | none => .none
  | some i => .int i
theorem toPyL_vals : ∀ vs : List (Option Int), toPyL (vs.map dO) = some (vs.map pyO)
  | [] => by simp [toPyL]
  | v :: r => by
    rw [List.map_cons, List.map_cons]
    unfold toPyL
    rw [toPyL_vals r]
    cases v <;> simp [toPy, dO, pyO]
theorem lay_vals : ∀ vs : List (Option Int), PyData.canLayAll0 (vs.map pyO) = true
  | [] => rfl
  | v :: r => by cases v <;> simp [PyData.canLayAll0, PyData.canLay0, pyO, lay_vals r]
theorem depth_vals : ∀ vs : List (Option Int), PyData.depthAll (vs.map pyO) = 0
  | [] => rfl
  | v :: r => by cases v <;> simp [PyData.depthAll, PyData.depth, pyO, depth_vals r]
theorem shaped_vals (vs : List (Option Int)) : SeqAt.shaped (.list (vs.map pyO)) = true := by
  simp [SeqAt.shaped, PyData.canLay0, PyData.depth, lay_vals, depth_vals]
theorem pyOf_vals {w : Wd} (vs : List (Option Int)) : pyOf w (vL vs) = some (.list (vs.map pyO)) := by
  show toPy (.lst _) = _
  rw [toPy, toPyL_vals]; rfl
theorem atI_vals {vs : List (Option Int)} {i : Int} {v : Option Int} (h0 : 0 ≤ i) (h : vs[i.toNat]? = some v) : atI (vs.map dO) i = some (dO v) := by
  refine atI_of h0 ?_
  rw [List.getElem?_map, h]; rfl
def sp__law_values : DSp := fun ds w Q _ => ∃ (ns : List Int) (at_ : Int), ds = [.rol (ns.map D.int), .int at_, .int 12] ∧ 0 ≤ at_ ∧ at_ < 1000 ∧ ∀ vs : List (Option Int), 1 ≤ vs.length → vs.length ≤ 12 → Q (vL vs) w
def t__law_values (E : DX) : DS :=
  let W' : DWX := fun c d _ w => E c d w
  (dSeq (dAsg (dCall sp__law_row W' (dCons (dCall sp__law_cell W' (dCons (dVar 0) (dCons (dVar 1) dNil))) (dCons (dOp addD (dVar 2) (dC (.int 3))) (dCons (dOp mulD (dC (.int 94)) (dC (.int 90))) dNil)))) 3) (dSeq (dAsg (dOp addD (dC (.int 2)) (dOp modD (dOp ixD (dVar 3) (dC (.int 0))) (dOp subD (dVar 2) (dC (.int 1))))) 4) (dSeq (dAsg (dLstO (dCons (dOp addD (dC (.int 1)) (dOp modD (dOp ixD (dVar 3) (dC (.int 1))) (dC (.int 94)))) dNil)) 5) (dSeq (dFor (diL (dSl slD (dVar 3) (dPart (dC (.int 3))) (dPart (dOp addD (dC (.int 2)) (dVar 4))))) (dgName 6) (dIf (dB (dOp gtD (dOp modD (dOp fdivD (dVar 6) (dC (.int 94))) (dC (.int 5))) (dOp modD (dOp ixD (dVar 3) (dC (.int 2))) (dC (.int 5))))) (dDrop (dBM "list" appD (dVar 5) (dCons (dOp ixD (dVar 5) (dUn negD (dC (.int 1)))) dNil))) (dDrop (dBM "list" appD (dVar 5) (dCons (dOp addD (dC (.int 1)) (dOp modD (dVar 6) (dC (.int 94)))) dNil))))) (dSeq (dFor (diR2 (dCons (dC (.int 1)) (dCons (dVar 4) dNil))) (dgName 7) (dIf (dAnd (dB (dOp ltD (dOp modD (dOp fdivD (dOp ixD (dVar 3) (dOp subD (dOp addD (dC (.int 3)) (dVar 7)) (dC (.int 1)))) (dC (.int 470))) (dC (.int 9))) (dOp modD (dOp fdivD (dOp ixD (dVar 3) (dC (.int 2))) (dC (.int 5))) (dC (.int 9))))) (dB (dOp ltD (dVar 7) (dOp subD (dVar 4) (dOp modD (dOp fdivD (dOp ixD (dVar 3) (dC (.int 2))) (dC (.int 45))) (dC (.int 2))))))) (dSet (dC .non) (dVar 5) (dVar 7)) dNext)) (dFrz 5 (dRet (dVar 5))))))))
theorem red__law_values : ∀ ds w Q E, sp__law_values ds w Q E → t__law_values E { nx := fun _ w1 => Q .non w1, rt := Q } (startD ["_law_script", "_law_at", "_law_most", "_law_nums", "_law_many", "_law_values_here", "_law_num", "_law_place"] ds) w := by
  rintro ds w Q E ⟨ns, at_, rfl, h0, h1, q⟩
  unfold t__law_values
  walk_at "td"
  refine ⟨ns, at_, rfl, h0, by omega, ?_⟩
  generalize cellM ns at_ = c1
  refine ⟨.inl ⟨by decide, by decide⟩, c1, 15, 94 * 90, rfl, by decide, by decide, by decide, ?_⟩
  have hrl := rowM_len (c := c1) (many := 15) (size := 94 * 90) (by decide)
  have hra := fun {i : Nat} (hi : i < 15) => rowM_at (c := c1) (size := 94 * 90) (by decide) hi
  generalize rowM c1 15 (94 * 90) = nums at hrl hra ⊢
  walk_at "td"
  rw [ixD_l (atI_ints (ns := nums) (by decide) (by omega))]
  walk_at "td"
  refine ⟨by decide, ?_⟩
  generalize nums.getD 0 0 = n0
  have m0 : 0 ≤ n0 % 11 := Int.emod_nonneg _ (by decide)
  have m1 : n0 % 11 < 11 := Int.emod_lt_of_pos _ (by decide)
  obtain ⟨many, hm⟩ : ∃ n : Nat, (n : Int) = 2 + n0 % (12 - 1) := ⟨(2 + n0 % (12 - 1)).toNat, by omega⟩
  rw [← hm]
  rw [ixD_l (atI_ints (ns := nums) (by decide) (by omega))]
  walk_at "td"
  refine ⟨by decide, by decide, fun p hp => ?_⟩
  generalize nums.getD 1 0 = n1
  generalize hcut : cutD (nums.map D.int) (some 3) (some (2 + (many : Int))) = xs
  obtain ⟨xn, rfl, hxl⟩ : ∃ xn : List Int, xs = xn.map D.int ∧ xn.length + 1 = many := by
    refine ⟨(nums.drop 3).take (many - 1), ?_, ?_⟩
    · rw [← hcut]
      unfold cutD
      rw [show (3 : Int) = ((3 : Nat) : Int) from rfl, show 2 + (many : Int) = ((2 + many : Nat) : Int) by omega, HT.sIx_nat, HT.sIx_nat, List.length_map, List.map_take, List.map_drop]
      have e1 : min 3 nums.length = 3 := by omega
      have e2 : min (2 + many) nums.length = 2 + many := by omega
      rw [e1, e2]
      congr 1
      omega
    · simp; omega
  refine dFor_l (xs := xn.map D.int) (fun i S2 w2 => ∃ (vs : List Int) (k m : Option D), vs.length = i + 1 ∧ S2 = [some (.rol (ns.map D.int)), some (.int at_), some (.int 12), some (iL nums), some (.int many), some (.ref p), k, m] ∧ w2 = put w p (.lst (vs.map D.int))) (fun R h => by walk_at "td"; rw [hcut]; exact h)
    ⟨[1 + n1 % 94], none, none, rfl, rfl, rfl⟩ ?_ ?_
  · rintro i d S2 w2 hd ⟨vs, k, m, hv, rfl, rfl⟩
    obtain ⟨x, hx, rfl⟩ := List.mem_map.mp (List.mem_of_getElem? hd)
    have hil : i < xn.length := by
      have := (List.getElem?_eq_some_iff.mp hd).1
      simpa using this
    obtain ⟨vs', y, rfl⟩ : ∃ vs' y, vs = vs' ++ [y] := by
      rcases List.eq_nil_or_concat vs with rfl | ⟨a, b, rfl⟩
      · simp at hv
      · exact ⟨a, b, by simp⟩
    show dIf _ _ _ _ _ _
    refine dIf_ev (b := decide (nums.getD 2 0 % 5 < x / 94 % 5)) ?_ (fun _ => ?_) (fun _ => ?_)
    · refine evt_eq (by walk_at "ev") rfl
    · refine dApp_ev (p := p) (xs := (vs' ++ [y]).map D.int) (d := .int y) rfl put_same (fun Q q => ?_) (smallL (by rw [List.length_map]; omega)) ⟨vs' ++ [y] ++ [y], _, _, by simp at hv ⊢; omega, rfl, by rw [put_put, List.map_append (l₁ := vs' ++ [y])]; rfl⟩
      walk_at "td"
      rw [ixD_w (d := .int y) put_same (by rw [List.map_append]; exact atI_last)]
      exact q
    · exact dApp_ev (p := p) (xs := (vs' ++ [y]).map D.int) (d := .int (1 + x % 94)) rfl put_same (by walk_at "ev") (smallL (by rw [List.length_map]; omega)) ⟨vs' ++ [y] ++ [1 + x % 94], _, _, by simp at hv ⊢; omega, rfl, by rw [put_put, List.map_append (l₁ := vs' ++ [y])]; rfl⟩
  · rintro S2 w2 ⟨vs, k, m, hv, rfl, rfl⟩
    rw [List.length_map] at hv
    unfold dSeq
    dsimp only
    have hvs : vs.map D.int = (vs.map some).map dO := by rw [List.map_map]; rfl
    rw [hvs]
    refine dFor_r2 (a := 1) (b := many) (fun i S2 w2 => ∃ (us : List (Option Int)) (k m : Option D), us.length = many ∧ S2 = [some (.rol (ns.map D.int)), some (.int at_), some (.int 12), some (iL nums), some (.int many), some (.ref p), k, m] ∧ w2 = put w p (.lst (us.map dO))) (fun R h => by exact h) ⟨by decide, by decide, by omega, by omega⟩
      ⟨vs.map some, k, m, by simp; omega, rfl, rfl⟩ ?_ ?_
    · rintro i S2 w2 hi ⟨us, k, m, hu, rfl, rfl⟩
      show dIf _ _ _ _ _ _
      have b2 := hra (i := 2) (by decide)
      have d0 : 0 ≤ nums.getD 2 0 / 5 % 9 := Int.emod_nonneg _ (by decide)
      have d1 : 0 ≤ nums.getD 2 0 / 45 % 2 := Int.emod_nonneg _ (by decide)
      refine dIf_ev (by walk_at "ev") (fun _ => ?_) (fun _ => ⟨us, _, _, hu, rfl, rfl⟩)
      unfold dSet
      walk_at "td"
      have hix : ixN (us.map dO).length (1 + (i : Int)) = some (1 + i) := by
        unfold ixN
        rw [if_pos (by omega), if_pos (by rw [List.length_map]; omega)]
        congr 1
      simp only [atL_put, hix, put_put]
      exact ⟨us.set (1 + i) none, _, _, by simp; omega, rfl, by rw [List.map_set]; rfl⟩
    · rintro S2 w2 ⟨us, k, m, hu, rfl, rfl⟩
      walk_at "td"
      rw [rid_put hp]
      exact q us (by omega) (by omega)
end TD

set_option maxHeartbeats 4000000
namespace TD
open PySem PySem.Spec PyProof.Rows L2
local macro_rules | `(tactic| walk_at "td") => `(tactic| simp only [dSeq, dIf, dB, dOp, dUn, dCB, dVar, dC, dRet, dRetN, dNext, dDrop, dAsg, dAnd, dOr, dNot, dAndV, dOrV, dNotV, dIfE, dChain, dCons, dNil, dTup, dLst, dLstO, dCall, dSl, dPart, dNoPart, dBM, dBM0, dAug, dAsgG, dgName, dgTup, setAll, dCont, dBreak,
  addD_ii, addD_ss, addD_tt, addD_ll, subD_ii, mulD_ii, mulD_li, fdivD_ii, modD_ii, powD_ii, negD_i, ltD_ii, leD_ii, gtD_ii, geD_ii, eqD_ii, eqD_ss, eqD_bb, eqD_nn, eqD_ni, eqD_in, isN_x, isNon_non, isNon_int, isNon_str, isNon_bl, isNon_lst, isNon_tup, isNon_ref, lenD_l, lenD_r, lenD_t, lenD_s, slD_l, slD_t, slD_s, listD_l, listD_r, listD_t, listD_lO, listD_tO, tupleD_l, tupleD_t, sumD_l, allD_l, maxD_ii, minD_ii, absD_i, atSeq_l, atSeq_r, wipeD, dTy_put, app_put, true_and, and_true, dFrz, put_same, Option.bind_some, frzD_lst,
  startD, List.map_cons, List.map_nil, List.cons_append, List.nil_append, List.length_cons, List.length_nil, List.getElem?_cons_zero, List.getElem?_cons_succ, List.set_cons_zero, List.set_cons_succ, List.replicate_succ, List.replicate_zero, List.append_nil, Nat.reduceAdd, Nat.reduceSub, Int.reduceToNat, decide_eq_true_eq, Bool.false_bne, Bool.true_bne, Bool.not_eq_true', Bool.not_eq_true, decide_eq_false_iff_not, Bool.false_eq_true, Bool.true_eq_false, if_true, if_false, ite_true, ite_false, reduceIte])
local macro_rules | `(tactic| walk_at "leaf") => `(tactic| (intro Q q; first | exact q | exact ⟨by omega, q⟩ | exact ⟨⟨by omega, by omega⟩, q⟩ | exact ⟨.inl ⟨by omega, by omega⟩, q⟩ | exact ⟨.inr ⟨by omega, by omega⟩, q⟩ | (rw [ixD_l (atI_ints (by first | omega | grind) (by first | omega | grind))]; exact q) | (rw [inD_lst rfl (all_ints _), inL_ints]; exact q) | (rw [lenD_l, List.length_map]; exact q) | (rw [lenD_r, List.length_map]; exact q)))
local macro_rules | `(tactic| walk_at "ev") => `(tactic| repeat' (first | exact eve_var rfl | exact eve_c | exact eva_nil | apply evt_and | apply evt_or | apply evt_not | apply evt_B | apply eva_cons | apply eve_and | apply eve_or | apply eve_not | apply eve_chain | apply eve_op | apply eve_un | apply eve_cb | (refine Gd.mk (fun _ => ?_)) | (refine Gn.mk (fun _ => ?_)) | walk_at "leaf"))
local macro_rules | `(tactic| walk_at "bl") => `(tactic| simp only [Bool.false_bne, Bool.true_bne, Bool.and_eq_true, Bool.or_eq_true, Bool.and_eq_false_iff, Bool.or_eq_false_iff, Bool.not_eq_true', Bool.not_eq_false', Bool.not_not, decide_eq_true_eq, decide_eq_false_iff_not] at *)
/-! ### stretches of differing rows -/
structure Q4 where
  a : Nat
  b : Nat
  u : Int
  v : Int
abbrev q4 (x : Q4) : D := .tup [.int x.a, .int x.b, .int x.u, .int x.v]
def strF : Nat → Option (Nat × Int) → List (Option Int) → List Q4
  | _, _, [] => []
  | i, l, none :: r => strF (i + 1) l r
  | i, none, some s :: r => strF (i + 1) (some (i, s)) r
  | i, some (k, v), some s :: r => (if v = s then [] else [⟨k, i, v, s⟩]) ++ strF (i + 1) (some (i, s)) r
def strM (vs : List (Option Int)) : List Q4 := strF 0 none vs
theorem strF_len : ∀ (l : List (Option Int)) (i : Nat) (o : Option (Nat × Int)), (strF i o l).length ≤ l.length
  | [], _, _ => by unfold strF; simp
  | none :: r, i, o => by unfold strF; have := strF_len r (i + 1) o; simp only [List.length_cons]; omega
  | some s :: r, i, none => by unfold strF; have := strF_len r (i + 1) (some (i, s)); simp only [List.length_cons]; omega
  | some s :: r, i, some (k, v) => by
    unfold strF
    have := strF_len r (i + 1) (some (i, s))
    split <;> simp only [List.length_append, List.length_cons, List.length_nil] <;> omega
def dLast : Option (Nat × Int) → D
  | none => .non
  | some (k, _) => .int k
def sp_stretches : DSp := fun ds w Q _ => ∃ (vs : List (Option Int)), ds = [vL vs] ∧ vs.length ≤ 10000 ∧ ∀ p, w p = none → Q (.ref p) (put w p (.lst ((strM vs).map q4)))
def t_stretches (E : DX) : DS :=
  let W' : DWX := fun c d _ w => E c d w
  (dSeq (dAsg (dLstO dNil) 1) (dSeq (dAsg (dC .non) 2) (dSeq (dFor (diE (dCons (dVar 0) dNil)) (dgTup [3, 4]) (dIf (dB (dOp (isN true) (dVar 4) (dC .non))) (dCut (dIf (dAnd (dB (dOp (isN true) (dVar 2) (dC .non))) (dB (dOp (eqD true) (dOp ixD (dVar 0) (dVar 2)) (dVar 4)))) (dDrop (dBM "list" appD (dVar 1) (dCons (dTup (dCons (dVar 2) (dCons (dVar 3) (dCons (dOp ixD (dVar 0) (dVar 2)) (dCons (dVar 4) dNil))))) dNil))) dNext) (dAsg (dVar 3) 2)) dNext)) (dRet (dVar 1)))))
theorem red_stretches : ∀ ds w Q E, sp_stretches ds w Q E → t_stretches E { nx := fun _ w1 => Q .non w1, rt := Q } (startD ["values", "found", "last", "place", "sign"] ds) w := by
  rintro ds w Q E ⟨vs, rfl, hl, q⟩
  unfold t_stretches
  walk_at "td"
  refine ⟨by decide, fun p hp => ?_⟩
  refine dFor_e (xs := vs.map dO) (fun i S2 w2 => ∃ (fd : List Q4) (o : Option (Nat × Int)) (k m : Option D), fd ++ strF i o (vs.drop i) = strM vs ∧ (∀ x, o = some x → vs[x.1]? = some (some x.2)) ∧ fd.length ≤ i ∧ S2 = [some (vL vs), some (.ref p), some (dLast o), k, m] ∧ w2 = put w p (.lst (fd.map q4))) (fun R h => h)
    ⟨[], none, none, none, rfl, fun _ z => (nomatch z), Nat.le_refl _, rfl, rfl⟩ ?_ ?_
  · rintro i d S2 w2 hd ⟨fd, o, k, m, he, ho, hf, rfl, rfl⟩
    obtain ⟨x, hx, rfl⟩ : ∃ x, vs[i]? = some x ∧ d = dO x := by
      rw [List.getElem?_map] at hd
      cases e : vs[i]? with
      | none => rw [e] at hd; cases hd
      | some x => rw [e] at hd; cases hd; exact ⟨x, rfl, rfl⟩
    obtain ⟨hi, hxe⟩ := List.getElem?_eq_some_iff.mp hx
    have hdr : vs.drop i = x :: vs.drop (i + 1) := by rw [List.drop_eq_getElem_cons hi, hxe]
    rw [hdr] at he
    walk_at "td"
    cases x with
    | none =>
      unfold dO
      walk_at "td"
      unfold strF at he
      exact ⟨fd, o, _, _, he, ho, by omega, rfl, rfl⟩
    | some s =>
      unfold dO
      walk_at "td"
      cases o with
      | none =>
        unfold strF at he
        refine ⟨fun S2 w2 => S2 = [some (vL vs), some (.ref p), some .non, some (.int i), some (.int s)] ∧ w2 = put w p (.lst (fd.map q4)), ?_, ?_⟩
        · unfold dLast
          walk_at "td"
        · rintro S2 w2 ⟨rfl, rfl⟩
          walk_at "td"
          exact ⟨fd, some (i, s), _, _, he, fun x z => by cases z; exact hx, by omega, rfl, rfl⟩
      | some kv =>
        obtain ⟨l, v⟩ := kv
        have hl2 := ho _ rfl
        unfold strF at he
        refine dCut_if (fun S2 w2 => ∃ fd2 : List Q4, fd2 ++ strF (i + 1) (some (i, s)) (vs.drop (i + 1)) = strM vs ∧ fd2.length ≤ i + 1 ∧ S2 = [some (vL vs), some (.ref p), some (.int l), some (.int i), some (.int s)] ∧ w2 = put w p (.lst (fd2.map q4))) (b := decide (¬ v = s)) (fun Q q => ?_) (fun hb => ?_) (fun hb => ?_) ?_
        · unfold dLast
          walk_at "td"
          rw [ixD_l (atI_vals (v := some v) (by omega) hl2)]
          unfold dO
          walk_at "td"
          by_cases e : v = s
          · simp only [e, decide_true, not_true, decide_false] at q ⊢; exact q
          · simp only [e, decide_false, not_false_iff, decide_true] at q ⊢; exact q
        · have hne : ¬ v = s := by simpa using hb
          rw [if_neg hne] at he
          refine dApp_ev (p := p) (xs := fd.map q4) (d := q4 ⟨l, i, v, s⟩) rfl put_same (fun Q q => ?_) (smallL (by rw [List.length_map]; omega)) ⟨fd ++ [⟨l, i, v, s⟩], by rw [← he]; simp, by simp; omega, rfl, by rw [put_put, List.map_append]; rfl⟩
          unfold dLast
          walk_at "td"
          rw [ixD_l (atI_vals (v := some v) (by omega) hl2)]
          exact ⟨by decide, q⟩
        · have hne : v = s := by simpa using hb
          rw [if_pos hne] at he
          exact ⟨fd, he, by omega, rfl, rfl⟩
        · rintro S2 w2 ⟨fd2, h1, h2, rfl, rfl⟩
          walk_at "td"
          exact ⟨fd2, some (i, s), _, _, h1, fun x z => by cases z; exact hx, by omega, rfl, rfl⟩
  · rintro S2 w2 ⟨fd, o, k, m, he, ho, hf, rfl, rfl⟩
    walk_at "td"
    rw [List.length_map, List.drop_length] at he
    unfold strF at he
    rw [List.append_nil] at he
    rw [he]
    exact q p hp
end TD

set_option maxHeartbeats 4000000
namespace TD
open PySem PySem.Spec PyProof.Rows L2
local macro_rules | `(tactic| walk_at "td") => `(tactic| simp only [dSeq, dIf, dB, dOp, dUn, dCB, dVar, dC, dRet, dRetN, dNext, dDrop, dAsg, dAnd, dOr, dNot, dAndV, dOrV, dNotV, dIfE, dChain, dCons, dNil, dTup, dLst, dLstO, dCall, dSl, dPart, dNoPart, dBM, dBM0, dAug, dAsgG, dgName, dgTup, setAll, dCont, dBreak,
  addD_ii, addD_ss, addD_tt, addD_ll, subD_ii, mulD_ii, mulD_li, fdivD_ii, modD_ii, powD_ii, negD_i, ltD_ii, leD_ii, gtD_ii, geD_ii, eqD_ii, eqD_ss, eqD_bb, eqD_nn, eqD_ni, eqD_in, isN_x, isNon_non, isNon_int, isNon_str, isNon_bl, isNon_lst, isNon_tup, isNon_ref, lenD_l, lenD_r, lenD_t, lenD_s, slD_l, slD_t, slD_s, listD_l, listD_r, listD_t, listD_lO, listD_tO, tupleD_l, tupleD_t, sumD_l, allD_l, maxD_ii, minD_ii, absD_i, atSeq_l, atSeq_r, wipeD, dTy_put, app_put, true_and, and_true, dFrz, put_same, Option.bind_some, frzD_lst,
  startD, List.map_cons, List.map_nil, List.cons_append, List.nil_append, List.length_cons, List.length_nil, List.getElem?_cons_zero, List.getElem?_cons_succ, List.set_cons_zero, List.set_cons_succ, List.replicate_succ, List.replicate_zero, List.append_nil, Nat.reduceAdd, Nat.reduceSub, Int.reduceToNat, decide_eq_true_eq, Bool.false_bne, Bool.true_bne, Bool.not_eq_true', Bool.not_eq_true, decide_eq_false_iff_not, Bool.false_eq_true, Bool.true_eq_false, if_true, if_false, ite_true, ite_false, reduceIte])
local macro_rules | `(tactic| walk_at "leaf") => `(tactic| (intro Q q; first | exact q | exact ⟨by omega, q⟩ | exact ⟨⟨by omega, by omega⟩, q⟩ | exact ⟨.inl ⟨by omega, by omega⟩, q⟩ | exact ⟨.inr ⟨by omega, by omega⟩, q⟩ | (rw [ixD_l (atI_ints (by first | omega | grind) (by first | omega | grind))]; exact q) | (rw [inD_lst rfl (all_ints _), inL_ints]; exact q) | (rw [lenD_l, List.length_map]; exact q) | (rw [lenD_r, List.length_map]; exact q)))
local macro_rules | `(tactic| walk_at "ev") => `(tactic| repeat' (first | exact eve_var rfl | exact eve_c | exact eva_nil | apply evt_and | apply evt_or | apply evt_not | apply evt_B | apply eva_cons | apply eve_and | apply eve_or | apply eve_not | apply eve_chain | apply eve_op | apply eve_un | apply eve_cb | (refine Gd.mk (fun _ => ?_)) | (refine Gn.mk (fun _ => ?_)) | walk_at "leaf"))
local macro_rules | `(tactic| walk_at "bl") => `(tactic| simp only [Bool.false_bne, Bool.true_bne, Bool.and_eq_true, Bool.or_eq_true, Bool.and_eq_false_iff, Bool.or_eq_false_iff, Bool.not_eq_true', Bool.not_eq_false', Bool.not_not, decide_eq_true_eq, decide_eq_false_iff_not] at *)
def valOf (vs : List (Option Int)) (i : Nat) : Int := (vs.getD i none).getD 0
def placesF : Nat → List (Option Int) → List Nat
  | _, [] => []
  | i, none :: r => placesF (i + 1) r
  | i, some _ :: r => i :: placesF (i + 1) r
def pairF (vs : List (Option Int)) : List Nat → List Q4
  | a :: b :: r => (if valOf vs a = valOf vs b then [] else [⟨a, b, valOf vs a, valOf vs b⟩]) ++ pairF vs (b :: r)
  | _ => []
theorem pair_str (vs : List (Option Int)) : ∀ (l : List (Option Int)) (i : Nat), l = vs.drop i → strF i none l = pairF vs (placesF i l) ∧ ∀ k, strF i (some (k, valOf vs k)) l = pairF vs (k :: placesF i l)
  | [], i, _ => ⟨rfl, fun _ => rfl⟩
  | none :: r, i, h => by
    have hr : r = vs.drop (i + 1) := by
      rw [← List.drop_drop, ← h]; rfl
    obtain ⟨h1, h2⟩ := pair_str vs r (i + 1) hr
    unfold strF placesF
    exact ⟨h1, h2⟩
  | some s :: r, i, h => by
    have hr : r = vs.drop (i + 1) := by
      rw [← List.drop_drop, ← h]; rfl
    have hv : valOf vs i = s := by
      unfold valOf
      rw [List.getD_eq_getElem?_getD]
      have : vs[i]? = some (some s) := by
        have := congrArg (·[0]?) h
        simpa using this.symm
      rw [this]; rfl
    obtain ⟨h1, h2⟩ := pair_str vs r (i + 1) hr
    have h3 := h2 i
    rw [hv] at h3
    refine ⟨by unfold strF placesF; exact h3, fun k => ?_⟩
    unfold strF placesF pairF
    rw [h3, hv]
theorem places_filter (vs : List (Option Int)) : ∀ (l : List (Option Int)) (i : Nat), l = vs.drop i → (List.range' i l.length).filter (fun j => (vs.getD j none).isSome) = placesF i l
  | [], i, _ => rfl
  | x :: r, i, h => by
    have hr : r = vs.drop (i + 1) := by
      rw [← List.drop_drop, ← h]; rfl
    have hv : vs.getD i none = x := by
      rw [List.getD_eq_getElem?_getD]
      have : vs[i]? = some x := by
        have := congrArg (·[0]?) h
        simpa using this.symm
      rw [this]; rfl
    have ih := places_filter vs r (i + 1) hr
    rw [List.length_cons, List.range'_succ, List.filter_cons, hv, ih]
    cases x <;> rfl
theorem places_is (vs : List (Option Int)) : (List.range vs.length).filter (fun j => (vs.getD j none).isSome) = placesF 0 vs := by
  rw [List.range_eq_range']; exact places_filter vs vs 0 rfl
theorem place_some {vs : List (Option Int)} {k : Nat} (h : k ∈ placesF 0 vs) : vs[k]? = some (some (valOf vs k)) ∧ k < vs.length := by
  rw [← places_is] at h
  obtain ⟨h1, h2⟩ := List.mem_filter.mp h
  have hl := List.mem_range.mp h1
  refine ⟨?_, hl⟩
  have e : vs[k]? = some vs[k] := List.getElem?_eq_getElem hl
  have e2 : vs.getD k none = vs[k] := by rw [List.getD_eq_getElem?_getD, e]; rfl
  unfold valOf
  rw [e, e2]
  rw [e2] at h2
  cases hv : vs[k] with
  | none => rw [hv] at h2; cases h2
  | some x => rfl
theorem places_len (vs : List (Option Int)) : (placesF 0 vs).length ≤ vs.length := by
  rw [← places_is]
  have := List.length_filter_le (fun j => (vs.getD j none).isSome) (List.range vs.length)
  rwa [List.length_range] at this
/-- the places that are known -/
theorem places_lc {vs : List (Option Int)} (hl : vs.length ≤ 10000) {S : DSt} {w : Wd} {Q : DKt} {v j : Nat} (hv : (wipeD S [j]).set j (some (.int (0 : Int))) = (wipeD S [j]).set j (some (.int (0 : Int)))) (hS : S[v]? = some (some (vL vs))) (hS2 : ∀ d, ((wipeD S [j]).set j d)[v]? = some (some (vL vs))) (hj : ∀ d, ((wipeD S [j]).set j d)[j]? = some d)
    (q : Q (.lst ((placesF 0 vs).map fun (n : Nat) => D.int n)) w) : dLc (diR1 (dCons (dCB lenD (dCons (dVar v) dNil)) dNil)) (.one j) (dB (dOp (isN true) (dOp ixD (dVar v) (dVar j)) (dC .non))) (dVar j) S w Q := by
  refine dLc_r1f (n := vs.length) (c := fun j => (vs.getD j none).isSome) (f := fun p => .int p) (fun R h => ?_) (by omega) (by omega) (fun i hi => ⟨fun Q q => ?_, fun _ Q q => ?_⟩) ?_
  · walk_at "td"
    simp only [hS, lenD_l, List.length_map]; exact h
  · have hi' : i < vs.length := by omega
    have e : vs[i]? = some vs[i] := List.getElem?_eq_getElem hi'
    have e2 : vs.getD i none = vs[i] := by rw [List.getD_eq_getElem?_getD, e]; rfl
    simp only [dB, dOp, dVar, dC, hS2, hj]
    rw [ixD_l (atI_vals (v := vs[i]) (by omega) e)]
    rw [e2] at q
    cases hx : vs[i] with
    | none => rw [hx] at q; exact q
    | some x => rw [hx] at q; exact q
  · simp only [dVar, hj]; exact q
  · have e : ((vs.length : Int)).toNat = vs.length := by omega
    rw [e, places_is]; exact q
end TD

set_option maxHeartbeats 4000000
namespace TD
open PySem PySem.Spec PyProof.Rows L2
local macro_rules | `(tactic| walk_at "td") => `(tactic| simp only [dSeq, dIf, dB, dOp, dUn, dCB, dVar, dC, dRet, dRetN, dNext, dDrop, dAsg, dAnd, dOr, dNot, dAndV, dOrV, dNotV, dIfE, dChain, dCons, dNil, dTup, dLst, dLstO, dCall, dSl, dPart, dNoPart, dBM, dBM0, dAug, dAsgG, dgName, dgTup, setAll, dCont, dBreak,
  addD_ii, addD_ss, addD_tt, addD_ll, subD_ii, mulD_ii, mulD_li, fdivD_ii, modD_ii, powD_ii, negD_i, ltD_ii, leD_ii, gtD_ii, geD_ii, eqD_ii, eqD_ss, eqD_bb, eqD_nn, eqD_ni, eqD_in, isN_x, isNon_non, isNon_int, isNon_str, isNon_bl, isNon_lst, isNon_tup, isNon_ref, lenD_l, lenD_r, lenD_t, lenD_s, slD_l, slD_t, slD_s, listD_l, listD_r, listD_t, listD_lO, listD_tO, tupleD_l, tupleD_t, sumD_l, allD_l, maxD_ii, minD_ii, absD_i, atSeq_l, atSeq_r, wipeD, dTy_put, app_put, true_and, and_true, dFrz, put_same, Option.bind_some, frzD_lst,
  startD, List.map_cons, List.map_nil, List.cons_append, List.nil_append, List.length_cons, List.length_nil, List.getElem?_cons_zero, List.getElem?_cons_succ, List.set_cons_zero, List.set_cons_succ, List.replicate_succ, List.replicate_zero, List.append_nil, Nat.reduceAdd, Nat.reduceSub, Int.reduceToNat, decide_eq_true_eq, Bool.false_bne, Bool.true_bne, Bool.not_eq_true', Bool.not_eq_true, decide_eq_false_iff_not, Bool.false_eq_true, Bool.true_eq_false, if_true, if_false, ite_true, ite_false, reduceIte])
local macro_rules | `(tactic| walk_at "leaf") => `(tactic| (intro Q q; first | exact q | exact ⟨by omega, q⟩ | exact ⟨⟨by omega, by omega⟩, q⟩ | exact ⟨.inl ⟨by omega, by omega⟩, q⟩ | exact ⟨.inr ⟨by omega, by omega⟩, q⟩ | (rw [ixD_l (atI_ints (by first | omega | grind) (by first | omega | grind))]; exact q) | (rw [inD_lst rfl (all_ints _), inL_ints]; exact q) | (rw [lenD_l, List.length_map]; exact q) | (rw [lenD_r, List.length_map]; exact q)))
local macro_rules | `(tactic| walk_at "ev") => `(tactic| repeat' (first | exact eve_var rfl | exact eve_c | exact eva_nil | apply evt_and | apply evt_or | apply evt_not | apply evt_B | apply eva_cons | apply eve_and | apply eve_or | apply eve_not | apply eve_chain | apply eve_op | apply eve_un | apply eve_cb | (refine Gd.mk (fun _ => ?_)) | (refine Gn.mk (fun _ => ?_)) | walk_at "leaf"))
local macro_rules | `(tactic| walk_at "bl") => `(tactic| simp only [Bool.false_bne, Bool.true_bne, Bool.and_eq_true, Bool.or_eq_true, Bool.and_eq_false_iff, Bool.or_eq_false_iff, Bool.not_eq_true', Bool.not_eq_false', Bool.not_not, decide_eq_true_eq, decide_eq_false_iff_not] at *)
theorem dLc_call {tl te : DE} {tt : DT} {T : Tgt} {S : DSt} {w : Wd} {Q : DKt} {xs : List D} {c : D → Bool} {f : D → D} (ha : ∀ R : D → Wd → Prop, (∀ p, w p = none → R (.ref p) (put w p (.lst xs))) → tl S w R) (h2 : xs.length ≤ 100000)
    (he : ∀ w1, ∀ d ∈ xs, T.dg d (wipeD S T.vs) fun S2 => EvT tt S2 w1 (c d) ∧ (c d = true → EvE te S2 w1 (f d))) (hq : ∀ w1, Q (.lst ((xs.filter c).map f)) w1) : dLc (diL tl) T tt te S w Q := by
  refine ha _ (fun p hp => ?_)
  rw [atSeq_w put_same]
  refine ⟨_, lc_fl (xs := xs) rfl (fun i d h => by show xs.getD i _ = d; rw [List.getD_eq_getElem?_getD, h]; rfl) h2 put_same (he _), ?_⟩
  show Q (.lst (((xs.take xs.length).filter c).map f)) _
  rw [List.take_length]; exact hq _
def hv (g : Nat) : Nat := if g ≤ 1 then 0 else 1 + hv ((g + 1) / 2)
termination_by g
decreasing_by omega
theorem hv_le {g : Nat} (h : g ≤ 1) : hv g = 0 := by rw [hv, if_pos h]
theorem hv_gt {g : Nat} (h : ¬ g ≤ 1) : hv g = 1 + hv ((g + 1) / 2) := by rw [hv, if_neg h]
theorem hv_spec (g : Nat) : g ≤ 2 ^ hv g := by
  induction g using Nat.strongRecOn with
  | _ g ih =>
    by_cases h : g ≤ 1
    · rw [hv_le h]; exact h
    · have := ih ((g + 1) / 2) (by omega)
      rw [hv_gt h, Nat.add_comm, Nat.pow_succ]; omega
theorem hv_least (g m : Nat) (h : g ≤ 2 ^ m) : hv g ≤ m := by
  induction g using Nat.strongRecOn generalizing m with
  | _ g ih =>
    by_cases h1 : g ≤ 1
    · rw [hv_le h1]; exact Nat.zero_le _
    · cases m with
      | zero => simp at h; omega
      | succ m =>
        rw [Nat.pow_succ] at h
        have := ih ((g + 1) / 2) (by omega) m (by omega)
        rw [hv_gt h1]; omega
def askM (vs : List (Option Int)) : Int := ((strM vs).map fun q => (hv ((q.b : Int) - q.a).toNat : Int)).sum
def wideQ (q : Q4) : Bool := decide (1 < (q.b : Int) - q.a)
def midQ (q : Q4) : Int := ((q.a : Int) + q.b) / 2
def nextM (vs : List (Option Int)) : Option Int := (((strM vs).filter wideQ).map midQ).head?
abbrev q2 (x : Q4) : D := .tup [.int x.a, .int x.b]
def sp_halvings : DSp := fun ds w Q _ => ∃ (g : Int), ds = [.int g] ∧ Q (.int (hv g.toNat)) w
def sp__law_halved : DSp := fun ds w Q _ => ∃ (g : Int), ds = [.int g] ∧ Q (.int (hv g.toNat)) w
def sp_askings : DSp := fun ds w Q _ => ∃ (vs : List (Option Int)), ds = [vL vs] ∧ vs.length ≤ 10000 ∧ ∀ w1, Q (.int (askM vs)) w1
def sp_to_ask : DSp := fun ds w Q _ => ∃ (vs : List (Option Int)), ds = [vL vs] ∧ vs.length ≤ 10000 ∧ ∀ w1, Q (dO (nextM vs)) w1
def sp__law_gaps : DSp := fun ds w Q _ => ∃ (vs : List (Option Int)), ds = [vL vs] ∧ vs.length ≤ 10000 ∧ Q (.lst ((strM vs).map q2)) w
def sp_law : DSp := fun ds _ Q _ => ∃ (ns : List Int), ds = [.rol (ns.map D.int)] ∧ ns.length ≤ 63 ∧ ∀ w, Q (.bl true) w
def t_askings (E : DX) : DS :=
  let W' : DWX := fun c d _ w => E c d w
  (dRet (dCB sumD (dCons (dLc (diL (dCall sp_stretches W' (dCons (dVar 0) dNil))) (.many [1, 2, 3, 4]) dYes (dCall sp_halvings DW0 (dCons (dOp subD (dVar 2) (dVar 1)) dNil))) dNil)))
def t_halvings (E : DX) : DS :=
  let W' : DWX := fun c d _ w => E c d w
  (dSeq (dAsg (dC (.int 0)) 1) (dSeq (dWhile (dB (dOp gtD (dVar 0) (dC (.int 1)))) (dSeq (dAsg (dOp fdivD (dOp addD (dVar 0) (dC (.int 1))) (dC (.int 2))) 0) (dAug 1 (dC (.int 1)) fun x y => x + y))) (dRet (dVar 1))))
def t_to_ask (E : DX) : DS :=
  let W' : DWX := fun c d _ w => E c d w
  (dSeq (dFor (diL (dCall sp_stretches W' (dCons (dVar 0) dNil))) (dgTup [1, 2, 3, 4]) (dIf (dB (dOp gtD (dOp subD (dVar 2) (dVar 1)) (dC (.int 1)))) (dRet (dOp fdivD (dOp addD (dVar 1) (dVar 2)) (dC (.int 2)))) dNext)) (dRet (dC .non)))
def t__law_halved (E : DX) : DS :=
  let W' : DWX := fun c d _ w => E c d w
  (dSeq (dAsg (dC (.int 0)) 1) (dSeq (dAsg (dC (.int 1)) 2) (dSeq (dWhile (dB (dOp ltD (dVar 2) (dVar 0))) (dSeq (dAsg (dOp mulD (dC (.int 2)) (dVar 2)) 2) (dAug 1 (dC (.int 1)) fun x y => x + y))) (dRet (dVar 1)))))
def t__law_gaps (E : DX) : DS :=
  let W' : DWX := fun c d _ w => E c d w
  (dSeq (dAsg (dLc (diR1 (dCons (dCB lenD (dCons (dVar 0) dNil)) dNil)) (.one 3) (dB (dOp (isN true) (dOp ixD (dVar 0) (dVar 3)) (dC .non))) (dVar 3)) 1) (dSeq (dAsg (dListZ (dCons (dVar 1) (dCons (dSl slD (dVar 1) (dPart (dC (.int 1))) dNoPart) dNil))) 2) (dRet (dLc (diL (dVar 2)) (.many [4, 5]) (dB (dOp (eqD true) (dOp ixD (dVar 0) (dVar 4)) (dOp ixD (dVar 0) (dVar 5)))) (dTup (dCons (dVar 4) (dCons (dVar 5) dNil)))))))
def t_law (E : DX) : DS :=
  let W' : DWX := fun c d _ w => E c d w
  (dSeq (dFor (diT (dTup (dCons (dOp addD (dC (.int 1)) (dOp modD (dCall sp__law_cell W' (dCons (dVar 0) (dCons (dC (.int 2)) dNil))) (dOp powD (dC (.int 10)) (dC (.int 12))))) (dCons (dC (.int 1)) (dCons (dC (.int 2)) (dCons (dC (.int 3)) dNil)))))) (dgName 1) (dIf (dNot (dB (dCall (sp_like 6) W' (dCons (dCall sp_halvings W' (dCons (dVar 1) dNil)) (dCons (dCall sp__law_halved W' (dCons (dVar 1) dNil)) dNil))))) (dRet (dC (.bl false))) dNext)) (dSeq (dFor (diT (dTup (dCons (dC (.int 0)) (dCons (dC (.int 1)) (dCons (dC (.int 0)) dNil))))) (dgName 2) (dSeq (dAsg (dCall sp__law_values W' (dCons (dVar 0) (dCons (dVar 2) (dCons (dC (.int 12)) dNil)))) 3) (dSeq (dAsg (dCall sp__law_gaps W' (dCons (dVar 3) dNil)) 1) (dSeq (dAsg (dCB (listD false) (dCons (dVar 3) dNil)) 4) (dSeq (dIf (dNot (dB (dCall (sp_like 6) W' (dCons (dCall sp_askings W' (dCons (dVar 4) dNil)) (dCons (dCB sumD (dCons (dLc (diL (dVar 1)) (.many [6, 7]) dYes (dCall sp__law_halved DW0 (dCons (dOp subD (dVar 7) (dVar 6)) dNil))) dNil)) dNil))))) (dRet (dC (.bl false))) dNext) (dSeq (dAsg (dLc (diL (dVar 1)) (.many [6, 7]) (dB (dOp gtD (dOp subD (dVar 7) (dVar 6)) (dC (.int 1)))) (dOp fdivD (dOp addD (dVar 6) (dVar 7)) (dC (.int 2)))) 5) (dIf (dOr (dNot (dB (dCall (sp_like 6) W' (dCons (dCall sp_to_ask W' (dCons (dVar 4) dNil)) (dCons (dOp ixD (dOp addD (dVar 5) (dLst (dCons (dC .non) dNil))) (dC (.int 0))) dNil))))) (dB (dOp (eqD true) (dVar 4) (dVar 3)))) (dRet (dC (.bl false))) dNext))))))) (dRet (dAndV (dCall (sp_like 6) W' (dCons (dCall sp_askings W' (dCons (dLst (dCons (dC (.int 5)) dNil)) dNil)) (dCons (dC (.int 0)) dNil))) (dOp (isN false) (dCall sp_to_ask W' (dCons (dLst (dCons (dC (.int 5)) dNil)) dNil)) (dC .non))))))
theorem red_halvings : ∀ ds w Q E, sp_halvings ds w Q E → t_halvings E { nx := fun _ w1 => Q .non w1, rt := Q } (startD ["gaps", "many"] ds) w := by
  rintro ds w Q E ⟨g, rfl, q⟩
  unfold t_halvings
  walk_at "td"
  refine dWhile_by (fun m S2 w2 => ∃ (h : Int) (k : Nat), m = h.toNat ∧ k + hv h.toNat = hv g.toNat ∧ S2 = [some (.int h), some (.int k)] ∧ w2 = w) g.toNat ⟨g, 0, rfl, by omega, rfl, rfl⟩ ?_
  rintro m S2 w2 ⟨h, k, rfl, hk, rfl, rfl⟩
  walk_at "td"
  by_cases c : 1 < h
  · simp only [c, if_true]
    refine ⟨⟨by decide, by decide⟩, ?_⟩
    rw [hv_gt (by omega)] at hk
    have e : ((h + 1) / 2).toNat = (h.toNat + 1) / 2 := by omega
    exact ⟨((h + 1) / 2).toNat, by omega, (h + 1) / 2, k + 1, rfl, by rw [e]; omega, rfl⟩
  · simp only [c, if_false]
    rw [hv_le (by omega)] at hk
    rw [show k = hv g.toNat by omega]; exact q
theorem red__law_halved : ∀ ds w Q E, sp__law_halved ds w Q E → t__law_halved E { nx := fun _ w1 => Q .non w1, rt := Q } (startD ["_law_gaps_here", "_law_many", "_law_reach"] ds) w := by
  rintro ds w Q E ⟨g, rfl, q⟩
  unfold t__law_halved
  walk_at "td"
  have hs := hv_spec g.toNat
  have hl := hv_least g.toNat
  generalize hv g.toNat = n at *
  refine dWhile_by (fun m S2 w2 => ∃ (k : Nat), m = n - k ∧ k ≤ n ∧ S2 = [some (.int g), some (.int k), some (.int ((2 ^ k : Nat) : Int))] ∧ w2 = w) n ⟨0, rfl, by omega, rfl, rfl⟩ ?_
  rintro m S2 w2 ⟨k, rfl, hk, rfl, rfl⟩
  walk_at "td"
  have hkn : k < n → 2 ^ k < g.toNat := fun h => by
    rcases Nat.lt_or_ge (2 ^ k) g.toNat with h1 | h1
    · exact h1
    · have := hl k h1; omega
  by_cases c : ((2 ^ k : Nat) : Int) < g
  · simp only [c, if_true]
    have hk2 : k < n := by
      rcases Nat.lt_or_ge k n with h | h
      · exact h
      · have e : k = n := by omega
        subst e; omega
    refine ⟨?_, n - (k + 1), by omega, k + 1, rfl, by omega, ?_⟩
    · exact .inl ⟨by decide, by decide⟩
    · rw [Nat.pow_succ]
      have e : ((2 ^ k * 2 : Nat) : Int) = 2 * ((2 ^ k : Nat) : Int) := by omega
      rw [e]; rfl
  · simp only [c, if_false]
    have e : k = n := by
      rcases Nat.lt_or_ge k n with h | h
      · have h1 := hkn h
        exfalso
        generalize 2 ^ k = t at c h1
        omega
      · omega
    subst e; exact q
theorem red_askings : ∀ ds w Q E, sp_askings ds w Q E → t_askings E { nx := fun _ w1 => Q .non w1, rt := Q } (startD ["values", "first", "last", "one", "other"] ds) w := by
  rintro ds w Q E ⟨vs, rfl, hl, q⟩
  unfold t_askings
  show dRet _ _ _ _
  unfold dRet dCB dCons
  have hn := strF_len vs 0 none
  refine dLc_call (xs := (strM vs).map q4) (c := fun _ => true) (f := fun d => match d with | .tup [.int a, .int b, _, _] => .int (hv (b - a).toNat) | d => d) (fun R r => ⟨vs, rfl, hl, r⟩) (by rw [List.length_map]; unfold strM; omega) (fun w1 d hd => ?_) (fun w1 => ?_)
  · obtain ⟨x, hx, rfl⟩ := List.mem_map.mp hd
    refine ⟨rfl, fun _ r => r, fun _ R r => ?_⟩
    walk_at "td"
    exact ⟨_, rfl, r⟩
  · have e : (List.filter (fun _ : D => true) ((strM vs).map q4)).map (fun d => match d with | .tup [.int a, .int b, _, _] => .int (hv (b - a).toNat) | d => d) = ((strM vs).map fun q => (hv ((q.b : Int) - q.a).toNat : Int)).map D.int := by
      rw [List.filter_eq_self.mpr (fun _ _ => rfl), List.map_map, List.map_map]; rfl
    rw [e]
    walk_at "td"
    exact q w1
theorem red_to_ask : ∀ ds w Q E, sp_to_ask ds w Q E → t_to_ask E { nx := fun _ w1 => Q .non w1, rt := Q } (startD ["values", "first", "last", "one", "other"] ds) w := by
  rintro ds w Q E ⟨vs, rfl, hl, q⟩
  unfold t_to_ask
  show dSeq _ _ _ _ _
  unfold dSeq
  have key : ∀ p, w p = none → dFor (diL (dC (.ref p))) (dgTup [1, 2, 3, 4]) (dIf (dB (dOp gtD (dOp subD (dVar 2) (dVar 1)) (dC (.int 1)))) (dRet (dOp fdivD (dOp addD (dVar 1) (dVar 2)) (dC (.int 2)))) dNext)
      { nx := fun S2 w2 => dRet (dC .non) { nx := fun _ w1 => Q .non w1, rt := Q } S2 w2, rt := Q } (startD ["values", "first", "last", "one", "other"] [vL vs]) (put w p (.lst ((strM vs).map q4))) := by
    intro p hp
    refine dFor_w (p := p) (xs := (strM vs).map q4) (fun i S2 w2 => ∃ (a b c d : Option D), ((strM vs).take i).filter wideQ = [] ∧ S2 = [some (vL vs), a, b, c, d] ∧ w2 = put w p (.lst ((strM vs).map q4))) (fun R h => h) put_same ⟨none, none, none, none, rfl, rfl, rfl⟩ ?_ ?_
    · rintro i d S2 w2 hd ⟨a, b, c, d1, hw, rfl, rfl⟩
      refine ⟨put_same, ?_⟩
      rw [List.getElem?_map] at hd
      cases hx : (strM vs)[i]? with
      | none => rw [hx] at hd; cases hd
      | some x =>
        rw [hx] at hd
        cases hd
        have ht : (strM vs).take (i + 1) = (strM vs).take i ++ [x] := by rw [List.take_add_one, hx]; rfl
        walk_at "td"
        by_cases cc : 1 < (x.b : Int) - x.a
        · simp only [cc, if_true]
          have e : nextM vs = some (midQ x) := by
            unfold nextM
            have hs : strM vs = (strM vs).take (i + 1) ++ (strM vs).drop (i + 1) := (List.take_append_drop _ _).symm
            rw [hs, ht, List.filter_append, List.filter_append, hw]
            simp [wideQ, cc]
          have := q (put w p (.lst ((strM vs).map q4)))
          rw [e] at this
          exact ⟨⟨by decide, by decide⟩, this⟩
        · simp only [cc, if_false]
          refine ⟨_, _, _, _, ?_, rfl⟩
          rw [ht, List.filter_append, hw]; simp [wideQ, cc]
    · rintro S2 w2 ⟨a, b, c, d1, hw, rfl, rfl⟩
      refine ⟨put_same, ?_⟩
      rw [List.length_map, List.take_length] at hw
      have := q (put w p (.lst ((strM vs).map q4)))
      have e : nextM vs = none := by unfold nextM; rw [hw]; rfl
      rw [e] at this
      exact this
  exact ⟨vs, rfl, hl, fun p hp => key p hp⟩
theorem zip_map2 {α β γ : Type} (f : α → γ) (g : β → γ) : ∀ (l : List α) (m : List β), (l.map f).zip (m.map g) = (l.zip m).map fun z => (f z.1, g z.2)
  | [], _ => rfl
  | _ :: _, [] => rfl
  | a :: l, b :: m => by rw [List.map_cons, List.map_cons, List.zip_cons_cons, zip_map2 f g l m]; rfl
theorem pairs_is (vs : List (Option Int)) : ∀ L : List Nat, ((L.zip (L.drop 1)).filter fun z => !(valOf vs z.1 == valOf vs z.2)).map (fun z => (D.tup [.int (z.1 : Nat), .int (z.2 : Nat)] : D)) = (pairF vs L).map q2
  | [] => rfl
  | [a] => rfl
  | a :: b :: r => by
    have ih := pairs_is vs (b :: r)
    rw [pairF, List.map_append, ← ih]
    show List.map _ (List.filter _ ((a, b) :: (b :: r).zip r)) = _
    rw [List.filter_cons]
    by_cases e : valOf vs a = valOf vs b
    · simp [e]
    · simp [e]
theorem red__law_gaps : ∀ ds w Q E, sp__law_gaps ds w Q E → t__law_gaps E { nx := fun _ w1 => Q .non w1, rt := Q } (startD ["_law_values_here", "_law_places", "_law_some", "_law_place", "_law_one", "_law_other"] ds) w := by
  rintro ds w Q E ⟨vs, rfl, hl, q⟩
  unfold t__law_gaps
  show dSeq _ _ _ _ _
  unfold dSeq dAsg
  refine places_lc hl rfl rfl (fun _ => rfl) (fun _ => rfl) ?_
  have hpl := places_len vs
  have hps : ∀ k ∈ placesF 0 vs, _ := fun k hk => place_some hk
  have hR : pairF vs (placesF 0 vs) = strM vs := (pair_str vs vs 0 rfl).1.symm
  rw [← hR, ← pairs_is] at q
  generalize placesF 0 vs = L at hpl hps q hR
  walk_at "td"
  unfold dListZ
  walk_at "td"
  have hcut : cutD (L.map fun (n : Nat) => D.int n) (some 1) none = (L.drop 1).map fun (n : Nat) => D.int n := by
    unfold cutD
    rw [show (1 : Int) = ((1 : Nat) : Int) from rfl, HT.sIx_nat, HT.sIx_none, List.length_map, List.map_drop]
    rcases Nat.eq_zero_or_pos L.length with h | h
    · rw [List.length_eq_zero_iff.mp h]; rfl
    · rw [show min 1 L.length = 1 by omega]
      exact List.take_of_length_le (by simp)
  rw [hcut]
  refine ⟨_, _, rfl, rfl, ?_, ?_⟩
  · rw [List.length_map]; exact Nat.le_of_lt (smallL (by omega))
  rw [zip_map2, List.map_map]
  refine dLc_lf (xs := (L.zip (L.drop 1)).map fun z => .tup [.int (z.1 : Nat), .int (z.2 : Nat)]) (c := fun d => match d with | .tup [.int a, .int b] => !(valOf vs a.toNat == valOf vs b.toNat) | _ => false) (f := id) (fun R r => r) (by rw [List.length_map, List.length_zip]; omega) (fun d hd => ?_) ?_
  · obtain ⟨x, hx, rfl⟩ := List.mem_map.mp hd
    obtain ⟨x1, x2⟩ := List.of_mem_zip hx
    obtain ⟨va, la⟩ := hps _ x1
    obtain ⟨vb, lb⟩ := hps _ (List.mem_of_mem_drop x2)
    refine ⟨rfl, fun R r => ?_, fun _ R r => ?_⟩
    · simp only [Tgt.vs]
      walk_at "td"
      rw [ixD_l (atI_vals (v := some (valOf vs x.1)) (by omega) va), ixD_l (atI_vals (v := some (valOf vs x.2)) (by omega) vb)]
      unfold dO
      walk_at "td"
      have e : (!(valOf vs ((x.1 : Int)).toNat == valOf vs ((x.2 : Int)).toNat)) = (!decide (valOf vs x.1 = valOf vs x.2)) := by simp [Int.toNat_natCast]; rfl
      simp only [Int.toNat_natCast] at r
      have e2 : (!(valOf vs x.1 == valOf vs x.2)) = (!decide (valOf vs x.1 = valOf vs x.2)) := by
        by_cases z : valOf vs x.1 = valOf vs x.2 <;> simp [z]
      rw [e2] at r
      exact r
    · walk_at "td"
      exact ⟨by decide, r⟩
  · have e : (((L.zip (L.drop 1)).map fun z => (D.tup [.int (z.1 : Nat), .int (z.2 : Nat)] : D)).filter fun d => match d with | .tup [.int a, .int b] => !(valOf vs a.toNat == valOf vs b.toNat) | _ => false) = ((L.zip (L.drop 1)).filter fun z => !(valOf vs z.1 == valOf vs z.2)).map (fun z => (D.tup [.int (z.1 : Nat), .int (z.2 : Nat)] : D)) := by
      rw [List.filter_map]; rfl
    rw [e, List.map_id]; exact q
theorem red_law : ∀ ds w Q E, sp_law ds w Q E → t_law E { nx := fun _ w1 => Q .non w1, rt := Q } (startD ["_law_script", "_law_gaps_here", "_law_at", "_law_values_here", "_law_handed", "_law_wide", "_law_one", "_law_other"] ds) w := by
  rintro ds w Q E ⟨ns, rfl, hl, q⟩
  unfold t_law
  show dSeq _ _ _ _ _
  unfold dSeq
  generalize hg : 1 + cellM ns 2 % 10 ^ 12 = g
  refine dFor_t (xs := [.int g, .int 1, .int 2, .int 3]) (fun i S2 w2 => ∃ (a : Option D), S2 = [some (.rol (ns.map D.int)), a, none, none, none, none, none, none]) (fun R h => ?_) ⟨none, rfl⟩ ?_ ?_
  · walk_at "td"
    refine ⟨ns, 2, rfl, by decide, by decide, ?_⟩
    walk_at "td"
    refine ⟨⟨by decide, by decide⟩, by decide, ⟨by decide, ?_⟩⟩
    rw [hg]; exact h
  · rintro i d S2 w2 hd ⟨a, rfl⟩
    obtain ⟨x, rfl⟩ : ∃ x : Int, d = .int x := by
      match i, hd with
      | 0, hd => cases hd; exact ⟨_, rfl⟩
      | 1, hd => cases hd; exact ⟨_, rfl⟩
      | 2, hd => cases hd; exact ⟨_, rfl⟩
      | 3, hd => cases hd; exact ⟨_, rfl⟩
    walk_at "td"
    refine ⟨_, rfl, _, rfl, _, _, rfl, like_int _, ?_⟩
    walk_at "td"
    exact ⟨_, rfl⟩
  · rintro S2 w2 ⟨a, rfl⟩
    dsimp only
    refine dFor_t (xs := [.int 0, .int 1, .int 0]) (fun i S2 w2 => ∃ (a b c d e f g : Option D), S2 = [some (.rol (ns.map D.int)), a, b, c, d, e, f, g]) (fun R h => ⟨by decide, h⟩) ⟨_, _, _, _, _, _, _, rfl⟩ ?_ ?_
    · rintro i d S2 w2 hd ⟨a, b, c, d1, e, f, g, rfl⟩
      obtain ⟨at_, rfl, ha⟩ : ∃ a : Nat, d = .int a ∧ a ≤ 2 := by
        match i, hd with
        | 0, hd => cases hd; exact ⟨0, rfl, by decide⟩
        | 1, hd => cases hd; exact ⟨1, rfl, by decide⟩
        | 2, hd => cases hd; exact ⟨0, rfl, by decide⟩
      walk_at "td"
      refine ⟨ns, at_, rfl, by omega, by omega, fun vs k1 k2 => ?_⟩
      walk_at "td"
      have hln := strF_len vs 0 none
      refine ⟨vs, rfl, by omega, ?_⟩
      walk_at "td"
      refine ⟨vs, rfl, by omega, fun w3 => ?_⟩
      refine dLc_lf (xs := (strM vs).map q2) (c := fun _ => true) (f := fun d => match d with | .tup [.int a, .int b] => .int (hv (b - a).toNat) | d => d) (fun R r => r) (by rw [List.length_map]; unfold strM; omega) (fun d hd => ?_) ?_
      · obtain ⟨x, hx, rfl⟩ := List.mem_map.mp hd
        refine ⟨rfl, fun _ r => r, fun _ R r => ?_⟩
        walk_at "td"
        exact ⟨_, rfl, r⟩
      have e1 : (List.filter (fun _ : D => true) ((strM vs).map q2)).map (fun d => match d with | .tup [.int a, .int b] => .int (hv (b - a).toNat) | d => d) = ((strM vs).map fun q => (hv ((q.b : Int) - q.a).toNat : Int)).map D.int := by
        rw [List.filter_eq_self.mpr (fun _ _ => rfl), List.map_map, List.map_map]; rfl
      rw [e1]
      walk_at "td"
      refine ⟨_, _, rfl, like_int _, ?_⟩
      walk_at "td"
      refine dLc_lf (xs := (strM vs).map q2) (c := fun d => match d with | .tup [.int a, .int b] => decide (1 < b - a) | _ => false) (f := fun d => match d with | .tup [.int a, .int b] => .int ((a + b) / 2) | d => d) (fun R r => r) (by rw [List.length_map]; unfold strM; omega) (fun d hd => ?_) ?_
      · obtain ⟨x, hx, rfl⟩ := List.mem_map.mp hd
        refine ⟨rfl, fun R r => ?_, fun _ R r => ?_⟩
        · walk_at "td"
          exact r
        · walk_at "td"
          exact ⟨⟨by decide, by decide⟩, r⟩
      have e2 : (List.filter (fun d => match d with | .tup [.int a, .int b] => decide (1 < b - a) | _ => false) ((strM vs).map q2)).map (fun d => match d with | .tup [.int a, .int b] => .int ((a + b) / 2) | d => d) = (((strM vs).filter wideQ).map midQ).map D.int := by
        rw [List.filter_map, List.map_map, List.map_map]; rfl
      rw [e2]
      walk_at "td"
      refine ⟨vs, rfl, by omega, fun w4 => ?_⟩
      have hfl := List.length_filter_le wideQ (strM vs)
      refine ⟨by decide, ⟨smallL (by simp; unfold strM at hfl ⊢; omega), ?_⟩⟩
      have e3 : atI ((((strM vs).filter wideQ).map midQ).map D.int ++ [D.non]) 0 = some (dO (nextM vs)) := by
        unfold nextM
        cases (strM vs).filter wideQ with
        | nil => rfl
        | cons x r => exact atI_of (Int.le_refl 0) rfl
      rw [ixD_l e3]
      refine ⟨_, _, rfl, by cases nextM vs <;> first | exact like_non | exact like_int _, ?_⟩
      walk_at "td"
      rw [eqD_same rfl (pyOf_vals vs) (pyOf_vals vs) (shaped_vals vs)]
      walk_at "td"
      exact ⟨_, _, _, _, _, _, _, rfl⟩
    · rintro S2 w2 ⟨a, b, c, d1, e, f, g, rfl⟩
      walk_at "td"
      refine ⟨by decide, [some 5], rfl, by decide, fun w3 => ⟨_, _, rfl, like_int _, ?_⟩⟩
      walk_at "td"
      refine ⟨by decide, [some 5], rfl, by decide, fun w4 => ?_⟩
      walk_at "td"
      exact q _
end TD

set_option maxHeartbeats 0
namespace TD
open PySem PySem.Spec PyProof.Rows L2
def top (i : Nat) : Stmt := PySem.Challenge.pw_mastword_k15_halvings_and_askings.main.body.getD i (.Pass ⟨0, 0, 0, 0⟩)
abbrev st_stretches : Stmt := top 1
abbrev st_halvings : Stmt := top 2
abbrev st_askings : Stmt := top 3
abbrev st_to_ask : Stmt := top 4
abbrev st__law_cell : Stmt := top 6
abbrev st__law_row : Stmt := top 7
abbrev st__law_like : Stmt := top 8
abbrev st__law_values : Stmt := top 9
abbrev st__law_halved : Stmt := top 10
abbrev st__law_gaps : Stmt := top 11
abbrev st_law : Stmt := top 12
structure Tx (K : PySem.W.Frag) (mg : Str → Option Value) : Prop where
  f_all : mg "all" = none
  f_bool : mg "bool" = none
  f_enumerate : mg "enumerate" = none
  f_int : mg "int" = none
  f_isinstance : mg "isinstance" = none
  f_len : mg "len" = none
  f_list : mg "list" = none
  f_range : mg "range" = none
  f_str : mg "str" = none
  f_sum : mg "sum" = none
  f_tuple : mg "tuple" = none
  f_zip : mg "zip" = none
section
variable {P : Program} {w : World} {K : PySem.W.Frag} {mg : Str → Option Value} {base : Heap}
theorem sc_stretches : FnScope ["values", "found", "last", "place", "sign"] ["values"] (defScope st_stretches) := ⟨rfl, rfl, rfl, by decide +kernel, rfl, by decide +kernel, by decide +kernel⟩
theorem ok_stretches {f : Addr} {fd : FuncData} (F : FunD K "stretches" "stretches" (defArgs st_stretches) (defBody st_stretches) (defScope st_stretches) [] [] f fd) (T : Tx K mg)
    (len : ∀ ds w Q E, (sp_stretches) ds w Q E → ds.length = 1) (red : ∀ ds w Q E, (sp_stretches) ds w Q E → t_stretches  E { nx := fun _ w1 => Q .non w1, rt := Q } (startD ["values", "found", "last", "place", "sign"] ds) w) : FnOk P w K mg base (L2N.CX P w) (1) f fd ["values"] (lift K (sp_stretches)) :=
  fn_ok F sc_stretches len (fun cdv A outer s H E E' hr => by
    have tk := L2N.takes_of (X := cxOf (L2N.CX P w) P w K mg base ["values", "found", "last", "place", "sign"] "stretches" (defScope st_stretches) f cdv A outer s H E) (E := E) rfl rfl rfl rfl
    have hp := passes_of (X := cxOf (L2N.CX P w) P w K mg base ["values", "found", "last", "place", "sign"] "stretches" (defScope st_stretches) f cdv A outer s H E) rfl
    exact (show QSs (cxOf (L2N.CX P w) P w K mg base ["values", "found", "last", "place", "sign"] "stretches" (defScope st_stretches) f cdv A outer s H E) (fun c d _ H => E c d H) (fun c d _ w => E' c d w) (defBody st_stretches) (dSeq (dAsg (dLstO dNil) 1) (dSeq (dAsg (dC .non) 2) (dSeq (dFor (diE (dCons (dVar 0) dNil)) (dgTup [3, 4]) (dIf (dB (dOp (isN true) (dVar 4) (dC .non))) (dCut (dIf (dAnd (dB (dOp (isN true) (dVar 2) (dC .non))) (dB (dOp (eqD true) (dOp ixD (dVar 0) (dVar 2)) (dVar 4)))) (dDrop (dBM "list" appD (dVar 1) (dCons (dTup (dCons (dVar 2) (dCons (dVar 3) (dCons (dOp ixD (dVar 0) (dVar 2)) (dCons (dVar 4) dNil))))) dNil))) dNext) (dAsg (dVar 3) 2)) dNext)) (dRet (dVar 1))))) from (qss_cons (qs_set (i := 1) sc_stretches.nd (qe_lstO qa_nil)) (qss_cons (qs_set (i := 2) sc_stretches.nd qe_non) (qss_cons (qs_for hp rfl (qi_enum T.f_enumerate (qa_cons (qv 0) qa_nil)) (qg_tup (js := [3, 4]) rfl (pgs_cons (pg_name (i := 3) sc_stretches.nd rfl (by first | exact Or.inl rfl | exact Or.inr rfl)) (pgs_cons (pg_name (i := 4) sc_stretches.nd rfl (by first | exact Or.inl rfl | exact Or.inr rfl)) (pgs_nil)))) (qss_one (qs_if (qt_isnt (qv 4) qe_non) (qss_cut (qs_if (qt_bool (qw_and (qt_isnt (qv 2) qe_non) (qw_and1 (qt_ne hr (qe_sub_ hr (qv 0) (qv 2)) (qv 4))))) (qss_one (qs_expr (qe_bm PySem.F.plainAttrs_list PySem.F.slot_list_append PySem.F.type_list_append mt_append tr_app (qv 1) (qa_cons (qe_tup (qa_cons (qv 2) (qa_cons (qv 3) (qa_cons (qe_sub_ hr (qv 0) (qv 2)) (qa_cons (qv 4) qa_nil))))) qa_nil)))) qss_nil) (qss_one (qs_set (i := 2) sc_stretches.nd (qv 3)))) qss_nil))) (qss_one (qs_ret (qv 1)))))))) red
theorem sc_halvings : FnScope ["gaps", "many"] ["gaps"] (defScope st_halvings) := ⟨rfl, rfl, rfl, by decide +kernel, rfl, by decide +kernel, by decide +kernel⟩
theorem ok_halvings {f : Addr} {fd : FuncData} (F : FunD K "halvings" "halvings" (defArgs st_halvings) (defBody st_halvings) (defScope st_halvings) [] [] f fd) (T : Tx K mg)
    (len : ∀ ds w Q E, (sp_halvings) ds w Q E → ds.length = 1) (red : ∀ ds w Q E, (sp_halvings) ds w Q E → t_halvings  E { nx := fun _ w1 => Q .non w1, rt := Q } (startD ["gaps", "many"] ds) w) : FnOk P w K mg base (L2N.CX P w) (1) f fd ["gaps"] (lift K (sp_halvings)) :=
  fn_ok F sc_halvings len (fun cdv A outer s H E E' hr => by
    have tk := L2N.takes_of (X := cxOf (L2N.CX P w) P w K mg base ["gaps", "many"] "halvings" (defScope st_halvings) f cdv A outer s H E) (E := E) rfl rfl rfl rfl
    have hp := passes_of (X := cxOf (L2N.CX P w) P w K mg base ["gaps", "many"] "halvings" (defScope st_halvings) f cdv A outer s H E) rfl
    exact (show QSs (cxOf (L2N.CX P w) P w K mg base ["gaps", "many"] "halvings" (defScope st_halvings) f cdv A outer s H E) (fun c d _ H => E c d H) (fun c d _ w => E' c d w) (defBody st_halvings) (dSeq (dAsg (dC (.int 0)) 1) (dSeq (dWhile (dB (dOp gtD (dVar 0) (dC (.int 1)))) (dSeq (dAsg (dOp fdivD (dOp addD (dVar 0) (dC (.int 1))) (dC (.int 2))) 0) (dAug 1 (dC (.int 1)) fun x y => x + y))) (dRet (dVar 1)))) from (qss_cons (qs_set (i := 1) sc_halvings.nd qe_int) (qss_cons (qs_while hp (qt_gt (qv 0) qe_int) (qss_cons (qs_set (i := 0) sc_halvings.nd (qe_fdiv (qe_add (qv 0) qe_int) qe_int)) (qss_one (qs_augAdd (i := 1) sc_halvings.nd qe_int)))) (qss_one (qs_ret (qv 1))))))) red
theorem sc_askings : FnScope ["values", "first", "last", "one", "other"] ["values"] (defScope st_askings) := ⟨rfl, rfl, rfl, by decide +kernel, rfl, by decide +kernel, by decide +kernel⟩
theorem ok_askings {f : Addr} {fd : FuncData} (F : FunD K "askings" "askings" (defArgs st_askings) (defBody st_askings) (defScope st_askings) [] [] f fd) (T : Tx K mg) (G_stretches : Own P w K mg base "stretches" (1) ["values"] (sp_stretches)) (G_halvings : Own P w K mg base "halvings" (1) ["gaps"] (sp_halvings))
    (len : ∀ ds w Q E, (sp_askings) ds w Q E → ds.length = 1) (red : ∀ ds w Q E, (sp_askings) ds w Q E → t_askings  E { nx := fun _ w1 => Q .non w1, rt := Q } (startD ["values", "first", "last", "one", "other"] ds) w) : FnOk P w K mg base (L2N.CX P w) (2) f fd ["values"] (lift K (sp_askings)) :=
  fn_ok F sc_askings len (fun cdv A outer s H E E' hr => by
    have tk := L2N.takes_of (X := cxOf (L2N.CX P w) P w K mg base ["values", "first", "last", "one", "other"] "askings" (defScope st_askings) f cdv A outer s H E) (E := E) rfl rfl rfl rfl
    have hp := passes_of (X := cxOf (L2N.CX P w) P w K mg base ["values", "first", "last", "one", "other"] "askings" (defScope st_askings) f cdv A outer s H E) rfl
    exact (show QSs (cxOf (L2N.CX P w) P w K mg base ["values", "first", "last", "one", "other"] "askings" (defScope st_askings) f cdv A outer s H E) (fun c d _ H => E c d H) (fun c d _ w => E' c d w) (defBody st_askings) (dRet (dCB sumD (dCons (dLc (diL (dCall sp_stretches (fun c d _ w => E' c d w) (dCons (dVar 0) dNil))) (.many [1, 2, 3, 4]) dYes (dCall sp_halvings DW0 (dCons (dOp subD (dVar 2) (dVar 1)) dNil))) dNil))) from (qss_one (qs_ret (qe_callB (cr_sum rfl) tr_sum T.f_sum (by decide +kernel) (qa_cons (qe_lc (own := [("first", 1), ("last", 2), ("one", 3), ("other", 4)]) (T := (.many [1, 2, 3, 4])) rfl rfl sc_askings.nd (qi_list (qe_fn G_stretches hr tk (qa_cons (qv 0) qa_nil))) (blkOk_by (own := [("first", 1), ("last", 2), ("one", 3), ("other", 4)]) (N := ["values", "first", "last", "one", "other"]) (sc := defScope st_askings) (by decide +kernel)) (fun _ _ _ _ _ => pg_tup rfl (pgs_cons (pg_name (i := 1) sc_askings.nd rfl (Or.inl rfl)) (pgs_cons (pg_name (i := 2) sc_askings.nd rfl (Or.inl rfl)) (pgs_cons (pg_name (i := 3) sc_askings.nd rfl (Or.inl rfl)) (pgs_cons (pg_name (i := 4) sc_askings.nd rfl (Or.inl rfl)) (pgs_nil)))))) (fun _ _ _ _ _ => qts_nil) (fun _ _ _ _ _ => (qe_fn G_halvings hr tk0 (qa_cons (qe_sub (qv 2) (qv 1)) qa_nil)))) qa_nil)))))) red
theorem sc_to_ask : FnScope ["values", "first", "last", "one", "other"] ["values"] (defScope st_to_ask) := ⟨rfl, rfl, rfl, by decide +kernel, rfl, by decide +kernel, by decide +kernel⟩
theorem ok_to_ask {f : Addr} {fd : FuncData} (F : FunD K "to_ask" "to_ask" (defArgs st_to_ask) (defBody st_to_ask) (defScope st_to_ask) [] [] f fd) (T : Tx K mg) (G_stretches : Own P w K mg base "stretches" (1) ["values"] (sp_stretches))
    (len : ∀ ds w Q E, (sp_to_ask) ds w Q E → ds.length = 1) (red : ∀ ds w Q E, (sp_to_ask) ds w Q E → t_to_ask  E { nx := fun _ w1 => Q .non w1, rt := Q } (startD ["values", "first", "last", "one", "other"] ds) w) : FnOk P w K mg base (L2N.CX P w) (2) f fd ["values"] (lift K (sp_to_ask)) :=
  fn_ok F sc_to_ask len (fun cdv A outer s H E E' hr => by
    have tk := L2N.takes_of (X := cxOf (L2N.CX P w) P w K mg base ["values", "first", "last", "one", "other"] "to_ask" (defScope st_to_ask) f cdv A outer s H E) (E := E) rfl rfl rfl rfl
    have hp := passes_of (X := cxOf (L2N.CX P w) P w K mg base ["values", "first", "last", "one", "other"] "to_ask" (defScope st_to_ask) f cdv A outer s H E) rfl
    exact (show QSs (cxOf (L2N.CX P w) P w K mg base ["values", "first", "last", "one", "other"] "to_ask" (defScope st_to_ask) f cdv A outer s H E) (fun c d _ H => E c d H) (fun c d _ w => E' c d w) (defBody st_to_ask) (dSeq (dFor (diL (dCall sp_stretches (fun c d _ w => E' c d w) (dCons (dVar 0) dNil))) (dgTup [1, 2, 3, 4]) (dIf (dB (dOp gtD (dOp subD (dVar 2) (dVar 1)) (dC (.int 1)))) (dRet (dOp fdivD (dOp addD (dVar 1) (dVar 2)) (dC (.int 2)))) dNext)) (dRet (dC .non))) from (qss_cons (qs_for hp rfl (qi_list (qe_fn G_stretches hr tk (qa_cons (qv 0) qa_nil))) (qg_tup (js := [1, 2, 3, 4]) rfl (pgs_cons (pg_name (i := 1) sc_to_ask.nd rfl (by first | exact Or.inl rfl | exact Or.inr rfl)) (pgs_cons (pg_name (i := 2) sc_to_ask.nd rfl (by first | exact Or.inl rfl | exact Or.inr rfl)) (pgs_cons (pg_name (i := 3) sc_to_ask.nd rfl (by first | exact Or.inl rfl | exact Or.inr rfl)) (pgs_cons (pg_name (i := 4) sc_to_ask.nd rfl (by first | exact Or.inl rfl | exact Or.inr rfl)) (pgs_nil)))))) (qss_one (qs_if (qt_gt (qe_sub (qv 2) (qv 1)) qe_int) (qss_one (qs_ret (qe_fdiv (qe_add (qv 1) (qv 2)) qe_int))) qss_nil))) (qss_one (qs_ret qe_non))))) red
theorem sc__law_cell : FnScope ["_law_script", "_law_at"] ["_law_script", "_law_at"] (defScope st__law_cell) := ⟨rfl, rfl, rfl, by decide +kernel, rfl, by decide +kernel, by decide +kernel⟩
theorem ok__law_cell {f : Addr} {fd : FuncData} (F : FunD K "_law_cell" "_law_cell" (defArgs st__law_cell) (defBody st__law_cell) (defScope st__law_cell) [] [] f fd) (T : Tx K mg)
    (len : ∀ ds w Q E, (sp__law_cell) ds w Q E → ds.length = 2) (red : ∀ ds w Q E, (sp__law_cell) ds w Q E → t__law_cell  E { nx := fun _ w1 => Q .non w1, rt := Q } (startD ["_law_script", "_law_at"] ds) w) : FnOk P w K mg base (L2N.CX P w) (1) f fd ["_law_script", "_law_at"] (lift K (sp__law_cell)) :=
  fn_ok F sc__law_cell len (fun cdv A outer s H E E' hr => by
    have tk := L2N.takes_of (X := cxOf (L2N.CX P w) P w K mg base ["_law_script", "_law_at"] "_law_cell" (defScope st__law_cell) f cdv A outer s H E) (E := E) rfl rfl rfl rfl
    have hp := passes_of (X := cxOf (L2N.CX P w) P w K mg base ["_law_script", "_law_at"] "_law_cell" (defScope st__law_cell) f cdv A outer s H E) rfl
    exact (show QSs (cxOf (L2N.CX P w) P w K mg base ["_law_script", "_law_at"] "_law_cell" (defScope st__law_cell) f cdv A outer s H E) (fun c d _ H => E c d H) (fun c d _ w => E' c d w) (defBody st__law_cell) (dSeq (dIf (dB (dOp ltD (dVar 1) (dCB lenD (dCons (dVar 0) dNil)))) (dRet (dOp ixD (dVar 0) (dVar 1))) dNext) (dSeq (dIf (dB (dOp (eqD false) (dCB lenD (dCons (dVar 0) dNil)) (dC (.int 0)))) (dRet (dOp addD (dOp mulD (dC (.int 29)) (dVar 1)) (dC (.int 5)))) dNext) (dRet (dOp addD (dOp modD (dOp ixD (dVar 0) (dOp modD (dVar 1) (dCB lenD (dCons (dVar 0) dNil)))) (dC (.int 1000003))) (dOp mulD (dC (.int 103)) (dVar 1)))))) from (qss_cons (qs_if (qt_lt (qv 1) (qe_len T.f_len (qa_cons (qv 0) qa_nil))) (qss_one (qs_ret (qe_sub_ hr (qv 0) (qv 1)))) qss_nil) (qss_cons (qs_if (qt_eq hr (qe_len T.f_len (qa_cons (qv 0) qa_nil)) qe_int) (qss_one (qs_ret (qe_add (qe_mul qe_int (qv 1)) qe_int))) qss_nil) (qss_one (qs_ret (qe_add (qe_mod (qe_sub_ hr (qv 0) (qe_mod (qv 1) (qe_len T.f_len (qa_cons (qv 0) qa_nil)))) qe_int) (qe_mul qe_int (qv 1))))))))) red
theorem sc__law_row : FnScope ["_law_cell_here", "_law_many", "_law_size", "_law_row_here", "_law_seed", "_law_k", "_law_rest", "_law_mixed"] ["_law_cell_here", "_law_many", "_law_size"] (defScope st__law_row) := ⟨rfl, rfl, rfl, by decide +kernel, rfl, by decide +kernel, by decide +kernel⟩
theorem ok__law_row {f : Addr} {fd : FuncData} (F : FunD K "_law_row" "_law_row" (defArgs st__law_row) (defBody st__law_row) (defScope st__law_row) [] [] f fd) (T : Tx K mg)
    (len : ∀ ds w Q E, (sp__law_row) ds w Q E → ds.length = 3) (red : ∀ ds w Q E, (sp__law_row) ds w Q E → t__law_row  E { nx := fun _ w1 => Q .non w1, rt := Q } (startD ["_law_cell_here", "_law_many", "_law_size", "_law_row_here", "_law_seed", "_law_k", "_law_rest", "_law_mixed"] ds) w) : FnOk P w K mg base (L2N.CX P w) (1) f fd ["_law_cell_here", "_law_many", "_law_size"] (lift K (sp__law_row)) :=
  fn_ok F sc__law_row len (fun cdv A outer s H E E' hr => by
    have tk := L2N.takes_of (X := cxOf (L2N.CX P w) P w K mg base ["_law_cell_here", "_law_many", "_law_size", "_law_row_here", "_law_seed", "_law_k", "_law_rest", "_law_mixed"] "_law_row" (defScope st__law_row) f cdv A outer s H E) (E := E) rfl rfl rfl rfl
    have hp := passes_of (X := cxOf (L2N.CX P w) P w K mg base ["_law_cell_here", "_law_many", "_law_size", "_law_row_here", "_law_seed", "_law_k", "_law_rest", "_law_mixed"] "_law_row" (defScope st__law_row) f cdv A outer s H E) rfl
    exact (show QSs (cxOf (L2N.CX P w) P w K mg base ["_law_cell_here", "_law_many", "_law_size", "_law_row_here", "_law_seed", "_law_k", "_law_rest", "_law_mixed"] "_law_row" (defScope st__law_row) f cdv A outer s H E) (fun c d _ H => E c d H) (fun c d _ w => E' c d w) (defBody st__law_row) (dSeq (dAsg (dLstO dNil) 3) (dSeq (dIf (dB (dOp geD (dVar 0) (dOp powD (dC (.int 10)) (dC (.int 18))))) (dSeq (dAsg (dOp subD (dVar 0) (dOp powD (dC (.int 10)) (dC (.int 18)))) 6) (dSeq (dFor (diR1 (dCons (dVar 1) dNil)) (dgName 5) (dSeq (dDrop (dBM "list" appD (dVar 3) (dCons (dOp modD (dVar 6) (dVar 2)) dNil))) (dAsg (dOp fdivD (dVar 6) (dVar 2)) 6))) (dFrz 3 (dRet (dVar 3))))) dNext) (dSeq (dAsg (dOp modD (dVar 0) (dC (.int 2147483647))) 4) (dSeq (dFor (diR1 (dCons (dVar 1) dNil)) (dgName 5) (dSeq (dAsg (dOp modD (dOp addD (dOp addD (dOp mulD (dVar 4) (dC (.int 48271))) (dC (.int 12345))) (dVar 5)) (dC (.int 2147483647))) 4) (dSeq (dAsg (dOp modD (dOp fdivD (dOp mulD (dVar 4) (dOp addD (dOp modD (dVar 4) (dC (.int 65521))) (dC (.int 3)))) (dC (.int 1009))) (dC (.int 1000003))) 7) (dDrop (dBM "list" appD (dVar 3) (dCons (dOp modD (dVar 7) (dVar 2)) dNil)))))) (dFrz 3 (dRet (dVar 3))))))) from (qss_cons (qs_set (i := 3) sc__law_row.nd (qe_lstO qa_nil)) (qss_cons (qs_if (qt_ge (qv 0) (qe_pow qe_int qe_int)) (qss_cons (qs_set (i := 6) sc__law_row.nd (qe_sub (qv 0) (qe_pow qe_int qe_int))) (qss_cons (qs_for hp rfl (qi_range1 T.f_range (qa_cons (qv 1) qa_nil)) (qg_name (i := 5) sc__law_row.nd) (qss_cons (qs_expr (qe_bm PySem.F.plainAttrs_list PySem.F.slot_list_append PySem.F.type_list_append mt_append tr_app (qv 3) (qa_cons (qe_mod (qv 6) (qv 2)) qa_nil))) (qss_one (qs_set (i := 6) sc__law_row.nd (qe_fdiv (qv 6) (qv 2)))))) (qss_one (qs_frz 3 (qs_ret (qv 3)))))) qss_nil) (qss_cons (qs_set (i := 4) sc__law_row.nd (qe_mod (qv 0) qe_int)) (qss_cons (qs_for hp rfl (qi_range1 T.f_range (qa_cons (qv 1) qa_nil)) (qg_name (i := 5) sc__law_row.nd) (qss_cons (qs_set (i := 4) sc__law_row.nd (qe_mod (qe_add (qe_add (qe_mul (qv 4) qe_int) qe_int) (qv 5)) qe_int)) (qss_cons (qs_set (i := 7) sc__law_row.nd (qe_mod (qe_fdiv (qe_mul (qv 4) (qe_add (qe_mod (qv 4) qe_int) qe_int)) qe_int) qe_int)) (qss_one (qs_expr (qe_bm PySem.F.plainAttrs_list PySem.F.slot_list_append PySem.F.type_list_append mt_append tr_app (qv 3) (qa_cons (qe_mod (qv 7) (qv 2)) qa_nil))))))) (qss_one (qs_frz 3 (qs_ret (qv 3)))))))))) red
theorem sc__law_like : FnScope ["_law_found", "_law_due", "_law_k"] ["_law_found", "_law_due"] (defScope st__law_like) := ⟨rfl, rfl, rfl, by decide +kernel, rfl, by decide +kernel, by decide +kernel⟩
theorem ok__law_like (n : Nat) {f : Addr} {fd : FuncData} (F : FunD K "_law_like" "_law_like" (defArgs st__law_like) (defBody st__law_like) (defScope st__law_like) [] [] f fd) (T : Tx K mg) (G__law_like : Own P w K mg base "_law_like" (n + 1) ["_law_found", "_law_due"] (sp_like n))
    (len : ∀ ds w Q E, (sp_like (n + 1)) ds w Q E → ds.length = 2) (red : ∀ ds w Q E, (sp_like (n + 1)) ds w Q E → t__law_like n E { nx := fun _ w1 => Q .non w1, rt := Q } (startD ["_law_found", "_law_due", "_law_k"] ds) w) : FnOk P w K mg base (L2N.CX P w) (n + 2) f fd ["_law_found", "_law_due"] (lift K (sp_like (n + 1))) :=
  fn_ok F sc__law_like len (fun cdv A outer s H E E' hr => by
    have tk := L2N.takes_of (X := cxOf (L2N.CX P w) P w K mg base ["_law_found", "_law_due", "_law_k"] "_law_like" (defScope st__law_like) f cdv A outer s H E) (E := E) rfl rfl rfl rfl
    have hp := passes_of (X := cxOf (L2N.CX P w) P w K mg base ["_law_found", "_law_due", "_law_k"] "_law_like" (defScope st__law_like) f cdv A outer s H E) rfl
    exact (show QSs (cxOf (L2N.CX P w) P w K mg base ["_law_found", "_law_due", "_law_k"] "_law_like" (defScope st__law_like) f cdv A outer s H E) (fun c d _ H => E c d H) (fun c d _ w => E' c d w) (defBody st__law_like) (dSeq (dIf (dB (dOp (isN false) (dVar 1) (dC .non))) (dRet (dOp (isN false) (dVar 0) (dC .non))) dNext) (dSeq (dIf (dB (dCB isiD (dCons (dVar 1) (dCons (dC (.ty "bool")) dNil)))) (dRet (dAndV (dCB isiD (dCons (dVar 0) (dCons (dC (.ty "bool")) dNil))) (dOp (eqD false) (dVar 0) (dVar 1)))) dNext) (dSeq (dIf (dB (dCB isiD (dCons (dVar 1) (dCons (dC (.ty "int")) dNil)))) (dRet (dAndV (dCB isiD (dCons (dVar 0) (dCons (dC (.ty "int")) dNil))) (dAndV (dNotV (dCB isiD (dCons (dVar 0) (dCons (dC (.ty "bool")) dNil)))) (dOp (eqD false) (dVar 0) (dVar 1))))) dNext) (dSeq (dIf (dB (dCB isiD (dCons (dVar 1) (dCons (dC (.ty "str")) dNil)))) (dRet (dAndV (dCB isiD (dCons (dVar 0) (dCons (dC (.ty "str")) dNil))) (dOp (eqD false) (dVar 0) (dVar 1)))) dNext) (dSeq (dIf (dOr (dB (dOp (eqD true) (dCB isiD (dCons (dVar 1) (dCons (dC (.ty "list")) dNil))) (dCB isiD (dCons (dVar 0) (dCons (dC (.ty "list")) dNil))))) (dB (dOp (eqD true) (dCB isiD (dCons (dVar 1) (dCons (dC (.ty "tuple")) dNil))) (dCB isiD (dCons (dVar 0) (dCons (dC (.ty "tuple")) dNil)))))) (dRet (dC (.bl false))) dNext) (dRet (dAndV (dOp (eqD false) (dCB lenD (dCons (dVar 0) dNil)) (dCB lenD (dCons (dVar 1) dNil))) (dCB allD (dCons (dLc (diR1 (dCons (dCB lenD (dCons (dVar 1) dNil)) dNil)) (.one 2) dYes (dCall (sp_like n) DW0 (dCons (dOp ixD (dVar 0) (dVar 2)) (dCons (dOp ixD (dVar 1) (dVar 2)) dNil)))) dNil))))))))) from (qss_cons (qs_if (qt_is (qv 1) qe_non) (qss_one (qs_ret (qe_is (qv 0) qe_non))) qss_nil) (qss_cons (qs_if (qt_val (qe_callB call_isi tr_isi T.f_isinstance (by decide +kernel) (qa_cons (qv 1) (qa_cons (qe_ty T.f_bool (by decide +kernel)) qa_nil)))) (qss_one (qs_ret (qe_and (qe_callB call_isi tr_isi T.f_isinstance (by decide +kernel) (qa_cons (qv 0) (qa_cons (qe_ty T.f_bool (by decide +kernel)) qa_nil))) (qe_one (qe_eq hr (qv 0) (qv 1)))))) qss_nil) (qss_cons (qs_if (qt_val (qe_callB call_isi tr_isi T.f_isinstance (by decide +kernel) (qa_cons (qv 1) (qa_cons (qe_ty T.f_int (by decide +kernel)) qa_nil)))) (qss_one (qs_ret (qe_and (qe_callB call_isi tr_isi T.f_isinstance (by decide +kernel) (qa_cons (qv 0) (qa_cons (qe_ty T.f_int (by decide +kernel)) qa_nil))) (qe_and (qe_not (qe_callB call_isi tr_isi T.f_isinstance (by decide +kernel) (qa_cons (qv 0) (qa_cons (qe_ty T.f_bool (by decide +kernel)) qa_nil)))) (qe_one (qe_eq hr (qv 0) (qv 1))))))) qss_nil) (qss_cons (qs_if (qt_val (qe_callB call_isi tr_isi T.f_isinstance (by decide +kernel) (qa_cons (qv 1) (qa_cons (qe_ty T.f_str (by decide +kernel)) qa_nil)))) (qss_one (qs_ret (qe_and (qe_callB call_isi tr_isi T.f_isinstance (by decide +kernel) (qa_cons (qv 0) (qa_cons (qe_ty T.f_str (by decide +kernel)) qa_nil))) (qe_one (qe_eq hr (qv 0) (qv 1)))))) qss_nil) (qss_cons (qs_if (qt_bool (qw_or (qt_ne hr (qe_callB call_isi tr_isi T.f_isinstance (by decide +kernel) (qa_cons (qv 1) (qa_cons (qe_ty T.f_list (by decide +kernel)) qa_nil))) (qe_callB call_isi tr_isi T.f_isinstance (by decide +kernel) (qa_cons (qv 0) (qa_cons (qe_ty T.f_list (by decide +kernel)) qa_nil)))) (qw_or1 (qt_ne hr (qe_callB call_isi tr_isi T.f_isinstance (by decide +kernel) (qa_cons (qv 1) (qa_cons (qe_ty T.f_tuple (by decide +kernel)) qa_nil))) (qe_callB call_isi tr_isi T.f_isinstance (by decide +kernel) (qa_cons (qv 0) (qa_cons (qe_ty T.f_tuple (by decide +kernel)) qa_nil))))))) (qss_one (qs_ret qe_bl)) qss_nil) (qss_one (qs_ret (qe_and (qe_eq hr (qe_len T.f_len (qa_cons (qv 0) qa_nil)) (qe_len T.f_len (qa_cons (qv 1) qa_nil))) (qe_one (qe_callB (cr_all rfl) tr_all T.f_all (by decide +kernel) (qa_cons (qe_lc (own := [("_law_k", 2)]) (T := (.one 2)) rfl rfl sc__law_like.nd (qi_range1 T.f_range (qa_cons (qe_len T.f_len (qa_cons (qv 1) qa_nil)) qa_nil)) (blkOk_by (own := [("_law_k", 2)]) (N := ["_law_found", "_law_due", "_law_k"]) (sc := defScope st__law_like) (by decide +kernel)) (fun _ _ _ _ _ => pg_name (i := 2) sc__law_like.nd rfl (Or.inl rfl)) (fun _ _ _ _ _ => qts_nil) (fun _ _ _ _ _ => (qe_fn G__law_like hr tk0 (qa_cons (qe_sub_ hr (qv 0) (qv 2)) (qa_cons (qe_sub_ hr (qv 1) (qv 2)) qa_nil))))) qa_nil))))))))))))) red
theorem sc__law_values : FnScope ["_law_script", "_law_at", "_law_most", "_law_nums", "_law_many", "_law_values_here", "_law_num", "_law_place"] ["_law_script", "_law_at", "_law_most"] (defScope st__law_values) := ⟨rfl, rfl, rfl, by decide +kernel, rfl, by decide +kernel, by decide +kernel⟩
theorem ok__law_values {f : Addr} {fd : FuncData} (F : FunD K "_law_values" "_law_values" (defArgs st__law_values) (defBody st__law_values) (defScope st__law_values) [] [] f fd) (T : Tx K mg) (G__law_cell : Own P w K mg base "_law_cell" (1) ["_law_script", "_law_at"] (sp__law_cell)) (G__law_row : Own P w K mg base "_law_row" (1) ["_law_cell_here", "_law_many", "_law_size"] (sp__law_row))
    (len : ∀ ds w Q E, (sp__law_values) ds w Q E → ds.length = 3) (red : ∀ ds w Q E, (sp__law_values) ds w Q E → t__law_values  E { nx := fun _ w1 => Q .non w1, rt := Q } (startD ["_law_script", "_law_at", "_law_most", "_law_nums", "_law_many", "_law_values_here", "_law_num", "_law_place"] ds) w) : FnOk P w K mg base (L2N.CX P w) (2) f fd ["_law_script", "_law_at", "_law_most"] (lift K (sp__law_values)) :=
  fn_ok F sc__law_values len (fun cdv A outer s H E E' hr => by
    have tk := L2N.takes_of (X := cxOf (L2N.CX P w) P w K mg base ["_law_script", "_law_at", "_law_most", "_law_nums", "_law_many", "_law_values_here", "_law_num", "_law_place"] "_law_values" (defScope st__law_values) f cdv A outer s H E) (E := E) rfl rfl rfl rfl
    have hp := passes_of (X := cxOf (L2N.CX P w) P w K mg base ["_law_script", "_law_at", "_law_most", "_law_nums", "_law_many", "_law_values_here", "_law_num", "_law_place"] "_law_values" (defScope st__law_values) f cdv A outer s H E) rfl
    exact (show QSs (cxOf (L2N.CX P w) P w K mg base ["_law_script", "_law_at", "_law_most", "_law_nums", "_law_many", "_law_values_here", "_law_num", "_law_place"] "_law_values" (defScope st__law_values) f cdv A outer s H E) (fun c d _ H => E c d H) (fun c d _ w => E' c d w) (defBody st__law_values) (dSeq (dAsg (dCall sp__law_row (fun c d _ w => E' c d w) (dCons (dCall sp__law_cell (fun c d _ w => E' c d w) (dCons (dVar 0) (dCons (dVar 1) dNil))) (dCons (dOp addD (dVar 2) (dC (.int 3))) (dCons (dOp mulD (dC (.int 94)) (dC (.int 90))) dNil)))) 3) (dSeq (dAsg (dOp addD (dC (.int 2)) (dOp modD (dOp ixD (dVar 3) (dC (.int 0))) (dOp subD (dVar 2) (dC (.int 1))))) 4) (dSeq (dAsg (dLstO (dCons (dOp addD (dC (.int 1)) (dOp modD (dOp ixD (dVar 3) (dC (.int 1))) (dC (.int 94)))) dNil)) 5) (dSeq (dFor (diL (dSl slD (dVar 3) (dPart (dC (.int 3))) (dPart (dOp addD (dC (.int 2)) (dVar 4))))) (dgName 6) (dIf (dB (dOp gtD (dOp modD (dOp fdivD (dVar 6) (dC (.int 94))) (dC (.int 5))) (dOp modD (dOp ixD (dVar 3) (dC (.int 2))) (dC (.int 5))))) (dDrop (dBM "list" appD (dVar 5) (dCons (dOp ixD (dVar 5) (dUn negD (dC (.int 1)))) dNil))) (dDrop (dBM "list" appD (dVar 5) (dCons (dOp addD (dC (.int 1)) (dOp modD (dVar 6) (dC (.int 94)))) dNil))))) (dSeq (dFor (diR2 (dCons (dC (.int 1)) (dCons (dVar 4) dNil))) (dgName 7) (dIf (dAnd (dB (dOp ltD (dOp modD (dOp fdivD (dOp ixD (dVar 3) (dOp subD (dOp addD (dC (.int 3)) (dVar 7)) (dC (.int 1)))) (dC (.int 470))) (dC (.int 9))) (dOp modD (dOp fdivD (dOp ixD (dVar 3) (dC (.int 2))) (dC (.int 5))) (dC (.int 9))))) (dB (dOp ltD (dVar 7) (dOp subD (dVar 4) (dOp modD (dOp fdivD (dOp ixD (dVar 3) (dC (.int 2))) (dC (.int 45))) (dC (.int 2))))))) (dSet (dC .non) (dVar 5) (dVar 7)) dNext)) (dFrz 5 (dRet (dVar 5)))))))) from (qss_cons (qs_set (i := 3) sc__law_values.nd (qe_fn G__law_row hr tk (qa_cons (qe_fn G__law_cell hr tk (qa_cons (qv 0) (qa_cons (qv 1) qa_nil))) (qa_cons (qe_add (qv 2) qe_int) (qa_cons (qe_mul qe_int qe_int) qa_nil))))) (qss_cons (qs_set (i := 4) sc__law_values.nd (qe_add qe_int (qe_mod (qe_sub_ hr (qv 3) qe_int) (qe_sub (qv 2) qe_int)))) (qss_cons (qs_set (i := 5) sc__law_values.nd (qe_lstO (qa_cons (qe_add qe_int (qe_mod (qe_sub_ hr (qv 3) qe_int) qe_int)) qa_nil))) (qss_cons (qs_for hp rfl (qi_list (qe_sl (qv 3) (qo_some qe_int) (qo_some (qe_add qe_int (qv 4))))) (qg_name (i := 6) sc__law_values.nd) (qss_one (qs_if (qt_gt (qe_mod (qe_fdiv (qv 6) qe_int) qe_int) (qe_mod (qe_sub_ hr (qv 3) qe_int) qe_int)) (qss_one (qs_expr (qe_bm PySem.F.plainAttrs_list PySem.F.slot_list_append PySem.F.type_list_append mt_append tr_app (qv 5) (qa_cons (qe_sub_ hr (qv 5) (qe_neg qe_int)) qa_nil)))) (qss_one (qs_expr (qe_bm PySem.F.plainAttrs_list PySem.F.slot_list_append PySem.F.type_list_append mt_append tr_app (qv 5) (qa_cons (qe_add qe_int (qe_mod (qv 6) qe_int)) qa_nil))))))) (qss_cons (qs_for hp rfl (qi_range2 T.f_range (qa_cons qe_int (qa_cons (qv 4) qa_nil))) (qg_name (i := 7) sc__law_values.nd) (qss_one (qs_if (qt_bool (qw_and (qt_lt (qe_mod (qe_fdiv (qe_sub_ hr (qv 3) (qe_sub (qe_add qe_int (qv 7)) qe_int)) qe_int) qe_int) (qe_mod (qe_fdiv (qe_sub_ hr (qv 3) qe_int) qe_int) qe_int)) (qw_and1 (qt_lt (qv 7) (qe_sub (qv 4) (qe_mod (qe_fdiv (qe_sub_ hr (qv 3) qe_int) qe_int) qe_int)))))) (qss_one (qs_setI qe_non (qv 5) (qv 7))) qss_nil))) (qss_one (qs_frz 5 (qs_ret (qv 5))))))))))) red
theorem sc__law_halved : FnScope ["_law_gaps_here", "_law_many", "_law_reach"] ["_law_gaps_here"] (defScope st__law_halved) := ⟨rfl, rfl, rfl, by decide +kernel, rfl, by decide +kernel, by decide +kernel⟩
theorem ok__law_halved {f : Addr} {fd : FuncData} (F : FunD K "_law_halved" "_law_halved" (defArgs st__law_halved) (defBody st__law_halved) (defScope st__law_halved) [] [] f fd) (T : Tx K mg)
    (len : ∀ ds w Q E, (sp__law_halved) ds w Q E → ds.length = 1) (red : ∀ ds w Q E, (sp__law_halved) ds w Q E → t__law_halved  E { nx := fun _ w1 => Q .non w1, rt := Q } (startD ["_law_gaps_here", "_law_many", "_law_reach"] ds) w) : FnOk P w K mg base (L2N.CX P w) (1) f fd ["_law_gaps_here"] (lift K (sp__law_halved)) :=
  fn_ok F sc__law_halved len (fun cdv A outer s H E E' hr => by
    have tk := L2N.takes_of (X := cxOf (L2N.CX P w) P w K mg base ["_law_gaps_here", "_law_many", "_law_reach"] "_law_halved" (defScope st__law_halved) f cdv A outer s H E) (E := E) rfl rfl rfl rfl
    have hp := passes_of (X := cxOf (L2N.CX P w) P w K mg base ["_law_gaps_here", "_law_many", "_law_reach"] "_law_halved" (defScope st__law_halved) f cdv A outer s H E) rfl
    exact (show QSs (cxOf (L2N.CX P w) P w K mg base ["_law_gaps_here", "_law_many", "_law_reach"] "_law_halved" (defScope st__law_halved) f cdv A outer s H E) (fun c d _ H => E c d H) (fun c d _ w => E' c d w) (defBody st__law_halved) (dSeq (dAsg (dC (.int 0)) 1) (dSeq (dAsg (dC (.int 1)) 2) (dSeq (dWhile (dB (dOp ltD (dVar 2) (dVar 0))) (dSeq (dAsg (dOp mulD (dC (.int 2)) (dVar 2)) 2) (dAug 1 (dC (.int 1)) fun x y => x + y))) (dRet (dVar 1))))) from (qss_cons (qs_set (i := 1) sc__law_halved.nd qe_int) (qss_cons (qs_set (i := 2) sc__law_halved.nd qe_int) (qss_cons (qs_while hp (qt_lt (qv 2) (qv 0)) (qss_cons (qs_set (i := 2) sc__law_halved.nd (qe_mul qe_int (qv 2))) (qss_one (qs_augAdd (i := 1) sc__law_halved.nd qe_int)))) (qss_one (qs_ret (qv 1)))))))) red
theorem sc__law_gaps : FnScope ["_law_values_here", "_law_places", "_law_some", "_law_place", "_law_one", "_law_other"] ["_law_values_here"] (defScope st__law_gaps) := ⟨rfl, rfl, rfl, by decide +kernel, rfl, by decide +kernel, by decide +kernel⟩
theorem ok__law_gaps {f : Addr} {fd : FuncData} (F : FunD K "_law_gaps" "_law_gaps" (defArgs st__law_gaps) (defBody st__law_gaps) (defScope st__law_gaps) [] [] f fd) (T : Tx K mg)
    (len : ∀ ds w Q E, (sp__law_gaps) ds w Q E → ds.length = 1) (red : ∀ ds w Q E, (sp__law_gaps) ds w Q E → t__law_gaps  E { nx := fun _ w1 => Q .non w1, rt := Q } (startD ["_law_values_here", "_law_places", "_law_some", "_law_place", "_law_one", "_law_other"] ds) w) : FnOk P w K mg base (L2N.CX P w) (1) f fd ["_law_values_here"] (lift K (sp__law_gaps)) :=
  fn_ok F sc__law_gaps len (fun cdv A outer s H E E' hr => by
    have tk := L2N.takes_of (X := cxOf (L2N.CX P w) P w K mg base ["_law_values_here", "_law_places", "_law_some", "_law_place", "_law_one", "_law_other"] "_law_gaps" (defScope st__law_gaps) f cdv A outer s H E) (E := E) rfl rfl rfl rfl
    have hp := passes_of (X := cxOf (L2N.CX P w) P w K mg base ["_law_values_here", "_law_places", "_law_some", "_law_place", "_law_one", "_law_other"] "_law_gaps" (defScope st__law_gaps) f cdv A outer s H E) rfl
    exact (show QSs (cxOf (L2N.CX P w) P w K mg base ["_law_values_here", "_law_places", "_law_some", "_law_place", "_law_one", "_law_other"] "_law_gaps" (defScope st__law_gaps) f cdv A outer s H E) (fun c d _ H => E c d H) (fun c d _ w => E' c d w) (defBody st__law_gaps) (dSeq (dAsg (dLc (diR1 (dCons (dCB lenD (dCons (dVar 0) dNil)) dNil)) (.one 3) (dB (dOp (isN true) (dOp ixD (dVar 0) (dVar 3)) (dC .non))) (dVar 3)) 1) (dSeq (dAsg (dListZ (dCons (dVar 1) (dCons (dSl slD (dVar 1) (dPart (dC (.int 1))) dNoPart) dNil))) 2) (dRet (dLc (diL (dVar 2)) (.many [4, 5]) (dB (dOp (eqD true) (dOp ixD (dVar 0) (dVar 4)) (dOp ixD (dVar 0) (dVar 5)))) (dTup (dCons (dVar 4) (dCons (dVar 5) dNil))))))) from (qss_cons (qs_setLc (i := 1) (own := [("_law_place", 3)]) (T := (.one 3)) rfl rfl sc__law_gaps.nd rfl rfl (sw_true rfl rfl rfl (by decide +kernel)) (qi_range1 T.f_range (qa_cons (qe_len T.f_len (qa_cons (qv 0) qa_nil)) qa_nil)) (blkOk_by (own := [("_law_place", 3)]) (N := ["_law_values_here", "_law_places", "_law_some", "_law_place", "_law_one", "_law_other"]) (sc := defScope st__law_gaps) (by decide +kernel)) (fun _ _ _ _ _ => pg_name (i := 3) sc__law_gaps.nd rfl (Or.inl rfl)) (fun _ _ _ _ _ => (qts_one (qt_isnt (qe_sub_ hr (qv 0) (qv 3)) qe_non))) (fun _ _ _ _ _ => (qv 3))) (qss_cons (qs_set (i := 2) sc__law_gaps.nd (qe_listZ T.f_list T.f_zip (qa_cons (qv 1) (qa_cons (qe_sl (qv 1) (qo_some qe_int) qo_none) qa_nil)))) (qss_one (qs_ret (qe_lc (own := [("_law_one", 4), ("_law_other", 5)]) (T := (.many [4, 5])) rfl rfl sc__law_gaps.nd (qi_list (qv 2)) (blkOk_by (own := [("_law_one", 4), ("_law_other", 5)]) (N := ["_law_values_here", "_law_places", "_law_some", "_law_place", "_law_one", "_law_other"]) (sc := defScope st__law_gaps) (by decide +kernel)) (fun _ _ _ _ _ => pg_tup rfl (pgs_cons (pg_name (i := 4) sc__law_gaps.nd rfl (Or.inl rfl)) (pgs_cons (pg_name (i := 5) sc__law_gaps.nd rfl (Or.inl rfl)) (pgs_nil)))) (fun _ _ _ _ _ => (qts_one (qt_ne hr (qe_sub_ hr (qv 0) (qv 4)) (qe_sub_ hr (qv 0) (qv 5))))) (fun _ _ _ _ _ => (qe_tup (qa_cons (qv 4) (qa_cons (qv 5) qa_nil))))))))))) red
theorem sc_law : FnScope ["_law_script", "_law_gaps_here", "_law_at", "_law_values_here", "_law_handed", "_law_wide", "_law_one", "_law_other"] ["_law_script"] (defScope st_law) := ⟨rfl, rfl, rfl, by decide +kernel, rfl, by decide +kernel, by decide +kernel⟩
theorem ok_law {f : Addr} {fd : FuncData} (F : FunD K "law" "law" (defArgs st_law) (defBody st_law) (defScope st_law) [] [] f fd) (T : Tx K mg) (G__law_cell : Own P w K mg base "_law_cell" (1) ["_law_script", "_law_at"] (sp__law_cell)) (G__law_halved : Own P w K mg base "_law_halved" (1) ["_law_gaps_here"] (sp__law_halved)) (G_halvings : Own P w K mg base "halvings" (1) ["gaps"] (sp_halvings)) (G__law_like : Own P w K mg base "_law_like" (7) ["_law_found", "_law_due"] (sp_like 6)) (G__law_values : Own P w K mg base "_law_values" (2) ["_law_script", "_law_at", "_law_most"] (sp__law_values)) (G__law_gaps : Own P w K mg base "_law_gaps" (1) ["_law_values_here"] (sp__law_gaps)) (G_askings : Own P w K mg base "askings" (2) ["values"] (sp_askings)) (G_to_ask : Own P w K mg base "to_ask" (2) ["values"] (sp_to_ask))
    (len : ∀ ds w Q E, (sp_law) ds w Q E → ds.length = 1) (red : ∀ ds w Q E, (sp_law) ds w Q E → t_law  E { nx := fun _ w1 => Q .non w1, rt := Q } (startD ["_law_script", "_law_gaps_here", "_law_at", "_law_values_here", "_law_handed", "_law_wide", "_law_one", "_law_other"] ds) w) : FnOk P w K mg base (L2N.CX P w) (8) f fd ["_law_script"] (lift K (sp_law)) :=
  fn_ok F sc_law len (fun cdv A outer s H E E' hr => by
    have tk := L2N.takes_of (X := cxOf (L2N.CX P w) P w K mg base ["_law_script", "_law_gaps_here", "_law_at", "_law_values_here", "_law_handed", "_law_wide", "_law_one", "_law_other"] "law" (defScope st_law) f cdv A outer s H E) (E := E) rfl rfl rfl rfl
    have hp := passes_of (X := cxOf (L2N.CX P w) P w K mg base ["_law_script", "_law_gaps_here", "_law_at", "_law_values_here", "_law_handed", "_law_wide", "_law_one", "_law_other"] "law" (defScope st_law) f cdv A outer s H E) rfl
    exact (show QSs (cxOf (L2N.CX P w) P w K mg base ["_law_script", "_law_gaps_here", "_law_at", "_law_values_here", "_law_handed", "_law_wide", "_law_one", "_law_other"] "law" (defScope st_law) f cdv A outer s H E) (fun c d _ H => E c d H) (fun c d _ w => E' c d w) (defBody st_law) (dSeq (dFor (diT (dTup (dCons (dOp addD (dC (.int 1)) (dOp modD (dCall sp__law_cell (fun c d _ w => E' c d w) (dCons (dVar 0) (dCons (dC (.int 2)) dNil))) (dOp powD (dC (.int 10)) (dC (.int 12))))) (dCons (dC (.int 1)) (dCons (dC (.int 2)) (dCons (dC (.int 3)) dNil)))))) (dgName 1) (dIf (dNot (dB (dCall (sp_like 6) (fun c d _ w => E' c d w) (dCons (dCall sp_halvings (fun c d _ w => E' c d w) (dCons (dVar 1) dNil)) (dCons (dCall sp__law_halved (fun c d _ w => E' c d w) (dCons (dVar 1) dNil)) dNil))))) (dRet (dC (.bl false))) dNext)) (dSeq (dFor (diT (dTup (dCons (dC (.int 0)) (dCons (dC (.int 1)) (dCons (dC (.int 0)) dNil))))) (dgName 2) (dSeq (dAsg (dCall sp__law_values (fun c d _ w => E' c d w) (dCons (dVar 0) (dCons (dVar 2) (dCons (dC (.int 12)) dNil)))) 3) (dSeq (dAsg (dCall sp__law_gaps (fun c d _ w => E' c d w) (dCons (dVar 3) dNil)) 1) (dSeq (dAsg (dCB (listD false) (dCons (dVar 3) dNil)) 4) (dSeq (dIf (dNot (dB (dCall (sp_like 6) (fun c d _ w => E' c d w) (dCons (dCall sp_askings (fun c d _ w => E' c d w) (dCons (dVar 4) dNil)) (dCons (dCB sumD (dCons (dLc (diL (dVar 1)) (.many [6, 7]) dYes (dCall sp__law_halved DW0 (dCons (dOp subD (dVar 7) (dVar 6)) dNil))) dNil)) dNil))))) (dRet (dC (.bl false))) dNext) (dSeq (dAsg (dLc (diL (dVar 1)) (.many [6, 7]) (dB (dOp gtD (dOp subD (dVar 7) (dVar 6)) (dC (.int 1)))) (dOp fdivD (dOp addD (dVar 6) (dVar 7)) (dC (.int 2)))) 5) (dIf (dOr (dNot (dB (dCall (sp_like 6) (fun c d _ w => E' c d w) (dCons (dCall sp_to_ask (fun c d _ w => E' c d w) (dCons (dVar 4) dNil)) (dCons (dOp ixD (dOp addD (dVar 5) (dLst (dCons (dC .non) dNil))) (dC (.int 0))) dNil))))) (dB (dOp (eqD true) (dVar 4) (dVar 3)))) (dRet (dC (.bl false))) dNext))))))) (dRet (dAndV (dCall (sp_like 6) (fun c d _ w => E' c d w) (dCons (dCall sp_askings (fun c d _ w => E' c d w) (dCons (dLst (dCons (dC (.int 5)) dNil)) dNil)) (dCons (dC (.int 0)) dNil))) (dOp (isN false) (dCall sp_to_ask (fun c d _ w => E' c d w) (dCons (dLst (dCons (dC (.int 5)) dNil)) dNil)) (dC .non)))))) from (qss_cons (qs_for hp rfl (qi_tup (qe_tup (qa_cons (qe_add qe_int (qe_mod (qe_fn G__law_cell hr tk (qa_cons (qv 0) (qa_cons qe_int qa_nil))) (qe_pow qe_int qe_int))) (qa_cons qe_int (qa_cons qe_int (qa_cons qe_int qa_nil)))))) (qg_name (i := 1) sc_law.nd) (qss_one (qs_if (qt_not (qt_val (qe_fn G__law_like hr tk (qa_cons (qe_fn G_halvings hr tk (qa_cons (qv 1) qa_nil)) (qa_cons (qe_fn G__law_halved hr tk (qa_cons (qv 1) qa_nil)) qa_nil))))) (qss_one (qs_ret qe_bl)) qss_nil))) (qss_cons (qs_for hp rfl (qi_tup (qe_tup (qa_cons qe_int (qa_cons qe_int (qa_cons qe_int qa_nil))))) (qg_name (i := 2) sc_law.nd) (qss_cons (qs_set (i := 3) sc_law.nd (qe_fn G__law_values hr tk (qa_cons (qv 0) (qa_cons (qv 2) (qa_cons qe_int qa_nil))))) (qss_cons (qs_set (i := 1) sc_law.nd (qe_fn G__law_gaps hr tk (qa_cons (qv 3) qa_nil))) (qss_cons (qs_set (i := 4) sc_law.nd (qe_callTy call_list_of (tr_list (own := false)) T.f_list (by decide +kernel) (qa_cons (qv 3) qa_nil))) (qss_cons (qs_if (qt_not (qt_val (qe_fn G__law_like hr tk (qa_cons (qe_fn G_askings hr tk (qa_cons (qv 4) qa_nil)) (qa_cons (qe_callB (cr_sum rfl) tr_sum T.f_sum (by decide +kernel) (qa_cons (qe_lc (own := [("_law_one", 6), ("_law_other", 7)]) (T := (.many [6, 7])) rfl rfl sc_law.nd (qi_list (qv 1)) (blkOk_by (own := [("_law_one", 6), ("_law_other", 7)]) (N := ["_law_script", "_law_gaps_here", "_law_at", "_law_values_here", "_law_handed", "_law_wide", "_law_one", "_law_other"]) (sc := defScope st_law) (by decide +kernel)) (fun _ _ _ _ _ => pg_tup rfl (pgs_cons (pg_name (i := 6) sc_law.nd rfl (Or.inl rfl)) (pgs_cons (pg_name (i := 7) sc_law.nd rfl (Or.inl rfl)) (pgs_nil)))) (fun _ _ _ _ _ => qts_nil) (fun _ _ _ _ _ => (qe_fn G__law_halved hr tk0 (qa_cons (qe_sub (qv 7) (qv 6)) qa_nil)))) qa_nil)) qa_nil))))) (qss_one (qs_ret qe_bl)) qss_nil) (qss_cons (qs_setLc (i := 5) (own := [("_law_one", 6), ("_law_other", 7)]) (T := (.many [6, 7])) rfl rfl sc_law.nd rfl rfl (sw_true rfl rfl rfl (by decide +kernel)) (qi_list (qv 1)) (blkOk_by (own := [("_law_one", 6), ("_law_other", 7)]) (N := ["_law_script", "_law_gaps_here", "_law_at", "_law_values_here", "_law_handed", "_law_wide", "_law_one", "_law_other"]) (sc := defScope st_law) (by decide +kernel)) (fun _ _ _ _ _ => pg_tup rfl (pgs_cons (pg_name (i := 6) sc_law.nd rfl (Or.inl rfl)) (pgs_cons (pg_name (i := 7) sc_law.nd rfl (Or.inl rfl)) (pgs_nil)))) (fun _ _ _ _ _ => (qts_one (qt_gt (qe_sub (qv 7) (qv 6)) qe_int))) (fun _ _ _ _ _ => (qe_fdiv (qe_add (qv 6) (qv 7)) qe_int))) (qss_one (qs_if (qt_bool (qw_or (qt_not (qt_val (qe_fn G__law_like hr tk (qa_cons (qe_fn G_to_ask hr tk (qa_cons (qv 4) qa_nil)) (qa_cons (qe_sub_ hr (qe_add (qv 5) (qe_lst (qa_cons qe_non qa_nil))) qe_int) qa_nil))))) (qw_or1 (qt_ne hr (qv 4) (qv 3))))) (qss_one (qs_ret qe_bl)) qss_nil)))))))) (qss_one (qs_ret (qe_and (qe_fn G__law_like hr tk (qa_cons (qe_fn G_askings hr tk (qa_cons (qe_lst (qa_cons qe_int qa_nil)) qa_nil)) (qa_cons qe_int qa_nil))) (qe_one (qe_is (qe_fn G_to_ask hr tk (qa_cons (qe_lst (qa_cons qe_int qa_nil)) qa_nil)) qe_non))))))))) red
end
def d0 : He.DefD := ⟨("stretches", none), "stretches", "stretches", defArgs st_stretches, defBody st_stretches, defScope st_stretches, [], []⟩
def d1 : He.DefD := ⟨("halvings", none), "halvings", "halvings", defArgs st_halvings, defBody st_halvings, defScope st_halvings, [], []⟩
def d2 : He.DefD := ⟨("askings", none), "askings", "askings", defArgs st_askings, defBody st_askings, defScope st_askings, [], []⟩
def d3 : He.DefD := ⟨("to_ask", none), "to_ask", "to_ask", defArgs st_to_ask, defBody st_to_ask, defScope st_to_ask, [], []⟩
def d4 : He.DefD := ⟨("_law_cell", none), "_law_cell", "_law_cell", defArgs st__law_cell, defBody st__law_cell, defScope st__law_cell, [], []⟩
def d5 : He.DefD := ⟨("_law_row", none), "_law_row", "_law_row", defArgs st__law_row, defBody st__law_row, defScope st__law_row, [], []⟩
def d6 : He.DefD := ⟨("_law_like", none), "_law_like", "_law_like", defArgs st__law_like, defBody st__law_like, defScope st__law_like, [], []⟩
def d7 : He.DefD := ⟨("_law_values", none), "_law_values", "_law_values", defArgs st__law_values, defBody st__law_values, defScope st__law_values, [], []⟩
def d8 : He.DefD := ⟨("_law_halved", none), "_law_halved", "_law_halved", defArgs st__law_halved, defBody st__law_halved, defScope st__law_halved, [], []⟩
def d9 : He.DefD := ⟨("_law_gaps", none), "_law_gaps", "_law_gaps", defArgs st__law_gaps, defBody st__law_gaps, defScope st__law_gaps, [], []⟩
def d10 : He.DefD := ⟨("law", none), "law", "law", defArgs st_law, defBody st_law, defScope st_law, [], []⟩
def fn : List He.DefD := [d0, d1, d2, d3, d4, d5, d6, d7, d8, d9, d10]
def fa : List He.Fa := [.free "all", .free "bool", .free "enumerate", .free "int", .free "isinstance", .free "len", .free "list", .free "range", .free "str", .free "sum", .free "tuple", .free "zip", .glo "stretches", .glo "halvings", .glo "askings", .glo "to_ask", .glo "_law_cell", .glo "_law_row", .glo "_law_like", .glo "_law_values", .glo "_law_halved", .glo "_law_gaps", .glo "law"]
abbrev R : PySem.W.OpenRow := PySem.W.OpenLaw.row PySem.Challenge.rw_mastword_k15_halvings_and_askings
def ex : List XFa := []
def sel (g : Addr → Option Obj) : List Addr := He.asD g 5
abbrev hk : PySem.W.Hook := hookX sel fa fn ex
def ob (s : PySem.W.SharedT) : He.AlD × Bool := obX sel fa fn ex (HandSHeadRun.getT s)
theorem ob_eq (s : PySem.W.SharedT) : ob s = hk.obs s.abs := obX_eq (HandSHeadRun.getT_eq s)
def nm0 : List PySem.Str := ["stretches", "halvings", "askings", "to_ask", "_law_cell", "_law_row", "_law_like", "_law_values", "_law_halved", "_law_gaps"]
def loose : List PySem.Str := nm0
theorem run (w : World) : HandSHeadRun.RunEq R (PySem.W.view R.prog [12]) hk ob 3000 loose w := by
  intro os
  kernel_rfl
theorem facts {P : Program} {w : World} {K : PySem.W.Frag} {h : Heap} {mg : Str → Option Value} {f : Addr} (X : K.In h) (G : h.Ns mainGlobals mg) (hfa : mg ("law" : Str) = some (.ref f)) (c : He.SaysD fa fn K) (hex : (ex.all fun e => e.ok K) = true) :
    ∃ fd : FuncData, (∀ (s : Shared) (v : Value), BindsTo s fd ⟨[v], []⟩ [("_law_script", v)]) ∧ ∀ base : Heap, K.In base → base.Ns mainGlobals mg → FnOk P w K mg base (L2N.CX P w) 8 f fd ["_law_script"] (lift K sp_law) := by
  obtain ⟨fd0, F0⟩ := c.def_ 0 (d := d0) rfl
  obtain ⟨fd1, F1⟩ := c.def_ 1 (d := d1) rfl
  obtain ⟨fd2, F2⟩ := c.def_ 2 (d := d2) rfl
  obtain ⟨fd3, F3⟩ := c.def_ 3 (d := d3) rfl
  obtain ⟨fd4, F4⟩ := c.def_ 4 (d := d4) rfl
  obtain ⟨fd5, F5⟩ := c.def_ 5 (d := d5) rfl
  obtain ⟨fd6, F6⟩ := c.def_ 6 (d := d6) rfl
  obtain ⟨fd7, F7⟩ := c.def_ 7 (d := d7) rfl
  obtain ⟨fd8, F8⟩ := c.def_ 8 (d := d8) rfl
  obtain ⟨fd9, F9⟩ := c.def_ 9 (d := d9) rfl
  obtain ⟨fd10, F10⟩ := c.def_ 10 (d := d10) rfl
  have e := hfa.symm.trans (He.glo_ok X G (c.fact 22 (f := .glo "law") rfl))
  cases e
  have T : Tx K mg := ⟨He.free_ok X G (c.fact 0 (f := .free "all") rfl), He.free_ok X G (c.fact 1 (f := .free "bool") rfl), He.free_ok X G (c.fact 2 (f := .free "enumerate") rfl), He.free_ok X G (c.fact 3 (f := .free "int") rfl), He.free_ok X G (c.fact 4 (f := .free "isinstance") rfl), He.free_ok X G (c.fact 5 (f := .free "len") rfl), He.free_ok X G (c.fact 6 (f := .free "list") rfl), He.free_ok X G (c.fact 7 (f := .free "range") rfl), He.free_ok X G (c.fact 8 (f := .free "str") rfl), He.free_ok X G (c.fact 9 (f := .free "sum") rfl), He.free_ok X G (c.fact 10 (f := .free "tuple") rfl), He.free_ok X G (c.fact 11 (f := .free "zip") rfl)⟩
  have b := FunD.bindsA (ps := ["_law_script"]) F10 fun _ _ _ _ _ _ us hl => match us, hl with | [_], _ => rfl
  refine ⟨fd10, fun s v => b s [v] rfl, fun base _ _ => ?_⟩
  have G_stretches : Own P w K mg base "stretches" 1 ["values"] (sp_stretches) := ⟨_, _, ok_stretches F0 T  (by intro ds w Q E h; unfold sp_stretches at h; repeat' (first | (obtain ⟨rfl, h⟩ := h; rfl) | obtain ⟨_, h⟩ := h)) (red_stretches), He.glo_ok X G (c.fact 12 (f := .glo "stretches") rfl), F0.kp, FunD.bindsN F0 fun _ _ _ _ _ _ us hl => match us, hl with | [_], _ => rfl⟩
  have G_halvings : Own P w K mg base "halvings" 1 ["gaps"] (sp_halvings) := ⟨_, _, ok_halvings F1 T  (by intro ds w Q E h; unfold sp_halvings at h; repeat' (first | (obtain ⟨rfl, h⟩ := h; rfl) | obtain ⟨_, h⟩ := h)) (red_halvings), He.glo_ok X G (c.fact 13 (f := .glo "halvings") rfl), F1.kp, FunD.bindsN F1 fun _ _ _ _ _ _ us hl => match us, hl with | [_], _ => rfl⟩
  have G__law_cell : Own P w K mg base "_law_cell" 1 ["_law_script", "_law_at"] (sp__law_cell) := ⟨_, _, ok__law_cell F4 T  (by intro ds w Q E h; unfold sp__law_cell at h; repeat' (first | (obtain ⟨rfl, h⟩ := h; rfl) | obtain ⟨_, h⟩ := h)) (red__law_cell), He.glo_ok X G (c.fact 16 (f := .glo "_law_cell") rfl), F4.kp, FunD.bindsN F4 fun _ _ _ _ _ _ us hl => match us, hl with | [_, _], _ => rfl⟩
  have G__law_row : Own P w K mg base "_law_row" 1 ["_law_cell_here", "_law_many", "_law_size"] (sp__law_row) := ⟨_, _, ok__law_row F5 T  (by intro ds w Q E h; unfold sp__law_row at h; repeat' (first | (obtain ⟨rfl, h⟩ := h; rfl) | obtain ⟨_, h⟩ := h)) (red__law_row), He.glo_ok X G (c.fact 17 (f := .glo "_law_row") rfl), F5.kp, FunD.bindsN F5 fun _ _ _ _ _ _ us hl => match us, hl with | [_, _, _], _ => rfl⟩
  have G__law_halved : Own P w K mg base "_law_halved" 1 ["_law_gaps_here"] (sp__law_halved) := ⟨_, _, ok__law_halved F8 T  (by intro ds w Q E h; unfold sp__law_halved at h; repeat' (first | (obtain ⟨rfl, h⟩ := h; rfl) | obtain ⟨_, h⟩ := h)) (red__law_halved), He.glo_ok X G (c.fact 20 (f := .glo "_law_halved") rfl), F8.kp, FunD.bindsN F8 fun _ _ _ _ _ _ us hl => match us, hl with | [_], _ => rfl⟩
  have G__law_gaps : Own P w K mg base "_law_gaps" 1 ["_law_values_here"] (sp__law_gaps) := ⟨_, _, ok__law_gaps F9 T  (by intro ds w Q E h; unfold sp__law_gaps at h; repeat' (first | (obtain ⟨rfl, h⟩ := h; rfl) | obtain ⟨_, h⟩ := h)) (red__law_gaps), He.glo_ok X G (c.fact 21 (f := .glo "_law_gaps") rfl), F9.kp, FunD.bindsN F9 fun _ _ _ _ _ _ us hl => match us, hl with | [_], _ => rfl⟩
  have G_askings : Own P w K mg base "askings" 2 ["values"] (sp_askings) := ⟨_, _, ok_askings F2 T G_stretches G_halvings (by intro ds w Q E h; unfold sp_askings at h; repeat' (first | (obtain ⟨rfl, h⟩ := h; rfl) | obtain ⟨_, h⟩ := h)) (red_askings), He.glo_ok X G (c.fact 14 (f := .glo "askings") rfl), F2.kp, FunD.bindsN F2 fun _ _ _ _ _ _ us hl => match us, hl with | [_], _ => rfl⟩
  have G_to_ask : Own P w K mg base "to_ask" 2 ["values"] (sp_to_ask) := ⟨_, _, ok_to_ask F3 T G_stretches (by intro ds w Q E h; unfold sp_to_ask at h; repeat' (first | (obtain ⟨rfl, h⟩ := h; rfl) | obtain ⟨_, h⟩ := h)) (red_to_ask), He.glo_ok X G (c.fact 15 (f := .glo "to_ask") rfl), F3.kp, FunD.bindsN F3 fun _ _ _ _ _ _ us hl => match us, hl with | [_], _ => rfl⟩
  have G__law_values : Own P w K mg base "_law_values" 2 ["_law_script", "_law_at", "_law_most"] (sp__law_values) := ⟨_, _, ok__law_values F7 T G__law_cell G__law_row (by intro ds w Q E h; unfold sp__law_values at h; repeat' (first | (obtain ⟨rfl, h⟩ := h; rfl) | obtain ⟨_, h⟩ := h)) (red__law_values), He.glo_ok X G (c.fact 19 (f := .glo "_law_values") rfl), F7.kp, FunD.bindsN F7 fun _ _ _ _ _ _ us hl => match us, hl with | [_, _, _], _ => rfl⟩
  have B__law_like : Binds K fd6 ["_law_found", "_law_due"] [] := FunD.bindsN F6 fun _ _ _ _ _ _ us hl => match us, hl with | [_, _], _ => rfl
  have A_like : ∀ n, Own P w K mg base "_law_like" (n + 1) ["_law_found", "_law_due"] (sp_like n) := by
    intro n
    induction n with
    | zero => exact ⟨_, _, F6.ok sc__law_like (fun vs H Q E h => (like0 h).elim) (fun _ _ _ _ H vs Q E _ h => (like0 h).elim), He.glo_ok X G (c.fact 18 (f := .glo "_law_like") rfl), F6.kp, B__law_like⟩
    | succ n ih => exact ⟨_, _, ok__law_like n F6 T ih (fun ds w Q E ⟨_, _, e, _⟩ => by rw [e]; rfl) (red__law_like n), He.glo_ok X G (c.fact 18 (f := .glo "_law_like") rfl), F6.kp, B__law_like⟩
  have G__law_like := A_like 6
  exact ok_law F10 T G__law_cell G__law_halved G_halvings G__law_like G__law_values G__law_gaps G_askings G_to_ask (by intro ds w Q E h; unfold sp_law at h; repeat' (first | (obtain ⟨rfl, h⟩ := h; rfl) | obtain ⟨_, h⟩ := h)) (red_law)
end TD
open PySem PySem.W PySem.Calls PyProof.Rows
theorem PySem.Challenge.cw_mastword_k15_halvings_and_askings_holds : PySem.Challenge.rw_mastword_k15_halvings_and_askings.Holds := by
  w_on; o_law
  refine HandSHeadRun.head_any (r := OpenLaw.row PySem.Challenge.rw_mastword_k15_halvings_and_askings) (q := view (OpenLaw.row PySem.Challenge.rw_mastword_k15_halvings_and_askings).prog [12]) (H := TD.hk) (ob := TD.ob) (M := 3000) (loose := TD.loose) (d := HandSHeadRun.topDef (OpenLaw.row PySem.Challenge.rw_mastword_k15_halvings_and_askings).prog 12) (kwd := []) TD.ob_eq
    (by kernel_rfl) (fun s => by kernel_rfl) TD.run (by kernel_rfl) (by kernel_rfl) (by kernel_rfl) (by rfl) (by first | assumption | decide +kernel) (by decide +kernel) ⟨rfl, rfl, rfl, rfl, rfl, by decide +kernel⟩ ?hw ?hc
  case hw => w_witness2
  case hc =>
    refine TD.walk_td (l := PySem.Challenge.rw_mastword_k15_halvings_and_askings) (n := 63) (k := 8) (x := "_law_script") (sp := TD.sp_law) rfl (by decide) (by kernel_rfl) ⟨rfl, by decide, by decide⟩ (fun ns hl => ⟨ns, rfl, hl, fun _ => rfl⟩) ?F
    intro w mg fa h Y G hmg0
    obtain ⟨K, KX, c⟩ := Y
    have hmg : mg ("law" : PySem.Str) = some (.ref fa) := by
      have e : (HandSHeadRun.topDef (OpenLaw.row PySem.Challenge.rw_mastword_k15_halvings_and_askings).prog 12).name = ("law" : PySem.Str) := by kernel_rfl
      rw [← e]
      exact hmg0
    obtain ⟨fd, hb, hF⟩ := TD.facts (P := (PySem.Challenge.rw_mastword_k15_halvings_and_askings).prog) (w := w) KX G hmg c.1 c.2
    exact ⟨K, fd, KX, hb, hF⟩

