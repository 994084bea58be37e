import PyProof.Rows.All
import Wide.All
import OpenK.AllK
import Wide.FinOn
import HandS.ForMost
import HandS.ForExc
import HandS.CallSlots
import HandS.IsInst
import HandS.TupAny
import HandS.Wide
import HandS.WideBits
import HandS.TryMany
import HandS.ExcInit
import HandS.ExcOwn
import KE.DataEq
import HandS.Flow
import HandS.Conv
import HandS.Walk
import HandS.RevRange
import HandS.Zip
import KE.GoesMore
import KE.GoesEnum
import HandS.Defaults
import HandS.HeadHook2
import HandS.ExcField
import HandS.ExcIs
import HandS.WordsExc
import HandS.ExcValue
import HandS.Dict
import HandS.More
import HandS.Iter
import KE.KDictList
import HandS.ListItems
import HandS.Head0
import HandS.Head1
import HandS.Head2
import HandS.HeadEnd
import HandS.HeadHook1
import HandS.EndBits
import HandS.Property
import HandS.Star
import HandS.DictComp
import PyProof.DictFindH
import HandS.SortRule
import HandS.TupLen
import HandS.WordsDict
import HandS.Style
import KE.IntBitsLaws
import PySem.Challenge.RW_huewalks_k82_cup_or_cap_found
set_option Elab.async false
set_option linter.all false
set_option maxRecDepth 100000
set_option maxHeartbeats 0
namespace Mi
open PySem PySem.Spec PyProof.Rows L2

/-! ## data of the mirror -/
inductive D where
  | non | bl (b : Bool) | int (i : Int) | str (s : Str) | tup (xs : List D) | ref (n : Nat) | frl (xs : List D)

inductive O where
  | lst (xs : List D) | dK (kvs : List (Key × D)) | dT (kvs : List (List Key × D)) | lK (kvs : List (Key × D)) | lT (kvs : List (List Key × D)) | ins (c : Nat) (fs : List D) | xc (c : Nat) (fs : List D)

abbrev Hm := List O
/-- a slot: not set, data, the exception that the suite holds -/
inductive Sl where
  | un | is (d : D) | hel
abbrev Ro := List Sl
/-- an exception: its class, its attributes -/
structure Ex where
  c : Nat
  fs : List D
structure Held where
  a : Addr
  cls : Value
  dd : Option Addr
  x : Ex

/-- classes of the text: the address, the attributes' names in the order of their making -/
structure Lk where
  cls : Nat → Option (Addr × List Str)
  exc : Nat → Option (Addr × List Str)
  K : PySem.W.Frag
  held : Option Held := none

/-- the empty tuple of the written part (a default) -/
def KT0 (K : PySem.W.Frag) (a : Addr) : Prop := SqT K (fun _ => none) a []
theorem KT0.sq {K : PySem.W.Frag} {a : Addr} {H : Hp} (h : KT0 K a) : SqT K H a [] := by
  rcases h with (h | ⟨o, h⟩) | h
  · cases h
  · cases h
  · exact .inr h
/-- a list that no one changes: the script -/
def Fz (K : PySem.W.Frag) (H : Hp) (a : Addr) (vs : List V) : Prop := (∃ o, H a = some (.frz o (.lst vs))) ∨ SqL K (fun _ => none) a vs
theorem Fz.sq {K : PySem.W.Frag} {a : Addr} {H : Hp} {vs : List V} (h : Fz K H a vs) : SqL K H a vs := by
  rcases h with h | (h | ⟨o, h⟩) | h
  · exact .inl (.inr h)
  · cases h
  · cases h
  · exact .inr h
mutual
inductive RV (g : Lk) (ι : List Addr) (H : Hp) : D → V → Prop
  | non : RV g ι H .non .non
  | bl (b : Bool) : RV g ι H (.bl b) (.bl b)
  | int (i : Int) : RV g ι H (.int i) (.int i)
  | str (x : Str) : RV g ι H (.str x) (.str x)
  | tup {a : Addr} {ds : List D} {vs : List V} : H a = some (.tup vs) → RVs g ι H ds vs → RV g ι H (.tup ds) (.ref a)
  | tup0 {a : Addr} : KT0 g.K a → RV g ι H (.tup []) (.ref a)
  | ref {n : Nat} {a : Addr} : ι[n]? = some a → RV g ι H (.ref n) (.ref a)
  | frl {a : Addr} {ds : List D} {vs : List V} : Fz g.K H a vs → RVs g ι H ds vs → RV g ι H (.frl ds) (.ref a)
inductive RVs (g : Lk) (ι : List Addr) (H : Hp) : List D → List V → Prop
  | nil : RVs g ι H [] []
  | cons {d : D} {ds : List D} {v : V} {vs : List V} : RV g ι H d v → RVs g ι H ds vs → RVs g ι H (d :: ds) (v :: vs)
end

/-- a dict's keys -/
def keyOf : D → Option Key
  | .int i => some (.inl i)
  | .str s => some (.inr s)
  | _ => none
def keysOf : List D → Option (List Key)
  | [] => some []
  | d :: ds => match keyOf d, keysOf ds with
    | some k, some ks => some (k :: ks)
    | _, _ => none
def keyT : D → Option (List Key)
  | .tup (d :: ds) => keysOf (d :: ds)
  | _ => none

inductive RK {κ : Type} (g : Lk) (ι : List Addr) (H : Hp) : List (κ × D) → List (κ × V) → Prop
  | nil : RK g ι H [] []
  | cons {k : κ} {d : D} {v : V} {r : List (κ × D)} {r' : List (κ × V)} : RV g ι H d v → RK g ι H r r' → RK g ι H ((k, d) :: r) ((k, v) :: r')

def ExR (g : Lk) (ι : List Addr) (H : Hp) (x : Ex) (cls : Value) (dd : Option Addr) : Prop :=
  ∃ C ns, g.exc x.c = some (C, ns) ∧ cls = .ref C ∧ ((x.fs = [] ∧ dd = none) ∨ ∃ (d : Addr) (fs : List (Str × V)), dd = some d ∧ H d = some (.xd fs) ∧
    ∀ (i : Nat) (f : Str) (y : D), ns[i]? = some f → x.fs[i]? = some y → ∃ v, fs.lookup f = some v ∧ RV g ι H y v)
/-- an exception object at e -/
def xoP (e C : Addr) (d : Option Addr) : Heap → Prop := fun h => ∃ t1 : Addr, h.get? e = some ({ cls := .ref C, dict := d, data := .fields #[.ref t1, .none, .none, .none, .bool false, .none] } : Obj)
theorem exo_eq {e C : Addr} {d : Option Addr} : exo e C d = .ext (xoP e C d) := rfl

inductive RO (g : Lk) (ι : List Addr) (H : Hp) : O → HO → Prop
  | lst {xs : List D} {vs : List V} : RVs g ι H xs vs → RO g ι H (.lst xs) (.lst vs)
  | dK {kvs : List (Key × D)} {kvs' : List (Key × V)} : RK g ι H kvs kvs' → RO g ι H (.dK kvs) (.dK kvs')
  | dT {kvs : List (List Key × D)} {kvs' : List (List Key × V)} : RK g ι H kvs kvs' → RO g ι H (.dT kvs) (.dT kvs')
  | lK {o : Obj} {kvs : List (Key × D)} {kvs' : List (Key × V)} : RK g ι H kvs kvs' → RO g ι H (.lK kvs) (.frz o (.dK kvs'))
  | lT {o : Obj} {kvs : List (List Key × D)} {kvs' : List (List Key × V)} : RK g ι H kvs kvs' → RO g ι H (.lT kvs) (.frz o (.dT kvs'))
  | ins {c : Nat} {fs : List D} {C dx : Addr} {ns : List Str} {vs : List V} : g.cls c = some (C, ns) → fs.length ≤ ns.length → RVs g ι H fs vs → RO g ι H (.ins c fs) (.ins C dx (ns.zip vs))
  | xc {c : Nat} {fs : List D} {e C : Addr} {d : Option Addr} : ExR g ι H ⟨c, fs⟩ (.ref C) d → RO g ι H (.xc c fs) (.ext (xoP e C d))

structure HR (g : Lk) (ι : List Addr) (m : Hm) (H : Hp) : Prop where
  len : ι.length = m.length
  nd : ι.Nodup
  obj : ∀ (n : Nat) (o : O), m[n]? = some o → ∃ a u, ι[n]? = some a ∧ H a = some u ∧ RO g ι H o u

/-- what may have changed -/
structure Ext (ι : List Addr) (H : Hp) (ι' : List Addr) (H' : Hp) : Prop where
  pre : ∃ t, ι' = ι ++ t
  fix : ∀ b o, H b = some o → b ∉ ι → H' b = some o
  new : ∀ b, b ∈ ι' → b ∈ ι ∨ H b = none
  lck : ∀ b o u, H b = some (.frz o u) → H' b = some (.frz o u)

theorem Ext.refl (ι : List Addr) (H : Hp) : Ext ι H ι H := ⟨⟨[], by simp⟩, fun _ _ h _ => h, fun _ h => .inl h, fun _ _ _ h => h⟩
theorem Ext.trans {ι ι1 ι2 : List Addr} {H H1 H2 : Hp} (a : Ext ι H ι1 H1) (b : Ext ι1 H1 ι2 H2) : Ext ι H ι2 H2 := by
  obtain ⟨t, ht⟩ := a.pre
  obtain ⟨u, hu⟩ := b.pre
  have no : ∀ c o, H c = some o → c ∉ ι → c ∉ ι1 := fun c o h hn h1 => by
    rcases a.new c h1 with h2 | h2
    · exact hn h2
    · rw [h] at h2; cases h2
  refine ⟨⟨t ++ u, by rw [hu, ht, List.append_assoc]⟩, fun c o h hn => b.fix c o (a.fix c o h hn) (no c o h hn), fun c hc => ?_, fun c o u h => b.lck c o u (a.lck c o u h)⟩
  rcases b.new c hc with h | h
  · exact a.new c h
  · by_cases hm : c ∈ ι
    · exact .inl hm
    · cases q : H c with
      | none => exact .inr rfl
      | some o =>
        have := a.fix c o q hm
        rw [h] at this; cases this

/-- no tuple stands at an address of the mirror's objects -/
theorem HR.notTup {g : Lk} {ι : List Addr} {m : Hm} {H : Hp} (h : HR g ι m H) {a : Addr} (ha : a ∈ ι) : ∀ xs, H a ≠ some (.tup xs) := by
  obtain ⟨n, hn, e⟩ := List.mem_iff_getElem.mp ha
  have hm : n < m.length := by rw [← h.len]; exact hn
  obtain ⟨b, u, hb, hu, r⟩ := h.obj n m[n] (List.getElem?_eq_getElem hm)
  generalize m[n] = oo at r
  have : b = a := by
    rw [List.getElem?_eq_getElem hn, e] at hb
    exact (Option.some.inj hb).symm
  subst this
  rw [hu]
  intro xs z
  cases r <;> cases z

/-- no exception's dict stands at an address of the mirror's objects -/
theorem HR.notXd {g : Lk} {ι : List Addr} {m : Hm} {H : Hp} (h : HR g ι m H) {a : Addr} {fs : List (Str × V)} (e : H a = some (.xd fs)) : a ∉ ι := fun ha => by
  obtain ⟨n, hn, e2⟩ := List.mem_iff_getElem.mp ha
  have hm : n < m.length := by rw [← h.len]; exact hn
  obtain ⟨b, u, hb, hu, r⟩ := h.obj n m[n] (List.getElem?_eq_getElem hm)
  generalize m[n] = oo at r
  have : b = a := by
    rw [List.getElem?_eq_getElem hn, e2] at hb
    exact (Option.some.inj hb).symm
  subst this
  rw [e] at hu; cases hu
  cases r
/-- tuples stay, the mirror's objects grow -/
structure Gr (ι : List Addr) (H : Hp) (ι' : List Addr) (H' : Hp) : Prop where
  pre : ∃ t, ι' = ι ++ t
  tup : ∀ b xs, H b = some (.tup xs) → H' b = some (.tup xs)
  frz : ∀ b o u, H b = some (.frz o u) → H' b = some (.frz o u)
  xd : ∀ b fs, H b = some (.xd fs) → H' b = some (.xd fs)
theorem Ext.gr {g : Lk} {ι ι' : List Addr} {m : Hm} {H H' : Hp} (h : HR g ι m H) (e : Ext ι H ι' H') : Gr ι H ι' H' :=
  ⟨e.pre, fun b xs q => e.fix _ _ q fun z => h.notTup z _ q, e.lck, fun b fs q => e.fix _ _ q (h.notXd q)⟩
theorem Gr.refl (ι : List Addr) (H : Hp) : Gr ι H ι H := ⟨⟨[], by simp⟩, fun _ _ q => q, fun _ _ _ q => q, fun _ _ q => q⟩
theorem Gr.trans {ι ι1 ι2 : List Addr} {H H1 H2 : Hp} (a : Gr ι H ι1 H1) (b : Gr ι1 H1 ι2 H2) : Gr ι H ι2 H2 := by
  obtain ⟨t, ht⟩ := a.pre
  obtain ⟨u, hu⟩ := b.pre
  exact ⟨⟨t ++ u, by rw [hu, ht, List.append_assoc]⟩, fun c xs q => b.tup c xs (a.tup c xs q), fun c o xs q => b.frz c o xs (a.frz c o xs q), fun c xs q => b.xd c xs (a.xd c xs q)⟩
theorem SqT.gr {K : PySem.W.Frag} {ι ι' : List Addr} {H H' : Hp} (e : Gr ι H ι' H') {a : Addr} {vs : List V} (s : SqT K H a vs) : SqT K H' a vs := by
  rcases s with (s | ⟨o, s⟩) | s
  · exact .inl (.inl (e.tup _ _ s))
  · exact .inl (.inr ⟨o, e.frz _ _ _ s⟩)
  · exact .inr s
section
variable {g : Lk} {ι ι' : List Addr} {H H' : Hp}
mutual
theorem RV.gr (e : Gr ι H ι' H') : ∀ {d : D} {v : V}, RV g ι H d v → RV g ι' H' d v
  | _, _, .non => .non
  | _, _, .bl b => .bl b
  | _, _, .int i => .int i
  | _, _, .str x => .str x
  | _, _, .tup s r => .tup (e.tup _ _ s) (RVs.gr e r)
  | _, _, .tup0 z => .tup0 z
  | _, _, .ref (n := n) q => .ref (by
      obtain ⟨t, rfl⟩ := e.pre
      rw [List.getElem?_append_left (List.getElem?_eq_some_iff.mp q).1]; exact q)
  | _, _, .frl s r => .frl (s.imp (fun ⟨o, q⟩ => ⟨o, e.frz _ _ _ q⟩) id) (RVs.gr e r)
theorem RVs.gr (e : Gr ι H ι' H') : ∀ {ds : List D} {vs : List V}, RVs g ι H ds vs → RVs g ι' H' ds vs
  | _, _, .nil => .nil
  | _, _, .cons r t => .cons (RV.gr e r) (RVs.gr e t)
end
end
theorem SqT.ext {g : Lk} {ι ι' : List Addr} {m : Hm} {H H' : Hp} (h : HR g ι m H) (e : Ext ι H ι' H') {a : Addr} {vs : List V} (s : SqT g.K H a vs) : SqT g.K H' a vs := by
  rcases s with (s | ⟨o, s⟩) | s
  · exact .inl (.inl (e.fix _ _ s fun z => h.notTup z _ s))
  · exact .inl (.inr ⟨o, e.lck _ _ _ s⟩)
  · exact .inr s

section
variable {g : Lk} {ι ι' : List Addr} {m : Hm} {H H' : Hp}
mutual
theorem RV.ext (h : HR g ι m H) (e : Ext ι H ι' H') : ∀ {d : D} {v : V}, RV g ι H d v → RV g ι' H' d v
  | _, _, .non => .non
  | _, _, .bl b => .bl b
  | _, _, .int i => .int i
  | _, _, .str x => .str x
  | _, _, .tup s r => .tup (e.fix _ _ s fun z => h.notTup z _ s) (RVs.ext h e r)
  | _, _, .tup0 z => .tup0 z
  | _, _, .ref (n := n) q => .ref (by
      obtain ⟨t, rfl⟩ := e.pre
      rw [List.getElem?_append_left (List.getElem?_eq_some_iff.mp q).1]; exact q)
  | _, _, .frl s r => .frl (s.imp (fun ⟨o, q⟩ => ⟨o, e.lck _ _ _ q⟩) id) (RVs.ext h e r)
theorem RVs.ext (h : HR g ι m H) (e : Ext ι H ι' H') : ∀ {ds : List D} {vs : List V}, RVs g ι H ds vs → RVs g ι' H' ds vs
  | _, _, .nil => .nil
  | _, _, .cons r t => .cons (RV.ext h e r) (RVs.ext h e t)
end
theorem RK.ext {κ : Type} (h : HR g ι m H) (e : Ext ι H ι' H') {ks : List (κ × D)} {vs : List (κ × V)} (r : RK g ι H ks vs) : RK g ι' H' ks vs := by
  induction r with
  | nil => exact .nil
  | cons r _ ih => exact .cons (RV.ext h e r) ih
theorem ExR.ext (h : HR g ι m H) (e : Ext ι H ι' H') {x : Ex} {cls : Value} {dd : Option Addr} (r : ExR g ι H x cls dd) : ExR g ι' H' x cls dd := by
  obtain ⟨C, ns, h1, h2, h3⟩ := r
  refine ⟨C, ns, h1, h2, ?_⟩
  rcases h3 with h3 | ⟨d, fs, h4, h5, h6⟩
  · exact .inl h3
  · exact .inr ⟨d, fs, h4, e.fix _ _ h5 (h.notXd h5), fun i f y q1 q2 => let ⟨v, hv, r⟩ := h6 i f y q1 q2; ⟨v, hv, r.ext h e⟩⟩
theorem RO.ext (h : HR g ι m H) (e : Ext ι H ι' H') {o : O} {u : HO} (r : RO g ι H o u) : RO g ι' H' o u := by
  cases r with
  | lst r => exact .lst (r.ext h e)
  | dK r => exact .dK (r.ext h e)
  | dT r => exact .dT (r.ext h e)
  | lK r => exact .lK (r.ext h e)
  | lT r => exact .lT (r.ext h e)
  | ins c l r => exact .ins c l (r.ext h e)
  | xc r => exact .xc (r.ext h e)
end

section
variable {g : Lk} {ι ι' : List Addr} {m : Hm} {H H' : Hp} {ds es : List D} {vs ws : List V}
theorem RVs.length (r : RVs g ι H ds vs) : ds.length = vs.length := by
  induction vs generalizing ds with
  | nil => cases r; rfl
  | cons v vs ih => cases r with | cons r t => simp [ih t]
theorem RVs.get (r : RVs g ι H ds vs) {i : Nat} {d : D} (h : ds[i]? = some d) : ∃ v, vs[i]? = some v ∧ RV g ι H d v := by
  induction ds generalizing vs i with
  | nil => simp at h
  | cons x ds ih =>
    cases r with
    | cons r t =>
      cases i with
      | zero => simp at h; subst h; exact ⟨_, rfl, r⟩
      | succ i => simp at h; obtain ⟨v, hv, q⟩ := ih t h; exact ⟨v, by simpa using hv, q⟩
theorem RVs.get' (r : RVs g ι H ds vs) {i : Nat} {v : V} (h : vs[i]? = some v) : ∃ d, ds[i]? = some d ∧ RV g ι H d v := by
  induction ds generalizing vs i with
  | nil => cases r; simp at h
  | cons x ds ih =>
    cases r with
    | cons r t =>
      cases i with
      | zero => simp at h; subst h; exact ⟨_, rfl, r⟩
      | succ i => simp at h; obtain ⟨v, hv, q⟩ := ih t h; exact ⟨v, by simpa using hv, q⟩
theorem RVs.append (a : RVs g ι H ds vs) (b : RVs g ι H es ws) : RVs g ι H (ds ++ es) (vs ++ ws) := by
  induction ds generalizing vs with
  | nil => cases a; exact b
  | cons x ds ih => cases a with | cons r t => exact .cons r (ih t)
theorem RVs.set (a : RVs g ι H ds vs) {i : Nat} {d : D} {v : V} (r : RV g ι H d v) : RVs g ι H (ds.set i d) (vs.set i v) := by
  induction ds generalizing vs i with
  | nil => cases a; exact .nil
  | cons x ds ih =>
    cases a with
    | cons q t =>
      cases i with
      | zero => exact .cons r t
      | succ i => exact .cons q (ih t)
theorem RVs.take (a : RVs g ι H ds vs) (n : Nat) : RVs g ι H (ds.take n) (vs.take n) := by
  induction ds generalizing vs n with
  | nil => cases a; simp; exact .nil
  | cons x ds ih =>
    cases a with
    | cons q t =>
      cases n with
      | zero => exact .nil
      | succ n => exact .cons q (ih t n)
theorem RVs.drop (a : RVs g ι H ds vs) (n : Nat) : RVs g ι H (ds.drop n) (vs.drop n) := by
  induction ds generalizing vs n with
  | nil => cases a; simp; exact .nil
  | cons x ds ih =>
    cases a with
    | cons q t =>
      cases n with
      | zero => exact .cons q t
      | succ n => exact ih t n
theorem RVs.reverse (a : RVs g ι H ds vs) : RVs g ι H ds.reverse vs.reverse := by
  induction ds generalizing vs with
  | nil => cases a; exact .nil
  | cons x ds ih =>
    cases a with
    | cons q t => rw [List.reverse_cons, List.reverse_cons]; exact (ih t).append (.cons q .nil)
theorem RVs.eraseIdx (a : RVs g ι H ds vs) (i : Nat) : RVs g ι H (ds.eraseIdx i) (vs.eraseIdx i) := by
  induction ds generalizing vs i with
  | nil => cases a; exact .nil
  | cons x ds ih =>
    cases a with
    | cons q t =>
      cases i with
      | zero => exact t
      | succ i => exact .cons q (ih t i)
theorem RVs.rep (a : RVs g ι H ds vs) (k : Nat) : RVs g ι H (List.replicate k ds).flatten (List.replicate k vs).flatten := by
  induction k with
  | zero => exact .nil
  | succ k ih => rw [List.replicate_succ, List.replicate_succ, List.flatten_cons, List.flatten_cons]; exact a.append ih
end

theorem RV.tupI {g : Lk} {ι : List Addr} {H : Hp} {ds : List D} {v : V} (r : RV g ι H (.tup ds) v) : ∃ a vs, v = .ref a ∧ SqT g.K H a vs ∧ RVs g ι H ds vs := by
  cases r with
  | tup s t => exact ⟨_, _, rfl, SqT.of s, t⟩
  | tup0 z => exact ⟨_, [], rfl, z.sq, .nil⟩
theorem RV.tupN {g : Lk} {ι : List Addr} {H : Hp} {d : D} {ds : List D} {v : V} (r : RV g ι H (.tup (d :: ds)) v) : ∃ a vs, v = .ref a ∧ H a = some (.tup vs) ∧ RVs g ι H (d :: ds) vs := by
  cases r with
  | tup s t => exact ⟨_, _, rfl, s, t⟩

/-! ### the frame's slots -/
structure SR (g : Lk) (ι : List Addr) (m : Hm) (ρ : Ro) (σ : L2.St) (H : Hp) : Prop where
  hr : HR g ι m H
  len : ρ.length = σ.length
  slot : ∀ (i : Nat) (d : D), ρ[i]? = some (.is d) → ∃ v, σ[i]? = some (some v) ∧ RV g ι H d v
  hel : ∀ (i : Nat), ρ[i]? = some .hel → ∃ h, g.held = some h ∧ σ[i]? = some (some (.ref h.a))
  hx : ∀ h, g.held = some h → ExR g ι H h.x h.cls h.dd
section
variable {g : Lk} {ι ι' : List Addr} {m m' : Hm} {ρ : Ro} {σ : L2.St} {H H' : Hp}
theorem SR.ext (s : SR g ι m ρ σ H) (e : Ext ι H ι' H') (h : HR g ι' m' H') : SR g ι' m' ρ σ H' :=
  ⟨h, s.len, fun i d q => let ⟨v, hv, r⟩ := s.slot i d q; ⟨v, hv, r.ext s.hr e⟩, s.hel, fun h q => (s.hx h q).ext s.hr e⟩
theorem SR.put (s : SR g ι m ρ σ H) {i : Nat} {z : Sl} {y : Option V} (h1 : ∀ d, z = .is d → ∃ v, y = some v ∧ RV g ι H d v) (h2 : z = .hel → ∃ h, g.held = some h ∧ y = some (.ref h.a)) : SR g ι m (ρ.set i z) (σ.set i y) H := by
  refine ⟨s.hr, by simpa using s.len, fun j e q => ?_, fun j q => ?_, s.hx⟩
  · by_cases hj : j = i
    · subst hj
      have hl : j < ρ.length := by simpa using (List.getElem?_eq_some_iff.mp q).1
      rw [List.getElem?_set_self hl] at q
      obtain ⟨v, hv, r⟩ := h1 e (Option.some.inj q)
      exact ⟨v, by rw [List.getElem?_set_self (s.len ▸ hl), hv], r⟩
    · rw [List.getElem?_set_ne (Ne.symm hj)] at q ⊢
      exact s.slot j e q
  · by_cases hj : j = i
    · subst hj
      have hl : j < ρ.length := by simpa using (List.getElem?_eq_some_iff.mp q).1
      rw [List.getElem?_set_self hl] at q
      obtain ⟨h, hv, r⟩ := h2 (Option.some.inj q)
      exact ⟨h, hv, by rw [List.getElem?_set_self (s.len ▸ hl), r]⟩
    · rw [List.getElem?_set_ne (Ne.symm hj)] at q ⊢
      exact s.hel j q
theorem SR.set (s : SR g ι m ρ σ H) {i : Nat} {d : D} {v : V} (r : RV g ι H d v) : SR g ι m (ρ.set i (.is d)) (σ.set i (some v)) H :=
  s.put (fun e h => by cases h; exact ⟨v, rfl, r⟩) fun h => by cases h
theorem SR.unset (s : SR g ι m ρ σ H) {i : Nat} : SR g ι m (ρ.set i .un) (σ.set i none) H := s.put (fun e h => by cases h) fun h => by cases h
/-- forgetting a slot on the mirror's side alone -/
theorem SR.forget (s : SR g ι m ρ σ H) {i : Nat} {x : Option V} : SR g ι m (ρ.set i .un) (σ.set i x) H := s.put (fun e h => by cases h) fun h => by cases h
end
end Mi
namespace Mi
open PySem PySem.Spec PyProof.Rows L2

/-! ## what an evaluation gives -/
inductive Rs (α : Type) where
  | ok (a : α) (m : Hm) | ex (x : Ex) (m : Hm)
abbrev Mv (α : Type) := Ro → Hm → Option (Rs α)
def bnd {α β : Type} (a : Option (Rs α)) (k : α → Hm → Option (Rs β)) : Option (Rs β) :=
  match a with
  | some (.ok d m) => k d m
  | some (.ex x m) => some (.ex x m)
  | none => none

/-- the wish of an exception that comes out -/
def XW {α : Type} (g : Lk) (W : WX) (ι : List Addr) (σ : L2.St) (H : Hp) (r : Rs α) : Prop :=
  ∀ x m', r = .ex x m' → ∀ ι' cls dd H', Ext ι H ι' H' → HR g ι' m' H' → ExR g ι' H' x cls dd → W cls dd σ H'
theorem XW.ext {α : Type} {g : Lk} {W : WX} {ι ι1 : List Addr} {σ : L2.St} {H H1 : Hp} {r : Rs α} (x : XW g W ι σ H r) (e : Ext ι H ι1 H1) : XW g W ι1 σ H1 r :=
  fun y m' h ι' cls dd H' e' hr q => x y m' h ι' cls dd H' (e.trans e') hr q

def liftE (g : Lk) (W : WX) (c : Mv D) : TE := fun σ H Q => ∃ ι m ρ r, SR g ι m ρ σ H ∧ c ρ m = some r ∧
  (∀ d m', r = .ok d m' → ∀ ι' v H', Ext ι H ι' H' → HR g ι' m' H' → RV g ι' H' d v → Q v H') ∧ XW g W ι σ H r
def liftT (g : Lk) (W : WX) (c : Mv Bool) : TT := fun σ H Q => ∃ ι m ρ r, SR g ι m ρ σ H ∧ c ρ m = some r ∧
  (∀ d m', r = .ok d m' → ∀ ι' H', Ext ι H ι' H' → HR g ι' m' H' → Q d H') ∧ XW g W ι σ H r
def liftA (g : Lk) (W : WX) (n : Nat) (c : Mv (List D)) : TA := fun σ H Q => ∃ ι m ρ r, SR g ι m ρ σ H ∧ c ρ m = some r ∧
  (∀ ds m', r = .ok ds m' → ∀ ι' vs H', Ext ι H ι' H' → HR g ι' m' H' → RVs g ι' H' ds vs → ds.length = n → Q vs H') ∧ XW g W ι σ H r

/-- the judgements of the mirror -/
abbrev ME (g : Lk) (W : WX) (X : Cx) (e : Expr) (c : Mv D) : Prop := PE X e (liftE g W c)
abbrev MT (g : Lk) (W : WX) (X : Cx) (e : Expr) (c : Mv Bool) : Prop := PT X e (liftT g W c)
abbrev MA (g : Lk) (W : WX) (X : Cx) (es : List Expr) (n : Nat) (c : Mv (List D)) : Prop := PA X es (liftA g W n c)

theorem peI {X : Cx} {e : Expr} {t t' : TE} (h : PE X e t) (i : ∀ σ H Q, t' σ H Q → t σ H Q) : PE X e t' := ⟨fun pins s σ H Q I q => h.run pins s σ H Q I (i σ H Q q)⟩
theorem ptI {X : Cx} {e : Expr} {t t' : TT} (h : PT X e t) (i : ∀ σ H Q, t' σ H Q → t σ H Q) : PT X e t' := ⟨fun pins s σ H Q I q => h.run pins s σ H Q I (i σ H Q q)⟩
theorem pwI {X : Cx} {e : Expr} {t t' : TT} (h : PW X e t) (i : ∀ σ H Q, t' σ H Q → t σ H Q) : PW X e t' := ⟨fun wh pins s σ H Q I q => h.run wh pins s σ H Q I (i σ H Q q)⟩
theorem paI {X : Cx} {e : List Expr} {t t' : TA} (h : PA X e t) (i : ∀ σ H Q, t' σ H Q → t σ H Q) : PA X e t' := ⟨fun p pins s σ H Q I q => h.run p pins s σ H Q I (i σ H Q q)⟩
theorem psI {X : Cx} {e : Stmt} {t t' : TS} (h : PS X e t) (i : ∀ D σ H, t' D σ H → t D σ H) : PS X e t' := ⟨fun pins s σ H D I q => h.run pins s σ H D I (i D σ H q)⟩
theorem pssI {X : Cx} {e : List Stmt} {t t' : TS} (h : PSs X e t) (i : ∀ D σ H, t' D σ H → t D σ H) : PSs X e t' := ⟨fun pins s σ H D I q => h.run pins s σ H D I (i D σ H q)⟩

section
variable {g : Lk} {W : WX} {ι : List Addr} {m : Hm} {ρ : Ro} {σ : L2.St} {H : Hp} {β : Type} {r : Rs β}
/-- a part is evaluated -/
theorem useE {c : Mv D} {k : D → Hm → Option (Rs β)} (s : SR g ι m ρ σ H) (hc : bnd (c ρ m) k = some r) (hx : XW g W ι σ H r) {R : VK}
    (hR : ∀ ι1 m1 d v H1, Ext ι H ι1 H1 → SR g ι1 m1 ρ σ H1 → RV g ι1 H1 d v → k d m1 = some r → R v H1) : liftE g W c σ H R := by
  cases q : c ρ m with
  | none => rw [q] at hc; cases hc
  | some z =>
    rw [q] at hc
    refine ⟨ι, m, ρ, z, s, q, fun d m' e ι' v H' ex hr rv => ?_, fun x m' e => ?_⟩
    · subst e; exact hR ι' m' d v H' ex (s.ext ex hr) rv hc
    · subst e; cases hc; exact hx x m' rfl
/-- .. the result told -/
theorem useEq {c : Mv D} {k : D → Hm → Option (Rs β)} (s : SR g ι m ρ σ H) (hc : bnd (c ρ m) k = some r) (hx : XW g W ι σ H r) {R : VK}
    (hR : ∀ ι1 m1 d v H1, c ρ m = some (.ok d m1) → Ext ι H ι1 H1 → SR g ι1 m1 ρ σ H1 → RV g ι1 H1 d v → k d m1 = some r → R v H1) : liftE g W c σ H R := by
  cases q : c ρ m with
  | none => rw [q] at hc; cases hc
  | some z =>
    rw [q] at hc
    refine ⟨ι, m, ρ, z, s, q, fun d m' e ι' v H' ex hr rv => ?_, fun x m' e => ?_⟩
    · subst e; exact hR ι' m' d v H' q ex (s.ext ex hr) rv hc
    · subst e; cases hc; exact hx x m' rfl
theorem useT {c : Mv Bool} {k : Bool → Hm → Option (Rs β)} (s : SR g ι m ρ σ H) (hc : bnd (c ρ m) k = some r) (hx : XW g W ι σ H r) {R : Bool → Hp → Prop}
    (hR : ∀ ι1 m1 d H1, Ext ι H ι1 H1 → SR g ι1 m1 ρ σ H1 → k d m1 = some r → R d H1) : liftT g W c σ H R := by
  cases q : c ρ m with
  | none => rw [q] at hc; cases hc
  | some z =>
    rw [q] at hc
    refine ⟨ι, m, ρ, z, s, q, fun d m' e ι' H' ex hr => ?_, fun x m' e => ?_⟩
    · subst e; exact hR ι' m' d H' ex (s.ext ex hr) hc
    · subst e; cases hc; exact hx x m' rfl
theorem useA {n : Nat} {c : Mv (List D)} {k : List D → Hm → Option (Rs β)} (s : SR g ι m ρ σ H) (hc : bnd (c ρ m) k = some r) (hx : XW g W ι σ H r) {R : List V → Hp → Prop}
    (hR : ∀ ι1 m1 ds vs H1, Ext ι H ι1 H1 → SR g ι1 m1 ρ σ H1 → RVs g ι1 H1 ds vs → ds.length = n → k ds m1 = some r → R vs H1) : liftA g W n c σ H R := by
  cases q : c ρ m with
  | none => rw [q] at hc; cases hc
  | some z =>
    rw [q] at hc
    refine ⟨ι, m, ρ, z, s, q, fun d m' e ι' v H' ex hr rv hn => ?_, fun x m' e => ?_⟩
    · subst e; exact hR ι' m' d v H' ex (s.ext ex hr) rv hn hc
    · subst e; cases hc; exact hx x m' rfl
end

/-! ### new objects -/
section
variable {g : Lk} {ι : List Addr} {m : Hm} {H : Hp} {p : Addr} {u : HO} {o : O}
theorem fresh_notin (h : HR g ι m H) (hp : H p = none) : p ∉ ι := fun hm => by
  obtain ⟨n, hn, e⟩ := List.mem_iff_getElem.mp hm
  have hl : n < m.length := by rw [← h.len]; exact hn
  obtain ⟨b, u, hb, hu, _⟩ := h.obj n m[n] (List.getElem?_eq_getElem hl)
  rw [List.getElem?_eq_getElem hn, e] at hb
  cases hb
  rw [hp] at hu; cases hu
/-- an object that the mirror does not name (a tuple) -/
theorem ext_side (hp : H p = none) : Ext ι H ι (upd H p u) :=
  ⟨⟨[], by simp⟩, fun b o h _ => by rw [upd_ne (ne_of_none h hp)]; exact h, fun _ h => .inl h, fun b o u h => by rw [upd_ne (ne_of_none h hp)]; exact h⟩
theorem ext_new (hp : H p = none) : Ext ι H (ι ++ [p]) (upd H p u) :=
  ⟨⟨[p], rfl⟩, fun b o h _ => by rw [upd_ne (ne_of_none h hp)]; exact h, fun b hb => by
    rcases List.mem_append.mp hb with h | h
    · exact .inl h
    · have : b = p := by simpa using h
      subst this; exact .inr hp, fun b o u h => by rw [upd_ne (ne_of_none h hp)]; exact h⟩
theorem HR.side (h : HR g ι m H) (hp : H p = none) : HR g ι m (upd H p u) :=
  ⟨h.len, h.nd, fun n o q => let ⟨a, w, ha, hw, r⟩ := h.obj n o q; ⟨a, w, ha, by rw [upd_ne (ne_of_none hw hp)]; exact hw, r.ext h (ext_side hp)⟩⟩
theorem HR.alloc (h : HR g ι m H) (hp : H p = none) (r : RO g (ι ++ [p]) (upd H p u) o u) : HR g (ι ++ [p]) (m ++ [o]) (upd H p u) := by
  refine ⟨by simp [h.len], ?_, fun n o' q => ?_⟩
  · refine List.nodup_append.mpr ⟨h.nd, by simp, fun a ha b hb => ?_⟩
    have : b = p := by simpa using hb
    subst this
    intro e; subst e
    exact fresh_notin h hp ha
  · by_cases hn : n < m.length
    · rw [List.getElem?_append_left hn] at q
      obtain ⟨a, w, ha, hw, r'⟩ := h.obj n o' q
      exact ⟨a, w, by rw [List.getElem?_append_left (h.len ▸ hn)]; exact ha, by rw [upd_ne (ne_of_none hw hp)]; exact hw, r'.ext h (ext_new hp)⟩
    · have hl : n = m.length := by
        have := (List.getElem?_eq_some_iff.mp q).1
        simp at this; omega
      subst hl
      simp at q
      subst q
      exact ⟨p, u, by rw [← h.len]; simp, upd_same, r⟩
/-- an object of the mirror is written -/
theorem ext_wr {a : Addr} (ha : a ∈ ι) (nf : ∀ o u, H a ≠ some (.frz o u)) : Ext ι H ι (upd H a u) :=
  ⟨⟨[], by simp⟩, fun b o h hb => by rw [upd_ne (fun e => hb (by rw [e]; exact ha))]; exact h, fun _ h => .inl h, fun b o u h => by rw [upd_ne (fun e => nf o u (by rw [← e]; exact h))]; exact h⟩
theorem HR.write (h : HR g ι m H) {n : Nat} {a : Addr} (ha : ι[n]? = some a) (nf : ∀ o u, H a ≠ some (.frz o u)) (r : RO g ι (upd H a u) o u) : HR g ι (m.set n o) (upd H a u) := by
  have hma : a ∈ ι := List.mem_of_getElem? ha
  refine ⟨by simp [h.len], h.nd, fun k o' q => ?_⟩
  by_cases hk : k = n
  · subst hk
    have hl : k < m.length := by rw [← h.len]; exact (List.getElem?_eq_some_iff.mp ha).1
    rw [List.getElem?_set_self hl] at q
    cases q
    exact ⟨a, u, ha, upd_same, r⟩
  · rw [List.getElem?_set_ne (Ne.symm hk)] at q
    obtain ⟨b, w, hb, hw, r'⟩ := h.obj k o' q
    have hne : b ≠ a := fun e => by
      subst e
      have h1 := List.getElem?_eq_some_iff.mp hb
      have h2 := List.getElem?_eq_some_iff.mp ha
      exact hk ((List.getElem_inj h.nd).mp (h1.2.trans h2.2.symm))
    exact ⟨b, w, hb, by rw [upd_ne hne]; exact hw, r'.ext h (ext_wr hma nf)⟩
end

/-! ### names and constants -/
def eVar (i : Nat) : Mv D := fun ρ m => match ρ[i]? with | some (.is d) => some (.ok d m) | _ => none
def eC (d : D) : Mv D := fun _ m => some (.ok d m)
/-- data without the heap -/
inductive Fl : D → V → Prop
  | non : Fl .non .non
  | bl (b : Bool) : Fl (.bl b) (.bl b)
  | int (i : Int) : Fl (.int i) (.int i)
  | str (x : Str) : Fl (.str x) (.str x)
theorem Fl.rv {g : Lk} {ι : List Addr} {H : Hp} {d : D} {v : V} (f : Fl d v) : RV g ι H d v := by
  cases f with
  | non => exact .non
  | bl b => exact .bl b
  | int i => exact .int i
  | str x => exact .str x
section
variable {g : Lk} {W : WX} {X : Cx}
theorem me_var' {i : Nat} {e : Expr} (h : PE X e (tVar i)) : ME g W X e (eVar i) := peI h fun σ H Q q => by
  obtain ⟨ι, m, ρ, r, s, hc, ho, _⟩ := q
  unfold eVar at hc
  split at hc
  · rename_i d hd
    cases hc
    obtain ⟨v, hv, rv⟩ := s.slot i d hd
    exact ⟨v, hv, ho _ _ rfl ι v H (Ext.refl _ _) s.hr rv⟩
  · cases hc
theorem me_var (i : Nat) {x : Str} {pos : Pos} (hN : X.N[i]? = some x := by rfl) (hv : Vis X.env.scope x := by first | exact Or.inl rfl | exact Or.inr (Or.inl rfl) | exact Or.inr (Or.inr rfl)) (hd : (x == ("__debug__" : Str)) = false := by decide)
    (hcd : (x == ("__classdict__" : Str)) = false := by decide) : ME g W X (.Name x pos) (eVar i) := me_var' (pe_var hN hv hd hcd)
theorem me_c' {d : D} {v : V} {e : Expr} (f : Fl d v) (h : PE X e (tC v)) : ME g W X e (eC d) := peI h fun σ H Q q => by
  obtain ⟨ι, m, ρ, r, s, hc, ho, _⟩ := q
  cases hc
  exact ho _ _ rfl ι v H (Ext.refl _ _) s.hr f.rv
theorem me_int {i j pos} : ME g W X (.Constant (.int i) j pos) (eC (.int i)) := me_c' (.int i) pe_int
theorem me_bl {b j pos} : ME g W X (.Constant (.bool b) j pos) (eC (.bl b)) := me_c' (.bl b) pe_bl
theorem me_non {j pos} : ME g W X (.Constant .none j pos) (eC .non) := me_c' .non pe_non
theorem me_str {x j pos} : ME g W X (.Constant (.str x) j pos) (eC (.str x)) := me_c' (.str x) pe_str
/-- a module's constant -/
theorem me_glob {x : Str} {d : D} {v : V} {u : Value} {pos : Pos} (f : Fl d v) (hg : Gl X x) (hm : X.mg x = some u) (r : RelV v u) (hd : (x == ("__debug__" : Str)) = false := by decide) : ME g W X (.Name x pos) (eC d) :=
  me_c' f (pe_glob hg hm r hd)
end

/-! ### argument lists, displays -/
def aNil : Mv (List D) := fun _ m => some (.ok [] m)
def aCons (a : Mv D) (b : Mv (List D)) : Mv (List D) := fun ρ m => bnd (a ρ m) fun d m1 => bnd (b ρ m1) fun ds m2 => some (.ok (d :: ds) m2)
def eTup (a : Mv (List D)) : Mv D := fun ρ m => bnd (a ρ m) fun ds m1 => some (.ok (.tup ds) m1)
def eLst (a : Mv (List D)) : Mv D := fun ρ m => bnd (a ρ m) fun ds m1 => some (.ok (.ref m1.length) (m1 ++ [.lst ds]))
section
variable {g : Lk} {W : WX} {X : Cx}
theorem ma_nil : MA g W X [] 0 aNil := paI pa_nil fun σ H Q q => by
  obtain ⟨ι, m, ρ, r, s, hc, ho, _⟩ := q
  cases hc
  exact ho _ _ rfl ι [] H (Ext.refl _ _) s.hr .nil rfl
theorem ma_cons {e : Expr} {es : List Expr} {n : Nat} {a : Mv D} {b : Mv (List D)} (ha : ME g W X e a) (hb : MA g W X es n b) (hs : starEach (e :: es) X.env = (false, eval e X.env) :: starEach es X.env := by rfl) :
    MA g W X (e :: es) (n + 1) (aCons a b) := paI (pa_cons ha hb hs) fun σ H Q q => by
  obtain ⟨ι, m, ρ, r, s, hc, ho, hx⟩ := q
  refine useE s hc hx fun ι1 m1 d v H1 e1 s1 rv hk => ?_
  refine useA s1 hk (hx.ext e1) fun ι2 m2 ds vs H2 e2 s2 rvs hn hk2 => ?_
  cases hk2
  exact ho _ _ rfl ι2 (v :: vs) H2 (e1.trans e2) s2.hr (.cons (rv.ext s1.hr e2) rvs) (by simp [hn])
theorem me_tup {es : List Expr} {n : Nat} {a : Mv (List D)} {k pos} (ha : MA g W X es n a) (hn : n ≤ sizeLine := by decide) : ME g W X (.Tuple es k pos) (eTup a) := peI (pe_tup ha) fun σ H Q q => by
  obtain ⟨ι, m, ρ, r, s, hc, ho, hx⟩ := q
  refine useA s hc hx fun ι1 m1 ds vs H1 e1 s1 rvs hl hk => ?_
  cases hk
  refine ⟨by rw [← rvs.length, hl]; exact hn, fun p hp => ?_⟩
  exact ho _ _ rfl ι1 (.ref p) _ (e1.trans (ext_side hp)) (s1.hr.side hp) (.tup upd_same (rvs.ext s1.hr (ext_side hp)))
theorem me_lst {es : List Expr} {n : Nat} {a : Mv (List D)} {pos} (ha : MA g W X es n a) (hn : n ≤ sizeLine := by decide) : ME g W X (.List es pos) (eLst a) := peI (pe_lst ha) fun σ H Q q => by
  obtain ⟨ι, m, ρ, r, s, hc, ho, hx⟩ := q
  refine useA s hc hx fun ι1 m1 ds vs H1 e1 s1 rvs hl hk => ?_
  cases hk
  refine ⟨by rw [← rvs.length, hl]; exact hn, fun p hp => ?_⟩
  refine ho _ _ rfl (ι1 ++ [p]) (.ref p) _ (e1.trans (ext_new hp)) (s1.hr.alloc hp (.lst (rvs.ext s1.hr (ext_new hp)))) (.ref (by rw [← s1.hr.len]; simp))
end
end Mi
namespace Mi
open PySem PySem.Spec PyProof.Rows L2

/-! ## reading the mirror's heap -/
def lstOf (m : Hm) (n : Nat) : Option (List D) := match m[n]? with
  | some (.lst xs) => some xs
  | _ => none
section
variable {g : Lk} {ι : List Addr} {m : Hm} {H : Hp} {n : Nat} {a : Addr} {xs : List D}
theorem HR.at (h : HR g ι m H) {o : O} (hm : m[n]? = some o) (hi : ι[n]? = some a) : ∃ u, H a = some u ∧ RO g ι H o u := by
  obtain ⟨b, u, hb, hu, r⟩ := h.obj n o hm
  rw [hi] at hb; cases hb
  exact ⟨u, hu, r⟩
theorem HR.lst (h : HR g ι m H) (hm : m[n]? = some (.lst xs)) (hi : ι[n]? = some a) : ∃ vs, H a = some (.lst vs) ∧ RVs g ι H xs vs := by
  obtain ⟨u, hu, r⟩ := h.at hm hi
  cases r with | lst r => exact ⟨_, hu, r⟩
theorem HR.seqL (h : HR g ι m H) (hm : lstOf m n = some xs) (hi : ι[n]? = some a) : ∃ vs, SqL g.K H a vs ∧ RVs g ι H xs vs := by
  unfold lstOf at hm
  split at hm
  · rename_i ys q
    cases hm
    obtain ⟨vs, hv, r⟩ := h.lst q hi
    exact ⟨vs, SqL.of hv, r⟩
  · cases hm
end

/-! ### data of any depth, for == -/
def snap : Nat → Hm → D → Option PyData
  | _, _, .non => some .none
  | _, _, .bl b => some (.bool b)
  | _, _, .int i => some (.int i)
  | _, _, .str s => some (.str s)
  | _, _, .frl _ => none
  | 0, _, _ => none
  | k + 1, m, .tup ds => (ds.mapM (snap k m)).map .tuple
  | k + 1, m, .ref n => match lstOf m n with
    | some xs => (xs.mapM (snap k m)).map .list
    | none => none

theorem mapM_cons_some {α β : Type} {f : α → Option β} {x : α} {xs : List α} {ys : List β} (h : (x :: xs).mapM f = some ys) : ∃ y zs, ys = y :: zs ∧ f x = some y ∧ xs.mapM f = some zs := by
  rw [List.mapM_cons] at h
  cases q : f x with
  | none => rw [q] at h; cases h
  | some y =>
    rw [q] at h
    cases q2 : xs.mapM f with
    | none => rw [q2] at h; cases h
    | some zs => rw [q2] at h; cases h; exact ⟨y, zs, rfl, rfl, rfl⟩

section
variable {g : Lk} {ι : List Addr} {m : Hm} {H : Hp}
theorem snap_all {f : D → Option PyData} (hf : ∀ d v p, RV g ι H d v → f d = some p → Dp g.K H v p ∧ p.plain = true) : ∀ {ds : List D} {vs : List V} {ps : List PyData}, RVs g ι H ds vs → ds.mapM f = some ps → DpAll g.K H vs ps ∧ PyData.plainAll ps = true
  | [], _, ps, .nil, h => by
    have : ps = [] := by simpa [List.mapM_nil] using h.symm
    subst this; exact ⟨.nil, rfl⟩
  | d :: ds, _, ps, .cons r t, h => by
    obtain ⟨y, zs, rfl, h1, h2⟩ := mapM_cons_some h
    obtain ⟨a, b⟩ := hf _ _ _ r h1
    obtain ⟨c, e⟩ := snap_all hf t h2
    exact ⟨.cons a c, by simp [PyData.plainAll, b, e]⟩
theorem snap_dp (hr : HR g ι m H) : ∀ (k : Nat) (d : D) (v : V) (p : PyData), RV g ι H d v → snap k m d = some p → Dp g.K H v p ∧ p.plain = true
  | _, .non, _, _, .non, h => by simp [snap] at h; subst h; exact ⟨.non, rfl⟩
  | _, .bl b, _, _, .bl _, h => by simp [snap] at h; subst h; exact ⟨.bl b, rfl⟩
  | _, .int b, _, _, .int _, h => by simp [snap] at h; subst h; exact ⟨.int b, rfl⟩
  | _, .str b, _, _, .str _, h => by simp [snap] at h; subst h; exact ⟨.str b, rfl⟩
  | _, .frl _, _, _, _, h => by simp [snap] at h
  | 0, .tup ds, _, _, _, h => by simp [snap] at h
  | 0, .ref n, _, _, _, h => by simp [snap] at h
  | k + 1, .tup ds, _, p, r0, h => by
    obtain ⟨a0, vs0, rfl, s, r⟩ := r0.tupI
    rw [snap] at h
    cases q : ds.mapM (snap k m) with
    | none => rw [q] at h; cases h
    | some ps =>
      rw [q] at h; cases h
      obtain ⟨a, b⟩ := snap_all (fun d v p => snap_dp hr k d v p) r q
      exact ⟨.tup s a, by simp [PyData.plain, b]⟩
  | k + 1, .ref n, _, p, .ref hi, h => by
    rw [snap] at h
    split at h
    · rename_i xs hx
      obtain ⟨vs, hs, r⟩ := hr.seqL hx hi
      cases q : xs.mapM (snap k m) with
      | none => rw [q] at h; cases h
      | some ps =>
        rw [q] at h; cases h
        obtain ⟨a, b⟩ := snap_all (fun d v p => snap_dp hr k d v p) r q
        exact ⟨.lst hs a, by simp [PyData.plain, b]⟩
    · cases h
theorem depthAll_le {k : Nat} : ∀ {ps : List PyData}, (∀ p ∈ ps, p.depth ≤ k) → PyData.depthAll ps ≤ k
  | [], _ => by simp [PyData.depthAll]
  | p :: ps, h => by
    simp only [PyData.depthAll]
    exact Nat.max_le.mpr ⟨h p (by simp), depthAll_le fun q hq => h q (by simp [hq])⟩
theorem mapM_mem {α β : Type} {f : α → Option β} : ∀ {xs : List α} {ys : List β}, xs.mapM f = some ys → ∀ y ∈ ys, ∃ x ∈ xs, f x = some y
  | [], ys, h, y, hy => by
    have : ys = [] := by simpa [List.mapM_nil] using h.symm
    subst this; cases hy
  | x :: xs, ys, h, y, hy => by
    obtain ⟨z, zs, rfl, h1, h2⟩ := mapM_cons_some h
    rcases List.mem_cons.mp hy with e | hy
    · subst e; exact ⟨x, by simp, h1⟩
    · obtain ⟨w, hw, e⟩ := mapM_mem h2 y hy
      exact ⟨w, by simp [hw], e⟩
theorem snap_depth : ∀ (k : Nat) (d : D) (p : PyData), snap k m d = some p → p.depth ≤ k
  | _, .non, _, h => by simp [snap] at h; subst h; simp [PyData.depth]
  | _, .bl b, _, h => by simp [snap] at h; subst h; simp [PyData.depth]
  | _, .int b, _, h => by simp [snap] at h; subst h; simp [PyData.depth]
  | _, .str b, _, h => by simp [snap] at h; subst h; simp [PyData.depth]
  | _, .frl _, _, h => by simp [snap] at h
  | 0, .tup ds, _, h => by simp [snap] at h
  | 0, .ref n, _, h => by simp [snap] at h
  | k + 1, .tup ds, p, h => by
    rw [snap] at h
    cases q : ds.mapM (snap k m) with
    | none => rw [q] at h; cases h
    | some ps =>
      rw [q] at h; cases h
      simp only [PyData.depth]
      have := depthAll_le (k := k) (ps := ps) fun p hp => let ⟨d, _, e⟩ := mapM_mem q p hp; snap_depth k d p e
      omega
  | k + 1, .ref n, p, h => by
    rw [snap] at h
    split at h
    · rename_i xs hx
      cases q : xs.mapM (snap k m) with
      | none => rw [q] at h; cases h
      | some ps =>
        rw [q] at h; cases h
        simp only [PyData.depth]
        have := depthAll_le (k := k) (ps := ps) fun p hp => let ⟨d, _, e⟩ := mapM_mem q p hp; snap_depth k d p e
        omega
    · cases h
end

/-! ## two-place operations -/
abbrev Mop := D → D → Hm → Option (D × Hm)
def rM (g : Lk) (f : Mop) : R2 := fun x y H Q => ∃ ι m dx dy d m', HR g ι m H ∧ RV g ι H dx x ∧ RV g ι H dy y ∧ f dx dy m = some (d, m') ∧
  ∀ ι' v H', Ext ι H ι' H' → HR g ι' m' H' → RV g ι' H' d v → Q v H'
def eBin (f : Mop) (a b : Mv D) : Mv D := fun ρ m => bnd (a ρ m) fun x m1 => bnd (b ρ m1) fun y m2 => (f x y m2).map fun p => .ok p.1 p.2
section
variable {g : Lk} {W : WX} {X : Cx} {a b : Expr} {ca cb : Mv D} {f : Mop} {pos : Pos}
theorem tOpM {σ : L2.St} {H : Hp} {Q : VK} (q : liftE g W (eBin f ca cb) σ H Q) : tOp (rM g f) (liftE g W ca) (liftE g W cb) σ H Q := by
  obtain ⟨ι, m, ρ, r, s, hc, ho, hx⟩ := q
  refine useE s hc hx fun ι1 m1 d1 v1 H1 e1 s1 r1 h1 => ?_
  refine useE s1 h1 (hx.ext e1) fun ι2 m2 d2 v2 H2 e2 s2 r2 h2 => ?_
  cases q : f d1 d2 m2 with
  | none => rw [q] at h2; cases h2
  | some p =>
    rw [q] at h2; cases h2
    exact ⟨ι2, m2, d1, d2, p.1, p.2, s2.hr, r1.ext s1.hr e2, r2, q, fun ι' v H' e hr rv => ho _ _ rfl ι' v H' ((e1.trans e2).trans e) hr rv⟩
theorem me_bin {op : Operator} (ho : OpR X (binaryOp op) (rM g f)) (ha : ME g W X a ca) (hb : ME g W X b cb) : ME g W X (.BinOp a op b pos) (eBin f ca cb) :=
  peI (pe_op ho ha hb) fun _ _ _ q => tOpM q
theorem me_cmp {op : CmpOp} (ho : OpR X (compareOp op) (rM g f)) (ha : ME g W X a ca) (hb : ME g W X b cb) (hm : behindInMarks op b = false) : ME g W X (.Compare a [op] [b] pos) (eBin f ca cb) :=
  peI (pe_cmpR ho ha hb hm) fun _ _ _ q => tOpM q
end

def opAdd : Mop := fun x y m => match x, y with
  | .int i, .int j => some (.int (i + j), m)
  | .str a, .str b => if a.length + b.length ≤ sizeLine then some (.str (a ++ b), m) else none
  | .tup a, .tup b => if a.length + b.length ≤ sizeLine then some (.tup (a ++ b), m) else none
  | .ref a, .ref b => match m[a]?, m[b]? with
    | some (.lst xs), some (.lst ys) => if xs.length + ys.length ≤ sizeLine then some (.ref m.length, m ++ [.lst (xs ++ ys)]) else none
    | _, _ => none
  | _, _ => none
def opII (f : Int → Int → Option Int) : Mop := fun x y m => match x, y with
  | .int i, .int j => (f i j).map fun k => (.int k, m)
  | _, _ => none
def opSub : Mop := opII fun i j => some (i - j)
def opMul : Mop := fun x y m => match x, y with
  | .int i, .int j => if Builtin.Int.intBits i + Builtin.Int.intBits j ≤ 134217728 then some (.int (i * j), m) else none
  | .ref a, .int k => match m[a]? with
    | some (.lst xs) => if -(2 ^ 63) ≤ k ∧ k < 2 ^ 63 ∧ xs.length * k.toNat ≤ sizeLine then some (.ref m.length, m ++ [.lst (List.replicate k.toNat xs).flatten]) else none
    | _ => none
  | _, _ => none
def opFdiv : Mop := opII fun i j => if 0 < j ∧ j.natAbs.log2 < 9000 then some (i / j) else none
def opMod : Mop := opII fun i j => if j ≠ 0 then some (i.fmod j) else none
def opPow : Mop := opII fun i j => if 0 ≤ j ∧ j ≤ 1000000 ∧ i.natAbs < 2 ^ 64 then some (i ^ j.toNat) else none
def opShl : Mop := opII fun i j => if 0 ≤ j ∧ (Builtin.Int.intBits i : Int) + j ≤ 2 ^ 27 then some (i * 2 ^ j.toNat) else none
def opShr : Mop := opII fun i j => if 0 ≤ j then some (i / 2 ^ j.toNat) else none
def opAnd : Mop := opII fun i j => some (Builtin.bitAnd i j)
def opOr : Mop := opII fun i j => some (Builtin.bitOr i j)
def opXor : Mop := opII fun i j => some (Builtin.bitXor i j)
def opB (f : Int → Int → Bool) : Mop := fun x y m => match x, y with
  | .int i, .int j => some (.bl (f i j), m)
  | _, _ => none
def opLt : Mop := opB fun i j => decide (i < j)
def opLe : Mop := opB fun i j => decide (i ≤ j)
def opGt : Mop := opB fun i j => decide (j < i)
def opGe : Mop := opB fun i j => decide (j ≤ i)
def opEq : Mop := fun x y m => match snap 60 m x, snap 60 m y with
  | some a, some b => some (.bl (PyData.eqv a b), m)
  | _, _ => none
def opNe : Mop := fun x y m => match snap 60 m x, snap 60 m y with
  | some a, some b => some (.bl (!PyData.eqv a b), m)
  | _, _ => none
def isNon : D → Bool
  | .non => true
  | _ => false
def opIs : Mop := fun x y m => match y with
  | .non => some (.bl (isNon x), m)
  | _ => none
def opIsNot : Mop := fun x y m => match y with
  | .non => some (.bl (!isNon x), m)
  | _ => none

section
variable {g : Lk} {X : Cx}
theorem op_II {F : Value → Value → Sem Value} {f : Int → Int → Option Int} {C : Int → Int → Prop} {k : Int → Int → Int} (h : OpR X F (rI C fun i j => .int (k i j))) (hf : ∀ i j z, f i j = some z → C i j ∧ z = k i j) : OpR X F (rM g (opII f)) := by
  intro pins s σ H x y v u Q I rx ry q
  obtain ⟨ι, m, dx, dy, d, m', hr, r1, r2, hq, post⟩ := q
  unfold opII at hq
  split at hq
  · rename_i i j
    cases r1; cases r2
    cases e : f i j with
    | none => rw [e] at hq; cases hq
    | some z =>
      rw [e] at hq; cases hq
      obtain ⟨c, rfl⟩ := hf i j z e
      exact h pins s σ H _ _ v u Q I rx ry ⟨i, j, rfl, rfl, c, post ι _ H (Ext.refl _ _) hr (.int _)⟩
  · cases hq
theorem op_II0 {F : Value → Value → Sem Value} {k : Int → Int → Int} (h : OpR X F (rI0 fun i j => .int (k i j))) : OpR X F (rM g (opII fun i j => some (k i j))) := by
  intro pins s σ H x y v u Q I rx ry q
  obtain ⟨ι, m, dx, dy, d, m', hr, r1, r2, hq, post⟩ := q
  unfold opII at hq
  split at hq
  · rename_i i j
    cases r1; cases r2
    cases hq
    exact h pins s σ H _ _ v u Q I rx ry ⟨i, j, rfl, rfl, post ι _ H (Ext.refl _ _) hr (.int _)⟩
  · cases hq
theorem op_B0 {F : Value → Value → Sem Value} {k : Int → Int → Bool} (h : OpR X F (rI0 fun i j => .bl (k i j))) : OpR X F (rM g (opB k)) := by
  intro pins s σ H x y v u Q I rx ry q
  obtain ⟨ι, m, dx, dy, d, m', hr, r1, r2, hq, post⟩ := q
  unfold opB at hq
  split at hq
  · rename_i i j
    cases r1; cases r2
    cases hq
    exact h pins s σ H _ _ v u Q I rx ry ⟨i, j, rfl, rfl, post ι _ H (Ext.refl _ _) hr (.bl _)⟩
  · cases hq
theorem mo_sub : OpR X (binaryOp .Sub) (rM g opSub) := op_II0 op_sub
theorem mo_fdiv : OpR X (binaryOp .FloorDiv) (rM g opFdiv) := op_II op_fdivW fun i j z h => by
  split at h
  · rename_i c; cases h; exact ⟨c, rfl⟩
  · cases h
theorem mo_mod : OpR X (binaryOp .Mod) (rM g opMod) := op_II op_modN fun i j z h => by
  split at h
  · rename_i c; cases h; exact ⟨c, rfl⟩
  · cases h
theorem mo_pow : OpR X (binaryOp .Pow) (rM g opPow) := op_II op_pow fun i j z h => by
  split at h
  · rename_i c; cases h; exact ⟨c, rfl⟩
  · cases h
theorem mo_shl : OpR X (binaryOp .LShift) (rM g opShl) := op_II op_shlW fun i j z h => by
  split at h
  · rename_i c; cases h; exact ⟨c, rfl⟩
  · cases h
theorem mo_shr : OpR X (binaryOp .RShift) (rM g opShr) := op_II op_shr fun i j z h => by
  split at h
  · rename_i c; cases h; exact ⟨c, rfl⟩
  · cases h
theorem mo_and : OpR X (binaryOp .BitAnd) (rM g opAnd) := op_II0 op_and
theorem mo_or : OpR X (binaryOp .BitOr) (rM g opOr) := op_II0 op_or
theorem mo_xor : OpR X (binaryOp .BitXor) (rM g opXor) := op_II0 op_xor
theorem mo_lt : OpR X (compareOp .Lt) (rM g opLt) := op_B0 op_lt
theorem mo_le : OpR X (compareOp .LtE) (rM g opLe) := op_B0 op_le
theorem mo_gt : OpR X (compareOp .Gt) (rM g opGt) := op_B0 op_gt
theorem mo_ge : OpR X (compareOp .GtE) (rM g opGe) := op_B0 op_ge
theorem isNon_eq {ι : List Addr} {H : Hp} {d : D} {x : V} (r : RV g ι H d x) : decide (x = .non) = isNon d := by
  cases r <;> simp [isNon]
theorem mo_is : OpR X (compareOp .Is) (rM g opIs) := by
  intro pins s σ H x y v u Q I rx ry q
  obtain ⟨ι, m, dx, dy, d, m', hr, r1, r2, hq, post⟩ := q
  unfold opIs at hq
  split at hq
  · cases r2; cases hq
    refine op_isN pins s σ H _ _ v u Q I rx ry ⟨rfl, ?_⟩
    rw [isNon_eq r1]
    exact post ι _ H (Ext.refl _ _) hr (.bl _)
  · cases hq
theorem mo_isNot : OpR X (compareOp .IsNot) (rM g opIsNot) := by
  intro pins s σ H x y v u Q I rx ry q
  obtain ⟨ι, m, dx, dy, d, m', hr, r1, r2, hq, post⟩ := q
  unfold opIsNot at hq
  split at hq
  · cases r2; cases hq
    refine op_notN pins s σ H _ _ v u Q I rx ry ⟨rfl, ?_⟩
    rw [isNon_eq r1]
    exact post ι _ H (Ext.refl _ _) hr (.bl _)
  · cases hq
theorem mo_eq (hK : X.K = g.K) (hu : X.A.units + 64 < cLine) : OpR X (compareOp .Eq) (rM g opEq) := by
  intro pins s σ H x y v u Q I rx ry q
  obtain ⟨ι, m, dx, dy, d, m', hr, r1, r2, hq, post⟩ := q
  unfold opEq at hq
  split at hq
  · rename_i a b ha hb
    cases hq
    obtain ⟨d1, p1⟩ := snap_dp hr 60 dx x a r1 ha
    obtain ⟨d2, p2⟩ := snap_dp hr 60 dy y b r2 hb
    rw [← hK] at d1 d2
    obtain ⟨as, ra⟩ := Dp.reads I a x v d1 rx
    obtain ⟨bs, rb⟩ := Dp.reads I b y u d2 ry
    have hd := snap_depth 60 dx a ha
    have hm : min a.depth b.depth ≤ a.depth := Nat.min_le_left _ _
    exact SeqAt.eq_plain ra rb p1 p2 (by omega) ⟨.bl _, H, I, rfl, post ι _ H (Ext.refl _ _) hr (.bl _)⟩
  · cases hq
theorem mo_ne (hK : X.K = g.K) (hu : X.A.units + 64 < cLine) : OpR X (compareOp .NotEq) (rM g opNe) := by
  intro pins s σ H x y v u Q I rx ry q
  obtain ⟨ι, m, dx, dy, d, m', hr, r1, r2, hq, post⟩ := q
  unfold opNe at hq
  split at hq
  · rename_i a b ha hb
    cases hq
    obtain ⟨d1, p1⟩ := snap_dp hr 60 dx x a r1 ha
    obtain ⟨d2, p2⟩ := snap_dp hr 60 dy y b r2 hb
    rw [← hK] at d1 d2
    obtain ⟨as, ra⟩ := Dp.reads I a x v d1 rx
    obtain ⟨bs, rb⟩ := Dp.reads I b y u d2 ry
    have hd := snap_depth 60 dx a ha
    have hm : min a.depth b.depth ≤ a.depth := Nat.min_le_left _ _
    exact SeqAt.ne_plain ra rb p1 p2 (by omega) ⟨.bl _, H, I, rfl, post ι _ H (Ext.refl _ _) hr (.bl _)⟩
  · cases hq
theorem sqT_self {K : PySem.W.Frag} {H : Hp} {p : Addr} {xs : List V} : SqT K (upd H p (.tup xs)) p xs := SqT.of upd_same
theorem mo_add (hK : X.K = g.K) : OpR X (binaryOp .Add) (rM g opAdd) := by
  intro pins s σ H x y v u Q I rx ry q
  obtain ⟨ι, m, dx, dy, d, m', hr, r1, r2, hq, post⟩ := q
  unfold opAdd at hq
  split at hq
  · cases r1; cases r2; cases hq
    exact op_add pins s σ H _ _ v u Q I rx ry ⟨_, _, rfl, rfl, post ι _ H (Ext.refl _ _) hr (.int _)⟩
  · split at hq
    · cases r1; cases r2; cases hq
      exact op_add_str pins s σ H _ _ v u Q I rx ry ⟨_, _, rfl, rfl, by assumption, post ι _ H (Ext.refl _ _) hr (.str _)⟩
    · cases hq
  · split at hq
    · rename_i da db hl
      cases hq
      obtain ⟨a1, vs1, rfl, s1, t1⟩ := r1.tupI
      obtain ⟨a2, vs2, rfl, s2, t2⟩ := r2.tupI
      have l1 := t1.length
      have l2 := t2.length
      refine op_catA pins s σ H _ _ v u Q I rx ry ⟨a1, a2, vs1, vs2, rfl, rfl, by rw [hK]; exact s1, by rw [hK]; exact s2, by omega, fun e => ?_, fun e1 e2 => ?_, fun e1 e2 p hp => ?_⟩
      · subst e
        have : da = [] := by cases da with | nil => rfl | cons _ _ => simp at l1
        subst this
        exact post ι _ H (Ext.refl _ _) hr r2
      · subst e2
        have : db = [] := by cases db with | nil => rfl | cons _ _ => simp at l2
        subst this
        rw [List.append_nil] at post
        exact post ι _ H (Ext.refl _ _) hr r1
      · exact post ι _ _ (ext_side hp) (hr.side hp) (.tup upd_same ((t1.append t2).ext hr (ext_side hp)))
    · cases hq
  · split at hq
    · rename_i a b _ _ xs ys hx hy
      split at hq
      · rename_i hl
        cases hq
        cases r1 with | ref i1 => cases r2 with | ref i2 =>
        rename_i a1 a2
        obtain ⟨vs, hv, t1⟩ := hr.lst hx i1
        obtain ⟨ws, hw, t2⟩ := hr.lst hy i2
        have l1 := t1.length
        have l2 := t2.length
        refine op_cat pins s σ H _ _ v u Q I rx ry ⟨a1, a2, vs, ws, rfl, rfl, hv, hw, by omega, fun p hp => ?_⟩
        exact post (ι ++ [p]) _ _ (ext_new hp) (hr.alloc hp (.lst ((t1.append t2).ext hr (ext_new hp)))) (.ref (by rw [← hr.len]; simp))
      · cases hq
    · cases hq
  · cases hq
theorem mo_mul : OpR X (binaryOp .Mult) (rM g opMul) := by
  intro pins s σ H x y v u Q I rx ry q
  obtain ⟨ι, m, dx, dy, d, m', hr, r1, r2, hq, post⟩ := q
  unfold opMul at hq
  split at hq
  · split at hq
    · rename_i hb
      cases r1; cases r2; cases hq
      exact op_mulX pins s σ H _ _ v u Q I rx ry ⟨_, _, rfl, rfl, by unfold CMulX; omega, post ι _ H (Ext.refl _ _) hr (.int _)⟩
    · cases hq
  · split at hq
    · split at hq
      · rename_i a k _ xs hx hl
        cases hq
        cases r2
        cases r1 with | ref i1 =>
        rename_i a1
        obtain ⟨vs, hv, t1⟩ := hr.lst hx i1
        have l1 := t1.length
        refine op_rep pins s σ H _ _ v u Q I rx ry ⟨a1, k, vs, rfl, rfl, hv, hl.1, hl.2.1, by rw [← l1]; exact hl.2.2, fun p hp => ?_⟩
        exact post (ι ++ [p]) _ _ (ext_new hp) (hr.alloc hp (.lst ((t1.rep _).ext hr (ext_new hp)))) (.ref (by rw [← hr.len]; simp))
      · cases hq
    · cases hq
  · cases hq
end
end Mi
namespace Mi
open PySem PySem.Spec PyProof.Rows L2

/-! ## truth -/
def truD (m : Hm) : D → Option Bool
  | .non => some false
  | .bl b => some b
  | .int i => some (i != 0)
  | .str s => if s.length ≤ sizeLine then some ((s.length : Int) != 0) else none
  | .tup ds => some (!ds.isEmpty)
  | .ref n => (lstOf m n).map fun xs => !xs.isEmpty
  | .frl _ => none
theorem isEmpty_len {α β : Type} {xs : List α} {ys : List β} (h : xs.length = ys.length) : xs.isEmpty = ys.isEmpty := by
  cases xs <;> cases ys <;> simp at h <;> rfl
theorem truV_of {g : Lk} {ι : List Addr} {m : Hm} {H : Hp} {d : D} {v : V} {k : Bool} (hr : HR g ι m H) (r : RV g ι H d v) (h : truD m d = some k) : TruV g.K v H k := by
  cases d with
  | frl _ => simp [truD] at h
  | non => cases r; simp [truD] at h; exact h
  | bl b => cases r; simp [truD] at h; exact h.symm
  | int i => cases r; simp [truD] at h; exact h.symm
  | str x =>
    cases r
    simp only [truD] at h
    split at h
    · rename_i hl; cases h; exact ⟨hl, rfl⟩
    · cases h
  | tup ds =>
    obtain ⟨a, vs, rfl, s, t⟩ := r.tupI
    simp only [truD] at h; cases h
    exact .inr (.inl ⟨_, s, by rw [isEmpty_len t.length]⟩)
  | ref n =>
    cases r with | ref i =>
    simp only [truD] at h
    cases q : lstOf m _ with
    | none => rw [q] at h; cases h
    | some xs =>
      rw [q] at h; cases h
      obtain ⟨vs, hs, t⟩ := hr.seqL q i
      exact .inl ⟨vs, hs, by show (!xs.isEmpty) = _; rw [isEmpty_len t.length]⟩

def tTru (c : Mv D) : Mv Bool := fun ρ m => bnd (c ρ m) fun d m1 => (truD m1 d).map fun b => .ok b m1
def tBl (c : Mv D) : Mv Bool := fun ρ m => bnd (c ρ m) fun d m1 => match d with
  | .bl b => some (.ok b m1)
  | _ => none
def tNotM (c : Mv Bool) : Mv Bool := fun ρ m => bnd (c ρ m) fun b m1 => some (.ok (!b) m1)
def tAndM (a b : Mv Bool) : Mv Bool := fun ρ m => bnd (a ρ m) fun x m1 => if x = true then b ρ m1 else some (.ok false m1)
def tOrM (a b : Mv Bool) : Mv Bool := fun ρ m => bnd (a ρ m) fun x m1 => if x = true then some (.ok true m1) else b ρ m1
def eIf (t : Mv Bool) (a b : Mv D) : Mv D := fun ρ m => bnd (t ρ m) fun x m1 => if x = true then a ρ m1 else b ρ m1
def eAnd (a b : Mv D) : Mv D := fun ρ m => bnd (a ρ m) fun x m1 => match truD m1 x with
  | some true => b ρ m1
  | some false => some (.ok x m1)
  | none => none
def eOr (a b : Mv D) : Mv D := fun ρ m => bnd (a ρ m) fun x m1 => match truD m1 x with
  | some true => some (.ok x m1)
  | some false => b ρ m1
  | none => none
def eNot (a : Mv D) : Mv D := fun ρ m => bnd (a ρ m) fun x m1 => (truD m1 x).map fun b => .ok (.bl (!b)) m1
def eChain (f f' : Mop) (a b c : Mv D) : Mv D := fun ρ m => bnd (a ρ m) fun x m1 => bnd (b ρ m1) fun y m2 => match f x y m2 with
  | some (.bl true, m3) => bnd (c ρ m3) fun z m4 => (f' y z m4).map fun p => .ok p.1 p.2
  | some (.bl false, m3) => some (.ok (.bl false) m3)
  | _ => none
abbrev MW (g : Lk) (W : WX) (X : Cx) (e : Expr) (c : Mv Bool) : Prop := PW X e (liftT g W c)
section
variable {g : Lk} {W : WX} {X : Cx} {a b c e : Expr} {ca cb cc : Mv D} {ta tb : Mv Bool} {pos : Pos} {rest : List Expr}
theorem mt_tru (hK : X.K = g.K) (h : ME g W X e ca) (he : ∀ whole, isTrue e X.env whole = (do let v ← whole; standAt e.pos; holding [v] (truthy v)) := by intro _; rfl) : MT g W X e (tTru ca) :=
  ptI (pt_truth h he) fun σ H Q q => by
    obtain ⟨ι, m, ρ, r, s, hc, ho, hx⟩ := q
    refine useE s hc hx fun ι1 m1 d v H1 e1 s1 rv hk => ?_
    cases q : truD m1 d with
    | none => rw [q] at hk; cases hk
    | some k =>
      rw [q] at hk; cases hk
      exact ⟨k, by rw [hK]; exact truV_of s1.hr rv q, ho _ _ rfl ι1 H1 e1 s1.hr⟩
theorem mt_cmp {op : CmpOp} {f : Mop} (ho : OpR X (compareOp op) (rM g f)) (ha : ME g W X a ca) (hb : ME g W X b cb) (hm : behindInMarks op b = false) : MT g W X (.Compare a [op] [b] pos) (tBl (eBin f ca cb)) :=
  ptI (pt_cmpR ho ha hb hm) fun σ H Q q => by
    obtain ⟨ι, m, ρ, r, s, hc, ho, hx⟩ := q
    refine tOpM ?_
    refine useE s hc hx fun ι1 m1 d v H1 e1 s1 rv hk => ?_
    cases rv with
    | bl b => cases hk; exact ⟨b, rfl, ho _ _ rfl ι1 H1 e1 s1.hr⟩
    | _ => cases hk
theorem tChainM {f f' : Mop} {σ : L2.St} {H : Hp} {Q : VK} (q : liftE g W (eChain f f' ca cb cc) σ H Q) : tChain (rM g f) (rM g f') (liftE g W ca) (liftE g W cb) (liftE g W cc) σ H Q := by
  obtain ⟨ι, m, ρ, r, s, hc, ho, hx⟩ := q
  refine useE s hc hx fun ι1 m1 d1 v1 H1 e1 s1 r1 h1 => ?_
  refine useE s1 h1 (hx.ext e1) fun ι2 m2 d2 v2 H2 e2 s2 r2 h2 => ?_
  split at h2
  · rename_i m3 q
    refine ⟨ι2, m2, d1, d2, _, m3, s2.hr, r1.ext s1.hr e2, r2, q, fun ι3 v H3 e3 hr3 rv => ?_⟩
    cases rv with | bl b =>
    refine ⟨true, rfl, ?_⟩
    rw [if_pos rfl]
    refine useE (s2.ext e3 hr3) h2 (hx.ext ((e1.trans e2).trans e3)) fun ι4 m4 d4 v4 H4 e4 s4 r4 h4 => ?_
    cases q4 : f' d2 d4 m4 with
    | none => rw [q4] at h4; cases h4
    | some p =>
      rw [q4] at h4; cases h4
      exact ⟨ι4, m4, d2, d4, p.1, p.2, s4.hr, (r2.ext s2.hr e3).ext hr3 e4, r4, q4, fun ι' v H' e hr rv => ho _ _ rfl ι' v H' ((((e1.trans e2).trans e3).trans e4).trans e) hr rv⟩
  · rename_i m3 q
    cases h2
    refine ⟨ι2, m2, d1, d2, _, m3, s2.hr, r1.ext s1.hr e2, r2, q, fun ι3 v H3 e3 hr3 rv => ?_⟩
    cases rv with | bl b =>
    refine ⟨false, rfl, ?_⟩
    rw [if_neg Bool.false_ne_true]
    exact ho _ _ rfl ι3 _ H3 ((e1.trans e2).trans e3) hr3 (.bl false)
  · cases h2
theorem me_chain {op op' : CmpOp} {f f' : Mop} (ho : OpR X (compareOp op) (rM g f)) (ho' : OpR X (compareOp op') (rM g f')) (ha : ME g W X a ca) (hb : ME g W X b cb) (hc : ME g W X c cc)
    (hm : lastMarks [op, op'] [b, c] = false := by with_unfolding_all rfl) : ME g W X (.Compare a [op, op'] [b, c] pos) (eChain f f' ca cb cc) := peI (pe_chain ho ho' ha hb hc hm) fun _ _ _ q => tChainM q
theorem mt_chain {op op' : CmpOp} {f f' : Mop} (ho : OpR X (compareOp op) (rM g f)) (ho' : OpR X (compareOp op') (rM g f')) (ha : ME g W X a ca) (hb : ME g W X b cb) (hc : ME g W X c cc)
    (hm : lastMarks [op, op'] [b, c] = false := by with_unfolding_all rfl) : MT g W X (.Compare a [op, op'] [b, c] pos) (tBl (eChain f f' ca cb cc)) := ptI (pt_chain ho ho' ha hb hc hm) fun σ H Q q => by
  obtain ⟨ι, m, ρ, r, s, hc, ho, hx⟩ := q
  refine tChainM ?_
  refine useE s hc hx fun ι1 m1 d v H1 e1 s1 rv hk => ?_
  cases rv with
  | bl b => cases hk; exact ⟨b, rfl, ho _ _ rfl ι1 H1 e1 s1.hr⟩
  | _ => cases hk
theorem mt_not (h : MT g W X a ta) : MT g W X (.UnaryOp .Not a pos) (tNotM ta) := ptI (pt_not h) fun σ H Q q => by
  obtain ⟨ι, m, ρ, r, s, hc, ho, hx⟩ := q
  refine useT s hc hx fun ι1 m1 d H1 e1 s1 hk => ?_
  cases hk
  exact ho _ _ rfl ι1 H1 e1 s1.hr
theorem mw_and1 (h : MT g W X a ta) : MW g W X (.BoolOp .And [a] pos) ta := pw_and1 h
theorem mw_or1 (h : MT g W X a ta) : MW g W X (.BoolOp .Or [a] pos) ta := pw_or1 h
theorem mw_and (ha : MT g W X a ta) (hb : MW g W X (.BoolOp .And (b :: rest) pos) tb) : MW g W X (.BoolOp .And (a :: b :: rest) pos) (tAndM ta tb) := pwI (pw_and ha hb) fun σ H Q q => by
  obtain ⟨ι, m, ρ, r, s, hc, ho, hx⟩ := q
  refine useT s hc hx fun ι1 m1 d H1 e1 s1 hk => ?_
  cases d with
  | true =>
    rw [if_pos rfl] at hk ⊢
    exact ⟨ι1, m1, ρ, r, s1, hk, fun d m' e ι' H' ex hr => ho d m' e ι' H' (e1.trans ex) hr, hx.ext e1⟩
  | false =>
    rw [if_neg Bool.false_ne_true] at hk ⊢
    cases hk
    exact ho _ _ rfl ι1 H1 e1 s1.hr
theorem mw_or (ha : MT g W X a ta) (hb : MW g W X (.BoolOp .Or (b :: rest) pos) tb) : MW g W X (.BoolOp .Or (a :: b :: rest) pos) (tOrM ta tb) := pwI (pw_or ha hb) fun σ H Q q => by
  obtain ⟨ι, m, ρ, r, s, hc, ho, hx⟩ := q
  refine useT s hc hx fun ι1 m1 d H1 e1 s1 hk => ?_
  cases d with
  | false =>
    rw [if_neg Bool.false_ne_true] at hk ⊢
    exact ⟨ι1, m1, ρ, r, s1, hk, fun d m' e ι' H' ex hr => ho d m' e ι' H' (e1.trans ex) hr, hx.ext e1⟩
  | true =>
    rw [if_pos rfl] at hk ⊢
    cases hk
    exact ho _ _ rfl ι1 H1 e1 s1.hr
theorem me_if {c : Expr} (hc : MT g W X c ta) (ha : ME g W X a ca) (hb : ME g W X b cb) : ME g W X (.IfExp c a b pos) (eIf ta ca cb) := peI (pe_ifExp hc ha hb) fun σ H Q q => by
  obtain ⟨ι, m, ρ, r, s, hc, ho, hx⟩ := q
  refine useT s hc hx fun ι1 m1 d H1 e1 s1 hk => ?_
  cases d with
  | true =>
    rw [if_pos rfl] at hk ⊢
    exact ⟨ι1, m1, ρ, r, s1, hk, fun d m' e ι' v H' ex hr => ho d m' e ι' v H' (e1.trans ex) hr, hx.ext e1⟩
  | false =>
    rw [if_neg Bool.false_ne_true] at hk ⊢
    exact ⟨ι1, m1, ρ, r, s1, hk, fun d m' e ι' v H' ex hr => ho d m' e ι' v H' (e1.trans ex) hr, hx.ext e1⟩
theorem me_one {op} (h : ME g W X a ca) : ME g W X (.BoolOp op [a] pos) ca := pe_one h
theorem me_and (hK : X.K = g.K) (ha : ME g W X a ca) (hb : ME g W X (.BoolOp .And (b :: rest) pos) cb) : ME g W X (.BoolOp .And (a :: b :: rest) pos) (eAnd ca cb) := peI (pe_andT ha hb) fun σ H Q q => by
  obtain ⟨ι, m, ρ, r, s, hc, ho, hx⟩ := q
  refine useE s hc hx fun ι1 m1 d v H1 e1 s1 rv hk => ?_
  split at hk
  · rename_i q
    refine ⟨true, by rw [hK]; exact truV_of s1.hr rv q, ?_⟩
    rw [if_pos rfl]
    exact ⟨ι1, m1, ρ, r, s1, hk, fun d m' e ι' v H' ex hr => ho d m' e ι' v H' (e1.trans ex) hr, hx.ext e1⟩
  · rename_i q
    refine ⟨false, by rw [hK]; exact truV_of s1.hr rv q, ?_⟩
    rw [if_neg Bool.false_ne_true]
    cases hk
    exact ho _ _ rfl ι1 v H1 e1 s1.hr rv
  · cases hk
theorem me_or (hK : X.K = g.K) (ha : ME g W X a ca) (hb : ME g W X (.BoolOp .Or (b :: rest) pos) cb) : ME g W X (.BoolOp .Or (a :: b :: rest) pos) (eOr ca cb) := peI (pe_orT ha hb) fun σ H Q q => by
  obtain ⟨ι, m, ρ, r, s, hc, ho, hx⟩ := q
  refine useE s hc hx fun ι1 m1 d v H1 e1 s1 rv hk => ?_
  split at hk
  · rename_i q
    refine ⟨true, by rw [hK]; exact truV_of s1.hr rv q, ?_⟩
    rw [if_pos rfl]
    cases hk
    exact ho _ _ rfl ι1 v H1 e1 s1.hr rv
  · rename_i q
    refine ⟨false, by rw [hK]; exact truV_of s1.hr rv q, ?_⟩
    rw [if_neg Bool.false_ne_true]
    exact ⟨ι1, m1, ρ, r, s1, hk, fun d m' e ι' v H' ex hr => ho d m' e ι' v H' (e1.trans ex) hr, hx.ext e1⟩
  · cases hk
theorem me_not (hK : X.K = g.K) (ha : ME g W X a ca) : ME g W X (.UnaryOp .Not a pos) (eNot ca) := peI (pe_notT ha) fun σ H Q q => by
  obtain ⟨ι, m, ρ, r, s, hc, ho, hx⟩ := q
  refine useE s hc hx fun ι1 m1 d v H1 e1 s1 rv hk => ?_
  cases q : truD m1 d with
  | none => rw [q] at hk; cases hk
  | some k =>
    rw [q] at hk; cases hk
    exact ⟨k, by rw [hK]; exact truV_of s1.hr rv q, ho _ _ rfl ι1 _ H1 e1 s1.hr (.bl _)⟩
/-- -a -/
def eNeg (a : Mv D) : Mv D := fun ρ m => bnd (a ρ m) fun x m1 => match x with
  | .int i => some (.ok (.int (-i)) m1)
  | _ => none
theorem me_neg (ha : ME g W X a ca) : ME g W X (.UnaryOp .USub a pos) (eNeg ca) := peI (pe_un un_neg ha) fun σ H Q q => by
  obtain ⟨ι, m, ρ, r, s, hc, ho, hx⟩ := q
  refine useE s hc hx fun ι1 m1 d v H1 e1 s1 rv hk => ?_
  cases rv with
  | int i => cases hk; exact ⟨i, rfl, ho _ _ rfl ι1 _ H1 e1 s1.hr (.int _)⟩
  | _ => cases hk
end

/-! ## subscripts, slices -/
def ixD (m : Hm) : D → D → Option D
  | .ref n, .int i => (lstOf m n).bind fun xs => atI xs i
  | .tup xs, .int i => atI xs i
  | .str z, .int i => if z.length ≤ sizeLine then (atI z.cps.toList i).map fun c => .str ⟨#[c]⟩ else none
  | _, _ => none
def opIx : Mop := fun x y m => (ixD m x y).map fun d => (d, m)
section
variable {g : Lk} {W : WX} {X : Cx} {a b : Expr} {ca cb : Mv D} {pos : Pos}
theorem atI_rv {ι : List Addr} {H : Hp} {ds : List D} {vs : List V} (r : RVs g ι H ds vs) {i : Int} {d : D} (h : atI ds i = some d) : ∃ v, atI vs i = some v ∧ RV g ι H d v := by
  unfold atI at h ⊢
  rw [← r.length]
  cases q : ixN ds.length i with
  | none => rw [q] at h; cases h
  | some j =>
    rw [q] at h
    exact r.get h
theorem me_ix (hK : X.K = g.K) (ha : ME g W X a ca) (hb : ME g W X b cb) (hs : PlainIx b := by intro _ _; rfl) : ME g W X (.Subscript a b pos) (eBin opIx ca cb) := peI (pe_ix ix_seq ha hb hs) fun σ H Q q => by
  obtain ⟨ι, m, ρ, r, s, hc, ho, hx⟩ := q
  refine useE s hc hx fun ι1 m1 d1 v1 H1 e1 s1 r1 h1 => ?_
  refine useE s1 h1 (hx.ext e1) fun ι2 m2 d2 v2 H2 e2 s2 r2 h2 => ?_
  have z1 := r1.ext s1.hr e2
  unfold opIx ixD at h2
  split at h2
  · rename_i n i
    cases r2
    cases z1 with | ref hi =>
    cases q : lstOf m2 n with
    | none => rw [q] at h2; cases h2
    | some xs =>
      rw [q] at h2
      simp only [Option.bind_some] at h2
      obtain ⟨vs, hs, t⟩ := s2.hr.seqL q hi
      cases q3 : atI xs i with
      | none => rw [q3] at h2; cases h2
      | some d =>
        rw [q3] at h2; cases h2
        obtain ⟨v, hv, rv⟩ := atI_rv t q3
        exact .inl ⟨_, vs, i, v, rfl, rfl, by rw [hK]; exact hs, hv, ho _ _ rfl ι2 v H2 (e1.trans e2) s2.hr rv⟩
  · rename_i xs i
    cases r2
    obtain ⟨a1, vs1, rfl, hs, t⟩ := z1.tupI
    cases q3 : atI xs i with
    | none => rw [q3] at h2; cases h2
    | some d =>
      rw [q3] at h2; cases h2
      obtain ⟨v, hv, rv⟩ := atI_rv t q3
      exact .inr (.inl ⟨_, _, i, v, rfl, rfl, by rw [hK]; exact hs, hv, ho _ _ rfl ι2 v H2 (e1.trans e2) s2.hr rv⟩)
  · rename_i z i
    cases r2
    cases z1
    split at h2
    · rename_i hl
      cases q3 : atI z.cps.toList i with
      | none => rw [q3] at h2; cases h2
      | some c =>
        rw [q3] at h2; cases h2
        exact .inr (.inr ⟨z, i, c, rfl, rfl, hl, q3, ho _ _ rfl ι2 _ H2 (e1.trans e2) s2.hr (.str _)⟩)
    · cases h2
  · cases h2
end
def cutD (xs : List D) (lo hi : Option Int) : List D := (xs.drop (HT.sIx xs.length 0 lo)).take (HT.sIx xs.length xs.length hi - HT.sIx xs.length 0 lo)
def slD (x : D) (lo hi : Option Int) (m : Hm) : Option (D × Hm) := match x with
  | .ref n => (lstOf m n).map fun xs => (.ref m.length, m ++ [.lst (cutD xs lo hi)])
  | .tup xs => some (.tup (cutD xs lo hi), m)
  | .str z => if z.length ≤ sizeLine then some (.str (cutS z lo hi), m) else none
  | _ => none
def pNo : Mv (Option Int) := fun _ m => some (.ok none m)
def pInt (c : Mv D) : Mv (Option Int) := fun ρ m => bnd (c ρ m) fun d m1 => match d with
  | .int i => some (.ok (some i) m1)
  | _ => none
def eSl (a : Mv D) (lo hi : Mv (Option Int)) : Mv D := fun ρ m => bnd (a ρ m) fun x m1 => bnd (lo ρ m1) fun l m2 => bnd (hi ρ m2) fun h m3 => (slD x l h m3).map fun p => .ok p.1 p.2
def liftO (g : Lk) (W : WX) (c : Mv (Option Int)) : TO := fun σ H Q => ∃ ι m ρ r, SR g ι m ρ σ H ∧ c ρ m = some r ∧
  (∀ d m', r = .ok d m' → ∀ ι' H', Ext ι H ι' H' → HR g ι' m' H' → Q d H') ∧ XW g W ι σ H r
abbrev MO (g : Lk) (W : WX) (X : Cx) (e : Option Expr) (c : Mv (Option Int)) : Prop := PO X e (liftO g W c)
theorem poI {X : Cx} {e : Option Expr} {t t' : TO} (h : PO X e t) (i : ∀ σ H Q, t' σ H Q → t σ H Q) : PO X e t' := ⟨fun pins s σ H Q I q => h.run pins s σ H Q I (i σ H Q q)⟩
section
variable {g : Lk} {W : WX} {ι : List Addr} {m : Hm} {ρ : Ro} {σ : L2.St} {H : Hp} {β : Type} {r : Rs β}
theorem useO {c : Mv (Option Int)} {k : Option Int → Hm → Option (Rs β)} (s : SR g ι m ρ σ H) (hc : bnd (c ρ m) k = some r) (hx : XW g W ι σ H r) {R : Option Int → Hp → Prop}
    (hR : ∀ ι1 m1 d H1, Ext ι H ι1 H1 → SR g ι1 m1 ρ σ H1 → k d m1 = some r → R d H1) : liftO g W c σ H R := by
  cases q : c ρ m with
  | none => rw [q] at hc; cases hc
  | some z =>
    rw [q] at hc
    refine ⟨ι, m, ρ, z, s, q, fun d m' e ι' H' ex hr => ?_, fun x m' e => ?_⟩
    · subst e; exact hR ι' m' d H' ex (s.ext ex hr) hc
    · subst e; cases hc; exact hx x m' rfl
end
section
variable {g : Lk} {W : WX} {X : Cx} {a e : Expr} {ca : Mv D} {lo hi : Option Expr} {cl ch : Mv (Option Int)} {pos p2 : Pos}
theorem mo_no : MO g W X none pNo := poI po_none fun σ H Q q => by
  obtain ⟨ι, m, ρ, r, s, hc, ho, hx⟩ := q
  cases hc
  exact ho _ _ rfl ι H (Ext.refl _ _) s.hr
theorem mo_int (h : ME g W X e ca) : MO g W X (some e) (pInt ca) := poI (po_some h) fun σ H Q q => by
  obtain ⟨ι, m, ρ, r, s, hc, ho, hx⟩ := q
  refine useE s hc hx fun ι1 m1 d v H1 e1 s1 rv hk => ?_
  cases rv with
  | int i => cases hk; exact ⟨i, rfl, ho _ _ rfl ι1 H1 e1 s1.hr⟩
  | _ => cases hk
theorem cut_rv {ι : List Addr} {H : Hp} {ds : List D} {vs : List V} (r : RVs g ι H ds vs) (lo hi : Option Int) : RVs g ι H (cutD ds lo hi) (cutV vs lo hi) := by
  unfold cutD cutV
  rw [← r.length]
  exact (r.drop _).take _
theorem me_sl (hK : X.K = g.K) (ha : ME g W X a ca) (hl : MO g W X lo cl) (hh : MO g W X hi ch) : ME g W X (.Subscript a (.Slice lo hi none p2) pos) (eSl ca cl ch) :=
  peI (pe_slice (SlR.or sl_list (SlR.or sl_tupA sl_str)) ha hl hh) fun σ H Q q => by
    obtain ⟨ι, m, ρ, r, s, hc, ho, hx⟩ := q
    refine useE s hc hx fun ι1 m1 d1 v1 H1 e1 s1 r1 h1 => ?_
    refine useO s1 h1 (hx.ext e1) fun ι2 m2 l H2 e2 s2 h2 => ?_
    refine useO s2 h2 (hx.ext (e1.trans e2)) fun ι3 m3 u H3 e3 s3 h3 => ?_
    have z1 := (r1.ext s1.hr e2).ext s2.hr e3
    have e := (e1.trans e2).trans e3
    unfold slD at h3
    split at h3
    · rename_i n
      cases z1 with | ref hi =>
      cases q : lstOf m3 n with
      | none => rw [q] at h3; cases h3
      | some xs =>
        rw [q] at h3; cases h3
        obtain ⟨vs, hs, t⟩ := s3.hr.seqL q hi
        refine .inl ⟨_, vs, rfl, by rw [hK]; exact hs, fun p hp => ?_⟩
        exact ho _ _ rfl (ι3 ++ [p]) _ _ (e.trans (ext_new hp)) (s3.hr.alloc hp (.lst ((cut_rv t l u).ext s3.hr (ext_new hp)))) (.ref (by rw [← s3.hr.len]; simp))
    · rename_i xs
      obtain ⟨a1, vs, rfl, hs, t⟩ := z1.tupI
      cases h3
      have len := t.length
      refine .inr (.inl ⟨_, vs, rfl, by rw [hK]; exact hs, fun w => ?_, fun w p hp => ?_⟩)
      · have ec : cutD xs l u = xs := by
          unfold cutD
          rw [len, w.1, w.2]
          simp [← len]
        refine ho _ _ rfl ι3 _ H3 e s3.hr ?_
        rw [ec]; exact z1
      · exact ho _ _ rfl ι3 _ _ (e.trans (ext_side hp)) (s3.hr.side hp) (.tup upd_same ((cut_rv t l u).ext s3.hr (ext_side hp)))
    · rename_i z
      cases z1
      split at h3
      · rename_i hz
        cases h3
        exact .inr (.inr ⟨z, rfl, hz, ho _ _ rfl ι3 _ H3 e s3.hr (.str _)⟩)
      · cases h3
    · cases h3
end

/-! ## calls of built-ins -/
abbrev Cal := List D → Hm → Option (D × Hm)
def rC (g : Lk) (f : Cal) : List V → Hp → VK → Prop := fun vs H Q => ∃ ι m ds d m', HR g ι m H ∧ RVs g ι H ds vs ∧ f ds m = some (d, m') ∧ ∀ ι' v H', Ext ι H ι' H' → HR g ι' m' H' → RV g ι' H' d v → Q v H'
def eB (f : Cal) (a : Mv (List D)) : Mv D := fun ρ m => bnd (a ρ m) fun ds m1 => (f ds m1).map fun p => .ok p.1 p.2
section
variable {g : Lk} {W : WX} {X : Cx} {x : Str} {p pos : Pos} {e : Expr} {es : List Expr} {n : Nat} {ca : Mv (List D)} {id T : String} {f : Cal}
theorem tCBM {σ : L2.St} {H : Hp} {Q : VK} (q : liftE g W (eB f ca) σ H Q) : tCB (rC g f) (liftA g W n ca) σ H Q := by
  obtain ⟨ι, m, ρ, r, s, hc, ho, hx⟩ := q
  refine useA s hc hx fun ι1 m1 ds vs H1 e1 s1 rvs hl hk => ?_
  cases q : f ds m1 with
  | none => rw [q] at hk; cases hk
  | some z =>
    rw [q] at hk; cases hk
    exact ⟨ι1, m1, ds, z.1, z.2, s1.hr, rvs, q, fun ι' v H' ex hr rv => ho _ _ rfl ι' v H' (e1.trans ex) hr rv⟩
theorem me_B (hc : CallR X (.builtin id) (rC g f)) (hg : Gl X x) (hm : X.mg x = none) (hv : bootBuiltins x = some (.builtin id)) (ha : MA g W X (e :: es) n ca) (hn : x ≠ "__name__" := by decide) (hdb : (x == ("__debug__" : Str)) = false := by decide)
    (he : starEach (e :: es) X.env = (false, eval e X.env) :: starEach es X.env := by rfl) (hpl : (backTo pos (starEach es X.env)).any (·.1) = false := by rfl) : ME g W X (.Call (.Name x p) (e :: es) [] pos) (eB f ca) :=
  peI (pe_callB hc hg hm hv ha hn hdb he hpl) fun _ _ _ q => tCBM q
theorem me_Ty (hc : CallR X (.type T) (rC g f)) (hg : Gl X x) (hm : X.mg x = none) (hv : bootBuiltins x = some (.type T)) (ha : MA g W X (e :: es) n ca) (hn : x ≠ "__name__" := by decide) (hdb : (x == ("__debug__" : Str)) = false := by decide)
    (he : starEach (e :: es) X.env = (false, eval e X.env) :: starEach es X.env := by rfl) (hpl : (backTo pos (starEach es X.env)).any (·.1) = false := by rfl) : ME g W X (.Call (.Name x p) (e :: es) [] pos) (eB f ca) :=
  peI (pe_callTy hc hg hm hv ha hn hdb he hpl) fun _ _ _ q => tCBM q
end
def lenD (m : Hm) : D → Option Nat
  | .str z => if z.length ≤ sizeLine then some z.length else none
  | .tup ds => some ds.length
  | .ref n => (lstOf m n).map (·.length)
  | _ => none
def bLen : Cal := fun ds m => match ds with
  | [x] => (lenD m x).map fun n => (.int n, m)
  | _ => none
def bInt : Cal := fun ds m => match ds with
  | [.int i] => some (.int i, m)
  | [.bl k] => some (.int (if k then 1 else 0), m)
  | _ => none
def seqOf (m : Hm) : D → Option (List D)
  | .tup ds => some ds
  | .ref n => lstOf m n
  | _ => none
def bList : Cal := fun ds m => match ds with
  | [x] => (seqOf m x).map fun xs => (.ref m.length, m ++ [.lst xs])
  | _ => none
def bTuple : Cal := fun ds m => match ds with
  | [x] => (seqOf m x).map fun xs => (.tup xs, m)
  | _ => none
def bMin2 : Cal := fun ds m => match ds with
  | [.int i, .int j] => some (.int (if j < i then j else i), m)
  | _ => none
def bMax2 : Cal := fun ds m => match ds with
  | [.int i, .int j] => some (.int (if j > i then j else i), m)
  | _ => none
def bAbs : Cal := fun ds m => match ds with
  | [.int i] => some (.int (if i < 0 then -i else i), m)
  | _ => none
def intsOf : List D → Option (List Int)
  | [] => some []
  | .int i :: r => (intsOf r).map (i :: ·)
  | _ => none
def blsOf : List D → Option (List Bool)
  | [] => some []
  | .bl i :: r => (blsOf r).map (i :: ·)
  | _ => none
theorem intsOf_rv {g : Lk} {ι : List Addr} {H : Hp} : ∀ {ds : List D} {vs : List V} {ns : List Int}, RVs g ι H ds vs → intsOf ds = some ns → vs = ns.map V.int ∧ ds = ns.map D.int
  | [], _, ns, .nil, h => by simp [intsOf] at h; subst h; exact ⟨rfl, rfl⟩
  | d :: ds, _, ns, .cons r t, h => by
    cases r with
    | int i =>
      simp only [intsOf] at h
      cases q : intsOf ds with
      | none => rw [q] at h; cases h
      | some ms =>
        rw [q] at h; cases h
        obtain ⟨a, b⟩ := intsOf_rv t q
        exact ⟨by rw [a]; rfl, by rw [b]; rfl⟩
    | _ => simp [intsOf] at h
theorem blsOf_rv {g : Lk} {ι : List Addr} {H : Hp} : ∀ {ds : List D} {vs : List V} {ns : List Bool}, RVs g ι H ds vs → blsOf ds = some ns → vs = ns.map V.bl ∧ ds = ns.map D.bl
  | [], _, ns, .nil, h => by simp [blsOf] at h; subst h; exact ⟨rfl, rfl⟩
  | d :: ds, _, ns, .cons r t, h => by
    cases r with
    | bl i =>
      simp only [blsOf] at h
      cases q : blsOf ds with
      | none => rw [q] at h; cases h
      | some ms =>
        rw [q] at h; cases h
        obtain ⟨a, b⟩ := blsOf_rv t q
        exact ⟨by rw [a]; rfl, by rw [b]; rfl⟩
    | _ => simp [blsOf] at h
def bSum : Cal := fun ds m => match ds with
  | [x] => ((seqL? m x).bind intsOf).map fun ns => (.int ns.sum, m)
  | _ => none
where seqL? (m : Hm) : D → Option (List D)
  | .ref n => lstOf m n
  | _ => none
def bAll : Cal := fun ds m => match ds with
  | [.ref n] => ((lstOf m n).bind blsOf).map fun ns => (.bl (ns.all id), m)
  | _ => none
def bAny : Cal := fun ds m => match ds with
  | [.ref n] => ((lstOf m n).bind blsOf).map fun ns => (.bl (ns.any id), m)
  | _ => none
section
variable {g : Lk} {X : Cx}
theorem mc_len (hK : X.K = g.K) : CallR X (.builtin "len") (rC g bLen) := by
  intro pins s σ H xs us Q I rv q
  obtain ⟨ι, m, ds, d, m', hr, rs, hf, post⟩ := q
  unfold bLen at hf
  split at hf
  · rename_i x
    cases rs with | cons r t =>
    cases t
    rename_i v
    cases q : lenD m x with
    | none => rw [q] at hf; cases hf
    | some n =>
      rw [q] at hf; cases hf
      refine call_len pins s σ H _ us Q I rv ⟨v, n, rfl, ?_, post ι _ H (Ext.refl _ _) hr (.int _)⟩
      cases x with
      | str z =>
        cases r
        simp only [lenD] at q
        split at q
        · rename_i hz; cases q; exact ⟨hz, rfl⟩
        · cases q
      | tup ds =>
        obtain ⟨a, vs, rfl, hs, t⟩ := r.tupI
        simp only [lenD] at q; cases q; exact .inr ⟨_, by rw [hK]; exact hs, t.length⟩
      | ref k =>
        cases r with | ref hi =>
        simp only [lenD] at q
        cases q2 : lstOf m _ with
        | none => rw [q2] at q; cases q
        | some xs =>
          rw [q2] at q; cases q
          obtain ⟨vs, hs, t⟩ := hr.seqL q2 hi
          exact .inl ⟨vs, by rw [hK]; exact hs, t.length⟩
      | _ => simp [lenD] at q
  · cases hf
theorem mc_int : CallR X (.type "int") (rC g bInt) := by
  intro pins s σ H xs us Q I rv q
  obtain ⟨ι, m, ds, d, m', hr, rs, hf, post⟩ := q
  unfold bInt at hf
  split at hf
  · cases rs with | cons r t => cases t; cases r; cases hf; exact call_int1 pins s σ H _ us Q I rv (.inl ⟨_, rfl, post ι _ H (Ext.refl _ _) hr (.int _)⟩)
  · cases rs with | cons r t => cases t; cases r; cases hf; exact call_int1 pins s σ H _ us Q I rv (.inr ⟨_, rfl, post ι _ H (Ext.refl _ _) hr (.int _)⟩)
  · cases hf
theorem mc_abs : CallR X (.builtin "abs") (rC g bAbs) := by
  intro pins s σ H xs us Q I rv q
  obtain ⟨ι, m, ds, d, m', hr, rs, hf, post⟩ := q
  unfold bAbs at hf
  split at hf
  · cases rs with | cons r t => cases t; cases r; cases hf; exact call_abs pins s σ H _ us Q I rv ⟨_, rfl, post ι _ H (Ext.refl _ _) hr (.int _)⟩
  · cases hf
theorem mc_min2 (hc : X.calm = true) : CallR X (.builtin "min") (rC g bMin2) := by
  intro pins s σ H xs us Q I rv q
  obtain ⟨ι, m, ds, d, m', hr, rs, hf, post⟩ := q
  unfold bMin2 at hf
  split at hf
  · cases rs with | cons r t => cases t with | cons r2 t2 => cases t2; cases r; cases r2; cases hf; exact call_min2 hc pins s σ H _ us Q I rv ⟨_, _, rfl, post ι _ H (Ext.refl _ _) hr (.int _)⟩
  · cases hf
theorem mc_max2 (hc : X.calm = true) : CallR X (.builtin "max") (rC g bMax2) := by
  intro pins s σ H xs us Q I rv q
  obtain ⟨ι, m, ds, d, m', hr, rs, hf, post⟩ := q
  unfold bMax2 at hf
  split at hf
  · cases rs with | cons r t => cases t with | cons r2 t2 => cases t2; cases r; cases r2; cases hf; exact call_max2 hc pins s σ H _ us Q I rv ⟨_, _, rfl, post ι _ H (Ext.refl _ _) hr (.int _)⟩
  · cases hf
theorem mc_list (hK : X.K = g.K) : CallR X (.type "list") (rC g bList) := by
  intro pins s σ H xs us Q I rv q
  obtain ⟨ι, m, ds, d, m', hr, rs, hf, post⟩ := q
  unfold bList at hf
  split at hf
  · rename_i x
    cases rs with | cons r t =>
    cases t
    rename_i v
    cases x with
    | tup ds =>
      obtain ⟨a, vs, rfl, hs, t⟩ := r.tupI
      simp only [seqOf] at hf; cases hf
      refine call_list_of pins s σ H _ us Q I rv ⟨_, _, rfl, .inr (by rw [hK]; exact hs), fun p hp => ?_⟩
      exact post (ι ++ [p]) _ _ (ext_new hp) (hr.alloc hp (.lst (t.ext hr (ext_new hp)))) (.ref (by rw [← hr.len]; simp))
    | ref k =>
      cases r with | ref hi =>
      simp only [seqOf] at hf
      cases q2 : lstOf m _ with
      | none => rw [q2] at hf; cases hf
      | some xs =>
        rw [q2] at hf; cases hf
        obtain ⟨vs, hs, t⟩ := hr.seqL q2 hi
        refine call_list_of pins s σ H _ us Q I rv ⟨_, vs, rfl, .inl (by rw [hK]; exact hs), fun p hp => ?_⟩
        exact post (ι ++ [p]) _ _ (ext_new hp) (hr.alloc hp (.lst (t.ext hr (ext_new hp)))) (.ref (by rw [← hr.len]; simp))
    | _ => simp [seqOf] at hf
  · cases hf
theorem mc_tuple (hK : X.K = g.K) : CallR X (.type "tuple") (rC g bTuple) := by
  intro pins s σ H xs us Q I rv q
  obtain ⟨ι, m, ds, d, m', hr, rs, hf, post⟩ := q
  unfold bTuple at hf
  split at hf
  · rename_i x
    cases rs with | cons r t =>
    cases t
    obtain ⟨u, rfl, ru⟩ := vals1 rv
    refine rl_tuple pins s σ H _ u Q I ru ?_
    cases x with
    | tup ds =>
      obtain ⟨a, vs, rfl, hs, t⟩ := r.tupI
      simp only [seqOf] at hf; cases hf
      exact .inr ⟨_, _, rfl, by rw [hK]; exact hs, post ι _ H (Ext.refl _ _) hr r⟩
    | ref k =>
      cases r with | ref hi =>
      simp only [seqOf] at hf
      cases q2 : lstOf m _ with
      | none => rw [q2] at hf; cases hf
      | some xs =>
        rw [q2] at hf; cases hf
        obtain ⟨vs, hs, t⟩ := hr.seqL q2 hi
        refine .inl ⟨_, vs, rfl, by rw [hK]; exact hs, fun p hp => ?_⟩
        exact post ι _ _ (ext_side hp) (hr.side hp) (.tup upd_same (t.ext hr (ext_side hp)))
    | _ => simp [seqOf] at hf
  · cases hf
theorem mc_sum (hK : X.K = g.K) (hc : X.calm = true) : CallR X (.builtin "sum") (rC g bSum) := by
  intro pins s σ H xs us Q I rv q
  obtain ⟨ι, m, ds, d, m', hr, rs, hf, post⟩ := q
  unfold bSum at hf
  split at hf
  · rename_i x
    cases rs with | cons r t =>
    cases t
    cases r with
    | ref hi =>
      simp only [bSum.seqL?] at hf
      cases q2 : lstOf m _ with
      | none => rw [q2] at hf; cases hf
      | some xs =>
        rw [q2] at hf
        simp only [Option.bind_some] at hf
        cases q3 : intsOf xs with
        | none => rw [q3] at hf; cases hf
        | some ns =>
          rw [q3] at hf; cases hf
          obtain ⟨vs, hs, t⟩ := hr.seqL q2 hi
          obtain ⟨rfl, _⟩ := intsOf_rv t q3
          exact cr_sum hc pins s σ H _ us Q I rv ⟨_, ns, rfl, by rw [hK]; exact hs, post ι _ H (Ext.refl _ _) hr (.int _)⟩
    | _ => simp [bSum.seqL?] at hf
  · cases hf
theorem mc_all (hK : X.K = g.K) (hc : X.calm = true) : CallR X (.builtin "all") (rC g bAll) := by
  intro pins s σ H xs us Q I rv q
  obtain ⟨ι, m, ds, d, m', hr, rs, hf, post⟩ := q
  unfold bAll at hf
  split at hf
  · rename_i n
    cases rs with | cons r t => cases t; cases r with | ref hi =>
    cases q2 : lstOf m n with
    | none => rw [q2] at hf; cases hf
    | some xs =>
      rw [q2] at hf
      simp only [Option.bind_some] at hf
      cases q3 : blsOf xs with
      | none => rw [q3] at hf; cases hf
      | some ns =>
        rw [q3] at hf; cases hf
        obtain ⟨vs, hs, t⟩ := hr.seqL q2 hi
        obtain ⟨rfl, _⟩ := blsOf_rv t q3
        exact cr_all hc pins s σ H _ us Q I rv ⟨_, ns, rfl, by rw [hK]; exact hs, post ι _ H (Ext.refl _ _) hr (.bl _)⟩
  · cases hf
theorem mc_any (hK : X.K = g.K) (hc : X.calm = true) : CallR X (.builtin "any") (rC g bAny) := by
  intro pins s σ H xs us Q I rv q
  obtain ⟨ι, m, ds, d, m', hr, rs, hf, post⟩ := q
  unfold bAny at hf
  split at hf
  · rename_i n
    cases rs with | cons r t => cases t; cases r with | ref hi =>
    cases q2 : lstOf m n with
    | none => rw [q2] at hf; cases hf
    | some xs =>
      rw [q2] at hf
      simp only [Option.bind_some] at hf
      cases q3 : blsOf xs with
      | none => rw [q3] at hf; cases hf
      | some ns =>
        rw [q3] at hf; cases hf
        obtain ⟨vs, hs, t⟩ := hr.seqL q2 hi
        obtain ⟨rfl, _⟩ := blsOf_rv t q3
        exact cr_any hc pins s σ H _ us Q I rv ⟨_, ns, rfl, by rw [hK]; exact hs, post ι _ H (Ext.refl _ _) hr (.bl _)⟩
  · cases hf
end
end Mi
namespace Mi
open PySem PySem.Spec PyProof.Rows L2

/-! ## statements -/
inductive Ou where
  | nx (ρ : Ro) (m : Hm) | rt (d : D) (m : Hm) | bk (ρ : Ro) (m : Hm) | ct (ρ : Ro) (m : Hm) | ex (x : Ex) (ρ : Ro) (m : Hm)
abbrev Ms := Ro → Hm → Option Ou
def PostS (g : Lk) (W : WX) (ι : List Addr) (H : Hp) (o : Ou) (D : Ends) : Prop := match o with
  | .nx ρ' m' => ∀ ι' σ' H', Ext ι H ι' H' → SR g ι' m' ρ' σ' H' → D.nx σ' H'
  | .bk ρ' m' => ∀ ι' σ' H', Ext ι H ι' H' → SR g ι' m' ρ' σ' H' → D.bk σ' H'
  | .ct ρ' m' => ∀ ι' σ' H', Ext ι H ι' H' → SR g ι' m' ρ' σ' H' → D.ct σ' H'
  | .rt d m' => ∀ ι' v H', Ext ι H ι' H' → HR g ι' m' H' → RV g ι' H' d v → D.rt v H'
  | .ex x ρ' m' => ∀ ι' cls dd σ' H', Ext ι H ι' H' → SR g ι' m' ρ' σ' H' → ExR g ι' H' x cls dd → W cls dd σ' H'
theorem PostS.ext {g : Lk} {W : WX} {ι ι1 : List Addr} {H H1 : Hp} {o : Ou} {D : Ends} (p : PostS g W ι H o D) (e : Ext ι H ι1 H1) : PostS g W ι1 H1 o D := by
  cases o with
  | nx ρ m => exact fun ι' σ' H' x s => p ι' σ' H' (e.trans x) s
  | bk ρ m => exact fun ι' σ' H' x s => p ι' σ' H' (e.trans x) s
  | ct ρ m => exact fun ι' σ' H' x s => p ι' σ' H' (e.trans x) s
  | rt d m => exact fun ι' v H' x s r => p ι' v H' (e.trans x) s r
  | ex y ρ m => exact fun ι' c d σ' H' x s r => p ι' c d σ' H' (e.trans x) s r
def liftS (g : Lk) (W : WX) (c : Ms) : TS := fun D σ H => ∃ ι m ρ o, SR g ι m ρ σ H ∧ c ρ m = some o ∧ PostS g W ι H o D
abbrev MS (g : Lk) (W : WX) (X : Cx) (s : Stmt) (c : Ms) : Prop := PS X s (liftS g W c)
abbrev MSs (g : Lk) (W : WX) (X : Cx) (s : List Stmt) (c : Ms) : Prop := PSs X s (liftS g W c)

/-- an expression's end within a statement -/
def bndS {α : Type} (a : Option (Rs α)) (ρ : Ro) (k : α → Hm → Option Ou) : Option Ou := match a with
  | some (.ok d m) => k d m
  | some (.ex x m) => some (.ex x ρ m)
  | none => none
section
variable {g : Lk} {W : WX} {ι : List Addr} {m : Hm} {ρ : Ro} {σ : L2.St} {H : Hp} {o : Ou} {D : Ends}
theorem useES {c : Mv Mi.D} {k : Mi.D → Hm → Option Ou} (s : SR g ι m ρ σ H) (hc : bndS (c ρ m) ρ k = some o) (p : PostS g W ι H o D) {R : VK}
    (hR : ∀ ι1 m1 d v H1, Ext ι H ι1 H1 → SR g ι1 m1 ρ σ H1 → RV g ι1 H1 d v → k d m1 = some o → R v H1) : liftE g W c σ H R := by
  cases q : c ρ m with
  | none => rw [q] at hc; cases hc
  | some z =>
    rw [q] at hc
    refine ⟨ι, m, ρ, z, s, q, fun d m' e ι' v H' ex hr rv => ?_, fun x m' e => ?_⟩
    · subst e; exact hR ι' m' d v H' ex (s.ext ex hr) rv hc
    · subst e; cases hc
      exact fun ι' cls dd H' ex hr er => p ι' cls dd σ H' ex (s.ext ex hr) er
theorem useTS {c : Mv Bool} {k : Bool → Hm → Option Ou} (s : SR g ι m ρ σ H) (hc : bndS (c ρ m) ρ k = some o) (p : PostS g W ι H o D) {R : Bool → Hp → Prop}
    (hR : ∀ ι1 m1 d H1, Ext ι H ι1 H1 → SR g ι1 m1 ρ σ H1 → k d m1 = some o → R d H1) : liftT g W c σ H R := by
  cases q : c ρ m with
  | none => rw [q] at hc; cases hc
  | some z =>
    rw [q] at hc
    refine ⟨ι, m, ρ, z, s, q, fun d m' e ι' H' ex hr => ?_, fun x m' e => ?_⟩
    · subst e; exact hR ι' m' d H' ex (s.ext ex hr) hc
    · subst e; cases hc
      exact fun ι' cls dd H' ex hr er => p ι' cls dd σ H' ex (s.ext ex hr) er
theorem useAS {n : Nat} {c : Mv (List Mi.D)} {k : List Mi.D → Hm → Option Ou} (s : SR g ι m ρ σ H) (hc : bndS (c ρ m) ρ k = some o) (p : PostS g W ι H o D) {R : List V → Hp → Prop}
    (hR : ∀ ι1 m1 ds vs H1, Ext ι H ι1 H1 → SR g ι1 m1 ρ σ H1 → RVs g ι1 H1 ds vs → ds.length = n → k ds m1 = some o → R vs H1) : liftA g W n c σ H R := by
  cases q : c ρ m with
  | none => rw [q] at hc; cases hc
  | some z =>
    rw [q] at hc
    refine ⟨ι, m, ρ, z, s, q, fun d m' e ι' v H' ex hr rv hn => ?_, fun x m' e => ?_⟩
    · subst e; exact hR ι' m' d v H' ex (s.ext ex hr) rv hn hc
    · subst e; cases hc
      exact fun ι' cls dd H' ex hr er => p ι' cls dd σ H' ex (s.ext ex hr) er
end

/-! ### targets -/
abbrev Mg := D → Ro → Hm → Option (Ro × Hm)
/-- the slots at ws alone have changed -/
def Out (ws : List Nat) (σ σ' : L2.St) : Prop := σ'.length = σ.length ∧ ∀ j, j ∉ ws → σ'[j]? = σ[j]?
def liftG (g : Lk) (ws : List Nat) (c : Mg) : TG := fun v σ H Q => ∃ ι m ρ d ρ' m', SR g ι m ρ σ H ∧ RV g ι H d v ∧ c d ρ m = some (ρ', m') ∧
  ∀ ι' σ' H', Ext ι H ι' H' → SR g ι' m' ρ' σ' H' → Out ws σ σ' → Q σ' H'
abbrev MG (g : Lk) (X : Cx) (t : Expr) (ws : List Nat) (c : Mg) : Prop := PG X t (liftG g ws c)
abbrev Mgs := List D → Ro → Hm → Option (Ro × Hm)
def liftGs (g : Lk) (ws : List Nat) (n : Nat) (c : Mgs) : TGs := fun vs σ H Q => ∃ ι m ρ ds ρ' m', SR g ι m ρ σ H ∧ RVs g ι H ds vs ∧ ds.length = n ∧ c ds ρ m = some (ρ', m') ∧
  ∀ ι' σ' H', Ext ι H ι' H' → SR g ι' m' ρ' σ' H' → Out ws σ σ' → Q σ' H'
abbrev MGs (g : Lk) (X : Cx) (t : List Expr) (ws : List Nat) (n : Nat) (c : Mgs) : Prop := PGs X t (liftGs g ws n c)
theorem pgI {X : Cx} {e : Expr} {t t' : TG} (h : PG X e t) (i : ∀ v σ H Q, t' v σ H Q → t v σ H Q) : PG X e t' := ⟨fun pins s σ H v u Q I r q => h.run pins s σ H v u Q I r (i v σ H Q q)⟩
theorem pgsI {X : Cx} {e : List Expr} {t t' : TGs} (h : PGs X e t) (i : ∀ v σ H Q, t' v σ H Q → t v σ H Q) : PGs X e t' := ⟨fun pins s σ H v u Q I r q => h.run pins s σ H v u Q I r (i v σ H Q q)⟩
theorem pgOr {X : Cx} {e : Expr} {t t' : TG} (h : PG X e t) (h' : PG X e t') : PG X e (fun v σ H Q => t v σ H Q ∨ t' v σ H Q) := ⟨fun pins s σ H v u Q I r q => q.elim (fun q => h.run pins s σ H v u Q I r q) fun q => h'.run pins s σ H v u Q I r q⟩
theorem Out.refl (ws : List Nat) (σ : L2.St) : Out ws σ σ := ⟨rfl, fun _ _ => rfl⟩
theorem Out.trans {a b : List Nat} {σ σ1 σ2 : L2.St} (x : Out a σ σ1) (y : Out b σ1 σ2) : Out (a ++ b) σ σ2 :=
  ⟨y.1.trans x.1, fun j hj => by rw [List.mem_append] at hj; rw [y.2 j fun z => hj (.inr z), x.2 j fun z => hj (.inl z)]⟩
theorem Out.set (σ : L2.St) (i : Nat) (x : Option V) : Out [i] σ (σ.set i x) :=
  ⟨by simp, fun j hj => List.getElem?_set_ne (fun e => hj (by simp [e]))⟩

def gNm (i : Nat) : Mg := fun d ρ m => some (ρ.set i (.is d), m)
def gsNil : Mgs := fun ds ρ m => match ds with | [] => some (ρ, m) | _ => none
def gsCons (a : Mg) (b : Mgs) : Mgs := fun ds ρ m => match ds with
  | d :: r => match a d ρ m with
    | some (ρ1, m1) => b r ρ1 m1
    | none => none
  | [] => none
def gTp (n : Nat) (b : Mgs) : Mg := fun d ρ m => match seqOf m d with
  | some ds => if ds.length = n then b ds ρ m else none
  | none => none
section
variable {g : Lk} {X : Cx} {pos : Pos}
theorem mg_nm (i : Nat) {x : Str} (hN : X.N.Nodup) (hi : X.N[i]? = some x := by rfl) (hx : Loc X.env.scope x := by first | exact .inl rfl | exact .inr rfl)
    (hf : X.fn x = true ∨ X.env.scope.names.lookup x = some .local := by first | exact .inl rfl | exact .inr rfl | assumption) : MG g X (.Name x pos) [i] (gNm i) := pgI (pg_name hN hi hx hf) fun v σ H Q q => by
  obtain ⟨ι, m, ρ, d, ρ', m', s, rv, hc, post⟩ := q
  cases hc
  exact post ι _ H (Ext.refl _ _) (s.set rv) (Out.set σ i _)
theorem mgs_nil : MGs g X [] [] 0 gsNil := pgsI pgs_nil fun vs σ H Q q => by
  obtain ⟨ι, m, ρ, ds, ρ', m', s, rv, hl, hc, post⟩ := q
  cases ds with
  | nil => cases rv; cases hc; exact ⟨rfl, post ι σ H (Ext.refl _ _) s (Out.refl _ _)⟩
  | cons _ _ => cases hl
theorem mgs_cons {e : Expr} {es : List Expr} {w1 w2 : List Nat} {n : Nat} {a : Mg} {b : Mgs} (h1 : MG g X e w1 a) (h2 : MGs g X es w2 n b)
    (hs : (assignEach (e :: es) X.env).map (·.2) = assign e X.env :: (assignEach es X.env).map (·.2) := by rfl) : MGs g X (e :: es) (w1 ++ w2) (n + 1) (gsCons a b) := pgsI (pgs_cons h1 h2 hs) fun vs σ H Q q => by
  obtain ⟨ι, m, ρ, ds, ρ', m', s, rv, hl, hc, post⟩ := q
  cases rv with
  | nil => cases hl
  | cons r t =>
    simp only [gsCons] at hc
    split at hc
    · rename_i ρ1 m1 q
      refine ⟨_, _, rfl, ι, m, ρ, _, ρ1, m1, s, r, q, fun ι1 σ1 H1 e1 s1 o1 => ?_⟩
      exact ⟨ι1, m1, ρ1, _, ρ', m', s1, t.ext s.hr e1, by simpa using hl, hc, fun ι' σ' H' e' s' o' => post ι' σ' H' (e1.trans e') s' (o1.trans o')⟩
    · cases hc
theorem mg_tup (hK : X.K = g.K) {es : List Expr} {k : Nat} {ws : List Nat} {b : Mgs} {n : Nat} (hc : X.calm = true) (h : MGs g X es ws n b)
    (hn : (assignEach es X.env).length = n := by rfl) (hst : (assignEach es X.env).findIdx? (·.1) = none := by rfl) : MG g X (.Tuple es k pos) ws (gTp n b) :=
  pgI (pgOr (pg_tup hc h hn hst) (pg_lst hc h hn hst)) fun v σ H Q q => by
    obtain ⟨ι, m, ρ, d, ρ', m', s, rv, hc, post⟩ := q
    unfold gTp at hc
    split at hc
    · rename_i ds q
      split at hc
      · rename_i hl
        cases d with
        | tup ds =>
          obtain ⟨a, vs, rfl, hs, t⟩ := rv.tupI
          simp only [seqOf] at q; cases q
          exact .inl ⟨_, _, rfl, by rw [hK]; exact hs, by rw [← t.length]; exact hl, ι, m, ρ, _, ρ', m', s, t, hl, hc, post⟩
        | ref k =>
          cases rv with | ref hi =>
          simp only [seqOf] at q
          obtain ⟨vs, hs, t⟩ := s.hr.seqL q hi
          exact .inr ⟨_, vs, rfl, by rw [hK]; exact hs, by rw [← t.length]; exact hl, ι, m, ρ, _, ρ', m', s, t, hl, hc, post⟩
        | _ => simp [seqOf] at q
      · cases hc
    · cases hc
end
/-! ### o[i] = v -/
def kD : Key → D
  | .inl i => .int i
  | .inr s => .str s
def putKD {κ : Type} [DecidableEq κ] (kvs : List (κ × D)) (k : κ) (v : D) : List (κ × D) :=
  if (kvs.any fun kv => decide (kv.1 = k)) = true then kvs.map (fun kv => if kv.1 = k then (kv.1, v) else kv) else kvs ++ [(k, v)]
def getKD {κ : Type} [DecidableEq κ] (kvs : List (κ × D)) (k : κ) : Option D := (kvs.find? fun kv => decide (kv.1 = k)).map (·.2)
def setD (m : Hm) (o i v : D) : Option Hm := match o with
  | .ref n => match m[n]? with
    | some (.lst xs) => match i with
      | .int k => (ixN xs.length k).map fun j => m.set n (.lst (xs.set j v))
      | _ => none
    | some (.dK kvs) => match keyOf i with
      | some k => if kvs.length < sizeLine then some (m.set n (.dK (putKD kvs k v))) else none
      | none => none
    | some (.dT kvs) => match keyT i with
      | some k => if kvs.length < sizeLine then some (m.set n (.dT (putKD kvs k v))) else none
      | none => none
    | _ => none
  | _ => none
def gIx (o i : Mv D) : Mg := fun v ρ m => match o ρ m with
  | some (.ok od m1) => match i ρ m1 with
    | some (.ok id m2) => (setD m2 od id v).map fun m3 => (ρ, m3)
    | _ => none
  | _ => none
section
variable {g : Lk} {ι : List Addr} {m : Hm} {H : Hp}
theorem keyOf_kV {d : D} {v : V} {k : Key} (r : RV g ι H d v) (h : keyOf d = some k) : v = kV k := by
  cases r <;> simp [keyOf] at h <;> subst h <;> rfl
theorem keysOf_kV : ∀ {ds : List D} {vs : List V} {ks : List Key}, RVs g ι H ds vs → keysOf ds = some ks → vs = ks.map kV
  | [], _, ks, .nil, h => by simp [keysOf] at h; subst h; rfl
  | d :: ds, _, ks, .cons r t, h => by
    simp only [keysOf] at h
    split at h
    · rename_i k ks' h1 h2
      cases h
      rw [keyOf_kV r h1, keysOf_kV t h2]; rfl
    · cases h
theorem RK.length {κ : Type} {a : List (κ × D)} {b : List (κ × V)} (r : RK g ι H a b) : a.length = b.length := by
  induction r with
  | nil => rfl
  | cons _ _ ih => simp [ih]
theorem RK.put {κ : Type} [DecidableEq κ] {a : List (κ × D)} {b : List (κ × V)} (r : RK g ι H a b) (k : κ) {d : D} {v : V} (q : RV g ι H d v) : RK g ι H (putKD a k d) (putK b k v) := by
  have e : (a.any fun kv => decide (kv.1 = k)) = b.any fun kv => decide (kv.1 = k) := by
    induction r with
    | nil => rfl
    | cons _ _ ih => simp [ih]
  unfold putKD putK
  rw [e]
  have r1 : RK g ι H (a.map fun kv => if kv.1 = k then (kv.1, d) else kv) (b.map fun kv => if kv.1 = k then (kv.1, v) else kv) := by
    clear e
    induction r with
    | nil => exact .nil
    | @cons k' d' v' r0 r1 rv _ ih =>
      simp only [List.map_cons]
      by_cases hk : k' = k
      · rw [if_pos hk, if_pos hk]; exact .cons q ih
      · rw [if_neg hk, if_neg hk]; exact .cons rv ih
  have r2 : RK g ι H (a ++ [(k, d)]) (b ++ [(k, v)]) := by
    clear e r1
    induction r with
    | nil => exact .cons q .nil
    | cons rv _ ih => exact .cons rv ih
  split
  · exact r1
  · exact r2
theorem RK.get {κ : Type} [DecidableEq κ] {a : List (κ × D)} {b : List (κ × V)} (r : RK g ι H a b) (k : κ) : (∀ d, getKD a k = some d → ∃ v, valV b k = some v ∧ RV g ι H d v) ∧ (getKD a k = none → valV b k = none) := by
  induction r with
  | nil => exact ⟨fun d h => by simp [getKD] at h, fun _ => rfl⟩
  | @cons k' d' v' r0 r1 rv _ ih =>
    by_cases hk : k' = k
    · refine ⟨fun d h => ?_, fun h => ?_⟩
      · simp [getKD, hk] at h; subst h; exact ⟨v', by simp [valV, hk], rv⟩
      · simp [getKD, hk] at h
    · refine ⟨fun d h => ?_, fun h => ?_⟩
      · obtain ⟨v, hv, q⟩ := ih.1 d (by simpa [getKD, hk] using h)
        exact ⟨v, by simpa [valV, hk] using hv, q⟩
      · have := ih.2 (by simpa [getKD, hk] using h)
        simpa [valV, hk] using this
end
section
variable {g : Lk} {X : Cx}
/-- d[y] = v by values -/
theorem set_dict (hu : X.A.units + 1 < cLine) : PSet X (fun o i v H Q => ∃ a H4, o = .ref a ∧ DPut H a i v H4 ∧ Q H4) := by
  intro pins s σ H o i v ov iv u Q I ro ri rv h
  obtain ⟨a, H4, rfl, hp, q⟩ := h
  cases ro
  exact d_setItem hu I hp ri rv fun s' I' => ⟨H4, I', q⟩
theorem setOr {t t' : TSet} (h : PSet X t) (h' : PSet X t') : PSet X (fun o i v H Q => t o i v H Q ∨ t' o i v H Q) := fun pins s σ H o i v ov iv u Q I ro ri rv q =>
  q.elim (fun q => h pins s σ H o i v ov iv u Q I ro ri rv q) fun q => h' pins s σ H o i v ov iv u Q I ro ri rv q
theorem mg_ix (hu : X.A.units + 1 < cLine) {o i : Expr} {co ci : Mv D} {pos : Pos} {W : WX} (ho : ME g W X o co) (hi : ME g W X i ci)
    (ha : ∀ v, assign (.Subscript o i pos) X.env v = (do
      let ov ← holding [v] (eval o X.env)
      let iv ← holding [v, ov] (eval i X.env)
      standAt pos
      holding [v, ov, iv] (setItem ov iv v)
      release [v, ov, iv] []) := by intro _; rfl) : MG g X (.Subscript o i pos) [] (gIx co ci) := pgI (pg_sub ho hi (setOr set_list (set_dict hu)) ha) fun v σ H Q q => by
  obtain ⟨ι, m, ρ, d, ρ', m', s, rv, hc, post⟩ := q
  unfold gIx at hc
  split at hc
  · rename_i od m1 q1
    split at hc
    · rename_i id m2 q2
      cases q3 : setD m2 od id d with
      | none => rw [q3] at hc; cases hc
      | some m3 =>
        rw [q3] at hc; cases hc
        refine ⟨ι, m, ρ, _, s, q1, fun d1 m1' e1 ι1 v1 H1 x1 hr1 rv1 => ?_, fun x m' e => by cases e⟩
        cases e1
        have s1 := s.ext x1 hr1
        refine ⟨ι1, m1, ρ, _, s1, q2, fun d2 m2' e2 ι2 v2 H2 x2 hr2 rv2 => ?_, fun x m' e => by cases e⟩
        cases e2
        have s2 := s1.ext x2 hr2
        have ro := rv1.ext hr1 x2
        have rw0 := (rv.ext s.hr x1).ext hr1 x2
        unfold setD at q3
        split at q3
        · rename_i n
          cases ro with | ref hi =>
          split at q3
          · rename_i xs hx
            split at q3
            · rename_i k
              cases rv2
              cases q4 : ixN xs.length k with
              | none => rw [q4] at q3; cases q3
              | some j =>
                rw [q4] at q3; cases q3
                obtain ⟨vs, hv, t⟩ := hr2.lst hx hi
                refine .inl ⟨_, vs, k, j, rfl, rfl, hv, by rw [← t.length]; exact q4, ?_⟩
                have nf : ∀ o u, H2 _ ≠ some (.frz o u) := fun o u z => by rw [hv] at z; cases z
                have x3 := ext_wr (u := .lst (vs.set j v)) (H := H2) (List.mem_of_getElem? hi) nf
                have h3 := hr2.write hi nf (o := .lst (xs.set j d)) (u := .lst (vs.set j v)) (.lst ((t.set rw0).ext hr2 x3))
                exact post ι2 σ _ ((x1.trans x2).trans x3) (s2.ext x3 h3) (Out.refl _ _)
            · cases q3
          · rename_i kvs hx
            split at q3
            · rename_i k hk
              split at q3
              · rename_i hl
                cases q3
                obtain ⟨u, hu, ro⟩ := hr2.at hx hi
                cases ro with | dK rk =>
                rename_i kvs'
                have nf : ∀ o u, H2 _ ≠ some (.frz o u) := fun o u z => by rw [hu] at z; cases z
                have x3 := ext_wr (u := .dK (putK kvs' k v)) (H := H2) (List.mem_of_getElem? hi) nf
                have h3 := hr2.write hi nf (o := .dK (putKD kvs k d)) (u := .dK (putK kvs' k v)) (.dK ((rk.put k rw0).ext hr2 x3))
                exact .inr ⟨_, _, rfl, .inl ⟨kvs', k, hu, keyOf_kV rv2 hk, by rw [← rk.length]; exact hl, rfl⟩, post ι2 σ _ ((x1.trans x2).trans x3) (s2.ext x3 h3) (Out.refl _ _)⟩
              · cases q3
            · cases q3
          · rename_i kvs hx
            split at q3
            · rename_i k hk
              split at q3
              · rename_i hl
                cases q3
                obtain ⟨u, hu, ro⟩ := hr2.at hx hi
                cases ro with | dT rk =>
                rename_i kvs'
                obtain ⟨e0, es0, rfl⟩ : ∃ e0 es0, id = .tup (e0 :: es0) := by
                  cases id <;> simp [keyT] at hk
                  rename_i l
                  cases l with
                  | nil => simp [keyT] at hk
                  | cons x y => exact ⟨x, y, rfl⟩
                obtain ⟨a1, vs1, rfl, hs1, t1⟩ := rv2.tupN
                have ev := keysOf_kV t1 hk
                subst ev
                have nf : ∀ o u, H2 _ ≠ some (.frz o u) := fun o u z => by rw [hu] at z; cases z
                have x3 := ext_wr (u := .dT (putK kvs' k v)) (H := H2) (List.mem_of_getElem? hi) nf
                have h3 := hr2.write hi nf (o := .dT (putKD kvs k d)) (u := .dT (putK kvs' k v)) (.dT ((rk.put k rw0).ext hr2 x3))
                exact .inr ⟨_, _, rfl, .inr ⟨kvs', k, a1, hu, rfl, hs1, by rw [← rk.length]; exact hl, rfl⟩, post ι2 σ _ ((x1.trans x2).trans x3) (s2.ext x3 h3) (Out.refl _ _)⟩
              · cases q3
            · cases q3
          · cases q3
        · cases q3
    · cases hc
  · cases hc
end
end Mi
namespace Mi
open PySem PySem.Spec PyProof.Rows L2

/-! ### plain statements -/
def sNext : Ms := fun ρ m => some (.nx ρ m)
def sSeq (a b : Ms) : Ms := fun ρ m => match a ρ m with
  | some (.nx ρ1 m1) => b ρ1 m1
  | o => o
def sExpr (e : Mv D) : Ms := fun ρ m => bndS (e ρ m) ρ fun _ m1 => some (.nx ρ m1)
def sRet (e : Mv D) : Ms := fun ρ m => bndS (e ρ m) ρ fun d m1 => some (.rt d m1)
def sRetN : Ms := fun ρ m => some (.rt .non m)
def sBreak : Ms := fun ρ m => some (.bk ρ m)
def sCont : Ms := fun ρ m => some (.ct ρ m)
def sIf (t : Mv Bool) (a b : Ms) : Ms := fun ρ m => bndS (t ρ m) ρ fun k m1 => if k = true then a ρ m1 else b ρ m1
def sAsg (e : Mv D) (t : Mg) : Ms := fun ρ m => bndS (e ρ m) ρ fun d m1 => match t d ρ m1 with
  | some (ρ2, m2) => some (.nx ρ2 m2)
  | none => none
section
variable {g : Lk} {W : WX} {X : Cx} {e : Expr} {ce : Mv D} {a b : Stmt} {ca cb : Ms} {l : List Stmt} {pos : Pos}
theorem mss_nil : MSs g W X [] sNext := pssI pss_nil fun D σ H q => by
  obtain ⟨ι, m, ρ, o, s, hc, p⟩ := q
  cases hc
  exact p ι σ H (Ext.refl _ _) s
theorem mss_cons (ha : MS g W X a ca) (hb : MSs g W X l cb) : MSs g W X (a :: l) (sSeq ca cb) := pssI (pss_cons ha hb) fun D σ H q => by
  obtain ⟨ι, m, ρ, o, s, hc, p⟩ := q
  unfold sSeq at hc
  cases q : ca ρ m with
  | none => rw [q] at hc; cases hc
  | some z =>
    rw [q] at hc
    refine ⟨ι, m, ρ, z, s, q, ?_⟩
    cases z with
    | nx ρ1 m1 => exact fun ι' σ' H' e1 s1 => ⟨ι', m1, ρ1, o, s1, hc, p.ext e1⟩
    | rt d m1 => cases hc; exact p
    | bk d m1 => cases hc; exact p
    | ct d m1 => cases hc; exact p
    | ex x d m1 => cases hc; exact p
theorem mss_one (ha : MS g W X a ca) : MSs g W X [a] ca := pss_one ha
theorem ms_pass : MS g W X (.Pass pos) sNext := psI ps_pass fun D σ H q => by
  obtain ⟨ι, m, ρ, o, s, hc, p⟩ := q
  cases hc
  exact p ι σ H (Ext.refl _ _) s
theorem ms_break : MS g W X (.Break pos) sBreak := psI ps_break fun D σ H q => by
  obtain ⟨ι, m, ρ, o, s, hc, p⟩ := q
  cases hc
  exact p ι σ H (Ext.refl _ _) s
theorem ms_cont : MS g W X (.Continue pos) sCont := psI ps_continue fun D σ H q => by
  obtain ⟨ι, m, ρ, o, s, hc, p⟩ := q
  cases hc
  exact p ι σ H (Ext.refl _ _) s
theorem ms_expr (h : ME g W X e ce) (hs : swapsWith e none pos.line X.env = pure false := by rfl) : MS g W X (.Expr e pos) (sExpr ce) := psI (ps_expr h hs) fun D σ H q => by
  obtain ⟨ι, m, ρ, o, s, hc, p⟩ := q
  refine useES s hc p fun ι1 m1 d v H1 e1 s1 rv hk => ?_
  cases hk
  exact p ι1 σ H1 e1 s1
theorem ms_ret (h : ME g W X e ce) : MS g W X (.Return (some e) pos) (sRet ce) := psI (ps_ret h) fun D σ H q => by
  obtain ⟨ι, m, ρ, o, s, hc, p⟩ := q
  refine useES s hc p fun ι1 m1 d v H1 e1 s1 rv hk => ?_
  cases hk
  exact p ι1 v H1 e1 s1.hr rv
theorem ms_retN : MS g W X (.Return none pos) sRetN := psI ps_retN fun D σ H q => by
  obtain ⟨ι, m, ρ, o, s, hc, p⟩ := q
  cases hc
  exact p ι _ H (Ext.refl _ _) s.hr .non
theorem ms_if {c : Expr} {x y : List Stmt} {t : Mv Bool} {cx cy : Ms} (hc : MT g W X c t) (hx : MSs g W X x cx) (hy : MSs g W X y cy) : MS g W X (.If c x y pos) (sIf t cx cy) := psI (ps_if hc hx hy) fun D σ H q => by
  obtain ⟨ι, m, ρ, o, s, hc, p⟩ := q
  refine useTS s hc p fun ι1 m1 k H1 e1 s1 hk => ?_
  cases k with
  | true => rw [if_pos rfl] at hk ⊢; exact ⟨ι1, m1, ρ, o, s1, hk, p.ext e1⟩
  | false => rw [if_neg Bool.false_ne_true] at hk ⊢; exact ⟨ι1, m1, ρ, o, s1, hk, p.ext e1⟩
theorem ms_asg {tg : Expr} {ws : List Nat} {ct : Mg} (he : ME g W X e ce) (hg : MG g X tg ws ct) (hs : swapsWithSole [tg] e pos.line X.env = pure false := by rfl) (hw : swappedStores [tg] e X.env = pure none := by rfl)
    (h1 : (assignEach [tg] X.env).map (·.2) = [assign tg X.env] := by rfl) : MS g W X (.Assign [tg] e pos) (sAsg ce ct) := psI (ps_asg he hg hs hw h1) fun D σ H q => by
  obtain ⟨ι, m, ρ, o, s, hc, p⟩ := q
  refine useES s hc p fun ι1 m1 d v H1 e1 s1 rv hk => ?_
  split at hk
  · rename_i ρ2 m2 q
    cases hk
    exact ⟨ι1, m1, ρ, d, ρ2, m2, s1, rv, q, fun ι' σ' H' e2 s2 _ => p ι' σ' H' (e1.trans e2) s2⟩
  · cases hk
theorem ms_set (i : Nat) {x : Str} {pos' : Pos} (hN : X.N.Nodup) (he : ME g W X e ce) (hi : X.N[i]? = some x := by rfl) (hx : Loc X.env.scope x := by first | exact .inl rfl | exact .inr rfl)
    (hs : swapsWith e (some (.Name x pos')) pos.line X.env = pure false := by rfl) (hf : X.fn x = true ∨ X.env.scope.names.lookup x = some .local := by first | exact .inl rfl | exact .inr rfl | assumption) :
    MS g W X (.Assign [.Name x pos'] e pos) (sAsg ce (gNm i)) := psI (ps_set hN hi hx he hs hf) fun D σ H q => by
  obtain ⟨ι, m, ρ, o, s, hc, p⟩ := q
  refine useES s hc p fun ι1 m1 d v H1 e1 s1 rv hk => ?_
  cases hk
  exact p ι1 _ H1 e1 (s1.set rv)
/-- a, b = x, y -/
def sPar (i j : Nat) (a : Mv (List D)) : Ms := fun ρ m => bndS (a ρ m) ρ fun ds m1 => match ds with
  | [x, y] => some (.nx ((ρ.set i (.is x)).set j (.is y)) m1)
  | _ => none
theorem ms_par (i j : Nat) {x y : Str} {a b : Expr} {ca : Mv (List D)} {px py pt : Pos} {kt k2 pt2} (hc : X.calm = true) (hN : X.N.Nodup) (ha : MA g W X [a, b] 2 ca) (hi : X.N[i]? = some x := by rfl) (hj : X.N[j]? = some y := by rfl) (hij : i ≠ j := by decide)
    (hx : X.env.scope.names.lookup x = some .local := by rfl) (hy : X.env.scope.names.lookup y = some .local := by rfl)
    (hw : swappedStores [.Tuple [.Name x px, .Name y py] kt pt] (.Tuple [a, b] k2 pt2) X.env = pure (some [x, y]) := by rfl)
    (hs : swapsWithSole [.Tuple [.Name x px, .Name y py] kt pt] (.Tuple [a, b] k2 pt2) pos.line X.env = pure false := by rfl) :
    MS g W X (.Assign [.Tuple [.Name x px, .Name y py] kt pt] (.Tuple [a, b] k2 pt2) pos) (sPar i j ca) := psI (ps_par hc hN hi hj hij hx hy ha hw hs) fun D σ H q => by
  obtain ⟨ι, m, ρ, o, s, hc, p⟩ := q
  refine useAS s hc p fun ι1 m1 ds vs H1 e1 s1 rv hl hk => ?_
  split at hk
  · rename_i x y
    cases hk
    cases rv with | cons r1 t => cases t with | cons r2 t2 =>
    cases t2
    exact ⟨_, _, rfl, p ι1 _ H1 e1 ((s1.set r1).set r2)⟩
  · cases hk
end

/-! ### what is walked -/
structure Wk where
  n : Nat
  at_ : Nat → Hm → Option D
  fin : Hm → Bool
abbrev Mi_ := Ro → Hm → Option (Rs Wk)
structure WalkM (g : Lk) (ι0 : List Addr) (H0 : Hp) (it : Wk) (J : It) : Prop where
  go : ∀ ι m H i d, Gr ι0 H0 ι H → HR g ι m H → i < it.n → it.at_ i m = some d → J.go i H ∧ ∀ x H', J.yld i H x H' → Ext ι H ι H' ∧ HR g ι m H' ∧ RV g ι H' d x
  stop : ∀ ι m H, Gr ι0 H0 ι H → HR g ι m H → it.fin m = true → J.stop it.n H
def liftI (g : Lk) (W : WX) (c : Mi_) : TI := fun σ H R => ∃ ι m ρ r, SR g ι m ρ σ H ∧ c ρ m = some r ∧
  (∀ it m', r = .ok it m' → ∀ ι' J H', Ext ι H ι' H' → HR g ι' m' H' → WalkM g ι' H' it J → R J H') ∧ XW g W ι σ H r
abbrev MI (g : Lk) (W : WX) (X : Cx) (tg e : Expr) (c : Mi_) : Prop := PI X tg e (liftI g W c)
theorem piI {X : Cx} {tg e : Expr} {t t' : TI} (h : PI X tg e t) (i : ∀ σ H R, t' σ H R → t σ H R) : PI X tg e t' := ⟨fun pins s σ H R I q => h.run pins s σ H R I (i σ H R q)⟩
theorem piOr {X : Cx} {tg e : Expr} {t t' : TI} (h : PI X tg e t) (h' : PI X tg e t') : PI X tg e (fun σ H R => t σ H R ∨ t' σ H R) :=
  ⟨fun pins s σ H R I q => q.elim (fun q => h.run pins s σ H R I q) fun q => h'.run pins s σ H R I q⟩
section
variable {g : Lk} {W : WX} {ι : List Addr} {m : Hm} {ρ : Ro} {σ : L2.St} {H : Hp} {β : Type} {r : Rs β} {o : Ou} {D : Ends}
theorem useI {c : Mi_} {k : Wk → Hm → Option (Rs β)} (s : SR g ι m ρ σ H) (hc : bnd (c ρ m) k = some r) (hx : XW g W ι σ H r) {R : It → Hp → Prop}
    (hR : ∀ ι1 m1 it J H1, Ext ι H ι1 H1 → SR g ι1 m1 ρ σ H1 → WalkM g ι1 H1 it J → k it m1 = some r → R J H1) : liftI g W c σ H R := by
  cases q : c ρ m with
  | none => rw [q] at hc; cases hc
  | some z =>
    rw [q] at hc
    refine ⟨ι, m, ρ, z, s, q, fun d m' e ι' J H' ex hr w => ?_, fun x m' e => ?_⟩
    · subst e; exact hR ι' m' d J H' ex (s.ext ex hr) w hc
    · subst e; cases hc; exact hx x m' rfl
theorem useIS {c : Mi_} {k : Wk → Hm → Option Ou} (s : SR g ι m ρ σ H) (hc : bndS (c ρ m) ρ k = some o) (p : PostS g W ι H o D) {R : It → Hp → Prop}
    (hR : ∀ ι1 m1 it J H1, Ext ι H ι1 H1 → SR g ι1 m1 ρ σ H1 → WalkM g ι1 H1 it J → k it m1 = some o → R J H1) : liftI g W c σ H R := by
  cases q : c ρ m with
  | none => rw [q] at hc; cases hc
  | some z =>
    rw [q] at hc
    refine ⟨ι, m, ρ, z, s, q, fun d m' e ι' J H' ex hr w => ?_, fun x m' e => ?_⟩
    · subst e; exact hR ι' m' d J H' ex (s.ext ex hr) w hc
    · subst e; cases hc
      exact fun ι' cls dd H' ex hr er => p ι' cls dd σ H' ex (s.ext ex hr) er
end
/-- the items of a list that stays, at each turn -/
def itLst (a n : Nat) (f : Nat → D → D) : Wk := ⟨n, fun i m => match lstOf m a with
  | some xs => if xs.length = n then (xs[i]?).map (f i) else none
  | none => none, fun m => match lstOf m a with
  | some xs => xs.length == n
  | none => false⟩
def itFix (ds : List D) (f : Nat → D → D) : Wk := ⟨ds.length, fun i _ => (ds[i]?).map (f i), fun _ => true⟩
def itRg (lo : Int) (n : Nat) : Wk := ⟨n, fun i _ => some (.int (lo + (i : Nat))), fun _ => true⟩
/-- a list or a tuple -/
def iSeq (e : Mv D) : Mi_ := fun ρ m => bnd (e ρ m) fun d m1 => match d with
  | .tup ds => some (.ok (itFix ds fun _ x => x) m1)
  | .frl ds => some (.ok (itFix ds fun _ x => x) m1)
  | .ref n => match lstOf m1 n with
    | some xs => some (.ok (itLst n xs.length fun _ x => x) m1)
    | none => none
  | _ => none
def iEnumM (a : Mv (List D)) : Mi_ := fun ρ m => bnd (a ρ m) fun ds m1 => match ds with
  | [.ref n] => match lstOf m1 n with
    | some xs => some (.ok (itLst n xs.length fun i x => .tup [.int (i : Nat), x]) m1)
    | none => none
  | _ => none
def iRange (a : Mv (List D)) : Mi_ := fun ρ m => bnd (a ρ m) fun ds m1 => match ds with
  | [.int j] => if -(2 ^ 62) ≤ j ∧ j < 2 ^ 62 then some (.ok (itRg 0 j.toNat) m1) else none
  | [.int i, .int j] => if -(2 ^ 62) ≤ i ∧ i < 2 ^ 62 ∧ -(2 ^ 62) ≤ j ∧ j < 2 ^ 62 then some (.ok (itRg i (j - i).toNat) m1) else none
  | _ => none
section
variable {g : Lk} {W : WX} {X : Cx} {tg e : Expr} {ce : Mv D} {p pos : Pos}
theorem walkM_lst {ι0 : List Addr} {H0 : Hp} {n k : Nat} {a : Addr} (hi : ι0[n]? = some a) : WalkM g ι0 H0 (itLst n k fun _ x => x) (Itl g.K a) := by
  refine ⟨fun ι m H i d ex hr hl h => ?_, fun ι m H ex hr h => ?_⟩
  · obtain ⟨t, rfl⟩ := ex.pre
    have hi' : (ι0 ++ t)[n]? = some a := by rw [List.getElem?_append_left (List.getElem?_eq_some_iff.mp hi).1]; exact hi
    simp only [itLst] at h
    split at h
    · rename_i xs q
      split at h
      · obtain ⟨vs, hs, t⟩ := hr.seqL q hi'
        cases q2 : xs[i]? with
        | none => rw [q2] at h; cases h
        | some y =>
          rw [q2] at h; cases h
          obtain ⟨v, hv, rv⟩ := t.get q2
          exact ⟨⟨vs, v, hs, hv⟩, fun x H' ⟨e, hy⟩ => by
            subst e
            have := hy vs hs
            rw [hv] at this; cases this
            exact ⟨Ext.refl _ _, hr, rv⟩⟩
      · cases h
    · cases h
  · obtain ⟨t, rfl⟩ := ex.pre
    have hi' : (ι0 ++ t)[n]? = some a := by rw [List.getElem?_append_left (List.getElem?_eq_some_iff.mp hi).1]; exact hi
    simp only [itLst] at h
    split at h
    · rename_i xs q
      obtain ⟨vs, hs, t⟩ := hr.seqL q hi'
      have : xs.length = k := by simpa using h
      exact ⟨vs, hs, by rw [← t.length, this]; exact Nat.le_refl _⟩
    · cases h
theorem walkM_tup {ι0 : List Addr} {H0 : Hp} {ds : List D} {vs : List V} {a : Addr} (hs : SqT g.K H0 a vs) (t : RVs g ι0 H0 ds vs) : WalkM g ι0 H0 (itFix ds fun _ x => x) (Itt g.K a) := by
  refine ⟨fun ι m H i d ex hr hl h => ?_, fun ι m H ex hr h => ?_⟩
  · simp only [itFix] at h
    cases q2 : ds[i]? with
    | none => rw [q2] at h; cases h
    | some y =>
      rw [q2] at h; cases h
      obtain ⟨v, hv, rv⟩ := t.get q2
      have hs' := SqT.gr ex hs
      exact ⟨⟨vs, v, hs', hv⟩, fun x H' ⟨e, hy⟩ => by
        subst e
        have := hy vs hs'
        rw [hv] at this; cases this
        exact ⟨Ext.refl _ _, hr, rv.gr ex⟩⟩
  · exact ⟨vs, SqT.gr ex hs, by show vs.length ≤ ds.length; rw [t.length]; exact Nat.le_refl _⟩
theorem walkM_frl {ι0 : List Addr} {H0 : Hp} {ds : List D} {vs : List V} {a : Addr} (hs : Fz g.K H0 a vs) (t : RVs g ι0 H0 ds vs) : WalkM g ι0 H0 (itFix ds fun _ x => x) (Itl g.K a) := by
  refine ⟨fun ι m H i d ex hr hl h => ?_, fun ι m H ex hr h => ?_⟩
  · simp only [itFix] at h
    cases q2 : ds[i]? with
    | none => rw [q2] at h; cases h
    | some y =>
      rw [q2] at h; cases h
      obtain ⟨v, hv, rv⟩ := t.get q2
      have hs' := Fz.sq (hs.imp (fun ⟨o, q⟩ => ⟨o, ex.frz _ _ _ q⟩) id)
      exact ⟨⟨vs, v, hs', hv⟩, fun x H' ⟨e, hy⟩ => by
        subst e
        have := hy vs hs'
        rw [hv] at this; cases this
        exact ⟨Ext.refl _ _, hr, rv.gr ex⟩⟩
  · exact ⟨vs, Fz.sq (hs.imp (fun ⟨o, q⟩ => ⟨o, ex.frz _ _ _ q⟩) id), by show vs.length ≤ ds.length; rw [t.length]; exact Nat.le_refl _⟩
theorem walkM_rg {ι0 : List Addr} {H0 : Hp} {lo : Int} {n : Nat} : WalkM g ι0 H0 (itRg lo n) (Itr lo n) := by
  refine ⟨fun ι m H i d ex hr hl h => ?_, fun ι m H ex hr h => Nat.le_refl n⟩
  simp only [itRg] at h hl; cases h
  exact ⟨hl, fun x H' ⟨e, ez⟩ => by subst e; subst ez; exact ⟨Ext.refl _ _, hr, .int _⟩⟩
theorem mi_seq (hK : X.K = g.K) (he : ME g W X e ce) : MI g W X tg e (iSeq ce) := piI (piOr (pi_list he) (pi_tup he)) fun σ H R q => by
  obtain ⟨ι, m, ρ, r, s, hc, ho, hx⟩ := q
  unfold iSeq at hc
  by_cases tp : ∃ ds m1, ce ρ m = some (.ok (.tup ds) m1)
  · refine .inr ?_
    refine useEq s hc hx fun ι1 m1 d v H1 q e1 s1 rv hk => ?_
    obtain ⟨ds, m2, q2⟩ := tp
    rw [q2] at q; cases q
    cases hk
    obtain ⟨a, vs, rfl, hs, t⟩ := rv.tupI
    exact ⟨a, rfl, ⟨vs, by rw [hK]; exact hs⟩, by rw [hK]; exact ho _ _ rfl ι1 _ H1 e1 s1.hr (walkM_tup hs t)⟩
  · refine .inl ?_
    refine useEq s hc hx fun ι1 m1 d v H1 q e1 s1 rv hk => ?_
    split at hk
    · exact absurd ⟨_, _, q⟩ tp
    · cases hk
      cases rv with | frl hs t =>
      exact ⟨_, rfl, ⟨_, by rw [hK]; exact hs.sq⟩, by rw [hK]; exact ho _ _ rfl ι1 _ H1 e1 s1.hr (walkM_frl hs t)⟩
    · rename_i n
      split at hk
      · rename_i xs q3
        cases hk
        cases rv with | ref hi =>
        obtain ⟨vs, hs, t⟩ := s1.hr.seqL q3 hi
        exact ⟨_, rfl, ⟨vs, by rw [hK]; exact hs⟩, by rw [hK]; exact ho _ _ rfl ι1 _ H1 e1 s1.hr (walkM_lst hi)⟩
      · cases hk
    · cases hk
theorem ma_one {es : List Expr} {n : Nat} {ca : Mv (List D)} (h : MA g W X es n ca) : PA X es (liftA g W n ca) := h
theorem mi_range1 {a : Expr} {ca : Mv (List D)} (hg : Gl X "range") (hm : X.mg "range" = none) (ha : MA g W X [a] 1 ca) (hs : starEach [a] X.env = [(false, eval a X.env)] := by rfl) : MI g W X tg (.Call (.Name "range" p) [a] [] pos) (iRange ca) :=
  piI (pi_range1 hg hm ha hs) fun σ H R q => by
    obtain ⟨ι, m, ρ, r, s, hc, ho, hx⟩ := q
    refine useA s hc hx fun ι1 m1 ds vs H1 e1 s1 rv hl hk => ?_
    split at hk
    · rename_i j
      split at hk
      · rename_i hj
        cases hk
        cases rv with | cons r1 t =>
        cases t
        cases r1
        exact ⟨j, rfl, hj.1, hj.2, ho _ _ rfl ι1 _ H1 e1 s1.hr walkM_rg⟩
      · cases hk
    · cases hl
    · cases hk
theorem mi_range2 {a b : Expr} {ca : Mv (List D)} (hg : Gl X "range") (hm : X.mg "range" = none) (ha : MA g W X [a, b] 2 ca) (hs : starEach [a, b] X.env = [(false, eval a X.env), (false, eval b X.env)] := by rfl) (hs2 : starEach [b] X.env = [(false, eval b X.env)] := by rfl) :
    MI g W X tg (.Call (.Name "range" p) [a, b] [] pos) (iRange ca) :=
  piI (pi_range2 hg hm ha hs hs2) fun σ H R q => by
    obtain ⟨ι, m, ρ, r, s, hc, ho, hx⟩ := q
    refine useA s hc hx fun ι1 m1 ds vs H1 e1 s1 rv hl hk => ?_
    split at hk
    · cases hl
    · rename_i i j
      split at hk
      · rename_i hj
        cases hk
        cases rv with | cons r1 t => cases t with | cons r2 t2 =>
        cases t2
        cases r1; cases r2
        exact ⟨i, j, rfl, hj, ho _ _ rfl ι1 _ H1 e1 s1.hr walkM_rg⟩
      · cases hk
    · cases hk
theorem walkM_enum {ι0 : List Addr} {H0 : Hp} {n k : Nat} {a : Addr} (hi : ι0[n]? = some a) : WalkM g ι0 H0 (itLst n k fun i x => .tup [.int (i : Nat), x]) (Ite g.K a) := by
  refine ⟨fun ι m H i d ex hr hl h => ?_, fun ι m H ex hr h => ?_⟩
  · obtain ⟨t, rfl⟩ := ex.pre
    have hi' : (ι0 ++ t)[n]? = some a := by rw [List.getElem?_append_left (List.getElem?_eq_some_iff.mp hi).1]; exact hi
    simp only [itLst] at h
    split at h
    · rename_i xs q
      split at h
      · obtain ⟨vs, hs, t⟩ := hr.seqL q hi'
        cases q2 : xs[i]? with
        | none => rw [q2] at h; cases h
        | some y =>
          rw [q2] at h; cases h
          obtain ⟨v, hv, rv⟩ := t.get q2
          exact ⟨⟨vs, v, hs, hv⟩, fun z H' ⟨T, x, e1, hT, e2, hy⟩ => by
            have := hy vs hs
            rw [hv] at this; cases this
            subst e1; subst e2
            exact ⟨ext_side hT, hr.side hT, .tup upd_same (.cons (.int _) (.cons (rv.ext hr (ext_side hT)) .nil))⟩⟩
      · cases h
    · cases h
  · obtain ⟨t, rfl⟩ := ex.pre
    have hi' : (ι0 ++ t)[n]? = some a := by rw [List.getElem?_append_left (List.getElem?_eq_some_iff.mp hi).1]; exact hi
    simp only [itLst] at h
    split at h
    · rename_i xs q
      obtain ⟨vs, hs, t⟩ := hr.seqL q hi'
      have : xs.length = k := by simpa using h
      exact ⟨vs, hs, by rw [← t.length, this]; exact Nat.le_refl _⟩
    · cases h
end

/-! ### for -/
def forL (it : Wk) (tg : Mg) (body : Ms) : Nat → Nat → Ro → Hm → Option Ou
  | 0, _, ρ, m => if it.fin m = true then some (.nx ρ m) else none
  | k + 1, i, ρ, m => match it.at_ i m with
    | none => none
    | some d => match tg d ρ m with
      | none => none
      | some (ρ1, m1) => match body ρ1 m1 with
        | some (.nx ρ2 m2) => forL it tg body k (i + 1) ρ2 m2
        | some (.ct ρ2 m2) => forL it tg body k (i + 1) ρ2 m2
        | some (.bk ρ2 m2) => some (.nx ρ2 m2)
        | o => o
def sFor (it : Mi_) (tg : Mg) (body : Ms) : Ms := fun ρ m => bndS (it ρ m) ρ fun w m1 => forL w tg body w.n 0 ρ m1
section
variable {g : Lk} {W : WX} {X : Cx} {tg iter : Expr} {pos : Pos} {ci : Mi_} {cg : Mg} {ws : List Nat} {body : List Stmt} {cb : Ms}
theorem for_turns {ι0 : List Addr} {H0 : Hp} {w : Wk} {J : It} (wm : WalkM g ι0 H0 w J) {o : Ou} {D : Ends} (p : PostS g W ι0 H0 o D) {m0 : Hm} {ρ0 : Ro} {σ0 : L2.St} (s0 : SR g ι0 m0 ρ0 σ0 H0) (h : forL w cg cb w.n 0 ρ0 m0 = some o) :
    ∃ W_ : Nat → Nat → L2.St → Hp → Prop, (∃ m, W_ 0 m σ0 H0) ∧ ∀ i m σ H, W_ i m σ H →
      (J.stop i H ∧ D.nx σ H) ∨ (J.go i H ∧ ∃ N : L2.St → Hp → Prop, (∀ σ' H', N σ' H' → ∃ m', m' < m ∧ W_ (i + 1) m' σ' H') ∧ ∀ x H', J.yld i H x H' → liftG g ws cg x σ H' fun σ2 H2 => liftS g W cb { D with nx := N, ct := N, bk := D.nx } σ2 H2) := by
  refine ⟨fun i k σ H => i + k = w.n ∧ ∃ ι m ρ, Ext ι0 H0 ι H ∧ SR g ι m ρ σ H ∧ forL w cg cb k i ρ m = some o, ⟨w.n, by simp, ι0, m0, ρ0, Ext.refl _ _, s0, h⟩, ?_⟩
  rintro i k σ H ⟨hk, ι, m, ρ, ex, s, hf⟩
  cases k with
  | zero =>
    have hi : i = w.n := by omega
    simp only [forL] at hf
    split at hf
    · rename_i hfin
      cases hf
      subst hi
      exact .inl ⟨wm.stop ι m H (ex.gr s0.hr) s.hr hfin, p ι σ H ex s⟩
    · cases hf
  | succ k =>
    simp only [forL] at hf
    split at hf
    · cases hf
    · rename_i d hd
      obtain ⟨go, yl⟩ := wm.go ι m H i d (ex.gr s0.hr) s.hr (by omega) hd
      refine .inr ⟨go, fun σ' H' => i + 1 + k = w.n ∧ ∃ ι m ρ, Ext ι0 H0 ι H' ∧ SR g ι m ρ σ' H' ∧ forL w cg cb k (i + 1) ρ m = some o, fun σ' H' n => ⟨k, Nat.lt_succ_self k, n⟩, fun x H1 hy => ?_⟩
      obtain ⟨e1, hr1, rx⟩ := yl x H1 hy
      split at hf
      · cases hf
      · rename_i ρ1 m1 hg
        refine ⟨ι, m, ρ, d, ρ1, m1, s.ext e1 hr1, rx, hg, fun ι2 σ2 H2 e2 s2 _ => ?_⟩
        have e02 := (ex.trans e1).trans e2
        cases q : cb ρ1 m1 with
        | none => rw [q] at hf; cases hf
        | some z =>
          rw [q] at hf
          refine ⟨ι2, m1, ρ1, z, s2, q, ?_⟩
          cases z with
          | nx ρ2 m2 => exact fun ι' σ' H' e3 s3 => ⟨by omega, ι', m2, ρ2, e02.trans e3, s3, hf⟩
          | ct ρ2 m2 => exact fun ι' σ' H' e3 s3 => ⟨by omega, ι', m2, ρ2, e02.trans e3, s3, hf⟩
          | bk ρ2 m2 =>
            cases hf
            exact fun ι' σ' H' e3 s3 => p ι' σ' H' (e02.trans e3) s3
          | rt d2 m2 =>
            cases hf
            exact fun ι' v H' e3 hr rv => p ι' v H' (e02.trans e3) hr rv
          | ex y ρ2 m2 =>
            cases hf
            exact fun ι' c dd σ' H' e3 s3 er => p ι' c dd σ' H' (e02.trans e3) s3 er
theorem ms_for (hp : PassesOwn (model X.prog X.w) X.A X.env X.xe) (hc : X.calm = true) (hi : MI g W X tg iter ci) (hg : MG g X tg ws cg) (hb : MSs g W X body cb)
    (hs : ∀ x, foldedSetIterable iter X.env x = pure x := by intro _; rfl) : MS g W X (.For tg iter body [] pos) (sFor ci cg cb) := psI (ps_for hp hc hi hg hb hs) fun D σ H q => by
  obtain ⟨ι, m, ρ, o, s, hc, p⟩ := q
  refine useIS s hc p fun ι1 m1 w J H1 e1 s1 wm hk => ?_
  exact for_turns wm (p.ext e1) s1 hk
/-! ### while -/
/-- more turns than any loop here takes -/
def fuelW : Nat := 2 ^ 64
def whL (t : Mv Bool) (body : Ms) : Nat → Ro → Hm → Option Ou
  | 0, _, _ => none
  | k + 1, ρ, m => bndS (t ρ m) ρ fun b m1 => if b = true then match body ρ m1 with
      | some (.nx ρ2 m2) => whL t body k ρ2 m2
      | some (.ct ρ2 m2) => whL t body k ρ2 m2
      | some (.bk ρ2 m2) => some (.nx ρ2 m2)
      | o => o
    else some (.nx ρ m1)
def sWhile (t : Mv Bool) (body : Ms) : Ms := fun ρ m => whL t body fuelW ρ m
theorem ms_while {c : Expr} {t : Mv Bool} (hp : PassesOwn (model X.prog X.w) X.A X.env X.xe) (hc : MT g W X c t) (hb : MSs g W X body cb) : MS g W X (.While c body [] pos) (sWhile t cb) := psI (ps_while hp hc hb) fun D σ H q => by
  obtain ⟨ι, m, ρ, o, s, hc, p⟩ := q
  refine ⟨fun k σ' H' => ∃ ι' m' ρ', Ext ι H ι' H' ∧ SR g ι' m' ρ' σ' H' ∧ whL t cb k ρ' m' = some o, ⟨fuelW, ι, m, ρ, Ext.refl _ _, s, hc⟩, ?_⟩
  rintro k σ1 H1 ⟨ι1, m1, ρ1, e1, s1, h1⟩
  cases k with
  | zero => cases h1
  | succ k =>
    simp only [whL] at h1
    refine useTS s1 h1 (p.ext e1) fun ι2 m2 b H2 e2 s2 hk => ?_
    cases b with
    | false =>
      rw [if_neg Bool.false_ne_true] at hk ⊢
      cases hk
      exact p ι2 σ1 H2 (e1.trans e2) s2
    | true =>
      rw [if_pos rfl] at hk ⊢
      refine ⟨fun σ' H' => ∃ ι' m' ρ', Ext ι H ι' H' ∧ SR g ι' m' ρ' σ' H' ∧ whL t cb k ρ' m' = some o, fun σ' H' n => ⟨k, Nat.lt_succ_self k, n⟩, ?_⟩
      have e02 := e1.trans e2
      cases q : cb ρ1 m2 with
      | none => rw [q] at hk; cases hk
      | some z =>
        rw [q] at hk
        refine ⟨ι2, m2, ρ1, z, s2, q, ?_⟩
        cases z with
        | nx ρ2 m2 => exact fun ι' σ' H' e3 s3 => ⟨ι', m2, ρ2, e02.trans e3, s3, hk⟩
        | ct ρ2 m2 => exact fun ι' σ' H' e3 s3 => ⟨ι', m2, ρ2, e02.trans e3, s3, hk⟩
        | bk ρ2 m2 =>
          cases hk
          exact fun ι' σ' H' e3 s3 => p ι' σ' H' (e02.trans e3) s3
        | rt d2 m2 =>
          cases hk
          exact fun ι' v H' e3 hr rv => p ι' v H' (e02.trans e3) hr rv
        | ex y ρ2 m2 =>
          cases hk
          exact fun ι' c dd σ' H' e3 s3 er => p ι' c dd σ' H' (e02.trans e3) s3 er
end
end Mi
namespace Mi
open PySem PySem.Spec PyProof.Rows L2

/-! ## enumerate and zip of lists and tuples in any mix -/
inductive SK where
  | lst | tup
def SqX : SK → PySem.W.Frag → Hp → Addr → List V → Prop
  | .lst => SqL
  | .tup => SqT
def ItX : SK → Heap → Addr → Addr → Nat → Prop
  | .lst => fun h it a i => h.IsListIter it a i
  | .tup => fun h it a i => h.IsTupleIter it a i
def ObX : SK → Heap → Addr → List Value → Prop
  | .lst => fun h a its => PlainL h a its.toArray
  | .tup => fun h a its => IsTup h a its.toArray
def DrX (k : SK) (it a : Addr) (its : List Value) : Nat → Heap → Prop := fun i h => ItX k h it a i ∧ match k with
  | .lst => h.IsList a its.toArray
  | .tup => h.IsTuple a its.toArray
theorem drX {prog : Program} {w : World} {A : Around} (hh : A.handled = none) (k : SK) (it a : Addr) (hne : a ≠ it) (its : List Value) :
    Draws prog w A it [it, a] its.length (fun i v => its[i]? = some v) (DrX k it a its) := by
  cases k with
  | lst =>
    have d := Draws.list (prog := prog) (w := w) hh it a hne its.toArray
    refine ⟨d.live, d.frame, fun i s Q E hi st hQ => d.item i s Q E (by simpa using hi) st fun x h' tk hx => hQ x h' tk (by simpa using hx), fun s Q E st => d.done s Q E (by rw [show its.toArray.size = its.length by simp]; exact st)⟩
  | tup =>
    have d := Draws.tuple (prog := prog) (w := w) hh it a hne its.toArray
    refine ⟨d.live, d.frame, fun i s Q E hi st hQ => d.item i s Q E (by simpa using hi) st fun x h' tk hx => hQ x h' tk (by simpa using hx), fun s Q E st => d.done s Q E (by rw [show its.toArray.size = its.length by simp]; exact st)⟩
section
variable {X : Cx} {pins : List (Addr × Obj)} {σ : L2.St} {H : Hp} {s : Shared} {a it : Addr} {xs ys : List V} {k : SK}
theorem sqX_get (I : Inv X pins σ H s) (h : SqX k X.K H a xs) : ∃ its : List Value, Vals xs its ∧ ∀ i it, ItX k s.heap it a i → DrX k it a its i s.heap := by
  cases k with
  | lst => obtain ⟨its, rv, p, _⟩ := I.list h; exact ⟨its, rv, fun i it q => ⟨q, p.isList⟩⟩
  | tup => obtain ⟨its, rv, p, _⟩ := I.tuple h; exact ⟨its, rv, fun i it q => ⟨q, p⟩⟩
theorem sqX_inj (I : Inv X pins σ H s) (h : SqX k X.K H a xs) (h' : SqX k X.K H a ys) : xs = ys := by
  cases k with
  | lst => exact I.list_inj h h'
  | tup => exact I.tuple_inj h h'
theorem itX_lt {h : Heap} {i : Nat} (q : ItX k h it a i) : it < h.objs.size := by
  cases k with
  | lst => obtain ⟨_, e, _⟩ := q; exact Heap.lt_size e
  | tup => obtain ⟨_, e, _⟩ := q; exact Heap.lt_size e
theorem itX_obj {h : Heap} {i : Nat} (q : ItX k h it a i) : ∃ o, h.get? it = some o ∧ ∀ v, o.data ≠ .cell v := by
  cases k with
  | lst => obtain ⟨o, e, _, d⟩ := q; exact ⟨o, e, fun v z => by rw [d] at z; cases z⟩
  | tup => obtain ⟨o, e, _, d⟩ := q; exact ⟨o, e, fun v z => by rw [d] at z; cases z⟩
theorem itX_at {h h' : Heap} {i : Nat} (q : ItX k h it a i) (e : ∀ o, h.get? it = some o → h'.get? it = some o) : ItX k h' it a i := by
  cases k with
  | lst => exact q.at e
  | tup => exact q.at e
end
/-- enumerate -/
def IteX (k : SK) (K : PySem.W.Frag) (a : Addr) : It :=
  ⟨fun i H => ∃ (xs : List V) (x : V), SqX k K H a xs ∧ xs[i]? = some x, fun i H v H' => ∃ T x, v = .ref T ∧ H T = none ∧ H' = upd H T (.tup [.int (i : Nat), x]) ∧ ∀ xs, SqX k K H a xs → xs[i]? = some x, fun i H => ∃ xs : List V, SqX k K H a xs ∧ xs.length = i⟩
theorem turn_enX {P : Program} {w : World} {K : PySem.W.Frag} {elts : List Expr} {kk : Nat} {tpos : Pos} (k : SK) (a e it : Addr) (hne : e ≠ it) (hai : a ≠ it) (hea : e ≠ a) :
    Turn P w K (.Tuple elts kk tpos) (IteX k K a) [e, it] e (fun i h => (∃ old, IsEnum h e it ((i : Nat) : Int) old) ∧ ItX k h it a i) where
  mem := by simp
  obj := fun i h ⟨⟨old, he⟩, hi⟩ b hb => by
    rcases (by simpa using hb : b = e ∨ b = it) with z | z
    · subst z; exact ⟨_, he, fun v q => nomatch q⟩
    · subst z; exact itX_obj hi
  keep := fun i h h' ⟨⟨old, he⟩, hi⟩ q => ⟨⟨old, q e (by simp) _ he⟩, itX_at hi fun o z => q it (by simp) o z⟩
  item := by
    intro X hP hw hK hc i pins s σ H E I hf ⟨⟨old, he⟩, hit⟩ ⟨xs, x, hq, hx⟩
    subst hP hw hK
    obtain ⟨its, rv, dr⟩ := sqX_get I hq
    obtain ⟨u, hu, ru⟩ := rv.get hx
    have hel : e < s.heap.objs.size := Heap.lt_size he
    have hil := itX_lt hit
    have D := drX (prog := X.prog) (w := X.w) (A := X.A.in1) (I.ok.hd hc) k it a hai its
    refine wpAny_pyNext_enum_itemD D he (dr i it hit) (List.getElem?_eq_some_iff.mp hu).1 hne (by simp [hne, hea]) fun u' h' tk hu' ho hs' hT hsz hk => ?_
    have eu : u' = u := by rw [hu] at hu'; exact (Option.some.inj hu').symm
    subst eu
    refine ⟨_, rfl, wpAny_letOwnedTupleGo_enum (s := { s with heap := h', toks := tk + 1 }) ho fun h'' he' sb => ?_⟩
    have hT2 : h''.get? s.heap.objs.size = some { cls := .type "tuple", data := .seq #[.int i tk, u'] } := (sb.2 _ (Nat.ne_of_gt hel)).trans hT
    have new : ObjOk X.prog X.w (upd H s.heap.objs.size (.tup [.int (i : Nat), x])) h'' s.heap.objs.size (.tup [.int (i : Nat), x]) := ⟨by show 2 ≤ sizeLine; decide, [.int i tk, u'], .cons ⟨_, rfl⟩ (.cons ru .nil), ⟨_, hT2, rfl, _, rfl⟩⟩
    have I1 : Inv X pins σ (upd H s.heap.objs.size (.tup [.int (i : Nat), x])) { s with heap := h'', toks := tk + 1 } := I.turnedNew (ch := [e, it]) (fun b ob hb q => (sb.2 b (fun z => hb (by simp [z]))).trans (hk b ob (fun z => hb (by simp [z])) (fun z => hb (by simp [z])) q)) hf (Nat.le_refl _) new
    have e1 : ((i + 1 : Nat) : Int) = (i : Int) + 1 := by omega
    refine ⟨.ref s.heap.objs.size, _, I1, rfl, ⟨_, x, rfl, I.hok.fresh (Nat.le_refl _), rfl, fun ys hy => by rw [sqX_inj I hy hq]; exact hx⟩, ⟨⟨u', by rw [e1]; exact he'⟩, itX_at hs'.1 fun o q => (sb.2 it (Ne.symm hne)).trans q⟩, fun b hb => ?_⟩
    have hb' : b < s.heap.objs.size := by
      rcases (by simpa using hb : b = e ∨ b = it) with z | z
      · rw [z]; exact hel
      · rw [z]; exact hil
    rw [upd_ne (Nat.ne_of_lt hb')]; exact (hf b hb).1
  done := by
    intro X hP hw hK hc i pins s σ H E I hf ⟨⟨old, he⟩, hit⟩ ⟨xs, hq, hx⟩
    subst hP hw hK
    obtain ⟨its, rv, dr⟩ := sqX_get I hq
    obtain ⟨f0, f1, f2, f3, f4, f5⟩ := hf it (by simp)
    have hl := rv.length
    have D := drX (prog := X.prog) (w := X.w) (A := X.A.in1) (I.ok.hd hc) k it a hai its
    have st : DrX k it a its its.length s.heap := by rw [← hl, hx]; exact dr i it hit
    exact wpAny_pyNext_enum_endD D he st fun h' eb => ⟨rfl, I.turned (t' := s.toks) (fun b o hb q => eb b o hb q) f0 f1 f3 f4 f5⟩
  self := fun A i s Q E st h => let ⟨⟨_, he⟩, _⟩ := st; wpAny_pyIter_enum he h
/-- zip -/
def ItzX (k1 k2 : SK) (K : PySem.W.Frag) (a b : Addr) : It :=
  ⟨fun i H => ∃ (xs ys : List V) (x y : V), SqX k1 K H a xs ∧ SqX k2 K H b ys ∧ xs[i]? = some x ∧ ys[i]? = some y,
    fun i H v H' => ∃ T x y, v = .ref T ∧ H T = none ∧ H' = upd H T (.tup [x, y]) ∧ (∀ xs, SqX k1 K H a xs → xs[i]? = some x) ∧ ∀ ys, SqX k2 K H b ys → ys[i]? = some y,
    fun i H => ∃ xs ys : List V, SqX k1 K H a xs ∧ SqX k2 K H b ys ∧ i = min xs.length ys.length⟩
theorem turn_ziX {P : Program} {w : World} {K : PySem.W.Frag} {elts : List Expr} {kk : Nat} {tpos : Pos} {k1 k2 : SK} {a b z TI TO i1 i2 : Addr} (S : ZipSep2 z TI TO i1 i2 [i1, a] [i2, b]) (ha1 : a ≠ i1) (hb2 : b ≠ i2) :
    Turn P w K (.Tuple elts kk tpos) (ItzX k1 k2 K a b) [z, TI, TO, i1, i2] z (fun i h => IsZip h z TI TO .none ∧ IsTupOf2 h TI (.ref i1) (.ref i2) ∧ (∃ x y, IsTupOf2 h TO x y) ∧ ItX k1 h i1 a i ∧ ItX k2 h i2 b i) where
  mem := by simp
  obj := fun i h ⟨hz, hTI, ⟨x, y, hTO⟩, h1, h2⟩ c hc => by
    rcases (by simpa using hc : c = z ∨ c = TI ∨ c = TO ∨ c = i1 ∨ c = i2) with q | q | q | q | q
    · subst q; exact ⟨_, hz, fun v q => nomatch q⟩
    · subst q; exact ⟨_, hTI, fun v q => nomatch q⟩
    · subst q; exact ⟨_, hTO, fun v q => nomatch q⟩
    · subst q; exact itX_obj h1
    · subst q; exact itX_obj h2
  keep := fun i h h' ⟨hz, hTI, ⟨x, y, hTO⟩, h1, h2⟩ q => ⟨q z (by simp) _ hz, q TI (by simp) _ hTI, ⟨x, y, q TO (by simp) _ hTO⟩, itX_at h1 fun o w => q i1 (by simp) o w, itX_at h2 fun o w => q i2 (by simp) o w⟩
  item := by
    intro X hP hw hK hc i pins s σ H E I hf ⟨hz, hTI, ⟨x0, y0, hTO⟩, h1, h2⟩ ⟨xs, ys, x, y, hqx, hqy, hx, hy⟩
    subst hP hw hK
    obtain ⟨its, rv, dr⟩ := sqX_get I hqx
    obtain ⟨its2, rv2, dr2⟩ := sqX_get I hqy
    obtain ⟨u, hu, ru⟩ := rv.get hx
    obtain ⟨u2, hu2, ru2⟩ := rv2.get hy
    have hzl : z < s.heap.objs.size := Heap.lt_size hz
    have D1 := drX (prog := X.prog) (w := X.w) (A := X.A.in1) (I.ok.hd hc) k1 i1 a ha1 its
    have D2 := drX (prog := X.prog) (w := X.w) (A := X.A.in1) (I.ok.hd hc) k2 i2 b hb2 its2
    refine wpAny_pyNext_zipD2_item S D1 D2 hz hTI hTO (dr i i1 h1) (dr2 i i2 h2) (List.getElem?_eq_some_iff.mp hu).1 (List.getElem?_eq_some_iff.mp hu2).1 fun w1 w2 h' tk p1 p2 z' TO' s1' s2' hT hsz hk => ?_
    have eu : w1 = u := by rw [hu] at p1; exact (Option.some.inj p1).symm
    have eu2 : w2 = u2 := by rw [hu2] at p2; exact (Option.some.inj p2).symm
    subst eu; subst eu2
    refine ⟨_, rfl, wpAny_letOwnedTupleGo_zip (s := { s with heap := h', toks := tk }) z' fun h'' z'' sb => ?_⟩
    have hT2 : h''.get? s.heap.objs.size = some { cls := .type "tuple", data := .seq #[w1, w2] } := (sb.2 _ (Nat.ne_of_gt hzl)).trans hT
    have new : ObjOk X.prog X.w (upd H s.heap.objs.size (.tup [x, y])) h'' s.heap.objs.size (.tup [x, y]) := ⟨by show 2 ≤ sizeLine; decide, [w1, w2], .cons ru (.cons ru2 .nil), ⟨_, hT2, rfl, _, rfl⟩⟩
    have I1 : Inv X pins σ (upd H s.heap.objs.size (.tup [x, y])) { s with heap := h'', toks := tk } :=
      I.turnedNew (ch := [z, TI, TO, i1, i2]) (fun c o hb q => (sb.2 c (fun q' => hb (by simp [q']))).trans (hk c o (fun q' => hb (by simp [q'])) (fun q' => hb (by simp [q'])) (fun q' => hb (by simp [q'])) (fun q' => hb (by simp [q'])) q)) hf (Nat.le_refl _) new
    refine ⟨.ref s.heap.objs.size, _, I1, rfl, ⟨_, x, y, rfl, I.hok.fresh (Nat.le_refl _), rfl, fun l hl => by rw [sqX_inj I hl hqx]; exact hx, fun l hl => by rw [sqX_inj I hl hqy]; exact hy⟩,
      ⟨z'', (sb.2 _ S.TIz).trans (hk _ _ S.TIz S.TITO S.TIi1 S.TIi2 hTI), ⟨w1, w2, (sb.2 _ S.TOz).trans TO'⟩, itX_at s1'.1 fun o q => (sb.2 _ S.zi1.symm).trans q, itX_at s2'.1 fun o q => (sb.2 _ S.zi2.symm).trans q⟩, fun c hcm => ?_⟩
    have hlt : c < s.heap.objs.size := by
      rcases (by simpa using hcm : c = z ∨ c = TI ∨ c = TO ∨ c = i1 ∨ c = i2) with q | q | q | q | q
      · rw [q]; exact hzl
      · rw [q]; exact Heap.lt_size hTI
      · rw [q]; exact Heap.lt_size hTO
      · rw [q]; exact itX_lt h1
      · rw [q]; exact itX_lt h2
    rw [upd_ne (Nat.ne_of_lt hlt)]; exact (hf c hcm).1
  done := by
    intro X hP hw hK hc i pins s σ H E I hf ⟨hz, hTI, ⟨x0, y0, hTO⟩, h1, h2⟩ ⟨xs, ys, hqx, hqy, hend⟩
    subst hP hw hK
    obtain ⟨its, rv, dr⟩ := sqX_get I hqx
    obtain ⟨its2, rv2, dr2⟩ := sqX_get I hqy
    have l1 := rv.length
    have l2 := rv2.length
    have D1 := drX (prog := X.prog) (w := X.w) (A := X.A.in1) (I.ok.hd hc) k1 i1 a ha1 its
    have D2 := drX (prog := X.prog) (w := X.w) (A := X.A.in1) (I.ok.hd hc) k2 i2 b hb2 its2
    exact wpAny_pyNext_zipD2_end S D1 D2 hz hTI hTO (dr i i1 h1) (dr2 i i2 h2) (by omega) (by omega) (by omega) fun h' tk hk => ⟨rfl, I.turnedL (t' := tk) (ch := [z, TI, TO, i1, i2]) (fun c o hb q =>
      hk c o (fun q' => hb (by simp [q'])) (fun q' => hb (by simp [q'])) (fun q' => hb (by simp [q'])) (fun q' => hb (by simp [q'])) q) hf⟩
  self := fun A i s Q E st h => wpAny_pyIter_zip st.1 h

/-! ### their beginnings -/
abbrev enRec (n : Nat) : Obj := { cls := .type "enumerate", data := .fields #[.none, .bool false, .ref n, rawInt 0, .none, .none] }
set_option maxHeartbeats 1000000 in
theorem enum_new1 {v : Value} {o : Obj} {G : Heap → Prop} (B : Begins v o G) :
    Meets (Builtin.«enumerate.__new__» ⟨[.type "enumerate", v], []⟩) (fun _ R s => G s.heap ∧ R (.ok (.ret (.ref (s.heap.push o).objs.size))) { s with heap := (s.heap.push o).push (enRec s.heap.objs.size) }) :=
  .of_wp fun prog w A R s h => by
    obtain ⟨hp, gs, dr, tk, os⟩ := s; obtain ⟨h1, hz⟩ := h
    have hsub := sub_enumerate
    have q1 : ∀ {A' : Around} {E : Value → Shared → Prop} {Q : Value → Shared → Prop}, Q (.ref hp.objs.size) ⟨hp.push o, gs, dr, tk, os⟩ → wpAny (model prog w) A' (pyIter v) Q E ⟨hp, gs, dr, tk, os⟩ := fun q => B.iter prog w _ _ ⟨hp, gs, dr, tk, os⟩ _ h1 q
    wp_walk using q1
    refine wpAny_stack_any fun stk => wpAny_pure ?_
    split
    · rename_i c _ _ _ _ _
      cases (c == Value.type "enumerate") <;> (wp_walk using q1; exact ⟨_, rfl, hz⟩)
    · wp_walk using q1
      exact ⟨_, rfl, hz⟩
theorem enum_beg1 {prog : Program} {w : World} {A : Around} {E : Value → Shared → Prop} {s : Shared} {v : Value} {o : Obj} {G : Heap → Prop} {Q : Value → Shared → Prop} (B : Begins v o G) (h1 : G s.heap)
    (hq : ∀ h', IsEnum h' (s.heap.objs.size + 1) s.heap.objs.size 0 .none → h'.get? s.heap.objs.size = some o → (∀ c u, s.heap.get? c = some u → h'.get? c = some u) → Q (.ref (s.heap.objs.size + 1)) { s with heap := h' }) :
    wpAny (model prog w) A (call (.type "enumerate") [v]) Q E s := by
  refine callType_new F.called_enumerate (by decide) (F.typeCall_enumerate_1 _) (F.newCall_enumerate_1 _) (fun obj => F.args_object_init_2 obj _) F.entry_enumerate_new (enum_new1 B) ⟨h1, ?_⟩
  have hz : (s.heap.push o).objs.size = s.heap.objs.size + 1 := Heap.size_push ..
  show _ ∧ _
  rw [hz]
  have he : IsEnum ((s.heap.push o).push (enRec s.heap.objs.size)) (s.heap.objs.size + 1) s.heap.objs.size 0 .none := by
    have z := Heap.get?_push_size (s.heap.push o) (o := enRec s.heap.objs.size) rfl
    rw [hz] at z; exact z
  exact ⟨⟨_, he, rfl⟩, hq _ he (Heap.get?_push_of_some _ (Heap.get?_push_size _ B.free)) fun c u x => Heap.get?_push_of_some _ (Heap.get?_push_of_some _ x)⟩
def iEnX (K : PySem.W.Frag) (ta : TA) : TI := fun σ H R => ta σ H fun vs H1 => ∃ k a xs, vs = [.ref a] ∧ SqX k K H1 a xs ∧ R (IteX k K a) H1
def iZiX (K : PySem.W.Frag) (ta : TA) : TI := fun σ H R => ta σ H fun vs H1 => ∃ k1 k2 a b xs ys, vs = [.ref a, .ref b] ∧ SqX k1 K H1 a xs ∧ SqX k2 K H1 b ys ∧ R (ItzX k1 k2 K a b) H1
def itObj : SK → Addr → Obj
  | .lst, a => { cls := .type "list_iterator", data := .fields #[.ref a, .int 0 0] }
  | .tup, a => { cls := .type "tuple_iterator", data := .fields #[.ref a, .int 0 0] }
theorem itObj_at {k : SK} {h : Heap} {it a : Addr} (e : h.get? it = some (itObj k a)) : ItX k h it a 0 := by
  cases k with
  | lst => exact ⟨_, e, rfl, rfl⟩
  | tup => exact ⟨_, e, rfl, rfl⟩
def BgX (k : SK) (a : Addr) (its : List Value) (h : Heap) : Prop := match k with
    | .lst => h.IsList a its.toArray
    | .tup => h.IsTuple a its.toArray
theorem begX (k : SK) (a : Addr) (its : List Value) : Begins (.ref a) (itObj k a) (BgX k a its) := by
  cases k with
  | lst => exact begins_list a its.toArray
  | tup => exact begins_tuple a its.toArray
theorem sqX_beg {X : Cx} {pins : List (Addr × Obj)} {σ : L2.St} {H : Hp} {s : Shared} {a : Addr} {xs : List V} {k : SK} (I : Inv X pins σ H s) (h : SqX k X.K H a xs) :
    ∃ its : List Value, a < s.heap.objs.size ∧ BgX k a its s.heap := by
  cases k with
  | lst => obtain ⟨its, rv, p, _⟩ := I.list h; exact ⟨its, p.lt, p.isList⟩
  | tup => obtain ⟨its, rv, p, _⟩ := I.tuple h; obtain ⟨o, e, _⟩ := id p; exact ⟨its, Heap.lt_size e, p⟩
section
variable {X : Cx} {e e2 : Expr} {ta : TA} {p pos tpos : Pos} {elts : List Expr} {kk : Nat}
theorem pi_enX (hg : Gl X "enumerate") (hm : X.mg "enumerate" = none) (ha : PA X [e] ta) (hs : starEach [e] X.env = [(false, eval e X.env)] := by rfl) :
    PI X (.Tuple elts kk tpos) (.Call (.Name "enumerate" p) [e] [] pos) (iEnX X.K ta) := ⟨fun pins s σ H R I h => by
  refine Call_ (ld_blt I hg hm boot_enumerate (PyProof.Rows.callWith_type1 (thn (ha.run pos pins s σ H _ I h) fun us s1 ⟨vs, H1, I1, r1, k, a, xs, ex, hq, q⟩ => ?_) hs rfl))
  subst ex
  cases r1 with
  | cons r rr =>
    cases rr
    cases r
    obtain ⟨its, hlt, hb⟩ := sqX_beg I1 hq
    refine enum_beg1 (begX k a its) hb fun h' he hi hk => wpAny_pyIter_enum he ?_
    have I2 : Inv X pins σ H1 { s1 with heap := h' } := I1.kept (t' := s1.toks) hk
    refine ⟨s1.heap.objs.size + 1, [s1.heap.objs.size + 1, s1.heap.objs.size], _, _, H1, rfl, I2, turn_enX k a (s1.heap.objs.size + 1) s1.heap.objs.size (Nat.succ_ne_self _) (Nat.ne_of_lt hlt) (Nat.ne_of_gt (Nat.lt_succ_of_lt hlt)), ⟨⟨.none, he⟩, itObj_at hi⟩, fun b hb => ?_, q⟩
    have hle : s1.heap.objs.size ≤ b := by
      rcases (by simpa using hb : b = s1.heap.objs.size + 1 ∨ b = s1.heap.objs.size) with z | z
      · rw [z]; exact Nat.le_add_right _ _
      · rw [z]; exact Nat.le_refl _
    exact I1.fpOk hle (I1.hok.fresh hle)⟩
theorem zsep (n a b : Nat) (ha : a < n) (hb : b < n) : ZipSep2 (n + 4) (n + 2) (n + 3) n (n + 1) [n, a] [n + 1, b] := by
  refine ⟨?_, ?_, ?_, ?_, ?_, ?_, ?_, ?_, ?_, ?_, ?_, ?_, ?_⟩
  all_goals first
    | exact (List.mem_cons_self ..)
    | (intro q; have q' : (_ : Nat) = _ := q; omega)
    | (simp only [List.mem_cons, List.not_mem_nil, or_false, not_or]; refine ⟨?_, ?_⟩ <;> (intro q; have q' : (_ : Nat) = _ := q; omega))
theorem pi_ziX (hg : Gl X "zip") (hm : X.mg "zip" = none) (ha : PA X [e, e2] ta) (hs : starEach [e, e2] X.env = (false, eval e X.env) :: starEach [e2] X.env := by rfl) (hpl : (backTo pos (starEach [e2] X.env)).any (·.1) = false := by rfl) :
    PI X (.Tuple elts kk tpos) (.Call (.Name "zip" p) [e, e2] [] pos) (iZiX X.K ta) := ⟨fun pins s σ H R I h => by
  refine Call_ (ld_blt I hg hm PyProof.Rows.boot_zip (PyProof.Rows.callWith_type1 (thn (ha.run pos pins s σ H _ I h) fun us s1 ⟨vs, H1, I1, r1, k1, k2, a, b, xs, ys, ex, hq, hq2, q⟩ => ?_) hs hpl))
  subst ex
  cases r1 with
  | cons r rr => cases rr with
    | cons r' rr =>
      cases rr
      cases r
      cases r'
      obtain ⟨its, hlt, hb⟩ := sqX_beg I1 hq
      obtain ⟨its2, hlt2, hb2⟩ := sqX_beg I1 hq2
      refine zip_begins2 (begX k1 a its) (begX k2 b its2) hb hb2 fun h' hz hTI hTO h1 h2 hsz hk => wpAny_pyIter_zip hz ?_
      have I2 : Inv X pins σ H1 { s1 with heap := h' } := I1.kept (t' := s1.toks) hk
      refine ⟨s1.heap.objs.size + 4, [s1.heap.objs.size + 4, s1.heap.objs.size + 2, s1.heap.objs.size + 3, s1.heap.objs.size, s1.heap.objs.size + 1], _, _, H1, rfl, I2, turn_ziX (k1 := k1) (k2 := k2) (zsep s1.heap.objs.size a b hlt hlt2) (Nat.ne_of_lt hlt) (Nat.ne_of_lt (Nat.lt_succ_of_lt hlt2)), ⟨hz, hTI, ⟨_, _, hTO⟩, itObj_at h1, itObj_at h2⟩, fun c hcm => ?_, q⟩
      have hle : s1.heap.objs.size ≤ c := by
        rcases (by simpa using hcm : c = s1.heap.objs.size + 4 ∨ c = s1.heap.objs.size + 2 ∨ c = s1.heap.objs.size + 3 ∨ c = s1.heap.objs.size ∨ c = s1.heap.objs.size + 1) with z | z | z | z | z
        all_goals (rw [z]; first | exact Nat.le_refl _ | exact Nat.le_add_right _ _)
      exact I1.fpOk hle (I1.hok.fresh hle)⟩
end

/-! ### on the mirror's side -/
/-- a sequence, to be walked -/
def wkOf (m : Hm) (d : D) : Option Wk := match d with
  | .tup ds => some (itFix ds fun _ x => x)
  | .ref n => (lstOf m n).map fun xs => itLst n xs.length fun _ x => x
  | _ => none
def wkEnum (w : Wk) : Wk := ⟨w.n, fun i m => (w.at_ i m).map fun x => .tup [.int (i : Nat), x], w.fin⟩
def wkZip (u w : Wk) : Wk := ⟨min u.n w.n, fun i m => match u.at_ i m, w.at_ i m with
  | some x, some y => some (.tup [x, y])
  | _, _ => none, fun m => u.fin m && w.fin m⟩
def iEnum' (a : Mv (List D)) : Mi_ := fun ρ m => bnd (a ρ m) fun ds m1 => match ds with
  | [d] => (wkOf m1 d).map fun w => .ok (wkEnum w) m1
  | _ => none
def iZip' (a : Mv (List D)) : Mi_ := fun ρ m => bnd (a ρ m) fun ds m1 => match ds with
  | [d, e] => match wkOf m1 d, wkOf m1 e with
    | some u, some w => some (.ok (wkZip u w) m1)
    | _, _ => none
  | _ => none
/-- what a walked sequence is -/
structure SeqM (g : Lk) (ι0 : List Addr) (H0 : Hp) (w : Wk) (k : SK) (a : Addr) : Prop where
  ex : ∃ xs, SqX k g.K H0 a xs
  at_ : ∀ ι m H i d, Gr ι0 H0 ι H → HR g ι m H → w.at_ i m = some d → ∃ xs v, SqX k g.K H a xs ∧ xs[i]? = some v ∧ RV g ι H d v
  fin : ∀ ι m H, Gr ι0 H0 ι H → HR g ι m H → w.fin m = true → ∃ xs, SqX k g.K H a xs ∧ xs.length = w.n
section
variable {g : Lk} {W : WX} {X : Cx}
theorem seqM_of {ι0 : List Addr} {m0 : Hm} {H0 : Hp} {d : D} {v : V} {w : Wk} (h0 : HR g ι0 m0 H0) (r : RV g ι0 H0 d v) (h : wkOf m0 d = some w) : ∃ k a, v = .ref a ∧ SeqM g ι0 H0 w k a := by
  cases d with
  | tup ds =>
    obtain ⟨a, vs, rfl, s, t⟩ := r.tupI
    simp only [wkOf] at h; cases h
    refine ⟨.tup, a, rfl, ⟨vs, s⟩, fun ι m H i d ex hr h => ?_, fun ι m H ex hr h => ⟨vs, SqT.gr ex s, t.length.symm⟩⟩
    simp only [itFix] at h
    cases q : ds[i]? with
    | none => rw [q] at h; cases h
    | some y =>
      rw [q] at h; cases h
      obtain ⟨v, hv, rv⟩ := t.get q
      exact ⟨vs, v, SqT.gr ex s, hv, rv.gr ex⟩
  | ref n =>
    cases r with | ref hi =>
    rename_i a
    simp only [wkOf] at h
    cases q : lstOf m0 n with
    | none => rw [q] at h; cases h
    | some xs =>
      rw [q] at h; cases h
      obtain ⟨vs, hs, t⟩ := h0.seqL q hi
      refine ⟨.lst, a, rfl, ⟨vs, hs⟩, fun ι m H i d ex hr h => ?_, fun ι m H ex hr h => ?_⟩
      all_goals
        obtain ⟨tl, rfl⟩ := ex.pre
        have hi' : (ι0 ++ tl)[n]? = some a := by rw [List.getElem?_append_left (List.getElem?_eq_some_iff.mp hi).1]; exact hi
        simp only [itLst] at h
      · split at h
        · rename_i ys q2
          split at h
          · obtain ⟨ws, hs', t'⟩ := hr.seqL q2 hi'
            cases q3 : ys[i]? with
            | none => rw [q3] at h; cases h
            | some y =>
              rw [q3] at h; cases h
              obtain ⟨v, hv, rv⟩ := t'.get q3
              exact ⟨ws, v, hs', hv, rv⟩
          · cases h
        · cases h
      · split at h
        · rename_i ys q2
          obtain ⟨ws, hs', t'⟩ := hr.seqL q2 hi'
          exact ⟨ws, hs', by rw [← t'.length]; simpa [itLst] using h⟩
        · cases h
  | _ => simp [wkOf] at h
theorem walkM_enX {ι0 : List Addr} {H0 : Hp} {w : Wk} {k : SK} {a : Addr} (q : SeqM g ι0 H0 w k a) : WalkM g ι0 H0 (wkEnum w) (IteX k g.K a) := by
  refine ⟨fun ι m H i d ex hr hl h => ?_, fun ι m H ex hr h => q.fin ι m H ex hr h⟩
  simp only [wkEnum] at h
  cases e : w.at_ i m with
  | none => rw [e] at h; cases h
  | some y =>
    rw [e] at h; cases h
    obtain ⟨xs, v, hs, hv, rv⟩ := q.at_ ι m H i y ex hr e
    refine ⟨⟨xs, v, hs, hv⟩, fun z H' ⟨T, x, e1, hT, e2, hy⟩ => ?_⟩
    have := hy xs hs
    rw [hv] at this; cases this
    subst e1; subst e2
    exact ⟨ext_side hT, hr.side hT, .tup upd_same (.cons (.int _) (.cons (rv.ext hr (ext_side hT)) .nil))⟩
theorem walkM_ziX {ι0 : List Addr} {H0 : Hp} {u w : Wk} {k1 k2 : SK} {a b : Addr} (q : SeqM g ι0 H0 u k1 a) (q2 : SeqM g ι0 H0 w k2 b) : WalkM g ι0 H0 (wkZip u w) (ItzX k1 k2 g.K a b) := by
  refine ⟨fun ι m H i d ex hr hl h => ?_, fun ι m H ex hr h => ?_⟩
  · simp only [wkZip] at h
    split at h
    · rename_i x y e e2
      cases h
      obtain ⟨xs, v, hs, hv, rv⟩ := q.at_ ι m H i x ex hr e
      obtain ⟨ys, v2, hs2, hv2, rv2⟩ := q2.at_ ι m H i y ex hr e2
      refine ⟨⟨xs, ys, v, v2, hs, hs2, hv, hv2⟩, fun z H' ⟨T, x1, y1, e1, hT, e3, hy, hy2⟩ => ?_⟩
      have z1 := hy xs hs
      have z2 := hy2 ys hs2
      rw [hv] at z1; cases z1
      rw [hv2] at z2; cases z2
      subst e1; subst e3
      exact ⟨ext_side hT, hr.side hT, .tup upd_same (.cons (rv.ext hr (ext_side hT)) (.cons (rv2.ext hr (ext_side hT)) .nil))⟩
    · cases h
  · simp only [wkZip, Bool.and_eq_true] at h
    obtain ⟨xs, hs, l1⟩ := q.fin ι m H ex hr h.1
    obtain ⟨ys, hs2, l2⟩ := q2.fin ι m H ex hr h.2
    exact ⟨xs, ys, hs, hs2, by simp only [wkZip]; rw [l1, l2]⟩
theorem mi_enum (hK : X.K = g.K) {e : Expr} {ca : Mv (List D)} {p pos tpos : Pos} {elts : List Expr} {kk : Nat} (hg : Gl X "enumerate") (hm : X.mg "enumerate" = none) (ha : MA g W X [e] 1 ca) (hs : starEach [e] X.env = [(false, eval e X.env)] := by rfl) :
    MI g W X (.Tuple elts kk tpos) (.Call (.Name "enumerate" p) [e] [] pos) (iEnum' ca) := piI (pi_enX hg hm ha hs) fun σ H R q => by
  obtain ⟨ι, m, ρ, r, s, hc, ho, hx⟩ := q
  refine useA s hc hx fun ι1 m1 ds vs H1 e1 s1 rv hl hk => ?_
  split at hk
  · rename_i d
    cases q : wkOf m1 d with
    | none => rw [q] at hk; cases hk
    | some w =>
      rw [q] at hk; cases hk
      cases rv with | cons r1 t =>
      cases t
      obtain ⟨k, a, rfl, sq⟩ := seqM_of s1.hr r1 q
      obtain ⟨xs, hs⟩ := sq.ex
      exact ⟨k, a, xs, rfl, by rw [hK]; exact hs, by rw [hK]; exact ho _ _ rfl ι1 _ H1 e1 s1.hr (walkM_enX sq)⟩
  · cases hk
theorem mi_zip (hK : X.K = g.K) {e e2 : Expr} {ca : Mv (List D)} {p pos tpos : Pos} {elts : List Expr} {kk : Nat} (hg : Gl X "zip") (hm : X.mg "zip" = none) (ha : MA g W X [e, e2] 2 ca)
    (hs : starEach [e, e2] X.env = (false, eval e X.env) :: starEach [e2] X.env := by rfl) (hpl : (backTo pos (starEach [e2] X.env)).any (·.1) = false := by rfl) :
    MI g W X (.Tuple elts kk tpos) (.Call (.Name "zip" p) [e, e2] [] pos) (iZip' ca) := piI (pi_ziX hg hm ha hs hpl) fun σ H R q => by
  obtain ⟨ι, m, ρ, r, s, hc, ho, hx⟩ := q
  refine useA s hc hx fun ι1 m1 ds vs H1 e1 s1 rv hl hk => ?_
  split at hk
  · rename_i d d2
    split at hk
    · rename_i u w q q2
      cases hk
      cases rv with | cons r1 t => cases t with | cons r2 t =>
      cases t
      obtain ⟨k, a, rfl, sq⟩ := seqM_of s1.hr r1 q
      obtain ⟨k2, b, rfl, sq2⟩ := seqM_of s1.hr r2 q2
      obtain ⟨xs, hs⟩ := sq.ex
      obtain ⟨ys, hs2⟩ := sq2.ex
      exact ⟨k, k2, a, b, xs, ys, rfl, by rw [hK]; exact hs, by rw [hK]; exact hs2, by rw [hK]; exact ho _ _ rfl ι1 _ H1 e1 s1.hr (walkM_ziX sq sq2)⟩
    · cases hk
  · cases hk
end
end Mi
namespace Mi
open PySem PySem.Spec PyProof.Rows L2

/-! ## list comprehensions -/
abbrev W0 : WX := fun _ _ _ _ => False
def wipeM (ρ : Ro) : List Nat → Ro
  | [] => ρ
  | v :: vs => (wipeM ρ vs).set v .un
def lcL (w : Wk) (tg : Mg) (t : Mv Bool) (e : Mv D) (ρ : Ro) : Nat → Nat → Hm → List D → Option (List D × Hm)
  | 0, _, m, acc => if w.fin m = true then some (acc, m) else none
  | k + 1, i, m, acc => match w.at_ i m with
    | none => none
    | some d => match tg d ρ m with
      | none => none
      | some (ρ1, m1) => match t ρ1 m1 with
        | some (.ok true m2) => match e ρ1 m2 with
          | some (.ok y m3) => if acc.length < sizeLine then lcL w tg t e ρ k (i + 1) m3 (acc ++ [y]) else none
          | _ => none
        | some (.ok false m2) => lcL w tg t e ρ k (i + 1) m2 acc
        | _ => none
def eLc (it : Mi_) (tg : Mg) (t : Mv Bool) (e : Mv D) (vs : List Nat) : Mv D := fun ρ m => bnd (it ρ m) fun w m1 =>
  (lcL w tg t e (wipeM ρ vs) w.n 0 m1 []).map fun p => .ok (.ref p.2.length) (p.2 ++ [.lst p.1])
def tYesM : Mv Bool := fun _ m => some (.ok true m)

section
variable {g : Lk} {ι : List Addr} {m : Hm} {H : Hp} {p : Addr} {xs : List V}
/-- a list that the mirror does not name yet is written -/
theorem side_ne (hr : HR g ι m H) (hp : p ∉ ι) {n : Nat} {a : Addr} (h : ι[n]? = some a) : a ≠ p := fun e => hp (e ▸ List.mem_of_getElem? h)
mutual
theorem RV.sidew {u : HO} (hl : H p = some (.lst xs)) : ∀ {d : D} {v : V}, RV g ι H d v → RV g ι (upd H p u) d v
  | _, _, .non => .non
  | _, _, .bl b => .bl b
  | _, _, .int i => .int i
  | _, _, .str x => .str x
  | _, _, .tup s r => .tup (by rw [upd_ne (fun e => by rw [e, hl] at s; cases s)]; exact s) (RVs.sidew hl r)
  | _, _, .tup0 z => .tup0 z
  | _, _, .ref q => .ref q
  | _, _, .frl s r => .frl (s.imp (fun ⟨o, q⟩ => ⟨o, by rw [upd_ne (fun e => by rw [e, hl] at q; cases q)]; exact q⟩) id) (RVs.sidew hl r)
theorem RVs.sidew {u : HO} (hl : H p = some (.lst xs)) : ∀ {ds : List D} {vs : List V}, RVs g ι H ds vs → RVs g ι (upd H p u) ds vs
  | _, _, .nil => .nil
  | _, _, .cons r t => .cons (RV.sidew hl r) (RVs.sidew hl t)
end
theorem RK.sidew {κ : Type} {u : HO} (hl : H p = some (.lst xs)) {ks : List (κ × D)} {vs : List (κ × V)} (r : RK g ι H ks vs) : RK g ι (upd H p u) ks vs := by
  induction r with
  | nil => exact .nil
  | cons r _ ih => exact .cons (r.sidew hl) ih
theorem ExR.sidew {u : HO} (hl : H p = some (.lst xs)) {x : Ex} {cls : Value} {dd : Option Addr} (r : ExR g ι H x cls dd) : ExR g ι (upd H p u) x cls dd := by
  obtain ⟨C, ns, h1, h2, h3⟩ := r
  refine ⟨C, ns, h1, h2, h3.imp id ?_⟩
  rintro ⟨d, fs, h4, h5, h6⟩
  exact ⟨d, fs, h4, by rw [upd_ne (fun e => by rw [e, hl] at h5; cases h5)]; exact h5, fun i f y q1 q2 => let ⟨v, hv, r⟩ := h6 i f y q1 q2; ⟨v, hv, r.sidew hl⟩⟩
theorem RO.sidew {u : HO} (hl : H p = some (.lst xs)) {o : O} {z : HO} (r : RO g ι H o z) : RO g ι (upd H p u) o z := by
  cases r with
  | lst r => exact .lst (r.sidew hl)
  | dK r => exact .dK (r.sidew hl)
  | dT r => exact .dT (r.sidew hl)
  | lK r => exact .lK (r.sidew hl)
  | lT r => exact .lT (r.sidew hl)
  | ins c l r => exact .ins c l (r.sidew hl)
  | xc r => exact .xc (ExR.sidew hl r)
theorem HR.sidew {u : HO} (hr : HR g ι m H) (hp : p ∉ ι) (hl : H p = some (.lst xs)) : HR g ι m (upd H p u) :=
  ⟨hr.len, hr.nd, fun n o q => let ⟨a, z, ha, hz, r⟩ := hr.obj n o q; ⟨a, z, ha, by rw [upd_ne (side_ne hr hp ha)]; exact hz, r.sidew hl⟩⟩
mutual
theorem RV.grow (t : List Addr) : ∀ {d : D} {v : V}, RV g ι H d v → RV g (ι ++ t) H d v
  | _, _, .non => .non
  | _, _, .bl b => .bl b
  | _, _, .int i => .int i
  | _, _, .str x => .str x
  | _, _, .tup s r => .tup s (RVs.grow t r)
  | _, _, .tup0 z => .tup0 z
  | _, _, .ref q => .ref (by rw [List.getElem?_append_left (List.getElem?_eq_some_iff.mp q).1]; exact q)
  | _, _, .frl s r => .frl s (RVs.grow t r)
theorem RVs.grow (t : List Addr) : ∀ {ds : List D} {vs : List V}, RVs g ι H ds vs → RVs g (ι ++ t) H ds vs
  | _, _, .nil => .nil
  | _, _, .cons r q => .cons (RV.grow t r) (RVs.grow t q)
end
theorem RK.grow (t : List Addr) {κ : Type} {ks : List (κ × D)} {vs : List (κ × V)} (r : RK g ι H ks vs) : RK g (ι ++ t) H ks vs := by
  induction r with
  | nil => exact .nil
  | cons r _ ih => exact .cons (r.grow t) ih
theorem ExR.grow (t : List Addr) {x : Ex} {cls : Value} {dd : Option Addr} (r : ExR g ι H x cls dd) : ExR g (ι ++ t) H x cls dd := by
  obtain ⟨C, ns, h1, h2, h3⟩ := r
  refine ⟨C, ns, h1, h2, h3.imp id ?_⟩
  rintro ⟨d, fs, h4, h5, h6⟩
  exact ⟨d, fs, h4, h5, fun i f y q1 q2 => let ⟨v, hv, r⟩ := h6 i f y q1 q2; ⟨v, hv, r.grow t⟩⟩
theorem RO.grow (t : List Addr) {o : O} {z : HO} (r : RO g ι H o z) : RO g (ι ++ t) H o z := by
  cases r with
  | lst r => exact .lst (r.grow t)
  | dK r => exact .dK (r.grow t)
  | dT r => exact .dT (r.grow t)
  | lK r => exact .lK (r.grow t)
  | lT r => exact .lT (r.grow t)
  | ins c l r => exact .ins c l (r.grow t)
  | xc r => exact .xc (ExR.grow t r)
/-- an object that stands already is named by the mirror -/
theorem HR.adopt (hr : HR g ι m H) (hp : p ∉ ι) {o : O} {u : HO} (hu : H p = some u) (r : RO g ι H o u) : HR g (ι ++ [p]) (m ++ [o]) H := by
  refine ⟨by simp [hr.len], ?_, fun n o' q => ?_⟩
  · refine List.nodup_append.mpr ⟨hr.nd, by simp, fun a ha b hb => ?_⟩
    have : b = p := by simpa using hb
    subst this
    intro e; subst e
    exact hp ha
  · by_cases hn : n < m.length
    · rw [List.getElem?_append_left hn] at q
      obtain ⟨a, w, ha, hw, r'⟩ := hr.obj n o' q
      exact ⟨a, w, by rw [List.getElem?_append_left (hr.len ▸ hn)]; exact ha, hw, r'.grow _⟩
    · have hl : n = m.length := by
        have := (List.getElem?_eq_some_iff.mp q).1
        simp at this; omega
      subst hl
      simp at q
      subst q
      exact ⟨p, u, by rw [← hr.len]; simp, hu, r.grow _⟩
theorem ext_sidew {ι0 : List Addr} {H0 : Hp} {u : HO} (e : Ext ι0 H0 ι H) (h0 : H0 p = none) : Ext ι0 H0 ι (upd H p u) :=
  ⟨e.pre, fun b o h hn => by rw [upd_ne (ne_of_none h h0)]; exact e.fix b o h hn, e.new, fun b o u h => by rw [upd_ne (ne_of_none h h0)]; exact e.lck b o u h⟩
end
theorem wipe_out2 {σ σ' : L2.St} {ws : List Nat} (o : Out ws σ σ') : ∀ vs : List Nat, (∀ i ∈ ws, i ∈ vs) → wipe σ' vs = wipe σ vs := by
  intro vs hw
  refine List.ext_getElem? fun j => ?_
  by_cases hj : j ∈ vs
  · have h : ∀ τ : L2.St, ∀ l : List Nat, j ∈ l → (wipe τ l)[j]? = if j < τ.length then some none else none := fun τ l => by
      induction l with
      | nil => intro h; cases h
      | cons v l ih =>
        intro h
        simp only [wipe]
        by_cases e : v = j
        · subst e
          by_cases hl : v < τ.length
          · rw [List.getElem?_set_self (by rw [wipe_length]; exact hl), if_pos hl]
          · rw [if_neg hl]; exact List.getElem?_eq_none (by simp [wipe_length]; omega)
        · rw [List.getElem?_set_ne e]
          rcases List.mem_cons.mp h with z | z
          · exact absurd z.symm e
          · exact ih z
    rw [h σ' vs hj, h σ vs hj, o.1]
  · rw [wipe_out hj, wipe_out hj]
    exact o.2 j fun h => hj (hw j h)
theorem wipe_wipe (σ : L2.St) (vs : List Nat) : wipe (wipe σ vs) vs = wipe σ vs := by
  refine wipe_out2 (ws := vs) ⟨wipe_length σ vs, fun j hj => wipe_out hj⟩ vs fun i h => h
section
variable {g : Lk} {ι : List Addr} {m : Hm} {ρ : Ro} {σ : L2.St} {H : Hp}
theorem SR.wipe (s : SR g ι m ρ σ H) (vs : List Nat) : SR g ι m (wipeM ρ vs) (L2.wipe σ vs) H := by
  induction vs with
  | nil => exact s
  | cons v vs ih => exact ih.unset
theorem SR.sidew {p : Addr} {xs : List V} {u : HO} (s : SR g ι m ρ σ H) (hp : p ∉ ι) (hl : H p = some (.lst xs)) : SR g ι m ρ σ (upd H p u) :=
  ⟨s.hr.sidew hp hl, s.len, fun i d q => let ⟨v, hv, r⟩ := s.slot i d q; ⟨v, hv, r.sidew hl⟩, s.hel, fun h q => ExR.sidew hl (s.hx h q)⟩
end
theorem WalkM.later {g : Lk} {ι0 ι1 : List Addr} {H0 H1 : Hp} {w : Wk} {J : It} (x : WalkM g ι0 H0 w J) (e : Gr ι0 H0 ι1 H1) : WalkM g ι1 H1 w J :=
  ⟨fun ι m H i d ex => x.go ι m H i d (e.trans ex), fun ι m H ex => x.stop ι m H (e.trans ex)⟩
theorem Gr.sidew {ι0 ι : List Addr} {H0 H : Hp} {p : Addr} {xs : List V} {u : HO} (e : Gr ι0 H0 ι H) (hl : H p = some (.lst xs)) : Gr ι0 H0 ι (upd H p u) := by
  refine ⟨e.pre, fun b ys q => ?_, fun b o ys q => ?_, fun b ys q => ?_⟩
  · have z := e.tup b ys q
    rw [upd_ne (fun h => by rw [h, hl] at z; cases z)]; exact z
  · have z := e.frz b o ys q
    rw [upd_ne (fun h => by rw [h, hl] at z; cases z)]; exact z
  · have z := e.xd b ys q
    rw [upd_ne (fun h => by rw [h, hl] at z; cases z)]; exact z
theorem keep_side {ι ι' : List Addr} {H H' : Hp} {p : Addr} {o : HO} (e : Ext ι H ι' H') (hp : p ∉ ι) (hl : H p = some o) : p ∉ ι' ∧ H' p = some o := by
  refine ⟨fun h => ?_, e.fix _ _ hl hp⟩
  rcases e.new p h with z | z
  · exact hp z
  · rw [hl] at z; cases z
section
variable {g : Lk} {X : Cx} {elt tg iter : Expr} {ifs : List Expr} {ci : Mi_} {cg : Mg} {ct : Mv Bool} {ce : Mv D} {ws vs : List Nat}
/-- the turns from a state in which the list at p holds acc; ιb, Hb: ahead of the list's making -/
theorem lc_run {ιb ι0 : List Addr} {Hb H0 : Hp} {w : Wk} {J : It} (wm : WalkM g ι0 H0 w J) (hws : ∀ i ∈ ws, i ∈ vs) {m0 : Hm} {ρ : Ro} {σ : L2.St} (s0 : SR g ι0 m0 ρ σ H0) {p : Addr} (hb : Hb p = none) (eb : Ext ιb Hb ι0 H0) (hp0 : p ∉ ι0) {us0 : List V} (hl0 : H0 p = some (.lst us0)) {acc0 : List D} (ra0 : RVs g ι0 H0 acc0 us0) {Qd : Hp → Prop}
    {zs : List D} {mz : Hm} (h : lcL w cg ct ce (wipeM ρ vs) w.n 0 m0 acc0 = some (zs, mz))
    (done : ∀ ι H us, Ext ιb Hb ι H → SR g ι mz ρ σ H → Gr ι0 H0 ι H → p ∉ ι → H p = some (.lst us) → RVs g ι H zs us → Qd H) :
    ∃ W_ : Nat → Nat → Hp → Prop, (∃ m, W_ 0 m H0) ∧ ∀ i m H, W_ i m H →
      (J.stop i H ∧ Qd H) ∨ (J.go i H ∧ ∃ Nx : Hp → Prop, (∀ H', Nx H' → ∃ m', m' < m ∧ W_ (i + 1) m' H') ∧ ∀ x H', J.yld i H x H' → liftG g ws cg x (wipe σ vs) H' fun σ2 H2 => wipe σ2 vs = wipe σ vs ∧ liftT g W0 ct σ2 H2 fun b H3 =>
        if b = true then liftE g W0 ce σ2 H3 fun y H4 => ∃ acc, H4 p = some (.lst acc) ∧ acc.length < sizeLine ∧ Nx (upd H4 p (.lst (acc ++ [y]))) else Nx H3) := by
  refine ⟨fun i k H => i + k = w.n ∧ ∃ ι m acc us, Ext ιb Hb ι H ∧ Gr ι0 H0 ι H ∧ SR g ι m ρ σ H ∧ p ∉ ι ∧ H p = some (.lst us) ∧ RVs g ι H acc us ∧ lcL w cg ct ce (wipeM ρ vs) k i m acc = some (zs, mz),
    ⟨w.n, by simp, ι0, m0, acc0, us0, eb, Gr.refl _ _, s0, hp0, hl0, ra0, h⟩, ?_⟩
  rintro i k H ⟨hk, ι, m, acc, us, ex, eg, s, hp, hl, ra, hf⟩
  cases k with
  | zero =>
    have hi : i = w.n := by omega
    simp only [lcL] at hf
    split at hf
    · rename_i hfin
      cases hf
      subst hi
      exact .inl ⟨wm.stop ι mz H eg s.hr hfin, done ι H us ex s eg hp hl ra⟩
    · cases hf
  | succ k =>
    simp only [lcL] at hf
    split at hf
    · cases hf
    · rename_i d hd
      obtain ⟨go, yl⟩ := wm.go ι m H i d eg s.hr (by omega) hd
      refine .inr ⟨go, fun H' => i + 1 + k = w.n ∧ ∃ ι m acc us, Ext ιb Hb ι H' ∧ Gr ι0 H0 ι H' ∧ SR g ι m ρ σ H' ∧ p ∉ ι ∧ H' p = some (.lst us) ∧ RVs g ι H' acc us ∧ lcL w cg ct ce (wipeM ρ vs) k (i + 1) m acc = some (zs, mz),
        fun H' n => ⟨k, Nat.lt_succ_self k, n⟩, fun x H1 hy => ?_⟩
      obtain ⟨e1, hr1, rx⟩ := yl x H1 hy
      obtain ⟨hp1, hl1⟩ := keep_side e1 hp hl
      have ra1 := ra.ext s.hr e1
      have eg1 := eg.trans (e1.gr s.hr)
      split at hf
      · cases hf
      · rename_i ρ1 m1 hg
        refine ⟨ι, m, wipeM ρ vs, d, ρ1, m1, (s.ext e1 hr1).wipe vs, rx, hg, fun ι2 σ2 H2 e2 s2 o2 => ?_⟩
        have ew : wipe σ2 vs = wipe σ vs := (wipe_out2 o2 vs hws).trans (wipe_wipe σ vs)
        refine ⟨ew, ?_⟩
        obtain ⟨hp2, hl2⟩ := keep_side e2 hp1 hl1
        have ra2 := ra1.ext hr1 e2
        have eg2 := eg1.trans (e2.gr hr1)
        cases q : ct ρ1 m1 with
        | none => rw [q] at hf; cases hf
        | some z =>
          rw [q] at hf
          refine ⟨ι2, m1, ρ1, z, s2, q, fun b m2 ez ι3 H3 e3 hr3 => ?_, fun y m' ez => ?_⟩
          · subst ez
            obtain ⟨hp3, hl3⟩ := keep_side e3 hp2 hl2
            have ra3 := ra2.ext s2.hr e3
            have eg3 := eg2.trans (e3.gr s2.hr)
            have e13 := (e1.trans e2).trans e3
            cases b with
            | false =>
              rw [if_neg Bool.false_ne_true]
              exact ⟨by omega, ι3, m2, acc, us, ex.trans e13, eg3, s.ext e13 hr3, hp3, hl3, ra3, hf⟩
            | true =>
              rw [if_pos rfl]
              simp only at hf
              cases q2 : ce ρ1 m2 with
              | none => rw [q2] at hf; cases hf
              | some z2 =>
                rw [q2] at hf
                refine ⟨ι3, m2, ρ1, z2, s2.ext e3 hr3, q2, fun y m3 ey ι4 v H4 e4 hr4 rv => ?_, fun y m' ez => ?_⟩
                · subst ey
                  simp only at hf
                  split at hf
                  · rename_i hlen
                    obtain ⟨hp4, hl4⟩ := keep_side e4 hp3 hl3
                    have ra4 := ra3.ext hr3 e4
                    have e14 := e13.trans e4
                    refine ⟨us, hl4, by rw [← ra.length]; exact hlen, by omega, ι4, m3, acc ++ [y], us ++ [v], ext_sidew (ex.trans e14) hb, (eg3.trans (e4.gr hr3)).sidew hl4, (s.ext e14 hr4).sidew hp4 hl4, hp4, upd_same, (ra4.append (.cons rv .nil)).sidew hl4, hf⟩
                  · cases hf
                · subst ez; cases hf
          · subst ez; cases hf
theorem tLcM {W : WX} {σ : L2.St} {H : Hp} {Q : VK} (hws : ∀ i ∈ ws, i ∈ vs) (q : liftE g W (eLc ci cg ct ce vs) σ H Q) : tLc (liftI g W ci) (liftG g ws cg) (liftT g W0 ct) (liftE g W0 ce) vs σ H Q := by
  obtain ⟨ι, m, ρ, r, s, hc, ho, hx⟩ := q
  refine useI s hc hx fun ι1 m1 w J H1 e1 s1 wm hk => ?_
  intro p hp
  cases q : lcL w cg ct ce (wipeM ρ vs) w.n 0 m1 [] with
  | none => rw [q] at hk; cases hk
  | some z =>
    obtain ⟨zs, mz⟩ := z
    rw [q] at hk; cases hk
    refine lc_run (wm.later ((ext_side hp).gr s1.hr)) hws (s1.ext (ext_side hp) (s1.hr.side hp)) hp (ext_side hp) (fresh_notin s1.hr hp) upd_same .nil q fun ι2 H2 us e2 s2 _ hpn hl ra => ?_
    have hr2 := s2.hr
    have e3 : Ext ι1 H1 (ι2 ++ [p]) H2 := by
      obtain ⟨t, rfl⟩ := e2.pre
      refine ⟨⟨t ++ [p], by simp⟩, e2.fix, fun b hb => ?_, e2.lck⟩
      rcases List.mem_append.mp hb with h | h
      · exact e2.new b h
      · have : b = p := by simpa using h
        subst this; exact .inr hp
    exact ho _ _ rfl (ι2 ++ [p]) (.ref p) H2 (e1.trans e3) (hr2.adopt hpn hl (.lst ra)) (.ref (by rw [← hr2.len]; simp))
end
section
variable {g : Lk} {W : WX} {X : Cx} {elt tg iter : Expr} {scope : Scope} {own : List (Str × Nat)} {pos spos : Pos} {ci : Mi_} {cg : Mg} {ct : Mv Bool} {ce : Mv D} {ws : List Nat} {c : Expr}
abbrev BlkE (g : Lk) (X : Cx) (scope : Scope) (e : Expr) (c : Mv D) : Prop := ∀ (s : Shared) (H : Hp) (C : Addr) (cl : List (Str × Addr)) (fp : List Addr), ME g W0 (X.blk s H scope (compEnvC scope cl C X.env) fp) e c
abbrev BlkT (g : Lk) (X : Cx) (scope : Scope) (e : Expr) (c : Mv Bool) : Prop := ∀ (s : Shared) (H : Hp) (C : Addr) (cl : List (Str × Addr)) (fp : List Addr), MT g W0 (X.blk s H scope (compEnvC scope cl C X.env) fp) e c
abbrev BlkG (g : Lk) (X : Cx) (scope : Scope) (e : Expr) (ws : List Nat) (c : Mg) : Prop := ∀ (s : Shared) (H : Hp) (C : Addr) (cl : List (Str × Addr)) (fp : List Addr), MG g (X.blk s H scope (compEnvC scope cl C X.env) fp) e ws c
abbrev BlkI (g : Lk) (X : Cx) (scope : Scope) (t e : Expr) (c : Mi_) : Prop := ∀ (s : Shared) (H : Hp) (C : Addr) (cl : List (Str × Addr)) (fp : List Addr), MI g W0 (X.blk s H scope (compEnvC scope cl C X.env) fp) t e c
theorem yes_of {X : Cx} {σ : L2.St} {H : Hp} {Q : Bool → Hp → Prop} (q : liftT g W0 tYesM σ H Q) : tYes σ H Q := by
  obtain ⟨ι, m, ρ, r, s, hc, ho, hx⟩ := q
  cases hc
  exact ho _ _ rfl ι H (Ext.refl _ _) s.hr
theorem ptsI {X : Cx} {l : List Expr} {t t' : TT} (h : PTs X l t) (i : ∀ σ H Q, t' σ H Q → t σ H Q) : PTs X l t' := ⟨fun pins s σ H Q I q => h.run pins s σ H Q I (i σ H Q q)⟩
/-- [e for t in it], [e for t in it if c] -/
theorem me_lc0 (hc : X.calm = true) (hN : X.N.Nodup) (hi : MI g W X tg iter ci) (ok : BlkOk X.N X.env.scope scope own) (hg : BlkG g X scope tg ws cg) (he : BlkE g X scope elt ce) (hws : ∀ i ∈ ws, i ∈ own.map (·.2) := by decide)
    (hs : ∀ x, foldedSetIterable iter X.env x = pure x := by intro _; rfl) : ME g W X (.ListComp elt [⟨tg, iter, [], 0⟩] scope pos) (eLc ci cg tYesM ce (own.map (·.2))) :=
  peI (pe_lc (tt := liftT g W0 tYesM) hc hN hi ok hg (fun s H C cl fp => ptsI pts_nil fun _ _ _ q => yes_of (X := X) q) he hs) fun σ H Q q => tLcM hws q
theorem me_lc1 (hc : X.calm = true) (hN : X.N.Nodup) (hi : MI g W X tg iter ci) (ok : BlkOk X.N X.env.scope scope own) (hg : BlkG g X scope tg ws cg) (ht : BlkT g X scope c ct) (he : BlkE g X scope elt ce) (hws : ∀ i ∈ ws, i ∈ own.map (·.2) := by decide)
    (hs : ∀ x, foldedSetIterable iter X.env x = pure x := by intro _; rfl) : ME g W X (.ListComp elt [⟨tg, iter, [c], 0⟩] scope pos) (eLc ci cg ct ce (own.map (·.2))) :=
  peI (pe_lc hc hN hi ok hg (fun s H C cl fp => pts_one (ht s H C cl fp)) he hs) fun σ H Q q => tLcM hws q
/-- y = [..] -/
theorem ms_lc0 (i : Nat) {y : Str} {py : Pos} (hc : X.calm = true) (hN : X.N.Nodup) (hi : MI g W X tg iter ci) (ok : BlkOk X.N X.env.scope scope own) (hg : BlkG g X scope tg ws cg) (he : BlkE g X scope elt ce)
    (hsw : swapsWith (.ListComp elt [⟨tg, iter, [], 0⟩] scope pos) (some (.Name y py)) spos.line X.env = pure true) (hy : X.N[i]? = some y := by rfl) (hyl : X.env.scope.names.lookup y = some .local := by rfl) (hws : ∀ i ∈ ws, i ∈ own.map (·.2) := by decide)
    (hs : ∀ x, foldedSetIterable iter X.env x = pure x := by intro _; rfl) : MS g W X (.Assign [.Name y py] (.ListComp elt [⟨tg, iter, [], 0⟩] scope pos) spos) (sAsg (eLc ci cg tYesM ce (own.map (·.2))) (gNm i)) :=
  psI (ps_setLc (tt := liftT g W0 tYesM) hc hN hy hyl hsw hi ok hg (fun s H C cl fp => ptsI pts_nil fun _ _ _ q => yes_of (X := X) q) he hs) fun D σ H q => by
    obtain ⟨ι, m, ρ, o, s, hc, p⟩ := q
    refine tLcM (W := W) hws ?_
    refine useES s hc p fun ι1 m1 d v H1 e1 s1 rv hk => ?_
    cases hk
    exact p ι1 _ H1 e1 (s1.set rv)
theorem ms_lc1 (i : Nat) {y : Str} {py : Pos} (hc : X.calm = true) (hN : X.N.Nodup) (hi : MI g W X tg iter ci) (ok : BlkOk X.N X.env.scope scope own) (hg : BlkG g X scope tg ws cg) (ht : BlkT g X scope c ct) (he : BlkE g X scope elt ce)
    (hsw : swapsWith (.ListComp elt [⟨tg, iter, [c], 0⟩] scope pos) (some (.Name y py)) spos.line X.env = pure true) (hy : X.N[i]? = some y := by rfl) (hyl : X.env.scope.names.lookup y = some .local := by rfl) (hws : ∀ i ∈ ws, i ∈ own.map (·.2) := by decide)
    (hs : ∀ x, foldedSetIterable iter X.env x = pure x := by intro _; rfl) : MS g W X (.Assign [.Name y py] (.ListComp elt [⟨tg, iter, [c], 0⟩] scope pos) spos) (sAsg (eLc ci cg ct ce (own.map (·.2))) (gNm i)) :=
  psI (ps_setLc hc hN hy hyl hsw hi ok hg (fun s H C cl fp => pts_one (ht s H C cl fp)) he hs) fun D σ H q => by
    obtain ⟨ι, m, ρ, o, s, hc, p⟩ := q
    refine tLcM (W := W) hws ?_
    refine useES s hc p fun ι1 m1 d v H1 e1 s1 rv hk => ?_
    cases hk
    exact p ι1 _ H1 e1 (s1.set rv)
end

/-! ### two for's -/
def lcO (w : Wk) (tg : Mg) (t : Mv Bool) (it1 : Mi_) (tg1 : Mg) (t1 : Mv Bool) (e : Mv D) (vs1 : List Nat) (ρ : Ro) : Nat → Nat → Hm → List D → Option (List D × Hm)
  | 0, _, m, acc => if w.fin m = true then some (acc, m) else none
  | k + 1, i, m, acc => match w.at_ i m with
    | none => none
    | some d => match tg d ρ m with
      | none => none
      | some (ρ1, m1) => match t ρ1 m1 with
        | some (.ok true m2) => match it1 ρ1 m2 with
          | some (.ok w1 m3) => match lcL w1 tg1 t1 e (wipeM ρ1 vs1) w1.n 0 m3 acc with
            | some (acc', m4) => lcO w tg t it1 tg1 t1 e vs1 ρ k (i + 1) m4 acc'
            | none => none
          | _ => none
        | some (.ok false m2) => lcO w tg t it1 tg1 t1 e vs1 ρ k (i + 1) m2 acc
        | _ => none
def eLc2 (it : Mi_) (tg : Mg) (t : Mv Bool) (it1 : Mi_) (tg1 : Mg) (t1 : Mv Bool) (e : Mv D) (vs vs1 : List Nat) : Mv D := fun ρ m => bnd (it ρ m) fun w m1 =>
  (lcO w tg t it1 tg1 t1 e vs1 (wipeM ρ vs) w.n 0 m1 []).map fun p => .ok (.ref p.2.length) (p.2 ++ [.lst p.1])
section
variable {g : Lk} {ci1 : Mi_} {cg cg1 : Mg} {ct ct1 : Mv Bool} {ce : Mv D} {ws vs ws1 vs1 : List Nat}
theorem lc_run2 {ιb ι0 : List Addr} {Hb H0 : Hp} {w : Wk} {J : It} (wm : WalkM g ι0 H0 w J) (hws : ∀ i ∈ ws, i ∈ vs) (hws1 : ∀ i ∈ ws1, i ∈ vs1) {m0 : Hm} {ρ : Ro} {σ : L2.St} (s0 : SR g ι0 m0 ρ σ H0) {p : Addr} (hb : Hb p = none) (eb : Ext ιb Hb ι0 H0) (hp0 : p ∉ ι0) {us0 : List V} (hl0 : H0 p = some (.lst us0)) {acc0 : List D} (ra0 : RVs g ι0 H0 acc0 us0) {Qd : Hp → Prop}
    {zs : List D} {mz : Hm} (h : lcO w cg ct ci1 cg1 ct1 ce vs1 (wipeM ρ vs) w.n 0 m0 acc0 = some (zs, mz))
    (done : ∀ ι H us, Ext ιb Hb ι H → SR g ι mz ρ σ H → p ∉ ι → H p = some (.lst us) → RVs g ι H zs us → Qd H) :
    ∃ W_ : Nat → Nat → Hp → Prop, (∃ m, W_ 0 m H0) ∧ ∀ i m H, W_ i m H →
      (J.stop i H ∧ Qd H) ∨ (J.go i H ∧ ∃ Nx : Hp → Prop, (∀ H', Nx H' → ∃ m', m' < m ∧ W_ (i + 1) m' H') ∧ ∀ x H', J.yld i H x H' → liftG g ws cg x (wipe σ vs) H' fun σ2 H2 => wipe σ2 vs = wipe σ vs ∧ liftT g W0 ct σ2 H2 fun b H3 =>
        if b = true then liftI g W0 ci1 σ2 H3 fun J1 H4 => ∃ W1 : Nat → Nat → Hp → Prop, (∃ m, W1 0 m H4) ∧ ∀ j k H, W1 j k H →
          (J1.stop j H ∧ Nx H) ∨ (J1.go j H ∧ ∃ Nx1 : Hp → Prop, (∀ H', Nx1 H' → ∃ k', k' < k ∧ W1 (j + 1) k' H') ∧ ∀ x H', J1.yld j H x H' → liftG g ws1 cg1 x (wipe σ2 vs1) H' fun σ3 H5 => wipe σ3 vs1 = wipe σ2 vs1 ∧ liftT g W0 ct1 σ3 H5 fun b H6 =>
            if b = true then liftE g W0 ce σ3 H6 fun y H7 => ∃ acc, H7 p = some (.lst acc) ∧ acc.length < sizeLine ∧ Nx1 (upd H7 p (.lst (acc ++ [y]))) else Nx1 H6)
        else Nx H3) := by
  refine ⟨fun i k H => i + k = w.n ∧ ∃ ι m acc us, Ext ιb Hb ι H ∧ Gr ι0 H0 ι H ∧ SR g ι m ρ σ H ∧ p ∉ ι ∧ H p = some (.lst us) ∧ RVs g ι H acc us ∧ lcO w cg ct ci1 cg1 ct1 ce vs1 (wipeM ρ vs) k i m acc = some (zs, mz),
    ⟨w.n, by simp, ι0, m0, acc0, us0, eb, Gr.refl _ _, s0, hp0, hl0, ra0, h⟩, ?_⟩
  rintro i k H ⟨hk, ι, m, acc, us, ex, eg, s, hp, hl, ra, hf⟩
  cases k with
  | zero =>
    have hi : i = w.n := by omega
    simp only [lcO] at hf
    split at hf
    · rename_i hfin
      cases hf
      subst hi
      exact .inl ⟨wm.stop ι mz H eg s.hr hfin, done ι H us ex s hp hl ra⟩
    · cases hf
  | succ k =>
    simp only [lcO] at hf
    split at hf
    · cases hf
    · rename_i d hd
      obtain ⟨go, yl⟩ := wm.go ι m H i d eg s.hr (by omega) hd
      refine .inr ⟨go, fun H' => i + 1 + k = w.n ∧ ∃ ι m acc us, Ext ιb Hb ι H' ∧ Gr ι0 H0 ι H' ∧ SR g ι m ρ σ H' ∧ p ∉ ι ∧ H' p = some (.lst us) ∧ RVs g ι H' acc us ∧ lcO w cg ct ci1 cg1 ct1 ce vs1 (wipeM ρ vs) k (i + 1) m acc = some (zs, mz),
        fun H' n => ⟨k, Nat.lt_succ_self k, n⟩, fun x H1 hy => ?_⟩
      obtain ⟨e1, hr1, rx⟩ := yl x H1 hy
      obtain ⟨hp1, hl1⟩ := keep_side e1 hp hl
      have ra1 := ra.ext s.hr e1
      have eg1 := eg.trans (e1.gr s.hr)
      split at hf
      · cases hf
      · rename_i ρ1 m1 hg
        refine ⟨ι, m, wipeM ρ vs, d, ρ1, m1, (s.ext e1 hr1).wipe vs, rx, hg, fun ι2 σ2 H2 e2 s2 o2 => ?_⟩
        have ew : wipe σ2 vs = wipe σ vs := (wipe_out2 o2 vs hws).trans (wipe_wipe σ vs)
        refine ⟨ew, ?_⟩
        obtain ⟨hp2, hl2⟩ := keep_side e2 hp1 hl1
        have ra2 := ra1.ext hr1 e2
        have eg2 := eg1.trans (e2.gr hr1)
        cases q : ct ρ1 m1 with
        | none => rw [q] at hf; cases hf
        | some z =>
          rw [q] at hf
          refine ⟨ι2, m1, ρ1, z, s2, q, fun b m2 ez ι3 H3 e3 hr3 => ?_, fun y m' ez => ?_⟩
          · subst ez
            obtain ⟨hp3, hl3⟩ := keep_side e3 hp2 hl2
            have ra3 := ra2.ext s2.hr e3
            have eg3 := eg2.trans (e3.gr s2.hr)
            have e13 := (e1.trans e2).trans e3
            cases b with
            | false =>
              rw [if_neg Bool.false_ne_true]
              exact ⟨by omega, ι3, m2, acc, us, ex.trans e13, eg3, s.ext e13 hr3, hp3, hl3, ra3, hf⟩
            | true =>
              rw [if_pos rfl]
              simp only at hf
              cases q2 : ci1 ρ1 m2 with
              | none => rw [q2] at hf; cases hf
              | some z2 =>
                rw [q2] at hf
                refine ⟨ι3, m2, ρ1, z2, s2.ext e3 hr3, q2, fun w1 m3 ey ι4 J1 H4 e4 hr4 wm1 => ?_, fun y m' ez => ?_⟩
                · subst ey
                  simp only at hf
                  obtain ⟨hp4, hl4⟩ := keep_side e4 hp3 hl3
                  have ra4 := ra3.ext hr3 e4
                  have e14 := e13.trans e4
                  split at hf
                  · rename_i acc' m4 q3
                    have s4 := (s2.ext e3 hr3).ext e4 hr4
                    refine lc_run wm1 hws1 s4 hb (ex.trans e14) hp4 hl4 ra4 q3 fun ι5 H5 us5 e5 s5 g5 hp5 hl5 ra5 => ?_
                    refine ⟨by omega, ι5, m4, acc', us5, e5, (eg3.trans (e4.gr hr3)).trans g5, ⟨s5.hr, s.len, fun j dj hj => ?_, s.hel, s5.hx⟩, hp5, hl5, ra5, hf⟩
                    obtain ⟨v, hv, rv⟩ := (s.ext e14 hr4).slot j dj hj
                    exact ⟨v, hv, rv.gr g5⟩
                  · cases hf
                · subst ez; cases hf
          · subst ez; cases hf
end
section
variable {g : Lk} {W : WX} {X : Cx} {elt tg iter tg1 iter1 : Expr} {scope : Scope} {own : List (Str × Nat)} {pos spos : Pos} {ci ci1 : Mi_} {cg cg1 : Mg} {ct ct1 : Mv Bool} {ce : Mv D} {ws ws1 vs vs1 : List Nat} {c c1 : Expr}
theorem tLcM2 {σ : L2.St} {H : Hp} {Q : VK} (hws : ∀ i ∈ ws, i ∈ vs) (hws1 : ∀ i ∈ ws1, i ∈ vs1) (q : liftE g W (eLc2 ci cg ct ci1 cg1 ct1 ce vs vs1) σ H Q) :
    tLc2 (liftI g W ci) (liftG g ws cg) (liftT g W0 ct) (liftI g W0 ci1) (liftG g ws1 cg1) (liftT g W0 ct1) (liftE g W0 ce) vs vs1 σ H Q := by
  obtain ⟨ι, m, ρ, r, s, hc, ho, hx⟩ := q
  refine useI s hc hx fun ι1 m1 w J H1 e1 s1 wm hk => ?_
  intro p hp
  cases q : lcO w cg ct ci1 cg1 ct1 ce vs1 (wipeM ρ vs) w.n 0 m1 [] with
  | none => rw [q] at hk; cases hk
  | some z =>
    obtain ⟨zs, mz⟩ := z
    rw [q] at hk; cases hk
    refine lc_run2 (wm.later ((ext_side hp).gr s1.hr)) hws hws1 (s1.ext (ext_side hp) (s1.hr.side hp)) hp (ext_side hp) (fresh_notin s1.hr hp) upd_same .nil q fun ι2 H2 us e2 s2 hpn hl ra => ?_
    have e3 : Ext ι1 H1 (ι2 ++ [p]) H2 := by
      obtain ⟨t, rfl⟩ := e2.pre
      refine ⟨⟨t ++ [p], by simp⟩, e2.fix, fun b hb => ?_, e2.lck⟩
      rcases List.mem_append.mp hb with h | h
      · exact e2.new b h
      · have : b = p := by simpa using h
        subst this; exact .inr hp
    exact ho _ _ rfl (ι2 ++ [p]) (.ref p) H2 (e1.trans e3) (s2.hr.adopt hpn hl (.lst ra)) (.ref (by rw [← s2.hr.len]; simp))
/-- tests of a clause -/
inductive Ifs (g : Lk) (X : Cx) (scope : Scope) : List Expr → Mv Bool → Prop
  | nil : Ifs g X scope [] tYesM
  | one {c : Expr} {t : Mv Bool} : BlkT g X scope c t → Ifs g X scope [c] t
theorem Ifs.pts {l : List Expr} {t : Mv Bool} (h : Ifs g X scope l t) (s : Shared) (H : Hp) (C : Addr) (cl : List (Str × Addr)) (fp : List Addr) : PTs (X.blk s H scope (compEnvC scope cl C X.env) fp) l (liftT g W0 t) := by
  cases h with
  | nil => exact ptsI pts_nil fun _ _ _ q => yes_of (X := X) q
  | one h => exact pts_one (h s H C cl fp)
theorem me_lc2 {l l1 : List Expr} (hc : X.calm = true) (hN : X.N.Nodup) (hi : MI g W X tg iter ci) (ok : BlkOk X.N X.env.scope scope own) (hg : BlkG g X scope tg ws cg) (ht : Ifs g X scope l ct) (hi1 : BlkI g X scope tg1 iter1 ci1) (hg1 : BlkG g X scope tg1 ws1 cg1) (ht1 : Ifs g X scope l1 ct1) (he : BlkE g X scope elt ce)
    (hv : ∀ i ∈ vs1, i ∈ own.map (·.2) := by decide) (hws : ∀ i ∈ ws, i ∈ own.map (·.2) := by decide) (hws1 : ∀ i ∈ ws1, i ∈ vs1 := by decide)
    (hs : ∀ x, foldedSetIterable iter X.env x = pure x := by intro _; rfl) (hs1 : ∀ env x, foldedSetIterable iter1 env x = pure x := by intro _ _; rfl) :
    ME g W X (.ListComp elt [⟨tg, iter, l, 0⟩, ⟨tg1, iter1, l1, 0⟩] scope pos) (eLc2 ci cg ct ci1 cg1 ct1 ce (own.map (·.2)) vs1) :=
  peI (pe_lc2 hc hN hi ok hv hg ht.pts hi1 hg1 ht1.pts he hs hs1) fun σ H Q q => tLcM2 hws hws1 q
theorem ms_lc2 (i : Nat) {y : Str} {py : Pos} {l l1 : List Expr} (hc : X.calm = true) (hN : X.N.Nodup) (hi : MI g W X tg iter ci) (ok : BlkOk X.N X.env.scope scope own) (hg : BlkG g X scope tg ws cg) (ht : Ifs g X scope l ct) (hi1 : BlkI g X scope tg1 iter1 ci1) (hg1 : BlkG g X scope tg1 ws1 cg1) (ht1 : Ifs g X scope l1 ct1) (he : BlkE g X scope elt ce)
    (hsw : swapsWith (.ListComp elt [⟨tg, iter, l, 0⟩, ⟨tg1, iter1, l1, 0⟩] scope pos) (some (.Name y py)) spos.line X.env = pure true) (hy : X.N[i]? = some y := by rfl) (hyl : X.env.scope.names.lookup y = some .local := by rfl)
    (hv : ∀ i ∈ vs1, i ∈ own.map (·.2) := by decide) (hws : ∀ i ∈ ws, i ∈ own.map (·.2) := by decide) (hws1 : ∀ i ∈ ws1, i ∈ vs1 := by decide)
    (hs : ∀ x, foldedSetIterable iter X.env x = pure x := by intro _; rfl) (hs1 : ∀ env x, foldedSetIterable iter1 env x = pure x := by intro _ _; rfl) :
    MS g W X (.Assign [.Name y py] (.ListComp elt [⟨tg, iter, l, 0⟩, ⟨tg1, iter1, l1, 0⟩] scope pos) spos) (sAsg (eLc2 ci cg ct ci1 cg1 ct1 ce (own.map (·.2)) vs1) (gNm i)) :=
  psI (ps_setLc2 hc hN hy hyl hsw hi ok hv hg ht.pts hi1 hg1 ht1.pts he hs hs1) fun D σ H q => by
    obtain ⟨ι, m, ρ, o, s, hc, p⟩ := q
    refine tLcM2 (W := W) hws hws1 ?_
    refine useES s hc p fun ι1 m1 d v H1 e1 s1 rv hk => ?_
    cases hk
    exact p ι1 _ H1 e1 (s1.set rv)
end
end Mi
namespace Mi
open PySem PySem.Spec PyProof.Rows L2

/-! ## functions -/
abbrev Fx := List D → Hm → Option (Rs D)
def spM (g : Lk) (n : Nat) (F : Fx) : Sp := fun vs H Q E => ∃ ι m ds r, HR g ι m H ∧ RVs g ι H ds vs ∧ ds.length = n ∧ F ds m = some r ∧
  (∀ d m', r = .ok d m' → ∀ ι' v H', Ext ι H ι' H' → HR g ι' m' H' → RV g ι' H' d v → Q v H') ∧
  (∀ x m', r = .ex x m' → ∀ ι' cls dd H', Ext ι H ι' H' → HR g ι' m' H' → ExR g ι' H' x cls dd → E cls dd H')
def slots (nl : Nat) (ds : List D) : Ro := ds.map Sl.is ++ List.replicate (nl - ds.length) .un
def endF (o : Option Ou) : Option (Rs D) := match o with
  | some (.nx _ m') => some (.ok .non m')
  | some (.rt d m') => some (.ok d m')
  | some (.ex x _ m') => some (.ex x m')
  | _ => none
def runF (nl : Nat) (b : Ms) : Fx := fun ds m => endF (b (slots nl ds) m)
theorem SR.start {g : Lk} {ι : List Addr} {m : Hm} {H : Hp} {ds : List D} {vs : List V} (hg : g.held = none) (hr : HR g ι m H) (r : RVs g ι H ds vs) (N : List Str) : SR g ι m (slots N.length ds) (L2.start N vs) H := by
  have hl := r.length
  refine ⟨hr, by simp [slots, L2.start, hl], fun i d q => ?_, fun i q => ?_, fun h q => by rw [hg] at q; cases q⟩
  · unfold slots at q
    by_cases hi : i < ds.length
    · rw [List.getElem?_append_left (by simpa using hi), List.getElem?_map] at q
      cases q2 : ds[i]? with
      | none => rw [q2] at q; cases q
      | some e =>
        rw [q2] at q; cases q
        obtain ⟨v, hv, rv⟩ := r.get q2
        refine ⟨v, ?_, rv⟩
        unfold L2.start
        rw [List.getElem?_append_left (by simpa [← hl] using hi), List.getElem?_map, hv]; rfl
    · rw [List.getElem?_append_right (by simpa using Nat.le_of_not_lt hi)] at q
      rw [List.getElem?_replicate] at q
      split at q <;> cases q
  · unfold slots at q
    by_cases hi : i < ds.length
    · rw [List.getElem?_append_left (by simpa using hi), List.getElem?_map] at q
      cases q2 : ds[i]? with
      | none => rw [q2] at q; cases q
      | some e => rw [q2] at q; cases q
    · rw [List.getElem?_append_right (by simpa using Nat.le_of_not_lt hi)] at q
      rw [List.getElem?_replicate] at q
      split at q <;> cases q
/-- a def's wish -/
abbrev WF (E : XK) : WX := fun cls d _ H => E cls d H
theorem body_run {g : Lk} {X : Cx} {N : List Str} {E : XK} {b : Ms} {body : List Stmt} {n : Nat} (hg : g.held = none) (hb : MSs g (WF E) X body b) {vs : List V} {H : Hp} {Q : VK} (h : spM g n (runF N.length b) vs H Q E) :
    ∃ t, PSs X body t ∧ t { nx := fun _ H' => Q .non H', rt := Q } (L2.start N vs) H := by
  obtain ⟨ι, m, ds, r, hr, rv, hl, hf, ho, hx⟩ := h
  refine ⟨_, hb, ?_⟩
  unfold runF at hf
  cases q : b (slots N.length ds) m with
  | none => rw [q] at hf; cases hf
  | some o =>
    rw [q] at hf
    refine ⟨ι, m, slots N.length ds, o, SR.start hg hr rv N, q, ?_⟩
    cases o with
    | nx ρ' m' => cases hf; exact fun ι' σ' H' e s => ho _ _ rfl ι' .non H' e s.hr .non
    | rt d m' => cases hf; exact fun ι' v H' e hr rv => ho _ _ rfl ι' v H' e hr rv
    | bk ρ' m' => cases hf
    | ct ρ' m' => cases hf
    | ex x ρ' m' => cases hf; exact fun ι' cls dd σ' H' e s er => hx _ _ rfl ι' cls dd H' e s.hr er

/-- a def of the text, with its meaning -/
structure FnM (P : Program) (w : World) (K : PySem.W.Frag) (mg : Str → Option Value) (base : Heap) (g : Lk) (k : Nat) (d : He.DefD) (x : Str) (ps : List Str) (F : Fx) : Prop where
  ex : ∃ f fd, mg x = some (.ref f) ∧ FunD K d.name d.qual d.params d.body d.scope (d.dvs K) (d.kws K) f fd ∧ FnOk P w K mg base (L2.CX P w) k f fd ps (spM g ps.length F)
section
variable {P : Program} {w : World} {K : PySem.W.Frag} {mg : Str → Option Value} {base : Heap} {g : Lk} {d : He.DefD}
theorem fnM {k : Nat} {f : Addr} {fd : FuncData} {x : Str} {N ps : List Str} {b : Ms} (hg : g.held = none) (hm : mg x = some (.ref f)) (F : FunD K d.name d.qual d.params d.body d.scope (d.dvs K) (d.kws K) f fd) (S : FnScope N ps d.scope)
    (hb : ∀ (cdv : Value) (A : Around) (outer : List Env) (s : Shared) (H : Hp) (E : XK), Room k (A.deeper (envOfC d.qual d.scope s.heap.objs.size f cdv)) →
      MSs g (WF E) (cxOf (L2.CX P w) P w K mg base N d.qual d.scope f cdv A outer s H E) d.body b) : FnM P w K mg base g (k + 1) d x ps (runF N.length b) := by
  refine ⟨f, fd, hm, F, F.ok S (fun vs H Q E h => ?_) fun cdv A outer s H vs Q E hr h => body_run hg (hb cdv A outer s H E hr) h⟩
  obtain ⟨ι, m, ds, r, hr, rv, hl, _⟩ := h
  rw [← rv.length, hl]
/-- arguments that are given by position alone -/
def BindA (d : He.DefD) (ps : List Str) : Prop := ∀ (kV doc pm : Value) (an : Option Addr) (cdv ct : Value) (us : List Value), us.length = ps.length → bindArgs (PySem.W.fnOf d.name d.qual d.params d.body d.scope .none kV doc pm an cdv ct) ⟨us, []⟩ = pure (ps.zip us)
def pick {α : Type} (idx : List Nat) (l : List α) : List α := idx.filterMap fun i => l[i]?
def BindK (d : He.DefD) (ps : List Str) (n : Nat) (ks : List Str) (idx : List Nat) : Prop := ∀ (kV doc pm : Value) (an : Option Addr) (cdv ct : Value) (us ws : List Value), us.length = n → ws.length = ks.length →
  bindArgs (PySem.W.fnOf d.name d.qual d.params d.body d.scope .none kV doc pm an cdv ct) ⟨us, ks.zip ws⟩ = pure (ps.zip (pick idx (us ++ ws)))
end
theorem pick_vals {idx : List Nat} {vs : List V} {us : List Value} (r : Vals vs us) : Vals (pick idx vs) (pick idx us) := by
  induction idx with
  | nil => exact .nil
  | cons i idx ih =>
    have e := r.length
    unfold pick
    rw [List.filterMap_cons, List.filterMap_cons]
    cases q : vs[i]? with
    | none =>
      have : us[i]? = none := by
        have := List.getElem?_eq_none_iff.mp q
        exact List.getElem?_eq_none (by omega)
      rw [this]; exact ih
    | some v =>
      have : ∃ u, us[i]? = some u ∧ RelV v u := by
        clear ih e
        induction r generalizing i with
        | nil => simp at q
        | cons r t ih2 =>
          cases i with
          | zero => simp at q; subst q; exact ⟨_, rfl, r⟩
          | succ i => simp at q; obtain ⟨u, hu, z⟩ := ih2 i q; exact ⟨u, by simpa using hu, z⟩
      obtain ⟨u, hu, z⟩ := this
      rw [hu]
      exact .cons z ih
theorem pick_rv {g : Lk} {ι : List Addr} {H : Hp} {idx : List Nat} {ds : List D} {vs : List V} (r : RVs g ι H ds vs) : RVs g ι H (pick idx ds) (pick idx vs) := by
  induction idx with
  | nil => exact .nil
  | cons i idx ih =>
    have e := r.length
    unfold pick
    rw [List.filterMap_cons, List.filterMap_cons]
    cases q : ds[i]? with
    | none =>
      have : vs[i]? = none := by
        have := List.getElem?_eq_none_iff.mp q
        exact List.getElem?_eq_none (by omega)
      rw [this]; exact ih
    | some v =>
      obtain ⟨u, hu, z⟩ := r.get q
      rw [hu]
      exact .cons z ih
theorem pick_length {α : Type} {l : List α} : ∀ {idx : List Nat}, (∀ i ∈ idx, i < l.length) → (pick idx l).length = idx.length
  | [], _ => rfl
  | i :: idx, h => by
    have h1 := h i (by simp)
    have ih := pick_length (l := l) (idx := idx) fun j hj => h j (by simp [hj])
    unfold pick at ih ⊢
    rw [List.filterMap_cons, List.getElem?_eq_getElem h1]
    simp only [List.length_cons]
    rw [ih]
def eCall (F : Fx) (a : Mv (List D)) : Mv D := fun ρ m => bnd (a ρ m) fun ds m1 => F ds m1
/-- n positional values, keywords -/
def eCallK (F : Fx) (idx : List Nat) (a b : Mv (List D)) : Mv D := fun ρ m => bnd (a ρ m) fun ds m1 => bnd (b ρ m1) fun es m2 => F (pick idx (ds ++ es)) m2
abbrev MK (g : Lk) (W : WX) (X : Cx) (es : List Keyword) (n : Nat) (c : Mv (List D)) : Prop := PK X es (liftA g W n c)
theorem pkI {X : Cx} {e : List Keyword} {t t' : TA} (h : PK X e t) (i : ∀ σ H Q, t' σ H Q → t σ H Q) : PK X e t' := ⟨fun p pins s σ H Q I q => h.run p pins s σ H Q I (i σ H Q q)⟩
section
variable {g : Lk} {W : WX} {X : Cx} {k : Nat} {d : He.DefD} {x : Str} {ps : List Str} {F : Fx} {p pos kpos : Pos} {e : Expr} {es : List Expr} {ca cb : Mv (List D)} {kws : List Keyword} {ks : List Str}
theorem mk_nil : MK g W X [] 0 aNil := pkI pk_nil fun σ H Q q => by
  obtain ⟨ι, m, ρ, r, s, hc, ho, hx⟩ := q
  cases hc
  exact ho _ _ rfl ι [] H (Ext.refl _ _) s.hr .nil rfl
theorem mk_cons {nm : Option Str} {n : Nat} {a : Mv D} {b : Mv (List D)} (ha : ME g W X e a) (hb : MK g W X kws n b) : MK g W X (⟨nm, e, kpos⟩ :: kws) (n + 1) (aCons a b) := pkI (pk_cons ha hb) fun σ H Q q => by
  obtain ⟨ι, m, ρ, r, s, hc, ho, hx⟩ := q
  refine useE s hc hx fun ι1 m1 d v H1 e1 s1 rv hk => ?_
  refine useA s1 hk (hx.ext e1) fun ι2 m2 ds vs H2 e2 s2 rvs hn hk2 => ?_
  cases hk2
  exact ho _ _ rfl ι2 (v :: vs) H2 (e1.trans e2) s2.hr (.cons (rv.ext s1.hr e2) rvs) (by simp [hn])
theorem sp_of {n : Nat} {ι : List Addr} {m : Hm} {ds : List D} {vs : List V} {r : Rs D} {σ : L2.St} {H : Hp} {Q : VK} (hr : HR g ι m H) (rv : RVs g ι H ds vs) (hl : ds.length = n) (hf : F ds m = some r)
    (ho : ∀ d m', r = .ok d m' → ∀ ι' v H', Ext ι H ι' H' → HR g ι' m' H' → RV g ι' H' d v → Q v H') (hx : XW g W ι σ H r) : spM g n F vs H Q (WE W σ) :=
  ⟨ι, m, ds, r, hr, rv, hl, hf, ho, fun x m' e ι' cls dd H' ex hr er => hx x m' e ι' cls dd H' ex hr er⟩
/-- f(e, ..) -/
theorem me_call (h : FnM X.prog X.w X.K X.mg X.base g k d x ps F) (hr : Room k X.A) (hd : d.dfl = []) (hb : BindA d ps) (tk : Takes X W) (ha : MA g W X (e :: es) ps.length ca) (hg : Gl X x := by rfl) (hdb : (x == ("__debug__" : Str)) = false := by decide)
    (he : starEach (e :: es) X.env = (false, eval e X.env) :: starEach es X.env := by rfl) (hpl : (backTo pos (starEach es X.env)).any (·.1) = false := by rfl) : ME g W X (.Call (.Name x p) (e :: es) [] pos) (eCall F ca) := by
  obtain ⟨f, fd, hm, Fd, Fo⟩ := h.ex
  have hB : Binds X.K fd ps [] := by
    have hd' : d.dvs X.K = [] := by unfold He.DefD.dvs; rw [hd]; rfl
    obtain ⟨oc, od, dV, kV, doc, pm, an, cdv, ct, osl, rfl, lk, hcd, hD, hK⟩ := Fd.ex
    rw [hd'] at hD
    rcases hD with ⟨_, rfl⟩ | ⟨e, _⟩
    · exact .all (hb kV doc pm an cdv ct)
    · exact absurd rfl e
  refine peI (pe_callS Fo hr hg hm Fd.kp hB (fun σ => passAt tk σ) ha hdb he hpl) fun σ H Q q => ?_
  obtain ⟨ι, m, ρ, r, s, hc, ho, hx⟩ := q
  refine useA s hc hx fun ι1 m1 ds vs H1 e1 s1 rvs hl hk => ?_
  exact sp_of s1.hr rvs hl hk (fun d m' e ι' v H' ex => ho d m' e ι' v H' (e1.trans ex)) (hx.ext e1)
/-- f() -/
theorem me_call0 (h : FnM X.prog X.w X.K X.mg X.base g k d x [] F) (hr : Room k X.A) (hd : d.dfl = []) (hb : BindA d []) (tk : Takes X W) (hg : Gl X x := by rfl) (hdb : (x == ("__debug__" : Str)) = false := by decide) : ME g W X (.Call (.Name x p) [] [] pos) (eCall F aNil) := by
  obtain ⟨f, fd, hm, Fd, Fo⟩ := h.ex
  have hB : Binds X.K fd [] [] := by
    have hd' : d.dvs X.K = [] := by unfold He.DefD.dvs; rw [hd]; rfl
    obtain ⟨oc, od, dV, kV, doc, pm, an, cdv, ct, osl, rfl, lk, hcd, hD, hK⟩ := Fd.ex
    rw [hd'] at hD
    rcases hD with ⟨_, rfl⟩ | ⟨e, _⟩
    · exact .all (hb kV doc pm an cdv ct)
    · exact absurd rfl e
  refine ⟨fun pins s σ H Q I q => ?_⟩
  obtain ⟨ι, m, ρ, r, sr, hc, ho, hx⟩ := q
  refine wpAny_Call_Name_kw (ld_glob I hg hm ?_ hdb)
  refine PySem.W.callWith_K0 I.kIn Fd.kp ?_
  show wpAny _ _ (call (.ref f) []) _ _ _
  exact run_fnS Fo hr hB (passAt tk σ) I .nil (sp_of sr.hr .nil rfl hc ho hx)
theorem run_kw {pins : List (Addr × Obj)} {σ : L2.St} {H : Hp} {s : Shared} {Q : VK} {us ws : List Value} {vs zs : List V} {f : Addr} {fd : FuncData} {sp : Sp} {E : XK} {n : Nat} {idx : List Nat} (Fo : FnOk X.prog X.w X.K X.mg X.base (L2.CX X.prog X.w) k f fd ps sp) (hr : Room k X.A)
    (hb : ∀ us ws : List Value, us.length = n → ws.length = ks.length → bindArgs fd ⟨us, ks.zip ws⟩ = pure (ps.zip (pick idx (us ++ ws)))) (hx : PassesAt (L2.CX X.prog X.w) X σ E)
    (I : Inv X pins σ H s) (r : Vals vs us) (rz : Vals zs ws) (l1 : vs.length = n) (l2 : zs.length = ks.length) (h : sp (pick idx (vs ++ zs)) H Q E) : wpAny (model X.prog X.w) X.A (call (.ref f) us (ks.zip ws)) (EP X pins σ Q) X.xe s := by
  refine wpAny_call (codeAny_mono (Fo.run X.A X.stack s H ⟨us, ks.zip ws⟩ (pick idx (us ++ ws)) _ Q E hr I.env0 (.of_eq (hb us ws (r.length.symm.trans l1) (rz.length.symm.trans l2))) (pick_vals (r.append rz)) h) fun r s' hq => ?_)
  cases r with
  | error e => exact hx pins H s e s' I hq
  | ok fl =>
    cases fl with
    | ret u => exact I.after hq
    | next => exact False.elim hq
    | brk => exact False.elim hq
    | cont => exact False.elim hq
/-- f(k = e, ..) -/
theorem me_callK0 {idx : List Nat} (h : FnM X.prog X.w X.K X.mg X.base g k d x ps F) (hr : Room k X.A) (hd : d.dfl = []) (hb : BindK d ps 0 ks idx) (tk : Takes X W) (hkw : MK g W X kws ks.length cb) (hi : idx.length = ps.length := by rfl) (hi2 : ∀ i ∈ idx, i < ks.length := by decide)
    (hg : Gl X x := by rfl) (hall : (backToKw pos (keywordEach kws X.env)).all (·.1.isSome) = true := by rfl) (hks : (backToKw pos (keywordEach kws X.env)).filterMap (·.1) = ks := by rfl)
    (hdb : (x == ("__debug__" : Str)) = false := by decide)
    (hpl : ((backTo pos (starEach [] X.env)).any (·.1) || (backToKw pos (keywordEach kws X.env)).any (·.1.isNone)) = false := by rfl) : ME g W X (.Call (.Name x p) [] kws pos) (eCallK F idx aNil cb) := by
  obtain ⟨f, fd, hm, Fd, Fo⟩ := h.ex
  have hB : ∀ us ws : List Value, us.length = 0 → ws.length = ks.length → bindArgs fd ⟨us, ks.zip ws⟩ = pure (ps.zip (pick idx (us ++ ws))) := by
    have hd' : d.dvs X.K = [] := by unfold He.DefD.dvs; rw [hd]; rfl
    obtain ⟨oc, od, dV, kV, doc, pm, an, cdv, ct, osl, rfl, lk, hcd, hD, hK⟩ := Fd.ex
    rw [hd'] at hD
    rcases hD with ⟨_, rfl⟩ | ⟨e, _⟩
    · exact hb kV doc pm an cdv ct
    · exact absurd rfl e
  refine ⟨fun pins s σ H Q I q => ?_⟩
  obtain ⟨ι, m, ρ, r, sr, hc, ho, hx⟩ := q
  refine wpAny_Call_Name_kw (ld_glob I hg hm ?_ hdb)
  refine PySem.W.callWith_KW0 (h₀ := X.base) I.ok.mod.kin Fd.kp hall ?_ hpl
  refine thn (hkw.run pos pins s σ H (fun zs H2 => zs.length = ks.length ∧ spM g ps.length F (pick idx ([] ++ zs)) H2 Q (WE W σ)) I ?_) fun ws s2 ⟨zs, H2, I2, rz, l2, q2⟩ => ⟨I2.kIn, ?_⟩
  · have hc' : bnd (cb ρ m) (fun es m2 => F (pick idx ([] ++ es)) m2) = some r := hc
    refine useA sr hc' hx fun ι1 m1 ds vs H1 e1 s1 rvs hl hk => ?_
    refine ⟨by rw [← rvs.length, hl], ?_⟩
    refine sp_of s1.hr (pick_rv rvs) ?_ hk (fun d m' e ι' v H' ex => ho d m' e ι' v H' (e1.trans ex)) (hx.ext e1)
    rw [← hi]
    exact pick_length fun i hi => by simpa [hl] using hi2 i hi
  · rw [hks]
    exact run_kw (us := []) (vs := []) Fo hr hB (passAt tk σ) I2 .nil rz rfl l2 q2
/-- f(e, .., k = e, ..) -/
theorem me_callKm {idx : List Nat} {n : Nat} (h : FnM X.prog X.w X.K X.mg X.base g k d x ps F) (hr : Room k X.A) (hd : d.dfl = []) (hb : BindK d ps n ks idx) (tk : Takes X W) (ha : MA g W X (e :: es) n ca) (hkw : MK g W X kws ks.length cb) (hi : idx.length = ps.length := by rfl) (hi2 : ∀ i ∈ idx, i < n + ks.length := by decide)
    (hg : Gl X x := by rfl) (hall : (backToKw pos (keywordEach kws X.env)).all (·.1.isSome) = true := by rfl) (hks : (backToKw pos (keywordEach kws X.env)).filterMap (·.1) = ks := by rfl)
    (hdb : (x == ("__debug__" : Str)) = false := by decide) (he : starEach (e :: es) X.env = (false, eval e X.env) :: starEach es X.env := by rfl)
    (hpl : ((backTo pos (starEach (e :: es) X.env)).any (·.1) || (backToKw pos (keywordEach kws X.env)).any (·.1.isNone)) = false := by rfl) : ME g W X (.Call (.Name x p) (e :: es) kws pos) (eCallK F idx ca cb) := by
  obtain ⟨f, fd, hm, Fd, Fo⟩ := h.ex
  have hB : ∀ us ws : List Value, us.length = n → ws.length = ks.length → bindArgs fd ⟨us, ks.zip ws⟩ = pure (ps.zip (pick idx (us ++ ws))) := by
    have hd' : d.dvs X.K = [] := by unfold He.DefD.dvs; rw [hd]; rfl
    obtain ⟨oc, od, dV, kV, doc, pm, an, cdv, ct, osl, rfl, lk, hcd, hD, hK⟩ := Fd.ex
    rw [hd'] at hD
    rcases hD with ⟨_, rfl⟩ | ⟨e, _⟩
    · exact hb kV doc pm an cdv ct
    · exact absurd rfl e
  refine ⟨fun pins s σ H Q I q => ?_⟩
  obtain ⟨ι, m, ρ, r, sr, hc, ho, hx⟩ := q
  refine wpAny_Call_Name_kw (ld_glob I hg hm ?_ hdb)
  refine PySem.W.callWith_KW (h₀ := X.base) I.ok.mod.kin Fd.kp hall ?_ hpl he
  refine thn (ha.run pos pins s σ H (fun vs H1 => liftA g W ks.length cb σ H1 fun zs H2 => vs.length = n ∧ zs.length = ks.length ∧ spM g ps.length F (pick idx (vs ++ zs)) H2 Q (WE W σ)) I ?_) fun us s1 ⟨vs, H1, I1, rv, q1⟩ => ?_
  · refine useA sr hc hx fun ι1 m1 ds vs H1 e1 s1 rvs hl hk => ?_
    refine useA s1 hk (hx.ext e1) fun ι2 m2 ds2 vs2 H2 e2 s2 rvs2 hl2 hk2 => ?_
    have r2 := (rvs.ext s1.hr e2).append rvs2
    refine ⟨by rw [← rvs.length, hl], by rw [← rvs2.length, hl2], ?_⟩
    refine sp_of s2.hr (pick_rv r2) ?_ hk2 (fun d m' e ι' v H' ex => ho d m' e ι' v H' ((e1.trans e2).trans ex)) (hx.ext (e1.trans e2))
    rw [← hi]
    exact pick_length fun i hi => by simpa [hl, hl2] using hi2 i hi
  · refine thn (hkw.run pos pins s1 σ H1 _ I1 q1) fun ws s2 ⟨zs, H2, I2, rz, l1, l2, q2⟩ => ⟨I2.kIn, ?_⟩
    rw [hks]
    exact run_kw Fo hr hB (passAt tk σ) I2 rv rz l1 l2 q2
end
end Mi
namespace Mi
open PySem PySem.Spec PyProof.Rows L2

/-! ## exception classes of the text -/
/-- X without own __init__ -/
def exB0 (K : PySem.W.Frag) (x : Str) : Bool := PySem.W.excIn K (He.ga K x) He.veBase "ValueError.__new__" && (PySem.W.keepIn K (.ref (He.ga K x)) && (decide (PySem.W.subIn K (.ref (He.ga K x)) (.type "BaseException") = some true) && decide (PySem.W.typeIn K (.ref (He.ga K x)) = some (.type "type"))))
structure ExC0 (K : PySem.W.Frag) (C : Addr) : Prop where
  ex : PySem.W.excIn K C He.veBase "ValueError.__new__" = true
  kp : PySem.W.keepIn K (.ref C) = true
  sub : PySem.W.subIn K (.ref C) (.type "BaseException") = some true
  ty : PySem.W.typeIn K (.ref C) = some (.type "type")
theorem exB0_ok {K : PySem.W.Frag} {x : Str} (h : exB0 K x = true) : ExC0 K (He.ga K x) := by
  obtain ⟨h1, h⟩ := Bool.and_eq_true_iff.mp h
  obtain ⟨h2, h⟩ := Bool.and_eq_true_iff.mp h
  obtain ⟨h3, h4⟩ := Bool.and_eq_true_iff.mp h
  exact ⟨h1, h2, of_decide_eq_true h3, of_decide_eq_true h4⟩
/-- X with own __init__ that keeps fields -/
def objB (K : PySem.W.Frag) (C : Addr) : Bool := match K.lookup C with
  | some ⟨.type "type", _, .cls cd, sl⟩ => (match cd.mro, sl.toList with
    | .ref C' :: bm, [_, _, _, _, some (.builtin n), _] => C' == C && (n == "ValueError.__new__" && (!cd.hasDel && (cd.hasDict && PySem.HandSPX.refsVE bm)))
    | _, _ => false)
  | _ => false
theorem objB_ok {K : PySem.W.Frag} {C : Addr} (h : objB K C = true) : ∃ nm q N bs bm sn sub ab col dd k0 k1 k2 k3 k5, K.lookup C = some (excClassObj nm q C N bs bm true sn sub ab col dd k0 k1 k2 k3 k5 "ValueError.__new__") ∧ PySem.HandSPX.refsVE bm = true := by
  unfold objB at h
  split at h
  · rename_i dd cd sl ho
    split at h
    · rename_i C' bm k0 k1 k2 k3 n k5 hm hs
      simp only [Bool.and_eq_true, beq_iff_eq, Bool.not_eq_true'] at h
      obtain ⟨rfl, rfl, hdel, hdc, hv⟩ := h
      obtain ⟨nm, bs, mro, ns, qn, hd, sn, sub, ab, col, del⟩ := cd
      dsimp only at hm hdel hdc
      subst hm hdel hdc
      have hsl : sl = #[k0, k1, k2, k3, some (.builtin "ValueError.__new__"), k5] := by
        obtain ⟨l⟩ := sl
        simp only at hs
        rw [hs]
      subst hsl
      exact ⟨nm, qn, ns, bs, bm, sn, sub, ab, col, dd, k0, k1, k2, k3, k5, ho, hv⟩
    · cases h
  · cases h
def fI (K : PySem.W.Frag) (x : Str) : Addr := He.ma K (He.ga K x) "__init__"
def exB1 (K : PySem.W.Frag) (x : Str) (fs : List Str) : Bool := objB K (He.ga K x) && (decide (PySem.W.findIn K (.ref (He.ga K x)) "__setattr__" = some (some (.builtin "object.__setattr__"))) && (decide (PySem.W.subIn K (.ref (He.ga K x)) (.type "BaseException") = some true) && (decide (PySem.W.typeIn K (.ref (He.ga K x)) = some (.type "type")) &&
  (PySem.W.keepIn K (.ref (He.ga K x)) && (xfB K (He.ga K x) && (decide (PySem.W.findIn K (.ref (He.ga K x)) "__init__" = some (some (.ref (fI K x)))) && (decide (PySem.W.typeIn K (.ref (fI K x)) = some (.type "function")) && fs.all fun f => decide (PySem.W.findIn K (.ref (He.ga K x)) f = some none))))))))
structure ExC1 (K : PySem.W.Frag) (C fI : Addr) (fs : List Str) : Prop where
  oex : OexC K C
  xf : XfC K C
  ini : PySem.W.findIn K (.ref C) "__init__" = some (some (.ref fI))
  ty : PySem.W.typeIn K (.ref fI) = some (.type "function")
  no : ∀ f ∈ fs, PySem.W.findIn K (.ref C) f = some none
theorem exB1_ok {K : PySem.W.Frag} {x : Str} {fs : List Str} (h : exB1 K x fs = true) : ExC1 K (He.ga K x) (fI K x) fs := by
  obtain ⟨h1, h⟩ := Bool.and_eq_true_iff.mp h
  obtain ⟨h2, h⟩ := Bool.and_eq_true_iff.mp h
  obtain ⟨h3, h⟩ := Bool.and_eq_true_iff.mp h
  obtain ⟨h4, h⟩ := Bool.and_eq_true_iff.mp h
  obtain ⟨h5, h⟩ := Bool.and_eq_true_iff.mp h
  obtain ⟨h6, h⟩ := Bool.and_eq_true_iff.mp h
  obtain ⟨h7, h⟩ := Bool.and_eq_true_iff.mp h
  obtain ⟨h8, h9⟩ := Bool.and_eq_true_iff.mp h
  exact ⟨⟨objB_ok h1, of_decide_eq_true h2, of_decide_eq_true h3, of_decide_eq_true h4, h5⟩, xfB_ok h6, of_decide_eq_true h7, of_decide_eq_true h8, fun f hf => of_decide_eq_true (List.all_eq_true.mp h9 f hf)⟩

/-! ### an __init__ of fields -/
def putFs (a C : Addr) : List (Str × V) → Hp → (Hp → Prop) → Prop
  | [], H, Q => Q H
  | (f, y) :: r, H, Q => putFs a C r H Q
/-- def __init__(self, f): self.f = f -/
def spI1 (K : PySem.W.Frag) (f : Str) : Sp := fun vs H Q _ => ∃ (a C : Addr) (y : V), vs = [.ref a, y] ∧ OexC K C ∧ PySem.W.findIn K (.ref C) f = some none ∧ H a = some (exo a C none) ∧
  ∀ dx, H dx = none → dx ≠ a → Q .non (upd (upd H dx (exd dx [(f, y)])) a (exo a C (some dx)))
/-- .. of two -/
def spI2 (K : PySem.W.Frag) (f f' : Str) : Sp := fun vs H Q _ => ∃ (a C : Addr) (y y' : V), vs = [.ref a, y, y'] ∧ OexC K C ∧ PySem.W.findIn K (.ref C) f = some none ∧ PySem.W.findIn K (.ref C) f' = some none ∧ H a = some (exo a C none) ∧
  ∀ dx, H dx = none → dx ≠ a → Q .non (upd (upd (upd H dx (exd dx [(f, y)])) a (exo a C (some dx))) dx (exd dx [(f', y'), (f, y)]))
structure Ini (P : Program) (w : World) (K : PySem.W.Frag) (mg : Str → Option Value) (base : Heap) (d : He.DefD) (fI : Addr) (ps : List Str) (sp : Sp) : Prop where
  ex : ∃ fd, FnOk P w K mg base (L2.CX P w) 1 fI fd ps sp ∧ Binds K fd ps [] ∧ FunD K d.name d.qual d.params d.body d.scope (d.dvs K) (d.kws K) fI fd
  dfl : d.dfl = []
section
variable {P : Program} {w : World} {K : PySem.W.Frag} {mg : Str → Option Value} {base : Heap} {d : He.DefD} {f : Addr} {fd : FuncData}
theorem binds_of {ps : List Str} (Fd : FunD K d.name d.qual d.params d.body d.scope (d.dvs K) (d.kws K) f fd) (hd : d.dfl = []) (hb : BindA d ps) : Binds K fd ps [] := by
  have hd' : d.dvs K = [] := by unfold He.DefD.dvs; rw [hd]; rfl
  obtain ⟨oc, od, dV, kV, doc, pm, an, cdv, ct, osl, rfl, lk, hcd, hD, hK⟩ := Fd.ex
  rw [hd'] at hD
  rcases hD with ⟨_, rfl⟩ | ⟨e, _⟩
  · exact .all (hb kV doc pm an cdv ct)
  · exact absurd rfl e
theorem ini1 {fn : Str} (F : FunD K d.name d.qual d.params d.body d.scope (d.dvs K) (d.kws K) f fd) (hd : d.dfl = []) (S : FnScope ["self", fn] ["self", fn] d.scope) (hb : BindA d ["self", fn])
    (ht : ∀ (cdv : Value) (A : Around) (outer : List Env) (s : Shared) (H : Hp) (E : XK), PSs (cxOf (L2.CX P w) P w K mg base ["self", fn] d.qual d.scope f cdv A outer s H E) d.body (tSeq (tOst K fn (tVar 0) (tVar 1)) tNext)) : Ini P w K mg base d f ["self", fn] (spI1 K fn) := by
  refine ⟨⟨fd, F.ok (k := 0) S (fun vs H Q E h => ?_) (fun cdv A outer s H vs Q E hr h => ⟨_, ht cdv A outer s H E, ?_⟩), binds_of F hd hb, F⟩, hd⟩
  · obtain ⟨a, C, y, rfl, _⟩ := h; rfl
  · obtain ⟨a, C, y, rfl, T, hno, hH, hq⟩ := h
    exact ⟨_, rfl, _, rfl, a, C, rfl, T, hno, .inl ⟨hH, fun dx h1 h2 => hq dx h1 h2⟩⟩
theorem ini2 {fn fn' : Str} (F : FunD K d.name d.qual d.params d.body d.scope (d.dvs K) (d.kws K) f fd) (hd : d.dfl = []) (S : FnScope ["self", fn, fn'] ["self", fn, fn'] d.scope) (hb : BindA d ["self", fn, fn'])
    (ht : ∀ (cdv : Value) (A : Around) (outer : List Env) (s : Shared) (H : Hp) (E : XK), PSs (cxOf (L2.CX P w) P w K mg base ["self", fn, fn'] d.qual d.scope f cdv A outer s H E) d.body (tSeq (tOst K fn (tVar 0) (tVar 1)) (tSeq (tOst K fn' (tVar 0) (tVar 2)) tNext))) : Ini P w K mg base d f ["self", fn, fn'] (spI2 K fn fn') := by
  refine ⟨⟨fd, F.ok (k := 0) S (fun vs H Q E h => ?_) (fun cdv A outer s H vs Q E hr h => ⟨_, ht cdv A outer s H E, ?_⟩), binds_of F hd hb, F⟩, hd⟩
  · obtain ⟨a, C, y, y', rfl, _⟩ := h; rfl
  · obtain ⟨a, C, y, y', rfl, T, hno, hno', hH, hq⟩ := h
    refine ⟨_, rfl, _, rfl, a, C, rfl, T, hno, .inl ⟨hH, fun dx h1 h2 => ?_⟩⟩
    refine ⟨_, rfl, _, rfl, a, C, rfl, T, hno', .inr ⟨dx, [(fn, y)], upd_same, ?_, (by show 1 ≤ 900; decide), hq dx h1 h2⟩⟩
    rw [upd_ne h2]; exact upd_same
end

/-! ## raise -/
def sRaise (c : Nat) (a : Mv (List D)) : Ms := fun ρ m => bndS (a ρ m) ρ fun ds m1 => some (.ex ⟨c, ds⟩ ρ m1)
def sRaise0 (c : Nat) : Ms := fun ρ m => some (.ex ⟨c, []⟩ ρ m)
section
variable {g : Lk} {W : WX} {X : Cx} {x : Str} {c : Nat} {C fI : Addr} {p pos pos2 : Pos} {di : He.DefD}
theorem pmk_own0 (q : PySem.W.excIn X.K C He.veBase "ValueError.__new__" = true) (gC : X.mg x = some (.ref C)) (kC : PySem.W.keepIn X.K (.ref C) = true) (r : Raises X (.ref C)) (hg : Gl X x)
    (hdb : (x == ("__debug__" : Str)) = false := by decide) : PMk X (.Call (.Name x p) [] [] pos) (fun _ H Q => Q (.ref C) none H) := by
  intro pins s σ H Q I h
  refine wpAny_Call_Name_kw (ld_glob I hg gC ?_ hdb)
  refine PySem.W.callWith_K0 I.kIn kC ?_
  show wpAny _ _ (call (.ref C) []) _ _ _
  obtain ⟨bm, N, nm, qn, bs, hdct, sn, sub, ab, col, dd, k0, k1, k2, k3, k5, mN, hC, hN, hni, T⟩ := exc_obj I.kIn q
  refine wpAny_call_exc_subT PySem.F.excBase_ValueError T hC hN hni (fun h' e hm => ?_) (Nat.zero_le _)
  exact mk_of I hm r h (I.hok.gone hm.new)
theorem raise_end {σ : L2.St} {H : Hp} {ι : List Addr} {m : Hm} {ρ : Ro} {D : Ends} {x : Ex} {ns : List Str} {d : Option Addr} (s : SR g ι m ρ σ H) (p : PostS g W ι H (.ex x ρ m) D) (h : ExR g ι H x (.ref C) d) : W (.ref C) d σ H :=
  p ι (.ref C) d σ H (Ext.refl _ _) s h
theorem ms_raise0 (hc : X.calm = true) (tk : Takes X W) (gC : X.mg x = some (.ref C)) (T : ExC0 X.K C) (hx : g.exc c = some (C, [])) (hg : Gl X x := by rfl) (hdb : (x == ("__debug__" : Str)) = false := by decide) :
    MS g W X (.Raise (some (.Call (.Name x p) [] [] pos)) none pos2) (sRaise0 c) := psI (ps_raise hc tk (pmk_own0 T.ex gC T.kp (raises_own T.sub T.ty) hg hdb)) fun D σ H q => by
  obtain ⟨ι, m, ρ, o, s, hc, p⟩ := q
  cases hc
  exact p ι (.ref C) none σ H (Ext.refl _ _) s ⟨C, [], hx, rfl, .inl ⟨rfl, rfl⟩⟩
theorem ms_raiseT {t : Str} {j : Nat} {p2 : Pos} (hc : X.calm = true) (tk : Takes X W) (gC : X.mg x = some (.ref C)) (T : ExC0 X.K C) (hx : g.exc c = some (C, [])) (hg : Gl X x := by rfl) (hdb : (x == ("__debug__" : Str)) = false := by decide) :
    MS g W X (.Raise (some (.Call (.Name x p) [.Constant (.str t) j p2] [] pos)) none pos2) (sRaise0 c) := psI (ps_raise hc tk (pmk_own PySem.F.excBase_ValueError T.ex gC T.kp (raises_own T.sub T.ty) hg hdb)) fun D σ H q => by
  obtain ⟨ι, m, ρ, o, s, hc, p⟩ := q
  cases hc
  exact p ι (.ref C) none σ H (Ext.refl _ _) s ⟨C, [], hx, rfl, .inl ⟨rfl, rfl⟩⟩
theorem made_heap {H : Hp} {a dx : Addr} {u u' : HO} {z : HO} (ha : H a = none) (hd : dx ≠ a) : upd (del (upd (upd (upd H a u) dx u') a z) a) dx (.xd fs) = upd H dx (.xd fs) := by
  funext b
  by_cases h1 : b = dx
  · subst h1; rw [upd_same, upd_same]
  · rw [upd_ne h1, upd_ne h1]
    by_cases h2 : b = a
    · subst h2; rw [del_same, ha]
    · rw [del_ne h2, upd_ne h2, upd_ne h1, upd_ne h2]
theorem made_heap2 {H : Hp} {a dx : Addr} {u u' : HO} {z z' : HO} (ha : H a = none) (hd : dx ≠ a) : upd (del (upd (upd (upd (upd H a u) dx u') a z) dx z') a) dx (.xd fs) = upd H dx (.xd fs) := by
  funext b
  by_cases h1 : b = dx
  · subst h1; rw [upd_same, upd_same]
  · rw [upd_ne h1, upd_ne h1]
    by_cases h2 : b = a
    · subst h2; rw [del_same, ha]
    · rw [del_ne h2, upd_ne h1, upd_ne h2, upd_ne h1, upd_ne h2]
/-- raise X(e) -/
theorem ms_raise1 {k : Nat} {f : Str} {e : Expr} {ca : Mv (List D)} (hc : X.calm = true) (tk : Takes X W) (hr : Room k X.A) (hk : 2 ≤ k) (gC : X.mg x = some (.ref C)) (T : ExC1 X.K C fI [f]) (F : Ini X.prog X.w X.K X.mg X.base di fI ["self", f] (spI1 X.K f)) (hx : g.exc c = some (C, [f]))
    (ha : MA g W X [e] 1 ca) (hg : Gl X x := by rfl) (hdb : (x == ("__debug__" : Str)) = false := by decide) (he : starEach [e] X.env = (false, eval e X.env) :: starEach [] X.env := by rfl) :
    MS g W X (.Raise (some (.Call (.Name x p) [e] [] pos)) none pos2) (sRaise c ca) := by
  obtain ⟨fd, Fo, hb, _⟩ := F.ex
  refine psI (ps_raise hc tk (pmk_oex T.oex T.ini T.ty Fo (hr.mono hk) hb .nil passL hg gC ha hdb he rfl)) fun D σ H q => ?_
  obtain ⟨ι, m, ρ, o, s, hc, p⟩ := q
  refine useAS s hc p fun ι1 m1 ds vs H1 e1 s1 rvs hl hk => ?_
  cases hk
  match ds, hl, rvs with
  | [y], _, .cons (v := v) ry .nil =>
    refine ⟨(by show 1 ≤ 1000; decide), fun a ha => ⟨a, C, v, rfl, T.oex, T.no f (by simp), upd_same, fun dx h1 h2 => ⟨rfl, dx, [(f, v)], upd_same, ?_, ?_, ?_⟩⟩⟩
    · rw [upd_ne h2]; exact upd_same
    · rw [upd_ne h2] at h1; exact h1
    · rw [upd_ne h2] at h1
      rw [made_heap ha h2]
      have ex : Ext ι1 H1 ι1 (upd H1 dx (.xd [(f, v)])) := ext_side h1
      refine p ι1 (.ref C) (some dx) σ _ (e1.trans ex) (s1.ext ex (s1.hr.side h1)) ⟨C, [f], hx, rfl, .inr ⟨dx, _, rfl, upd_same, fun i f' y' q1 q2 => ?_⟩⟩
      cases i with
      | zero =>
        simp at q1 q2
        subst q1; subst q2
        exact ⟨v, by simp [List.lookup], ry.ext s1.hr ex⟩
      | succ i => simp at q1
/-- raise X(e, e') -/
theorem ms_raise2 {k : Nat} {f f' : Str} {e e' : Expr} {ca : Mv (List D)} (hc : X.calm = true) (tk : Takes X W) (hr : Room k X.A) (hk : 2 ≤ k) (gC : X.mg x = some (.ref C)) (T : ExC1 X.K C fI [f, f']) (F : Ini X.prog X.w X.K X.mg X.base di fI ["self", f, f'] (spI2 X.K f f')) (hx : g.exc c = some (C, [f, f']))
    (hne : f ≠ f') (ha : MA g W X [e, e'] 2 ca) (hg : Gl X x := by rfl) (hdb : (x == ("__debug__" : Str)) = false := by decide) (he : starEach [e, e'] X.env = (false, eval e X.env) :: starEach [e'] X.env := by rfl) (hpl : (backTo pos (starEach [e'] X.env)).any (·.1) = false := by rfl) :
    MS g W X (.Raise (some (.Call (.Name x p) [e, e'] [] pos)) none pos2) (sRaise c ca) := by
  obtain ⟨fd, Fo, hb, _⟩ := F.ex
  refine psI (ps_raise hc tk (pmk_oex T.oex T.ini T.ty Fo (hr.mono hk) hb .nil passL hg gC ha hdb he hpl)) fun D σ H q => ?_
  obtain ⟨ι, m, ρ, o, s, hc, p⟩ := q
  refine useAS s hc p fun ι1 m1 ds vs H1 e1 s1 rvs hl hk => ?_
  cases hk
  match ds, hl, rvs with
  | [y, y'], _, .cons (v := v) ry (.cons (v := v') ry' .nil) =>
    refine ⟨(by show 2 ≤ 1000; decide), fun a ha => ⟨a, C, v, v', rfl, T.oex, T.no f (by simp), T.no f' (by simp), upd_same, fun dx h1 h2 => ⟨rfl, dx, [(f', v'), (f, v)], ?_, upd_same, ?_, ?_⟩⟩⟩
    · rw [upd_ne (Ne.symm h2)]; exact upd_same
    · rw [upd_ne h2] at h1; exact h1
    · rw [upd_ne h2] at h1
      rw [made_heap2 ha h2]
      have ex : Ext ι1 H1 ι1 (upd H1 dx (.xd [(f', v'), (f, v)])) := ext_side h1
      refine p ι1 (.ref C) (some dx) σ _ (e1.trans ex) (s1.ext ex (s1.hr.side h1)) ⟨C, [f, f'], hx, rfl, .inr ⟨dx, _, rfl, upd_same, fun i g' y2 q1 q2 => ?_⟩⟩
      match i with
      | 0 =>
        simp at q1 q2
        subst q1; subst q2
        have : (f == f') = false := by simpa using hne
        exact ⟨v, by simp [List.lookup, this], ry.ext s1.hr ex⟩
      | 1 =>
        simp at q1 q2
        subst q1; subst q2
        exact ⟨v', by simp [List.lookup], ry'.ext s1.hr ex⟩
      | i + 2 => simp at q1
end
end Mi
/-! ## exceptions as values: made with keywords too, their class asked -/
namespace PySem.HandSPX
open PySem PySem.W PySem.Calls PyProof.Rows
section
variable {M : Model} {A : Around} {E : Value → Shared → Prop} {h : Heap} {g : Array GenState} {d : Drawn} {t : Nat} {os : OsState}
variable {nm q : Str} {C N : Addr} {bs bm bmB : List Value} {hdct : Bool} {sn : List Str} {sub : List Value} {ab : Bool} {col : Option Bool} {dd : Option Addr} {k0 k1 k2 k3 k5 : Option Value} {B newId initId : String}
theorem check_new_kw (Fb : ExcBaseFacts B newId initId bmB) (hT : ∀ X : String, bm.contains (.type X) = bmB.contains (.type X)) {rest : List Value} {kw : List (Str × Value)} {Q : Unit → Shared → Prop}
    (hC : h.get? C = some (excClassObj nm q C N bs bm hdct sn sub ab col dd k0 k1 k2 k3 k5 newId)) (hq : Q () ⟨h, g, d, t, os⟩) : wpAny M A (checkBuiltinCall newId ⟨.ref C :: rest, kw⟩) Q E ⟨h, g, d, t, os⟩ := by
  have hin : (Value.ref C :: bm).contains (.type B) = true := by rw [List.contains_cons, hT, Fb.hasB, Bool.or_true]
  have hs := Fb.noStar
  simp only [checkBuiltinCall, Fb.newKind, Fb.newSplit, Fb.newRow]
  repeat (first | refine wpAny_loadPart_at hC ?_ | (refine wpAny_isSubtype_exc hC ?_; rw [hin]) | refine wpAny_staticBase_exc hC ?_ | refine wpAny_madeBy_exc hC ?_ | simp only [bne_self_eq_false, Bool.false_eq_true, if_false] | wp_step)
  exact hq
end
section
variable {prog : Program} {w : World} {A : Around} {E : Value → Shared → Prop} {R : Result → Shared → Prop} {h : Heap} {g : Array GenState} {d : Drawn} {t : Nat} {os : OsState}
variable {nm q : Str} {C N : Addr} {bs bm bmB : List Value} {hdct : Bool} {sn : List Str} {sub : List Value} {ab : Bool} {col : Option Bool} {dd : Option Addr} {k0 k1 k2 k3 k5 : Option Value} {B newId initId : String}
theorem new_kw (Fb : ExcBaseFacts B newId initId bmB) (hT : ∀ X : String, bm.contains (.type X) = bmB.contains (.type X)) {rest : List Value} {kw : List (Str × Value)}
    (hC : h.get? C = some (excClassObj nm q C N bs bm hdct sn sub ab col dd k0 k1 k2 k3 k5 newId))
    (hq : R (.ok (.ret (.ref (h.objs.size + 1)))) ⟨(h.push { cls := .type "tuple", data := .seq rest.toArray }).push
      { cls := .ref C, data := .fields #[.ref h.objs.size, .none, .none, .none, .bool false, .none] }, g, d, t, os⟩) (hrest : rest.length ≤ sizeLine) :
    codeAny (model prog w) A (.builtin newId ⟨.ref C :: rest, kw⟩) R ⟨h, g, d, t, os⟩ := by
  have he := Fb.ends
  have hB : (Value.ref C :: bm).contains (.type B) = true := by rw [List.contains_cons, hT, Fb.hasB, Bool.or_true]
  have hA : (Value.ref C :: bm).contains (.type "AttributeError") = false := by rw [List.contains_cons, hT, Fb.noAttr]; rfl
  have hN : (Value.ref C :: bm).contains (.type "NameError") = false := by rw [List.contains_cons, hT, Fb.noName]; rfl
  refine codeAny_builtinAt Fb.entry ?_
  unfold Builtin.«BaseException.__new__»
  refine wpAt_bind ?_
  show wpAt _ _ _ (stack >>= _) _ _ _
  refine wpAt_bind (wpAt_stack fun p below => wpAt_of_wpAny ?_)
  wp_walk
  refine wpAt_of_wpAny ?_
  rw [Fb.owner]
  repeat (first | with_reducible refine wpAny_madeHere_exc Fb.canon hC ?_ | with_reducible refine wpAny_loadPart_at hC ?_ | (with_reducible refine wpAny_isSubtype_exc hC ?_; first | rw [hB] | rw [hA] | rw [hN]) | wp_step)
  show R _ _
  rw [Heap.size_push]
  exact hq
theorem type_call_kw (Fb : ExcBaseFacts B newId initId bmB) (hT : ∀ X : String, bm.contains (.type X) = bmB.contains (.type X)) {rest : List Value} {kw : List (Str × Value)} {fI : Addr} {Q : Fin → Shared → Prop}
    (hC : h.get? C = some (excClassObj nm q C N bs bm hdct sn sub ab col dd k0 k1 k2 k3 k5 newId))
    (hi : W.Looks (model prog w) h (typeLookup (.ref C) "__init__") (some (.ref fI))) (hb : ∀ self, W.Looks (model prog w) h (bindSpecial (.ref fI) self) (.ref fI, [self])) (hrest : rest.length ≤ sizeLine)
    (hq : codeAny (model prog w) A (.call (.ref fI) ⟨.ref (h.objs.size + 1) :: rest, kw⟩)
      (fun r s' => match r with | .ok (.ret v) => v = .none ∧ Q (.done (.ret (.ref (h.objs.size + 1)))) s' | .ok _ => False | .error e => E e s')
      ⟨(h.push (W.kdv_tup rest)).push (excO C h.objs.size), g, d, t, os⟩) :
    wpAny (model prog w) A (Builtin.«type.__call__» ⟨.ref C :: rest, kw⟩) Q E ⟨h, g, d, t, os⟩ := by
  repeat (first | with_reducible refine wpAny_loadPart_at hC ?_ | with_reducible refine wpAny_madeBy_exc hC ?_ | wp_step)
  refine codeAny_call_builtin_code (Code.quiet_builtin _ Fb.quiet) (check_new_kw Fb hT hC ?_)
  refine new_kw Fb hT hC ?_ hrest
  show wpAny _ _ _ _ _ _
  have k : ∀ b o, h.get? b = some o → ((h.push (W.kdv_tup rest)).push (excO C h.objs.size)).get? b = some o := fun b o e => Heap.get?_push_of_some _ (Heap.get?_push_of_some _ e)
  have hC1 := k _ _ hC
  have hget : ((h.push (W.kdv_tup rest)).push (excO C h.objs.size)).get? (h.objs.size + 1) = some (excO C h.objs.size) := by heap_get
  have hcC : (Value.ref C :: bm).contains (.ref C) = true := by simp
  have i1 := hi.keeps k
  have b1 := (hb (.ref (h.objs.size + 1))).keeps k
  unfold isInstance
  repeat (first | with_reducible refine wpAny_loadPart_at hget ?_ | (with_reducible refine wpAny_isSubtype_exc hC1 ?_; rw [hcC]) | wp_step)
  show wpAny _ _ (typeLookup (.ref C) _) _ _ _
  refine i1.at ?_
  refine wpAny_holding (wpAny_bind (b1.at ?_))
  refine wpAny_bind (wpAny_call (codeAny_mono hq fun r s' z => ?_))
  rcases r with e | (v | _ | _ | _) <;> first | exact z | exact z.elim | skip
  obtain ⟨rfl, z⟩ := z
  first
    | exact wpAny_pure (wpAny_pure z)
    | (wp_walk; exact z)
theorem check_type_kw {M : Model} {rest : List Value} {kw : List (Str × Value)} {Q : Unit → Shared → Prop} (hC : h.get? C = some (excClassObj nm q C N bs bm hdct sn sub ab col dd k0 k1 k2 k3 k5 newId))
    (hq : Q () ⟨h, g, d, t, os⟩) : wpAny M A (checkBuiltinCall "type.__call__" ⟨.ref C :: rest, kw⟩) Q E ⟨h, g, d, t, os⟩ := by
  have f3 := tc_sub
  have hT : (⟨h, g, d, t, os⟩ : Shared).TypeIs (.ref C) "type" := ⟨_, hC, rfl⟩
  simp only [checkBuiltinCall, tc_kind, tc_split]
  repeat (any_goals (first | assumption | with_reducible refine wpAny_loadPart_at hC ?_ | with_reducible refine wpAny_onRaise ?_ | with_reducible refine wpAny_map ?_ | wp_step))
theorem call_kw (Fb : ExcBaseFacts B newId initId bmB) (hT : ∀ X : String, bm.contains (.type X) = bmB.contains (.type X)) {rest : List Value} {kw : List (Str × Value)} {fI : Addr}
    (hC : h.get? C = some (excClassObj nm q C N bs bm hdct sn sub ab col dd k0 k1 k2 k3 k5 newId))
    (hi : W.Looks (model prog w) h (typeLookup (.ref C) "__init__") (some (.ref fI))) (hb : ∀ self, W.Looks (model prog w) h (bindSpecial (.ref fI) self) (.ref fI, [self])) (hrest : rest.length ≤ sizeLine)
    (hq : codeAny (model prog w) (A.under (.builtin "type.__call__" ⟨.ref C :: rest, kw⟩)) (.call (.ref fI) ⟨.ref (h.objs.size + 1) :: rest, kw⟩) (W.InitBack (h.objs.size + 1) R)
      ⟨(h.push (W.kdv_tup rest)).push (excO C h.objs.size), g, d, t, os⟩) :
    codeAny (model prog w) A (.call (.ref C) ⟨rest, kw⟩) R ⟨h, g, d, t, os⟩ := by
  have f1 := tc_lookup
  have f2 := tc_bind (.ref C)
  have hTy : (⟨h, g, d, t, os⟩ : Shared).TypeIs (.ref C) "type" := ⟨_, hC, rfl⟩
  refine codeAny_of_tree ?_
  show wpAny _ _ (callAny (.ref C) _) _ _ _
  repeat (any_goals (first | assumption | with_reducible refine wpAny_loadPart_at hC ?_ | wp_step))
  refine ⟨rfl, ?_⟩
  refine codeAny_call_builtin_at (Code.quiet_builtin _ (by decide +kernel)) entry_typeCall (check_type_kw hC (type_call_kw Fb hT hC hi hb hrest ?_))
  refine codeAny_mono hq fun r s' z => ?_
  rcases r with e | (v | _ | _ | _) <;> exact z
end
end PySem.HandSPX
namespace PySem.W
open PySem PySem.Spec PySem.Calls PyProof.Rows
section
variable {prog : Program} {w : World} {A : Around} {E : Value → Shared → Prop} {s : Shared} {K : Frag} {x D : Addr} {ox : Obj} {od : Option Obj}
theorem findObj_dataD {C : Addr} {name : Str} {a g : Value} (hc : (clsIn K C).isSome = true) (ha : findIn K (.ref C) name = some (some a)) (hg : specialIn K a "__get__" = some (some g)) (ht : takesIn K a = some true) : findObj K C od name = some (.bind g a) := by
  obtain ⟨cd, hc⟩ := Option.isSome_iff_exists.mp hc
  unfold findObj
  rw [hc, Option.bind_some, ha, Option.bind_some]
  simp [hg, ht]
/-- x.__class__, x an exception with a dict or without -/
theorem kin_classD {Q : Option Value → Shared → Prop} (hga : findIn K (.ref D) "__getattribute__" = some (some (.builtin "BaseException.__getattribute__"))) (hgt : findIn K (.ref D) "__getattr__" = some none) (hsub : subIn K (.ref D) (.type "BaseException") = some true)
    (hdct : hasDictIn K D = true) (ha : findIn K (.ref D) "__class__" = some (some (.builtin "object.__class__")))
    (hn : specialIn K (.builtin "object.__class__") "__get__" = some (some (.builtin "getset_descriptor.__get__"))) (htk : takesIn K (.builtin "object.__class__") = some true) (hm : mroIn K D (.type "object") = some true)
    (X : K.In s.heap) (I : InstAt s.heap x ox D od) (h : Q (some (.ref D)) { s with toks := s.toks + 1 }) : wpAny (model prog w) A (getAttr? (.ref x) "__class__") Q E s := by
  have hf : findObj K D od "__class__" = some (.bind (.builtin "getset_descriptor.__get__") (.builtin "object.__class__")) := findObj_dataD (by obtain ⟨cd, hc, _⟩ := any_some hdct; rw [hc]; rfl) ha hn htk
  obtain ⟨hp, g, d, t, os⟩ := s
  have l0 := I.type (M := model prog w)
  have l1 := looks_findIn (M := model prog w) X hga
  have l2 := looks_findIn (M := model prog w) X hgt
  have l3 := looks_find (M := model prog w) X I hf
  have sub : Looks (model prog w) hp (isInstance (.ref x) (.type "BaseException")) true := l0.andThen (looks_subIn X hsub)
  have b0 : (false && onTheHeap (Value.builtin "BaseException.__getattribute__")) = false := rfl
  have b2 : (Value.builtin "BaseException.__getattribute__" == Value.builtin "object.__getattribute__") = false := by decide +kernel
  have b1 : (onTheHeap (Value.ref D) && Value.builtin "BaseException.__getattribute__" == Value.builtin "object.__getattribute__") = false := by rw [b2]; rfl
  unfold getAttr? getAttrBy? getAttrBy
  refine wpAny_bind (wpAny_mkText (wpAny_bind (wpAny_attempt (wpAny_holding (wpAny_bind (l0.at (wpAny_bind (l1.at ?_))))))))
  show wpAny _ _ (if (onTheHeap (Value.ref D) && Value.builtin "BaseException.__getattribute__" == Value.builtin "object.__getattribute__") = true then _ else _) _ _ _
  rw [b1, if_neg Bool.false_ne_true]
  unfold getAttrByItsOwn hookBefore
  refine wpAny_bind ?_
  rw [if_pos (show onTheHeap (Value.ref D) = true from rfl)]
  refine l2.at ?_
  refine wpAny_bind (wpAny_attempt (wpAny_holding ?_))
  unfold callGetattribute
  rw [b0, if_neg Bool.false_ne_true]
  unfold boundAndCalled
  rw [PySem.F.excAttr_ValueError.ga.bind (.ref x)]
  refine wpAny_bind (wpAny_pure ?_)
  show wpAny _ _ (call (.builtin "BaseException.__getattribute__") [.ref x, .str "__class__" t]) _ _ _
  refine wpAny_call (codeAny_call_builtin PySem.F.excAttr_ValueError.ga.plain PySem.F.entry_bexc_ga ?_)
  refine @check_slot (model prog w) _ _ ⟨hp, g, d, t + 1, os⟩ "BaseException.__getattribute__" "BaseException" "__getattribute__" (.ref x) [.str "__class__" t] [] _ (by decide +kernel) (by decide +kernel) sub (PySem.F.args_bexc_ga (.ref x) (.str "__class__" t)) ?_
  unfold Builtin.«object.__getattribute__»
  refine wpAny_bind (wpAny_of_eq (a := ((Value.ref x : Value), [Value.str "__class__" t])) (by first | rfl | (simp only [slotArgs]; rfl)) ?_)
  refine wpAny_bind (wpAny_pure (wpAny_bind (l0.at (wpAny_bind (l3.at ?_)))))
  show wpAny _ _ (holding [Value.builtin "object.__class__"] (call (.builtin "getset_descriptor.__get__") [.builtin "object.__class__", .ref x, .ref D]) >>= ret) _ _ _
  refine wpAny_bind (wpAny_holding (wpAny_call (class_get (s := ⟨hp, g, d, t + 1, os⟩) (ox := ox) (od := od) X I hm ?_)))
  refine wpAny_pure ?_
  show wpAny _ _ (handedOut (.ref D)) _ _ _
  rw [handedOut_of (v := .ref D) rfl]
  first
    | exact wpAny_pure (wpAny_pure h)
    | exact wpAny_pure h
    | exact wpAny_pure (wpAny_bind (wpAny_pure (wpAny_pure h)))
theorem kitx_excD (hga : findIn K (.ref D) "__getattribute__" = some (some (.builtin "BaseException.__getattribute__"))) (hgt : findIn K (.ref D) "__getattr__" = some none) (hsub : subIn K (.ref D) (.type "BaseException") = some true) (hdct : hasDictIn K D = true) (ha : findIn K (.ref D) "__class__" = some (some (.builtin "object.__class__")))
    (hn : specialIn K (.builtin "object.__class__") "__get__" = some (some (.builtin "getset_descriptor.__get__"))) (htk : takesIn K (.builtin "object.__class__") = some true) (hm : mroIn K D (.type "object") = some true) :
    KitX K (.ref x) (.ref D) (fun h => ∃ ox od, InstAt h x ox D od) where
  ty := fun _ _ _ ⟨_, _, I⟩ => I.type
  it := fun _ _ X _ => by
    obtain ⟨cdD, hcD, _⟩ := any_some hdct
    unfold clsIn at hcD
    split at hcD
    · rename_i c' d' cd' sl' ho
      intro A' Q' E' s' k q
      unfold isType loadHead
      exact wpAny_bind (wpAny_loadPart (k _ _ (X _ _ ho)) (wpAny_pure q))
    · cases hcD
  ne := fun h tp dd its n sl X htp => by
    obtain ⟨cdD, hcD, _⟩ := any_some hdct
    refine Bool.eq_false_iff.mpr fun q => ?_
    have e : D = tp := Value.ref.inj (beq_iff_eq.mp q)
    subst e
    unfold clsIn at hcD
    split at hcD
    · rename_i c' d' cd' sl' ho
      have z := (X _ _ ho).symm.trans htp
      cases z
    · cases hcD
  ca := fun X ⟨_, _, I⟩ k => kin_classD hga hgt hsub hdct ha hn htk hm X I k
end
end PySem.W
namespace Mi
open PySem PySem.Spec PyProof.Rows L2
/-! an exception object stands at its own address -/
theorem xo_at {P : Program} {w : World} {H : Hp} {h : Heap} {a e C : Addr} {d : Option Addr} (hok : HOk P w H h) (ea : H a = some (.ext (xoP e C d))) :
    e = a ∧ ∃ t1 : Addr, h.get? a = some ({ cls := .ref C, dict := d, data := .fields #[.ref t1, .none, .none, .none, .bool false, .none] } : Obj) := by
  have x : xoP e C d h ∧ (∃ o, h.get? a = some o) ∧ ∀ h1 h2 : Heap, xoP e C d h1 → (∀ o, h1.get? a = some o → h2.get? a = some o) → xoP e C d h2 := hok a _ ea
  obtain ⟨x1, _, x3⟩ := x
  have hea : e = a := by
    by_cases hne : e = a
    · exact hne
    · obtain ⟨G, g1, g2⟩ := restrict h fun b => decide (b = a)
      obtain ⟨t, ht⟩ := x3 h G x1 fun o q => by rw [g1 a (by simp)]; exact q
      rw [g2 e (by simp [hne])] at ht
      cases ht
  subst hea
  exact ⟨rfl, x1⟩
/-! ### made -/
section
variable {X : Cx} {pins : List (Addr × Obj)} {σ : L2.St} {H : Hp} {s : Shared} {Q : VK} {C fI : Addr} {fd : FuncData} {ps : List Str} {sp : Sp}
/-- the wish of a made exception: a the object, y the dict's fields -/
def XcQ (C : Addr) (H : Hp) (Q : VK) (a : Addr) : VK := fun v H2 => v = .non ∧ ∃ (d : Addr) (fs : List (Str × V)), H2 a = some (exo a C (some d)) ∧ H2 d = some (exd d fs) ∧ Q (.ref a) (upd H2 d (.xd fs))
theorem run_xc {us as : List Value} {ds : List V} {kw : List (Str × Value)} (T : OexC X.K C) (iC : PySem.W.findIn X.K (.ref C) "__init__" = some (some (.ref fI))) (tI : PySem.W.typeIn X.K (.ref fI) = some (.type "function"))
    (F1 : FnOk X.prog X.w X.K X.mg X.base (L2.CX X.prog X.w) 1 fI fd ps sp) (hr : Room 2 X.A) (hb : ∀ u0 : Value, bindArgs fd ⟨u0 :: us, kw⟩ = pure (ps.zip (u0 :: as))) (hl : us.length ≤ 1000)
    (I : Inv X pins σ H s) (r : Vals ds as) (h : ∀ a, H a = none → sp (.ref a :: ds) (upd H a (exo a C none)) (XcQ C H Q a) fun _ _ _ => False) :
    wpAny (model X.prog X.w) X.A (call (.ref C) us kw) (EP X pins σ Q) X.xe s := by
  obtain ⟨nm, q, N, bs, bm, sn, sub, ab, col, dd, k0, k1, k2, k3, k5, hC, hbm⟩ := T.cls
  obtain ⟨hp, g, dr, tk, os⟩ := s
  have hsz : hp.objs.size ≤ hp.objs.size + 1 := Nat.le_succ _
  have hn : H (hp.objs.size + 1) = none := I.hok.fresh hsz
  have hq := h (hp.objs.size + 1) hn
  have kk : ∀ b o, hp.get? b = some o → ((hp.push (PySem.W.kdv_tup us)).push (PySem.HandSPX.excO C hp.objs.size)).get? b = some o := fun b o e => Heap.get?_push_of_some _ (Heap.get?_push_of_some _ e)
  have hget : ((hp.push (PySem.W.kdv_tup us)).push (PySem.HandSPX.excO C hp.objs.size)).get? (hp.objs.size + 1) = some (PySem.HandSPX.excO C hp.objs.size) := by heap_get
  have I2 : Inv X pins σ (upd H (hp.objs.size + 1) (exo (hp.objs.size + 1) C none)) ⟨(hp.push (PySem.W.kdv_tup us)).push (PySem.HandSPX.excO C hp.objs.size), g, dr, tk, os⟩ :=
    I.laid (t' := tk) (a := hp.objs.size + 1) (o := exo (hp.objs.size + 1) C none) (h' := (hp.push (PySem.W.kdv_tup us)).push (PySem.HandSPX.excO C hp.objs.size)) kk hsz (exo_ok hget)
  have r2 : Vals (V.ref (hp.objs.size + 1) :: ds) (Value.ref (hp.objs.size + 1) :: as) := .cons rfl r
  refine wpAny_call (PySem.HandSPX.call_kw F.excBase_ValueError (fun Y => PySem.HandSPX.refsVE_contains Y bm hbm) (I.kIn _ _ hC) (PySem.W.looks_findIn I.kIn iC) (fun self => PySem.W.bind_fn I.kIn self tI) (by rw [sizeLine_eq]; omega)
    (codeAny_mono (F1.run _ X.stack _ _ ⟨Value.ref (hp.objs.size + 1) :: us, kw⟩ (Value.ref (hp.objs.size + 1) :: as) _ _ (fun _ _ _ => False) (hr.make C us kw) (I2.env0.make C us kw) (.of_eq (hb _)) r2 hq) fun r s' hq' => ?_))
  cases r with
  | error er =>
    obtain ⟨_, _, _, _, _, _, _, _, _, _, _, _, z⟩ := hq'
    exact z.elim
  | ok fl =>
    cases fl with
    | ret u =>
      obtain ⟨v, H2, I3, rv, ev, d, fs, ea, ed, q2⟩ := I2.after hq'
      subst ev
      refine ⟨rv, ⟨V.ref (hp.objs.size + 1), _, I3.write (t' := s'.toks) (x := d) (e := d) (o := .xd fs) (by rw [ed]; exact True.intro) (.inl rfl) (fun b o _ z => z) ?_ ?_, rfl, q2⟩⟩
      · obtain ⟨mA, ⟨o, _, _, z, _⟩, _⟩ := exd_at I3.hok ed
        exact ⟨o, z⟩
      · exact exd_at I3.hok ed
    | next => exact False.elim hq'
    | brk => exact False.elim hq'
    | cont => exact False.elim hq'
end
def eXc (c : Nat) (a : Mv (List D)) : Mv D := fun ρ m => bnd (a ρ m) fun ds m1 => some (.ok (.ref m1.length) (m1 ++ [.xc c ds]))
def eXcK (c : Nat) (idx : List Nat) (a : Mv (List D)) : Mv D := fun ρ m => bnd (a ρ m) fun ds m1 => some (.ok (.ref m1.length) (m1 ++ [.xc c (pick idx ds)]))
section
variable {g : Lk} {W : WX} {X : Cx} {x : Str} {c : Nat} {C fI : Addr} {p pos : Pos} {di : He.DefD} {ι : List Addr} {m : Hm} {H : Hp}
theorem HR.xcNew (h : HR g ι m H) {a : Addr} (ha : H a = none) {fs : List D} (hx : ∃ ns, g.exc c = some (C, ns)) (hf : fs = []) : HR g (ι ++ [a]) (m ++ [.xc c fs]) (upd H a (exo a C none)) := by
  obtain ⟨ns, hx⟩ := hx
  exact h.alloc ha (.xc ⟨C, ns, hx, rfl, .inl ⟨hf, rfl⟩⟩)
theorem HR.xcNewD (h : HR g ι m H) {a d : Addr} (ha : H a = none) (hd : H d = none) (hne : d ≠ a) {fs : List D} {gs : List (Str × V)} {ns : List Str} (hx : g.exc c = some (C, ns))
    (hf : ∀ (i : Nat) (f : Str) (y : D), ns[i]? = some f → fs[i]? = some y → ∃ v, gs.lookup f = some v ∧ RV g ι H y v) :
    HR g (ι ++ [a]) (m ++ [.xc c fs]) (upd (upd H d (.xd gs)) a (exo a C (some d))) ∧ Ext ι H (ι ++ [a]) (upd (upd H d (.xd gs)) a (exo a C (some d))) := by
  have e1 : Ext ι H ι (upd H d (.xd gs)) := ext_side hd
  have h1 := h.side (u := .xd gs) hd
  have ha1 : upd H d (.xd gs) a = none := by rw [upd_ne (Ne.symm hne)]; exact ha
  have e2 := ext_new (ι := ι) (u := exo a C (some d)) ha1
  refine ⟨h1.alloc ha1 (.xc ⟨C, ns, hx, rfl, .inr ⟨d, gs, rfl, by rw [upd_ne hne]; exact upd_same, fun i f y q1 q2 => ?_⟩⟩), e1.trans e2⟩
  obtain ⟨v, hv, r⟩ := hf i f y q1 q2
  exact ⟨v, hv, (r.ext h e1).ext h1 e2⟩
theorem upd_upd {H : Hp} {a : Addr} {u v : HO} : upd (upd H a u) a v = upd H a v := by
  funext b
  by_cases h : b = a
  · subst h; rw [upd_same, upd_same]
  · rw [upd_ne h, upd_ne h, upd_ne h]
theorem upd_swap {H : Hp} {a b : Addr} {u v : HO} (h : a ≠ b) : upd (upd H a u) b v = upd (upd H b v) a u := by
  funext z
  by_cases h1 : z = b
  · subst h1; rw [upd_same, upd_ne (Ne.symm h), upd_same]
  · by_cases h2 : z = a
    · subst h2; rw [upd_ne h1, upd_same, upd_same]
    · rw [upd_ne h1, upd_ne h2, upd_ne h2, upd_ne h1]
/-- X(): the wish -/
theorem xc1_wish {f : Str} {σ : L2.St} {Q : VK} {y : D} {v : V} {r : Rs D} (T : ExC1 X.K C fI [f]) (hx : g.exc c = some (C, [f])) (hr : HR g ι m H) (ry : RV g ι H y v) (hk : some (Rs.ok (D.ref m.length) (m ++ [.xc c [y]])) = some r)
    (ho : ∀ d m', r = .ok d m' → ∀ ι' v H', Ext ι H ι' H' → HR g ι' m' H' → RV g ι' H' d v → Q v H') {a : Addr} (ha : H a = none) :
    spI1 X.K f (.ref a :: [v]) (upd H a (exo a C none)) (XcQ C H Q a) fun _ _ _ => False := by
  cases hk
  refine ⟨a, C, v, rfl, T.oex, T.no f (by simp), upd_same, fun dx h1 h2 => ⟨rfl, dx, [(f, v)], upd_same, by rw [upd_ne h2]; exact upd_same, ?_⟩⟩
  rw [upd_ne h2] at h1
  have e : upd (upd (upd (upd H a (exo a C none)) dx (exd dx [(f, v)])) a (exo a C (some dx))) dx (.xd [(f, v)]) = upd (upd H dx (.xd [(f, v)])) a (exo a C (some dx)) := by
    rw [upd_swap (Ne.symm h2), upd_upd, upd_swap (u := exo a C none) (Ne.symm h2), upd_upd]
  rw [e]
  obtain ⟨q1, q2⟩ := hr.xcNewD (c := c) (C := C) (fs := [y]) (gs := [(f, v)]) ha h1 h2 hx fun i f' y' z1 z2 => by
    cases i with
    | zero =>
      simp at z1 z2
      subst z1; subst z2
      exact ⟨v, by simp [List.lookup], ry⟩
    | succ i => simp at z1
  exact ho _ _ rfl _ _ _ q2 q1 (.ref (by rw [← hr.len]; simp))
theorem xc2_wish {f f' : Str} {σ : L2.St} {Q : VK} {y y' : D} {v v' : V} {r : Rs D} (hne : f ≠ f') (T : ExC1 X.K C fI [f, f']) (hx : g.exc c = some (C, [f, f'])) (hr : HR g ι m H) (ry : RV g ι H y v) (ry' : RV g ι H y' v') (hk : some (Rs.ok (D.ref m.length) (m ++ [.xc c [y, y']])) = some r)
    (ho : ∀ d m', r = .ok d m' → ∀ ι' v H', Ext ι H ι' H' → HR g ι' m' H' → RV g ι' H' d v → Q v H') {a : Addr} (ha : H a = none) :
    spI2 X.K f f' (.ref a :: [v, v']) (upd H a (exo a C none)) (XcQ C H Q a) fun _ _ _ => False := by
  cases hk
  refine ⟨a, C, v, v', rfl, T.oex, T.no f (by simp), T.no f' (by simp), upd_same, fun dx h1 h2 => ⟨rfl, dx, [(f', v'), (f, v)], by rw [upd_ne (Ne.symm h2)]; exact upd_same, upd_same, ?_⟩⟩
  rw [upd_ne h2] at h1
  have e : upd (upd (upd (upd (upd H a (exo a C none)) dx (exd dx [(f, v)])) a (exo a C (some dx))) dx (exd dx [(f', v'), (f, v)])) dx (.xd [(f', v'), (f, v)]) = upd (upd H dx (.xd [(f', v'), (f, v)])) a (exo a C (some dx)) := by
    rw [upd_upd, upd_swap (Ne.symm h2), upd_upd, upd_swap (u := exo a C none) (Ne.symm h2), upd_upd]
  rw [e]
  obtain ⟨q1, q2⟩ := hr.xcNewD (c := c) (C := C) (fs := [y, y']) (gs := [(f', v'), (f, v)]) ha h1 h2 hx fun i g' y2 z1 z2 => by
    match i with
    | 0 =>
      simp at z1 z2
      subst z1; subst z2
      have : (f == f') = false := by simpa using hne
      exact ⟨v, by simp [List.lookup, this], ry⟩
    | 1 =>
      simp at z1 z2
      subst z1; subst z2
      exact ⟨v', by simp [List.lookup], ry'⟩
    | i + 2 => simp at z1
  exact ho _ _ rfl _ _ _ q2 q1 (.ref (by rw [← hr.len]; simp))

/-- X(e) -/
theorem me_xc1 {k : Nat} {f : Str} {e : Expr} {ca : Mv (List D)} (hr : Room k X.A) (hk : 2 ≤ k) (gC : X.mg x = some (.ref C)) (T : ExC1 X.K C fI [f]) (F : Ini X.prog X.w X.K X.mg X.base di fI ["self", f] (spI1 X.K f)) (hx : g.exc c = some (C, [f]))
    (ha : MA g W X [e] 1 ca) (hg : Gl X x := by rfl) (hdb : (x == ("__debug__" : Str)) = false := by decide) (he : starEach [e] X.env = (false, eval e X.env) :: starEach [] X.env := by rfl)
    (hb : BindA di ["self", f]) : ME g W X (.Call (.Name x p) [e] [] pos) (eXc c ca) := by
  obtain ⟨fd, Fo, _, Fd⟩ := F.ex
  have hB : ∀ us : List Value, us.length = 2 → bindArgs fd ⟨us, []⟩ = pure (([("self" : Str), f] : List Str).zip us) := by
    have hd' : di.dvs X.K = [] := by unfold He.DefD.dvs; rw [F.dfl]; rfl
    obtain ⟨oc, od, dV, kV, doc, pm, an, cdv, ct, osl, rfl, lk, hcd, hD, hK⟩ := Fd.ex
    rw [hd'] at hD
    rcases hD with ⟨_, rfl⟩ | ⟨e, _⟩
    · exact hb kV doc pm an cdv ct
    · exact absurd rfl e
  refine ⟨fun pins s σ H Q I q => ?_⟩
  obtain ⟨ι, m, ρ, r, sr, hc, ho, hxw⟩ := q
  refine wpAny_Call_Name_kw (ld_glob I hg gC ?_ hdb)
  refine PySem.W.callWith_K (h₀ := X.base) I.ok.mod.kin T.oex.kC (thn (ha.run pos pins s σ H (fun vs H1 => vs.length = 1 ∧ ∀ a, H1 a = none → spI1 X.K f (.ref a :: vs) (upd H1 a (exo a C none)) (XcQ C H1 Q a) fun _ _ _ => False) I ?_) fun us s1 ⟨vs, H1, I1, rs, hl, q1⟩ => ⟨I1.kIn, ?_⟩) he rfl
  · refine useA sr hc hxw fun ι1 m1 ds vs H1 e1 s1 rvs hl hk => ?_
    match ds, hl, rvs with
    | [y], _, .cons (v := v) ry .nil => exact ⟨rfl, fun a ha => xc1_wish (σ := σ) T hx s1.hr ry hk (fun d m' z ι' v H' ex => ho d m' z ι' v H' (e1.trans ex)) ha⟩
  · have hl2 : us.length = 1 := rs.length.symm.trans hl
    exact run_xc (kw := []) T.oex T.ini T.ty Fo (hr.mono hk) (fun u0 => hB (u0 :: us) (by simp [hl2])) (by show us.length ≤ 1000; omega) I1 rs q1
/-- X(e, e') -/
theorem me_xc2 {k : Nat} {f f' : Str} {e e' : Expr} {ca : Mv (List D)} (hr : Room k X.A) (hk : 2 ≤ k) (gC : X.mg x = some (.ref C)) (T : ExC1 X.K C fI [f, f']) (F : Ini X.prog X.w X.K X.mg X.base di fI ["self", f, f'] (spI2 X.K f f')) (hx : g.exc c = some (C, [f, f'])) (hne : f ≠ f')
    (ha : MA g W X [e, e'] 2 ca) (hg : Gl X x := by rfl) (hdb : (x == ("__debug__" : Str)) = false := by decide) (he : starEach [e, e'] X.env = (false, eval e X.env) :: starEach [e'] X.env := by rfl) (hpl : (backTo pos (starEach [e'] X.env)).any (·.1) = false := by rfl)
    (hb : BindA di ["self", f, f']) : ME g W X (.Call (.Name x p) [e, e'] [] pos) (eXc c ca) := by
  obtain ⟨fd, Fo, _, Fd⟩ := F.ex
  have hB : ∀ us : List Value, us.length = 3 → bindArgs fd ⟨us, []⟩ = pure (([("self" : Str), f, f'] : List Str).zip us) := by
    have hd' : di.dvs X.K = [] := by unfold He.DefD.dvs; rw [F.dfl]; rfl
    obtain ⟨oc, od, dV, kV, doc, pm, an, cdv, ct, osl, rfl, lk, hcd, hD, hK⟩ := Fd.ex
    rw [hd'] at hD
    rcases hD with ⟨_, rfl⟩ | ⟨e, _⟩
    · exact hb kV doc pm an cdv ct
    · exact absurd rfl e
  refine ⟨fun pins s σ H Q I q => ?_⟩
  obtain ⟨ι, m, ρ, r, sr, hc, ho, hxw⟩ := q
  refine wpAny_Call_Name_kw (ld_glob I hg gC ?_ hdb)
  refine PySem.W.callWith_K (h₀ := X.base) I.ok.mod.kin T.oex.kC (thn (ha.run pos pins s σ H (fun vs H1 => vs.length = 2 ∧ ∀ a, H1 a = none → spI2 X.K f f' (.ref a :: vs) (upd H1 a (exo a C none)) (XcQ C H1 Q a) fun _ _ _ => False) I ?_) fun us s1 ⟨vs, H1, I1, rs, hl, q1⟩ => ⟨I1.kIn, ?_⟩) he hpl
  · refine useA sr hc hxw fun ι1 m1 ds vs H1 e1 s1 rvs hl hk => ?_
    match ds, hl, rvs with
    | [y, y'], _, .cons (v := v) ry (.cons (v := v') ry' .nil) => exact ⟨rfl, fun a ha => xc2_wish (σ := σ) hne T hx s1.hr ry ry' hk (fun d m' z ι' v H' ex => ho d m' z ι' v H' (e1.trans ex)) ha⟩
  · have hl2 : us.length = 2 := rs.length.symm.trans hl
    exact run_xc (kw := []) T.oex T.ini T.ty Fo (hr.mono hk) (fun u0 => hB (u0 :: us) (by simp [hl2])) (by show us.length ≤ 1000; omega) I1 rs q1
/-- X(k = e) -/
theorem me_xc1K {k : Nat} {f : Str} {kws : List Keyword} {cb : Mv (List D)} (hr : Room k X.A) (hk : 2 ≤ k) (gC : X.mg x = some (.ref C)) (T : ExC1 X.K C fI [f]) (F : Ini X.prog X.w X.K X.mg X.base di fI ["self", f] (spI1 X.K f)) (hx : g.exc c = some (C, [f]))
    (hkw : MK g W X kws 1 cb) (hb : BindK di ["self", f] 1 [f] [0, 1]) (hg : Gl X x := by rfl) (hdb : (x == ("__debug__" : Str)) = false := by decide)
    (hall : (backToKw pos (keywordEach kws X.env)).all (·.1.isSome) = true := by rfl) (hks : (backToKw pos (keywordEach kws X.env)).filterMap (·.1) = [f] := by rfl)
    (hpl : ((backTo pos (starEach [] X.env)).any (·.1) || (backToKw pos (keywordEach kws X.env)).any (·.1.isNone)) = false := by rfl) : ME g W X (.Call (.Name x p) [] kws pos) (eXcK c [0] cb) := by
  obtain ⟨fd, Fo, _, Fd⟩ := F.ex
  have hB : ∀ us ws : List Value, us.length = 1 → ws.length = 1 → bindArgs fd ⟨us, [f].zip ws⟩ = pure (([("self" : Str), f] : List Str).zip (pick [0, 1] (us ++ ws))) := by
    have hd' : di.dvs X.K = [] := by unfold He.DefD.dvs; rw [F.dfl]; rfl
    obtain ⟨oc, od, dV, kV, doc, pm, an, cdv, ct, osl, rfl, lk, hcd, hD, hK⟩ := Fd.ex
    rw [hd'] at hD
    rcases hD with ⟨_, rfl⟩ | ⟨e, _⟩
    · exact hb kV doc pm an cdv ct
    · exact absurd rfl e
  refine ⟨fun pins s σ H Q I q => ?_⟩
  obtain ⟨ι, m, ρ, r, sr, hc, ho, hxw⟩ := q
  refine wpAny_Call_Name_kw (ld_glob I hg gC ?_ hdb)
  refine PySem.W.callWith_KW0 (h₀ := X.base) I.ok.mod.kin T.oex.kC hall ?_ hpl
  refine thn (hkw.run pos pins s σ H (fun zs H1 => zs.length = 1 ∧ ∀ a, H1 a = none → spI1 X.K f (.ref a :: zs) (upd H1 a (exo a C none)) (XcQ C H1 Q a) fun _ _ _ => False) I ?_) fun ws s2 ⟨zs, H2, I2, rz, hl, q2⟩ => ⟨I2.kIn, ?_⟩
  · refine useA sr hc hxw fun ι1 m1 ds vs H1 e1 s1 rvs hl hk => ?_
    match ds, hl, rvs with
    | [y], _, .cons (v := v) ry .nil => exact ⟨rfl, fun a ha => xc1_wish (σ := σ) T hx s1.hr ry hk (fun d m' z ι' v H' ex => ho d m' z ι' v H' (e1.trans ex)) ha⟩
  · rw [hks]
    have hl2 : ws.length = 1 := rz.length.symm.trans hl
    match ws, hl2 with
    | [w1], _ => exact run_xc (us := []) (kw := [f].zip [w1]) (as := [w1]) T.oex T.ini T.ty Fo (hr.mono hk) (fun u0 => hB [u0] [w1] rfl rfl) (by simp) I2 rz q2
/-- X(k = e, k' = e'), in the order (f, f') or turned -/
theorem me_xc2K {k : Nat} {f f' : Str} {ks : List Str} {idx : List Nat} {kws : List Keyword} {cb : Mv (List D)} (hr : Room k X.A) (hk : 2 ≤ k) (gC : X.mg x = some (.ref C)) (T : ExC1 X.K C fI [f, f']) (F : Ini X.prog X.w X.K X.mg X.base di fI ["self", f, f'] (spI2 X.K f f')) (hx : g.exc c = some (C, [f, f'])) (hne : f ≠ f')
    (hkw : MK g W X kws 2 cb) (hb : BindK di ["self", f, f'] 1 ks (0 :: idx.map (· + 1))) (hi : idx = [0, 1] ∨ idx = [1, 0]) (hkl : ks.length = 2 := by rfl) (hg : Gl X x := by rfl) (hdb : (x == ("__debug__" : Str)) = false := by decide)
    (hall : (backToKw pos (keywordEach kws X.env)).all (·.1.isSome) = true := by rfl) (hks : (backToKw pos (keywordEach kws X.env)).filterMap (·.1) = ks := by rfl)
    (hpl : ((backTo pos (starEach [] X.env)).any (·.1) || (backToKw pos (keywordEach kws X.env)).any (·.1.isNone)) = false := by rfl) : ME g W X (.Call (.Name x p) [] kws pos) (eXcK c idx cb) := by
  obtain ⟨fd, Fo, _, Fd⟩ := F.ex
  have hB : ∀ us ws : List Value, us.length = 1 → ws.length = ks.length → bindArgs fd ⟨us, ks.zip ws⟩ = pure (([("self" : Str), f, f'] : List Str).zip (pick (0 :: idx.map (· + 1)) (us ++ ws))) := by
    have hd' : di.dvs X.K = [] := by unfold He.DefD.dvs; rw [F.dfl]; rfl
    obtain ⟨oc, od, dV, kV, doc, pm, an, cdv, ct, osl, rfl, lk, hcd, hD, hK⟩ := Fd.ex
    rw [hd'] at hD
    rcases hD with ⟨_, rfl⟩ | ⟨e, _⟩
    · exact hb kV doc pm an cdv ct
    · exact absurd rfl e
  refine ⟨fun pins s σ H Q I q => ?_⟩
  obtain ⟨ι, m, ρ, r, sr, hc, ho, hxw⟩ := q
  refine wpAny_Call_Name_kw (ld_glob I hg gC ?_ hdb)
  refine PySem.W.callWith_KW0 (h₀ := X.base) I.ok.mod.kin T.oex.kC hall ?_ hpl
  refine thn (hkw.run pos pins s σ H (fun zs H1 => zs.length = 2 ∧ ∀ a, H1 a = none → spI2 X.K f f' (.ref a :: pick idx zs) (upd H1 a (exo a C none)) (XcQ C H1 Q a) fun _ _ _ => False) I ?_) fun ws s2 ⟨zs, H2, I2, rz, hl, q2⟩ => ⟨I2.kIn, ?_⟩
  · refine useA sr hc hxw fun ι1 m1 ds vs H1 e1 s1 rvs hl hk => ?_
    match ds, hl, rvs with
    | [y, y'], _, .cons (v := v) ry (.cons (v := v') ry' .nil) =>
      refine ⟨rfl, fun a ha => ?_⟩
      rcases hi with rfl | rfl
      · exact xc2_wish (σ := σ) hne T hx s1.hr ry ry' hk (fun d m' z ι' v H' ex => ho d m' z ι' v H' (e1.trans ex)) ha
      · exact xc2_wish (σ := σ) hne T hx s1.hr ry' ry hk (fun d m' z ι' v H' ex => ho d m' z ι' v H' (e1.trans ex)) ha
  · rw [hks]
    have hl2 : ws.length = 2 := rz.length.symm.trans hl
    match ws, hl2 with
    | [w1, w2], _ =>
      refine run_xc (us := []) (kw := ks.zip [w1, w2]) (as := pick idx [w1, w2]) T.oex T.ini T.ty Fo (hr.mono hk) (fun u0 => ?_) (by simp) I2 (pick_vals rz) q2
      rw [hB [u0] [w1, w2] rfl (by simp [hkl])]
      rcases hi with rfl | rfl <;> rfl
/-- X(), no own __init__ -/
theorem me_xc0 (gC : X.mg x = some (.ref C)) (T : ExC0 X.K C) (hx : g.exc c = some (C, [])) (hg : Gl X x := by rfl) (hdb : (x == ("__debug__" : Str)) = false := by decide) :
    ME g W X (.Call (.Name x p) [] [] pos) (eXc c aNil) := by
  refine ⟨fun pins s σ H Q I q => ?_⟩
  obtain ⟨ι, m, ρ, r, sr, hc, ho, hxw⟩ := q
  cases hc
  refine wpAny_Call_Name_kw (ld_glob I hg gC ?_ hdb)
  refine PySem.W.callWith_K0 I.kIn T.kp ?_
  show wpAny _ _ (call (.ref C) []) _ _ _
  obtain ⟨bm, N, nm, qn, bs, hdct, sn, sub, ab, col, dd, k0, k1, k2, k3, k5, mN, hC, hN, hni, Tl⟩ := exc_obj I.kIn T.ex
  refine wpAny_call_exc_subT PySem.F.excBase_ValueError Tl hC hN hni (fun h' a hm => ?_) (Nat.zero_le _)
  have hn : H a = none := I.hok.gone hm.new
  obtain ⟨t, ht, _, _⟩ := hm.there
  exact ⟨.ref a, upd H a (exo a C none), I.laidN hm.keeps hm.new hn (exo_ok ht), rfl, ho _ _ rfl _ _ _ (ext_new hn) (sr.hr.xcNew hn ⟨_, hx⟩ rfl) (.ref (by rw [← sr.hr.len]; simp))⟩
/-! ### an attribute of such a value -/
structure FldX (K : PySem.W.Frag) (g : Lk) (l : List (Nat × Nat)) (f : Str) : Prop where
  ex : ∀ c i, l.lookup c = some i → ∃ C ns, g.exc c = some (C, ns) ∧ XfC K C ∧ PySem.W.findIn K (.ref C) f = some none ∧ ns[i]? = some f
def xfD (m : Hm) (l : List (Nat × Nat)) (x : D) : Option D := match x with
  | .ref n => match m[n]? with
    | some (.xc c fs) => match l.lookup c with
      | some i => fs[i]?
      | none => none
    | _ => none
  | _ => none
def eXf (l : List (Nat × Nat)) (a : Mv D) : Mv D := fun ρ m => bnd (a ρ m) fun x m1 => (xfD m1 l x).map fun d => .ok d m1
theorem HR.xc (h : HR g ι m H) {n c : Nat} {a : Addr} {fs : List D} (ha : ι[n]? = some a) (hn : m[n]? = some (.xc c fs)) :
    ∃ e C d, H a = some (.ext (xoP e C d)) ∧ ExR g ι H ⟨c, fs⟩ (.ref C) d := by
  obtain ⟨b, u, hb, hu, r⟩ := h.obj n _ hn
  rw [ha] at hb; cases hb
  cases r with
  | xc r => exact ⟨_, _, _, hu, r⟩
theorem me_xf {e : Expr} {a : Mv D} {f : Str} {l : List (Nat × Nat)} (F : FldX X.K g l f) (he : ME g W X e a) (hb : attributeBase e f X.env (eval e X.env) = eval e X.env := by rfl) : ME g W X (.Attribute e f pos) (eXf l a) := by
  refine ⟨fun pins s σ H Q I q => ?_⟩
  obtain ⟨ι, m, ρ, r, sr, hc, ho, hxw⟩ := q
  refine attr_of hb (thn (he.run pins s σ H (fun x H1 => ∃ b e C dd fs v, x = .ref b ∧ H1 b = some (.ext (xoP e C (some dd))) ∧ H1 dd = some (.xd fs) ∧ XfC X.K C ∧ PySem.W.findIn X.K (.ref C) f = some none ∧ fs.lookup f = some v ∧ Q v H1) I ?_) fun u s1 hh => ?_)
  · refine useE sr hc hxw fun ι1 m1 d v H1 e1 s1 rv hk => ?_
    cases hd : xfD m1 l d with
    | none => rw [hd] at hk; cases hk
    | some y =>
      rw [hd] at hk
      cases hk
      unfold xfD at hd
      split at hd
      · rename_i n
        split at hd
        · rename_i c' fs hn
          split at hd
          · rename_i i hi
            cases rv with | ref ha =>
            obtain ⟨e', C', d', h1, h2⟩ := s1.hr.xc ha hn
            obtain ⟨C2, ns, h3, h4, h5, h6⟩ := F.ex c' i hi
            obtain ⟨C3, ns3, k1, k2, k3⟩ := h2
            have k1' : g.exc c' = some (C3, ns3) := k1
            rw [h3] at k1'; cases k1'
            cases k2
            rcases k3 with ⟨k3, _⟩ | ⟨dd, gs, rfl, k4, k5⟩
            · have : fs = [] := k3
              rw [this] at hd; simp at hd
            · obtain ⟨v, hv, r⟩ := k5 i f y h6 hd
              exact ⟨_, _, _, _, _, v, rfl, h1, k4, h4, h5, hv, ho _ _ rfl ι1 v H1 e1 s1.hr r⟩
          · cases hd
        · cases hd
      · cases hd
  · obtain ⟨x, H1, I1, rx, b, e', C', dd, fs, v, ex, ea, ed, T, hno, l', q⟩ := hh
    subst ex
    obtain rfl : u = Value.ref b := rx
    obtain ⟨_, t1, hb1⟩ := xo_at I1.hok ea
    have hx : ObjOk X.prog X.w H1 s1.heap dd (.xd fs) := I1.hok dd _ ed
    obtain ⟨mA, hns, hr⟩ := hx
    obtain ⟨od, ho2, hl⟩ := lookIn_ns hns
    obtain ⟨u, hu, ru⟩ := RelO.some_of (v := v) (o := mA f) (by rw [← l']; exact hr f)
    have J : PySem.W.InstAt s1.heap b { cls := .ref C', dict := some dd, data := .fields #[.ref t1, .none, .none, .none, .bool false, .none] } C' (some od) := ⟨hb1, rfl, rfl, ho2⟩
    exact HandSPX.exc_get I1.kIn J T.ga T.gg T.exC (PySem.W.findObj_own T.hdC hno rfl (by rw [hl, hu])) (handed_of ru) ⟨v, H1, I1.tok _, ru, q⟩
end
/-! ### isinstance of such a value -/
/-- a value's type, exceptions too -/
def TyE (K : PySem.W.Frag) (H : Hp) (x : V) (t : Value) : Prop := TyX K H x t ∨ ∃ a e C d, x = .ref a ∧ t = .ref C ∧ H a = some (.ext (xoP e C d)) ∧ ExcC K C ∧ (d = none ∨ ∃ dd fs, d = some dd ∧ H dd = some (.xd fs))
section
variable {X : Cx} {pins : List (Addr × Obj)} {σ : L2.St} {H : Hp} {s : Shared}
theorem excC_inst {a e C : Addr} {d : Option Addr} (I : Inv X pins σ H s) (ea : H a = some (.ext (xoP e C d))) (hd : d = none ∨ ∃ dd fs, d = some dd ∧ H dd = some (.xd fs)) : ∃ ox od, PySem.W.InstAt s.heap a ox C od := by
  obtain ⟨_, t1, hb1⟩ := xo_at I.hok ea
  rcases hd with rfl | ⟨dd, fs, rfl, ed⟩
  · exact ⟨_, none, hb1, rfl, rfl, trivial⟩
  · have hx : ObjOk X.prog X.w H s.heap dd (.xd fs) := I.hok dd _ ed
    obtain ⟨mA, hns, hr⟩ := hx
    obtain ⟨od, ho2, hl⟩ := lookIn_ns hns
    exact ⟨_, some od, hb1, rfl, rfl, ho2⟩
theorem kitE_of {x : V} {u t : Value} (I : Inv X pins σ H s) (rx : RelV x u) (ty : TyE X.K H x t) : ∃ P : Heap → Prop, PySem.W.KitX X.K u t P ∧ P s.heap ∧ u ≠ .builtin "__main__.__loader__#opaque" := by
  rcases ty with ty | ⟨a, e, C, d, rfl, rfl, ea, T, hd⟩
  · exact kit_of I rx ty
  · cases (show u = Value.ref a from rx)
    exact ⟨_, PySem.W.kitx_excD T.hg T.hk T.hs T.hd T.ha T.hn T.ht T.hm, excC_inst I ea hd, fun z => nomatch z⟩
def rIsE2 (K : PySem.W.Frag) : List V → Hp → VK → Prop := fun xs H Q => ∃ (x c : V) (t u : Value) (b : Bool), xs = [x, c] ∧ ClsV c u ∧ TyE K H x t ∧ PySem.W.kitOne K t u = some b ∧ Q (.bl b) H
def rIsET (K : PySem.W.Frag) : List V → Hp → VK → Prop := fun xs H Q => ∃ (x : V) (tp : Addr) (cs : List V) (t : Value) (us : List Value) (b : Bool), xs = [x, .ref tp] ∧ H tp = some (.tup cs) ∧ Paired ClsV cs us ∧ TyE K H x t ∧ PySem.W.kitAny K t us = some b ∧ Q (.bl b) H
end
section
variable {X : Cx}
theorem call_isE2 : CallR X (.builtin "isinstance") (rIsE2 X.K) := by
  intro pins s σ H xs us Q I r h
  obtain ⟨x, c, t, u, b, rfl, k, ty, e, q⟩ := h
  obtain ⟨u1, u2, rfl, r1, r2⟩ := vals2 r
  have e2 := k.eq r2
  subst e2
  obtain ⟨P, Z, p, hx⟩ := kitE_of I r1 ty
  exact PySem.W.kia_one Z I.kIn p e hx fun tk => ⟨.bl b, H, I.tok tk, rfl, q⟩
theorem call_isET : CallR X (.builtin "isinstance") (rIsET X.K) := by
  intro pins s σ H xs us Q I r h
  obtain ⟨x, tp, cs, t, ws, b, rfl, hT, k, ty, e, q⟩ := h
  obtain ⟨u1, u2, rfl, r1, r2⟩ := vals2 r
  cases (show u2 = Value.ref tp from r2)
  obtain ⟨P, Z, p, hx⟩ := kitE_of I r1 ty
  obtain ⟨_, its, rv, o, h1, h2, n, h3⟩ := (show ObjOk X.prog X.w H s.heap tp (.tup cs) from I.hok tp _ hT)
  have e3 := ClsV.all k rv
  subst e3
  obtain ⟨oc, od, dt, sl⟩ := o
  simp only at h2 h3
  subst h2 h3
  exact PySem.W.kia_tup Z I.kIn p h1 e hx fun tk => ⟨.bl b, H, I.tok tk, rfl, q⟩
/-- isinstance(e, c), e held by the suite -/
def rIsH (K : PySem.W.Frag) (a : Addr) (cls : Value) (dd : Option Addr) : List V → Hp → VK → Prop := fun xs H Q => ∃ (c : V) (cv : Value) (b : Bool) (C : Addr), xs = [.ref a, c] ∧ cls = .ref C ∧ ExcC K C ∧ (dd = none ∨ ∃ d fs, dd = some d ∧ H d = some (.xd fs)) ∧ ClsV c cv ∧ PySem.W.kitOne K (.ref C) cv = some b ∧ Q (.bl b) H
def rIsHT (K : PySem.W.Frag) (a : Addr) (cls : Value) (dd : Option Addr) : List V → Hp → VK → Prop := fun xs H Q => ∃ (tp : Addr) (cs : List V) (us : List Value) (b : Bool) (C : Addr), xs = [.ref a, .ref tp] ∧ H tp = some (.tup cs) ∧ Paired ClsV cs us ∧ cls = .ref C ∧ ExcC K C ∧ (dd = none ∨ ∃ d fs, dd = some d ∧ H d = some (.xd fs)) ∧ PySem.W.kitAny K (.ref C) us = some b ∧ Q (.bl b) H
theorem held_inst {a C : Addr} {oe : Obj} {dd : Option Addr} {pn pins : List (Addr × Obj)} {σ : L2.St} {H : Hp} {s : Shared} (I : Inv (X.suite a ((a, oe) :: pn)) pins σ H s) (hz : Zc (.ref C) dd oe) (hf : ∃ vs, oe.data = .fields vs) (hd : dd = none ∨ ∃ d fs, dd = some d ∧ H d = some (.xd fs)) :
    ∃ ox od, PySem.W.InstAt s.heap a ox C od := by
  obtain ⟨hget, _⟩ := I.pin (a, oe) (List.mem_append.mpr (.inl List.mem_cons_self))
  obtain ⟨vs, hv⟩ := hf
  obtain ⟨oc, od, oda, osl⟩ := oe
  obtain ⟨h1, h2⟩ := hz
  dsimp only at h1 h2 hv
  subst h1 h2 hv
  rcases hd with rfl | ⟨d, fs, rfl, ed⟩
  · exact ⟨_, none, hget, rfl, rfl, trivial⟩
  · have hx : ObjOk X.prog X.w H s.heap d (.xd fs) := I.hok d _ ed
    obtain ⟨mA, hns, hr⟩ := hx
    obtain ⟨od, ho2, hl⟩ := lookIn_ns hns
    exact ⟨_, some od, hget, rfl, rfl, ho2⟩
theorem call_isH {a : Addr} {oe : Obj} {cls : Value} {dd : Option Addr} {pn : List (Addr × Obj)} (hz : Zc cls dd oe) (hf : ∃ vs, oe.data = .fields vs) : CallR (X.suite a ((a, oe) :: pn)) (.builtin "isinstance") (rIsH X.K a cls dd) := by
  intro pins s σ H xs us Q I r h
  obtain ⟨c, cv, b, C, rfl, rfl, T, hd, k, e, q⟩ := h
  obtain ⟨u1, u2, rfl, r1, r2⟩ := vals2 r
  cases (show u1 = Value.ref a from r1)
  have e2 := k.eq r2
  subst e2
  exact PySem.W.kia_one (PySem.W.kitx_excD T.hg T.hk T.hs T.hd T.ha T.hn T.ht T.hm) I.kIn (held_inst I hz hf hd) e (fun z => nomatch z) fun tk => ⟨.bl b, H, I.tok tk, rfl, q⟩
theorem call_isHT {a : Addr} {oe : Obj} {cls : Value} {dd : Option Addr} {pn : List (Addr × Obj)} (hz : Zc cls dd oe) (hf : ∃ vs, oe.data = .fields vs) : CallR (X.suite a ((a, oe) :: pn)) (.builtin "isinstance") (rIsHT X.K a cls dd) := by
  intro pins s σ H xs us Q I r h
  obtain ⟨tp, cs, ws, b, C, rfl, hT, k, rfl, T, hd, e, q⟩ := h
  obtain ⟨u1, u2, rfl, r1, r2⟩ := vals2 r
  cases (show u1 = Value.ref a from r1)
  cases (show u2 = Value.ref tp from r2)
  obtain ⟨_, its, rv, o, h1, h2, n, h3⟩ := (show ObjOk X.prog X.w H s.heap tp (.tup cs) from I.hok tp _ hT)
  have e3 := ClsV.all k rv
  subst e3
  obtain ⟨oc, od, dt, sl⟩ := o
  simp only at h2 h3
  subst h2 h3
  exact PySem.W.kia_tup (PySem.W.kitx_excD T.hg T.hk T.hs T.hd T.ha T.hn T.ht T.hm) I.kIn (held_inst I hz hf hd) h1 e (fun z => nomatch z) fun tk => ⟨.bl b, H, I.tok tk, rfl, q⟩
end
end Mi
namespace L2
open PySem PySem.Spec PyProof.Rows
/-- what the clauses wish, some with a name -/
def wManyN (K : PySem.W.Frag) (Wout : WX) (D : Ends) : List (Value × Option Nat × (Addr → Value → Option Addr → TS)) → WX
  | [] => Wout
  | (c, none, ts) :: r => fun cls d σ H => ∃ b, PySem.W.exmOne K cls c = some b ∧ (b = true → ∀ a, H a = none → ts a cls d D σ H) ∧ (b = false → wManyN K Wout D r cls d σ H)
  | (c, some i, ts) :: r => fun cls d σ H => ∃ b, PySem.W.exmOne K cls c = some b ∧ (b = true → ∀ a, H a = none → ts a cls d { nx := fun σ' H' => D.nx (σ'.set i none) H', rt := D.rt, bk := fun σ' H' => D.bk (σ'.set i none) H', ct := fun σ' H' => D.ct (σ'.set i none) H' } (σ.set i (some (.ref a))) H) ∧
      (b = false → wManyN K Wout D r cls d σ H)
inductive HdsN (X : Cx) : List ExceptHandler → List (Value × Option Nat × (Addr → Value → Option Addr → TS)) → Prop
  | nil : HdsN X [] []
  | cons {x : Str} {c : Value} {ts : Addr → Value → Option Addr → TS} {b₀ : Stmt} {suite : List Stmt} {np pos' : Pos} {hds : List ExceptHandler} {l : List (Value × Option Nat × (Addr → Value → Option Addr → TS))} (hc : Names X x c)
      (hsu : ∀ (a : Addr) (oe : Obj) (cls : Value) (d : Option Addr) (pn : List (Addr × Obj)), Zc cls d oe → (∃ vs, oe.data = .fields vs) → PSs (X.suite a ((a, oe) :: pn)) (b₀ :: suite) (ts a cls d)) (r : HdsN X hds l) :
      HdsN X (.ExceptHandler (some (.Name x np)) none (b₀ :: suite) pos' :: hds) ((c, none, ts) :: l)
  | cas {x n : Str} {c : Value} {i : Nat} {ts : Addr → Value → Option Addr → TS} {b₀ : Stmt} {suite : List Stmt} {np pos' : Pos} {hds : List ExceptHandler} {l : List (Value × Option Nat × (Addr → Value → Option Addr → TS))} (hc : Names X x c) (hi : X.N[i]? = some n) (hln : X.env.kindOf n = some .local)
      (hsu : ∀ (a : Addr) (oe : Obj) (cls : Value) (d : Option Addr) (pn : List (Addr × Obj)), Zc cls d oe → (∃ vs, oe.data = .fields vs) → PSs (X.suite a ((a, oe) :: pn)) (b₀ :: suite) (ts a cls d)) (r : HdsN X hds l) :
      HdsN X (.ExceptHandler (some (.Name x np)) (some n) (b₀ :: suite) pos' :: hds) ((c, some i, ts) :: l)
section
variable {X : Cx} {body : List Stmt} {h₀ : ExceptHandler} {hds : List ExceptHandler} {l : List (Value × Option Nat × (Addr → Value → Option Addr → TS))} {pos : Pos} {tb : WX → TS} {Wout : WX}
theorem ps_try_manyN (hs : X.stack = X.env :: X.outer) (hf : X.env.frame = some X.env.locals) (hN : X.N.Nodup) (tk : Takes X Wout)
    (hb : ∀ (W : WX) (pn : List (Addr × Obj)) (xe : Value → Shared → Prop), Takes (X.tr pn xe) W → PassesOwn (model X.prog X.w) X.A X.env xe → PSs (X.tr pn xe) body (tb W))
    (hh : HdsN X (h₀ :: hds) l) : PS X (.Try body (h₀ :: hds) [] [] pos) (fun D σ H => tb (wManyN X.K Wout D l) D σ H) := by
  refine ⟨fun pins s σ H D I h => ?_⟩
  have ok := I.ok
  have hfr : X.A.frames = some (X.env :: X.outer) := by rw [ok.frames, hs]
  refine wpAny_Try_except ?_
  refine wpAny_mono ((hb (wManyN X.K Wout D l) (X.pn ++ pins) (fun e s₁ => wpAny (model X.prog X.w) X.A (noteFrame e X.env) (fun _ s₂ => wpAny (model X.prog X.w) X.A (setFlight e none) (fun _ s₃ =>
    wpAny (model X.prog X.w) X.A (handleBy e X.env (h₀ :: hds)) (SP X pins D) X.xe s₃) X.xe s₂) X.xe s₁) (fun u s' xx => ?_) PassesOwn.looking).run [] s σ H D (I.toTry _) h) (fun f s1 hsp => ?_) (fun e s1 he => he)
  · obtain ⟨a, B, sI, pins', σ', H', cls, d, rfl, J', nb, up, sky, na, os, ag, w⟩ := xx
    have J : Inv X pins σ' H' sI := J'.ofTry ok
    have sky' : Sky B (X.env :: X.outer) a (Zc cls d) X.env.locals s'.heap := by rw [← hs]; exact sky
    show wpAny (model X.prog X.w) X.A (noteFrame (.ref a) X.env) _ _ _
    refine Sky.land Zc.steady hfr hf sky' fun h3 fl3 up3 => ?_
    have J3 : Inv X pins σ' H' { s' with heap := h3 } := J.landed nb fl3.1 (up.trans up3) os ag
    obtain ⟨oe3, vs3, he3, hz3, hd3⟩ := fl3.there
    have notFr : ∀ {h : Heap} {o : Obj} {vs : Array Value}, h.FunFrames B (X.env :: X.outer) → h.get? a = some o → o.data = .fields vs → a ∉ frs (X.env :: X.outer) := fun {h o vs} ff e dd hm => by
      obtain ⟨_, o', e', hnf⟩ := ff.mem hm
      rw [e] at e'; cases e'
      exact hnf _ dd
    have nfr := notFr fl3.2.2.1 he3 hd3
    have nL : a ≠ X.env.locals := fun z => nfr (List.mem_filterMap.mpr ⟨X.env, List.mem_cons_self, by rw [hf, z]⟩)
    have nF : a ∉ X.fs := fun hm => by
      obtain ⟨e, he, q⟩ := List.mem_filterMap.mp hm
      exact nfr (List.mem_filterMap.mpr ⟨e, List.mem_cons_of_mem _ he, q⟩)
    have S3 := J3.suite he3 hd3 na nL nF
    have go : ∀ {hds' : List ExceptHandler} {l' : List (Value × Option Nat × (Addr → Value → Option Addr → TS))}, HdsN X hds' l' → wManyN X.K Wout D l' cls d σ' H' →
        wpAny (model X.prog X.w) X.A (handleBy (.ref a) X.env hds') (SP X pins D) X.xe { s' with heap := h3 } := by
      intro hds' l' hk
      induction hk with
      | nil =>
        intro w
        refine wpAny_handleBy_nil ?_
        obtain ⟨k1, k2, k3, oe, vs, T, oT, ts', he, hz, hd, h1, hr⟩ := id fl3
        unfold PySem.passOn
        refine wpAny_bind (wpAny_field he hd h1 ?_)
        rw [if_neg (show ¬ ((Value.ref T == Value.none) = true) from by simp)]
        have fin : wpAny (model X.prog X.w) X.A (setFlight (.ref a) X.env.frame) (fun _ s4 => wpAny (model X.prog X.w) X.A (throw (.ref a) : Sem Flow) (SP X pins D) X.xe s4) X.xe { s' with heap := h3 } := by
          rw [hf]
          refine HandSPX.setFlight_upZ fl3 fun h4 hh4 up4 => wpAny_throw (tk _ _ ?_)
          exact ⟨a, B, sI, pins, σ', H', cls, d, rfl, J, nb, (up.trans up3).trans up4, .inr (.inr (by rw [hs]; exact hh4)), na, os, ag, w⟩
        first
          | exact wpAny_bind (wpAny_pure (wpAny_bind fin))
          | exact wpAny_bind fin
      | @cons x c ts b₀ suite np pos' hds2 l2 hc hsu r ih =>
        intro w
        obtain ⟨b, hb1, hyes, hno⟩ := w
        refine wpAny_handleBy_cons (codeAny_handlers_test ?_) (by intro q; cases q)
        have LT : PySem.W.Looks (model X.prog X.w) h3 (typeOf (.ref a)) cls := fun A Q E s k q => wpAny_typeOf_ref (k _ _ he3) (by rw [hz3.1]; exact q)
        have LM := PySem.W.exm_one (M := model X.prog X.w) (J3.kIn) LT hb1
        have test : ∀ {Q : Value → Shared → Prop} {E : Value → Shared → Prop}, Q c { s' with heap := h3 } → wpAny (model X.prog X.w) (X.A.mark (some (.ref a))) (eval (.Name x np) X.env) Q E { s' with heap := h3 } := fun {Q E} q => by
          obtain ⟨hg, hdbg, hm | ⟨hm, hv, hnn⟩⟩ := hc
          · exact ld_glob (X := X.suite a ((a, oe3) :: (X.pn ++ pins))) S3 hg hm q hdbg
          · exact ld_blt (X := X.suite a ((a, oe3) :: (X.pn ++ pins))) S3 hg hm hv q hnn hdbg
        refine test (LM.here ?_)
        cases b with
        | true =>
          refine codeAny_handlers_suite ?_
          refine HandSPX.lands_againZ fl3 fun h4 fl4 up4 => ?_
          have J4 : Inv X pins σ' H' { s' with heap := h4 } := J.landed nb fl4.1 ((up.trans up3).trans up4) os ag
          obtain ⟨oe4, vs4, he4, hz4, hd4⟩ := fl4.there
          have S4 := J4.suite he4 hd4 na nL nF
          refine wpAny_mono ((hsu a oe4 cls d (X.pn ++ pins) hz4 ⟨_, hd4⟩).run [] _ _ H' _ S4 (hyes rfl a na)) (fun f s6 hsp => ?_) (fun _ _ z => False.elim z)
          cases f with
          | next =>
            obtain ⟨σ6, H6, S6, q6⟩ := hsp
            exact ⟨_, _, S6.unsuite ok, q6⟩
          | brk =>
            obtain ⟨σ6, H6, S6, q6⟩ := hsp
            exact ⟨_, _, S6.unsuite ok, q6⟩
          | cont =>
            obtain ⟨σ6, H6, S6, q6⟩ := hsp
            exact ⟨_, _, S6.unsuite ok, q6⟩
          | ret u =>
            obtain ⟨v6, σ6, H6, S6, r6, q6⟩ := hsp
            exact ⟨_, _, _, S6.unsuite ok, r6, q6⟩
        | false =>
          show wpAny _ X.A (handleBy (.ref a) X.env hds2) _ _ _
          exact ih (hno rfl)
      | @cas x n c i ts b₀ suite np pos' hds2 l2 hc hi hln hsu r ih =>
        intro w
        obtain ⟨b, hb1, hyes, hno⟩ := w
        have hloc : Loc X.env.scope n := .inl hln
        refine wpAny_handleBy_cons (codeAny_handlers_test ?_) (by intro q; cases q)
        have LT : PySem.W.Looks (model X.prog X.w) h3 (typeOf (.ref a)) cls := fun A Q E s k q => wpAny_typeOf_ref (k _ _ he3) (by rw [hz3.1]; exact q)
        have LM := PySem.W.exm_one (M := model X.prog X.w) (J3.kIn) LT hb1
        have test : ∀ {Q : Value → Shared → Prop} {E : Value → Shared → Prop}, Q c { s' with heap := h3 } → wpAny (model X.prog X.w) (X.A.mark (some (.ref a))) (eval (.Name x np) X.env) Q E { s' with heap := h3 } := fun {Q E} q => by
          obtain ⟨hg, hdbg, hm | ⟨hm, hv, hnn⟩⟩ := hc
          · exact ld_glob (X := X.suite a ((a, oe3) :: (X.pn ++ pins))) S3 hg hm q hdbg
          · exact ld_blt (X := X.suite a ((a, oe3) :: (X.pn ++ pins))) S3 hg hm hv q hnn hdbg
        refine test (LM.here ?_)
        cases b with
        | true =>
          refine codeAny_handlers_suite_as ?_
          refine HandSPX.lands_againZ fl3 fun h4 fl4 up4 => ?_
          have J4 : Inv X pins σ' H' { s' with heap := h4 } := J.landed nb fl4.1 ((up.trans up3).trans up4) os ag
          obtain ⟨oe4, vs4, he4, hz4, hd4⟩ := fl4.there
          have S4 := J4.suite he4 hd4 na nL nF
          refine store_ok (X := X.suite a ((a, oe4) :: (X.pn ++ pins))) (v := .ref a) S4 hN hi hloc rfl (fun s5 S5 => ?_) (.inr hln)
          refine wpAny_mono ((hsu a oe4 cls d (X.pn ++ pins) hz4 ⟨_, hd4⟩).run [] s5 _ H' _ S5 (hyes rfl a na)) (fun f s6 hsp => ?_) (fun _ _ z => False.elim z)
          have end_ : ∀ {σ6 : St} {H6 : Hp} {Q : Shared → Prop}, Inv (X.suite a ((a, oe4) :: (X.pn ++ pins))) [] σ6 H6 s6 → (∀ s7, Inv X pins (σ6.set i none) H6 s7 → Q s7) →
              wpAny (model X.prog X.w) X.A (do bindName X.env n .none; unbindBehindTheSuite X.env n pos') (fun _ s7 => Q s7) X.xe s6 := fun {σ6 H6 Q} S6 hq => gone_ok (S6.unsuite ok) hN hi hln hq
          cases f with
          | next =>
            obtain ⟨σ6, H6, S6, q6⟩ := hsp
            exact end_ S6 fun s7 J7 => ⟨_, _, J7, q6⟩
          | brk =>
            obtain ⟨σ6, H6, S6, q6⟩ := hsp
            exact end_ S6 fun s7 J7 => ⟨_, _, J7, q6⟩
          | cont =>
            obtain ⟨σ6, H6, S6, q6⟩ := hsp
            exact end_ S6 fun s7 J7 => ⟨_, _, J7, q6⟩
          | ret u =>
            obtain ⟨v6, σ6, H6, S6, r6, q6⟩ := hsp
            exact end_ S6 fun s7 J7 => ⟨_, _, _, J7, r6, q6⟩
        | false =>
          show wpAny _ X.A (handleBy (.ref a) X.env hds2) _ _ _
          exact ih (hno rfl)
    exact go hh w
  · cases f with
    | next =>
      obtain ⟨σ', H', J', q⟩ := hsp
      exact wpAny_execs_nil ⟨σ', H', J'.ofTry ok, q⟩
    | brk =>
      obtain ⟨σ', H', J', q⟩ := hsp
      exact ⟨σ', H', J'.ofTry ok, q⟩
    | cont =>
      obtain ⟨σ', H', J', q⟩ := hsp
      exact ⟨σ', H', J'.ofTry ok, q⟩
    | ret u =>
      obtain ⟨v, σ', H', J', r, q⟩ := hsp
      exact ⟨v, σ', H', J'.ofTry ok, r, q⟩
end
end L2
namespace Mi
open PySem PySem.Spec PyProof.Rows L2
theorem psEx {X : Cx} {α : Type} {s : List Stmt} {t : α → TS} (h : ∀ x, PSs X s (t x)) : PSs X s (fun D σ H => ∃ x, t x D σ H) := ⟨fun pins st σ H D I ⟨x, q⟩ => (h x).run pins st σ H D I q⟩
/-! ### a look at the same data with an exception held -/
section
variable {g g' : Lk} {ι : List Addr} {m : Hm} {H : Hp}
mutual
theorem RV.lk (e : g'.K = g.K) : ∀ {d : D} {v : V}, RV g ι H d v → RV g' ι H d v
  | _, _, .non => .non
  | _, _, .bl b => .bl b
  | _, _, .int i => .int i
  | _, _, .str x => .str x
  | _, _, .tup s r => .tup s (RVs.lk e r)
  | _, _, .tup0 z => .tup0 (e ▸ z)
  | _, _, .ref q => .ref q
  | _, _, .frl s r => .frl (e ▸ s) (RVs.lk e r)
theorem RVs.lk (e : g'.K = g.K) : ∀ {ds : List D} {vs : List V}, RVs g ι H ds vs → RVs g' ι H ds vs
  | _, _, .nil => .nil
  | _, _, .cons r t => .cons (RV.lk e r) (RVs.lk e t)
end
theorem RK.lk {κ : Type} (e : g'.K = g.K) {ks : List (κ × D)} {vs : List (κ × V)} (r : RK g ι H ks vs) : RK g' ι H ks vs := by
  induction r with
  | nil => exact .nil
  | cons r _ ih => exact .cons (r.lk e) ih
theorem ExR.lk (e : g'.K = g.K) (ee : g'.exc = g.exc) {x : Ex} {cls : Value} {dd : Option Addr} (h : ExR g ι H x cls dd) : ExR g' ι H x cls dd := by
  obtain ⟨C, ns, h1, h2, h3⟩ := h
  refine ⟨C, ns, by rw [ee]; exact h1, h2, h3.imp id ?_⟩
  rintro ⟨d, fs, h4, h5, h6⟩
  exact ⟨d, fs, h4, h5, fun i f y q1 q2 => let ⟨v, hv, r⟩ := h6 i f y q1 q2; ⟨v, hv, r.lk e⟩⟩
theorem HR.lk (e : g'.K = g.K) (ec : g'.cls = g.cls) (ee : g'.exc = g.exc) (h : HR g ι m H) : HR g' ι m H :=
  ⟨h.len, h.nd, fun n o q => let ⟨a, u, ha, hu, r⟩ := h.obj n o q; ⟨a, u, ha, hu, by
    cases r with
    | lst r => exact .lst (r.lk e)
    | dK r => exact .dK (r.lk e)
    | dT r => exact .dT (r.lk e)
    | lK r => exact .lK (r.lk e)
    | lT r => exact .lT (r.lk e)
    | ins c l r => exact .ins (by rw [ec]; exact c) l (r.lk e)
    | xc r => exact .xc (ExR.lk e ee r)⟩⟩
end
abbrev hold (g : Lk) (h : Held) : Lk := { g with held := some h }
theorem RV.toH {g : Lk} {h : Held} {ι : List Addr} {H : Hp} {d : D} {v : V} (r : RV g ι H d v) : RV (hold g h) ι H d v := RV.lk (g := g) (g' := hold g h) rfl r
theorem RV.ofH {g : Lk} {h : Held} {ι : List Addr} {H : Hp} {d : D} {v : V} (r : RV (hold g h) ι H d v) : RV g ι H d v := RV.lk (g := hold g h) (g' := g) rfl r
theorem HR.toH {g : Lk} {h : Held} {ι : List Addr} {m : Hm} {H : Hp} (r : HR g ι m H) : HR (hold g h) ι m H := HR.lk (g := g) (g' := hold g h) rfl rfl rfl r
theorem HR.ofH {g : Lk} {h : Held} {ι : List Addr} {m : Hm} {H : Hp} (r : HR (hold g h) ι m H) : HR g ι m H := HR.lk (g := hold g h) (g' := g) rfl rfl rfl r
def unhel (ρ : Ro) : Ro := ρ.map fun s => match s with | .hel => .un | s => s
theorem unhel_get {ρ : Ro} {i : Nat} {d : D} (h : (unhel ρ)[i]? = some (.is d)) : ρ[i]? = some (.is d) := by
  unfold unhel at h
  rw [List.getElem?_map] at h
  cases q : ρ[i]? with
  | none => rw [q] at h; cases h
  | some s => rw [q] at h; cases s with
    | un => cases h
    | is d => exact h
    | hel => cases h
theorem unhel_no {ρ : Ro} {i : Nat} (h : (unhel ρ)[i]? = some .hel) : False := by
  unfold unhel at h
  rw [List.getElem?_map] at h
  cases q : ρ[i]? with
  | none => rw [q] at h; cases h
  | some s => rw [q] at h; cases s <;> cases h
theorem SR.unhold {g : Lk} {h : Held} {ι : List Addr} {m : Hm} {ρ : Ro} {σ : L2.St} {H : Hp} (hg : g.held = none) (s : SR (hold g h) ι m ρ σ H) : SR g ι m (unhel ρ) σ H :=
  ⟨s.hr.ofH, by simpa [unhel] using s.len, fun i d q => let ⟨v, hv, r⟩ := s.slot i d (unhel_get q); ⟨v, hv, r.ofH⟩, fun i q => (unhel_no q).elim, fun h q => by rw [hg] at q; cases q⟩
theorem SR.hold {g : Lk} {h : Held} {ι : List Addr} {m : Hm} {ρ : Ro} {σ : L2.St} {H : Hp} (hg : g.held = none) (s : SR g ι m ρ σ H) (e : ExR g ι H h.x h.cls h.dd) : SR (Mi.hold g h) ι m ρ σ H :=
  have no : ∀ i, ρ[i]? = some Sl.hel → False := fun i q => by
    obtain ⟨h, e, _⟩ := s.hel i q
    rw [hg] at e; cases e
  ⟨s.hr.toH, s.len, fun i d q => let ⟨v, hv, r⟩ := s.slot i d q; ⟨v, hv, r.toH⟩, fun i q => (no i q).elim, fun h' q => by
    cases q
    exact ExR.lk (g := g) (g' := Mi.hold g h) rfl rfl e⟩

/-! ## try -/
structure Cl where
  t : Nat → Bool
  nm : Option Nat
  c : Ex → Ms
def enter (nm : Option Nat) (ρ : Ro) : Ro := match nm with
  | none => ρ
  | some i => ρ.set i .hel
def lvR (nm : Option Nat) (ρ : Ro) : Ro := match nm with
  | none => unhel ρ
  | some i => (unhel ρ).set i .un
def leaveM (nm : Option Nat) (o : Option Ou) : Option Ou := match o with
  | some (.nx ρ m) => some (.nx (lvR nm ρ) m)
  | some (.bk ρ m) => some (.bk (lvR nm ρ) m)
  | some (.ct ρ m) => some (.ct (lvR nm ρ) m)
  | some (.rt d m) => some (.rt d m)
  | _ => none
def handle : List Cl → Ex → Ro → Hm → Option Ou
  | [], x, ρ, m => some (.ex x ρ m)
  | k :: r, x, ρ, m => if k.t x.c = true then leaveM k.nm (k.c x (enter k.nm ρ) m) else handle r x ρ m
def sTry (b : Ms) (l : List Cl) : Ms := fun ρ m => match b ρ m with
  | some (.ex x ρ1 m1) => handle l x ρ1 m1
  | o => o
abbrev SuM (g : Lk) (X : Cx) (t : Nat → Bool) (s : List Stmt) (c : Ex → Ms) : Prop := ∀ (a : Addr) (oe : Obj) (cls : Value) (d : Option Addr) (pn : List (Addr × Obj)) (x : Ex), t x.c = true → Zc cls d oe → (∃ vs, oe.data = .fields vs) →
  MSs (hold g ⟨a, cls, d, x⟩) W0 (X.suite a ((a, oe) :: pn)) s (c x)
/-- which classes a clause takes -/
def Cat (g : Lk) (K : PySem.W.Frag) (c : Value) (t : Nat → Bool) : Prop := ∀ (k : Nat) (C : Addr) (ns : List Str), g.exc k = some (C, ns) → PySem.W.exmOne K (.ref C) c = some (t k)
inductive HdsM (g : Lk) (X : Cx) : List ExceptHandler → List Cl → Prop
  | nil : HdsM g X [] []
  | cons {x : Str} {cv : Value} {t : Nat → Bool} {c : Ex → Ms} {b₀ : Stmt} {suite : List Stmt} {np pos' : Pos} {hds : List ExceptHandler} {l : List Cl} (hc : Names X x cv) (ht : Cat g X.K cv t) (hsu : SuM g X t (b₀ :: suite) c) (r : HdsM g X hds l) :
      HdsM g X (.ExceptHandler (some (.Name x np)) none (b₀ :: suite) pos' :: hds) (⟨t, none, c⟩ :: l)
  | cas {x n : Str} {cv : Value} {t : Nat → Bool} {i : Nat} {c : Ex → Ms} {b₀ : Stmt} {suite : List Stmt} {np pos' : Pos} {hds : List ExceptHandler} {l : List Cl} (hc : Names X x cv) (hi : X.N[i]? = some n) (hln : X.env.kindOf n = some .local) (ht : Cat g X.K cv t) (hsu : SuM g X t (b₀ :: suite) c) (r : HdsM g X hds l) :
      HdsM g X (.ExceptHandler (some (.Name x np)) (some n) (b₀ :: suite) pos' :: hds) (⟨t, some i, c⟩ :: l)
section
variable {g : Lk} {Wout : WX} {X : Cx}
abbrev TSu (g : Lk) (t : Nat → Bool) (c : Ex → Ms) : Addr → Value → Option Addr → TS := fun a cls d D σ H => ∃ x : { x : Ex // t x.c = true }, liftS (hold g ⟨a, cls, d, x.1⟩) W0 (c x.1) D σ H
theorem suM_ts {t : Nat → Bool} {s : List Stmt} {c : Ex → Ms} (h : SuM g X t s c) : ∀ (a : Addr) (oe : Obj) (cls : Value) (d : Option Addr) (pn : List (Addr × Obj)), Zc cls d oe → (∃ vs, oe.data = .fields vs) → PSs (X.suite a ((a, oe) :: pn)) s (TSu g t c a cls d) :=
  fun a oe cls d pn hz hf => psEx fun x => h a oe cls d pn x.1 x.2 hz hf
/-- the clauses' wish from the mirror's -/
theorem wish_of (hg : g.held = none) {hds : List ExceptHandler} {l : List Cl} (hh : HdsM g X hds l) : ∃ l', HdsN X hds l' ∧ ∀ {ι : List Addr} {H : Hp} {D : Ends} {x : Ex} {ρ : Ro} {m : Hm} {o : Ou} {cls : Value} {dd : Option Addr} {σ : L2.St},
    handle l x ρ m = some o → PostS g Wout ι H o D → SR g ι m ρ σ H → ExR g ι H x cls dd → wManyN X.K Wout D l' cls dd σ H := by
  induction hh with
  | nil =>
    refine ⟨[], .nil, fun {ι H D x ρ m o cls dd σ} h p s e => ?_⟩
    cases h
    exact p ι cls dd σ H (Ext.refl _ _) s e
  | @cons xn cv t c b₀ suite np pos' hds l hc ht hsu r ih =>
    obtain ⟨l', h1, h2⟩ := ih
    refine ⟨_, .cons hc (suM_ts hsu) h1, fun {ι H D x ρ m o cls dd σ} h p s e => ?_⟩
    obtain ⟨C, ns, q1, rfl, q3⟩ := id e
    refine ⟨t x.c, ht x.c C ns q1, fun hb a ha => ?_, fun hb => ?_⟩
    · simp only [handle] at h
      rw [if_pos hb] at h
      cases q : c x (enter none ρ) m with
      | none => rw [q] at h; cases h
      | some z =>
        rw [q] at h
        refine ⟨⟨x, hb⟩, ι, m, ρ, z, s.hold hg e, q, ?_⟩
        cases z with
        | nx ρ' m' => cases h; exact fun ι' σ' H' ex s' => p ι' σ' H' ex (s'.unhold hg)
        | bk ρ' m' => cases h; exact fun ι' σ' H' ex s' => p ι' σ' H' ex (s'.unhold hg)
        | ct ρ' m' => cases h; exact fun ι' σ' H' ex s' => p ι' σ' H' ex (s'.unhold hg)
        | rt d m' => cases h; exact fun ι' v H' ex hr rv => p ι' v H' ex hr.ofH rv.ofH
        | ex y ρ' m' => cases h
    · simp only [handle] at h
      rw [if_neg (by rw [hb]; exact Bool.false_ne_true)] at h
      exact h2 h p s e
  | @cas xn n cv t i c b₀ suite np pos' hds l hc hi hln ht hsu r ih =>
    obtain ⟨l', h1, h2⟩ := ih
    refine ⟨_, .cas hc hi hln (suM_ts hsu) h1, fun {ι H D x ρ m o cls dd σ} h p s e => ?_⟩
    obtain ⟨C, ns, q1, rfl, q3⟩ := id e
    refine ⟨t x.c, ht x.c C ns q1, fun hb a ha => ?_, fun hb => ?_⟩
    · simp only [handle] at h
      rw [if_pos hb] at h
      cases q : c x (enter (some i) ρ) m with
      | none => rw [q] at h; cases h
      | some z =>
        rw [q] at h
        have s0 : SR (hold g ⟨a, .ref C, dd, x⟩) ι m (ρ.set i .hel) (σ.set i (some (.ref a))) H := (s.hold hg e).put (fun d z => by cases z) fun _ => ⟨_, rfl, rfl⟩
        refine ⟨⟨x, hb⟩, ι, m, ρ.set i .hel, z, s0, q, ?_⟩
        cases z with
        | nx ρ' m' => cases h; exact fun ι' σ' H' ex s' => p ι' _ H' ex (s'.unhold hg).unset
        | bk ρ' m' => cases h; exact fun ι' σ' H' ex s' => p ι' _ H' ex (s'.unhold hg).unset
        | ct ρ' m' => cases h; exact fun ι' σ' H' ex s' => p ι' _ H' ex (s'.unhold hg).unset
        | rt d m' => cases h; exact fun ι' v H' ex hr rv => p ι' v H' ex hr.ofH rv.ofH
        | ex y ρ' m' => cases h
    · simp only [handle] at h
      rw [if_neg (by rw [hb]; exact Bool.false_ne_true)] at h
      exact h2 h p s e
theorem ms_try {body : List Stmt} {h₀ : ExceptHandler} {hds : List ExceptHandler} {l : List Cl} {cb : Ms} {pos : Pos} (hg : g.held = none) (hN : X.N.Nodup) (tk : Takes X Wout)
    (hb : ∀ (W : WX) (pn : List (Addr × Obj)) (xe : Value → Shared → Prop), Takes (X.tr pn xe) W → PassesOwn (model X.prog X.w) X.A X.env xe → MSs g W (X.tr pn xe) body cb)
    (hh : HdsM g X (h₀ :: hds) l) (hs : X.stack = X.env :: X.outer := by rfl) (hf : X.env.frame = some X.env.locals := by rfl) : MS g Wout X (.Try body (h₀ :: hds) [] [] pos) (sTry cb l) := by
  obtain ⟨l', h1, h2⟩ := wish_of (Wout := Wout) hg hh
  refine psI (ps_try_manyN (tb := fun W => liftS g W cb) hs hf hN tk hb h1) fun D σ H q => ?_
  obtain ⟨ι, m, ρ, o, s, hc, p⟩ := q
  unfold sTry at hc
  cases q : cb ρ m with
  | none => rw [q] at hc; cases hc
  | some z =>
    rw [q] at hc
    refine ⟨ι, m, ρ, z, s, q, ?_⟩
    cases z with
    | nx ρ' m' => cases hc; exact p
    | bk ρ' m' => cases hc; exact p
    | ct ρ' m' => cases hc; exact p
    | rt d m' => cases hc; exact p
    | ex x ρ1 m1 =>
      exact fun ι' cls dd σ' H' e s' er => h2 hc (p.ext e) s' er
end
/-! ### the held exception's attributes -/
def eHel (i k : Nat) (x : Ex) : Mv D := fun ρ m => match ρ[i]? with
  | some .hel => (x.fs[k]?).map fun d => .ok d m
  | _ => none
theorem me_hel {g : Lk} {W : WX} {X : Cx} {a C : Addr} {oe : Obj} {cls : Value} {dd : Option Addr} {pn : List (Addr × Obj)} {x : Ex} {f nm : Str} {p pos : Pos} {ns : List Str} (i k : Nat) (hx : g.exc x.c = some (C, ns)) (hk : ns[k]? = some f) (T : XfC X.K C) (hno : PySem.W.findIn X.K (.ref C) f = some none)
    (hz : Zc cls dd oe) (hf : ∃ vs, oe.data = .fields vs) (hN : X.N[i]? = some nm := by rfl) (hv : Vis X.env.scope nm := by first | exact Or.inl rfl | exact Or.inr (Or.inl rfl) | exact Or.inr (Or.inr rfl)) (hd : (nm == ("__debug__" : Str)) = false := by decide)
    (hcd : (nm == ("__classdict__" : Str)) = false := by decide) (hb : attributeBase (.Name nm p) f X.env (eval (.Name nm p) X.env) = eval (.Name nm p) X.env := by rfl) :
    ME (hold g ⟨a, cls, dd, x⟩) W (X.suite a ((a, oe) :: pn)) (.Attribute (.Name nm p) f pos) (eHel i k x) := peI (pe_xf T hno hz hf (pv i hN hv hd hcd) hb) fun σ H Q q => by
  obtain ⟨ι, m, ρ, r, s, hc, ho, _⟩ := q
  unfold eHel at hc
  split at hc
  · rename_i h1
    cases q : x.fs[k]? with
    | none => rw [q] at hc; cases hc
    | some y =>
      rw [q] at hc; cases hc
      obtain ⟨h, e1, e2⟩ := s.hel i h1
      cases e1
      obtain ⟨C', ns', h2, h3, h4⟩ := s.hx _ rfl
      have h2' : g.exc x.c = some (C', ns') := h2
      rw [hx] at h2'; cases h2'
      rcases h4 with ⟨h5, _⟩ | ⟨d, fs, h5, h6, h7⟩
      · have h5' : x.fs = [] := h5
        rw [h5'] at q; simp at q
      · obtain ⟨v, hv, rv⟩ := h7 k f y hk q
        exact ⟨_, e2, rfl, h3, d, fs, v, h5, h6, hv, ho _ _ rfl ι v H (Ext.refl _ _) s.hr rv⟩
  · cases hc

/-! ## isinstance -/
inductive Tg where
  | non | bl | int | str | tup | lst | dct | own (c : Nat) | exc (c : Nat)
inductive Ct where
  | bl | int | str | tup | lst | dct | own (c : Nat) | exc (p : Nat → Bool)
def isa : Tg → Ct → Bool
  | .bl, .bl => true
  | .bl, .int => true
  | .int, .int => true
  | .str, .str => true
  | .tup, .tup => true
  | .lst, .lst => true
  | .dct, .dct => true
  | .own c, .own c' => c == c'
  | .exc c, .exc p => p c
  | _, _ => false
def tagD (m : Hm) : D → Option Tg
  | .non => some .non
  | .bl _ => some .bl
  | .int _ => some .int
  | .str _ => some .str
  | .tup _ => some .tup
  | .ref n => match m[n]? with
    | some (.lst _) => some .lst
    | some (.dK _) => some .dct
    | some (.dT _) => some .dct
    | some (.lK _) => some .dct
    | some (.ins c _) => some (.own c)
    | some (.xc c _) => some (.exc c)
    | some (.lT _) => none
    | none => none
  | .frl _ => none
inductive TgR (g : Lk) : Tg → Value → Prop
  | non : TgR g .non (.type "NoneType")
  | bl : TgR g .bl (.type "bool")
  | int : TgR g .int (.type "int")
  | str : TgR g .str (.type "str")
  | tup : TgR g .tup (.type "tuple")
  | lst : TgR g .lst (.type "list")
  | dct : TgR g .dct (.type "dict")
  | own {c : Nat} {C : Addr} {ns : List Str} : g.cls c = some (C, ns) → TgR g (.own c) (.ref C)
  | exc {c : Nat} {C : Addr} {ns : List Str} : g.exc c = some (C, ns) → TgR g (.exc c) (.ref C)
structure OwnTy (K : PySem.W.Frag) (C : Addr) : Prop where
  cl : Cls K C
  ha : PySem.W.findIn K (.ref C) "__class__" = some (some (.builtin "object.__class__"))
  hn : PySem.W.specialIn K (.builtin "object.__class__") "__get__" = some (some (.builtin "getset_descriptor.__get__"))
  htk : PySem.W.takesIn K (.builtin "object.__class__") = some true
  hm : PySem.W.mroIn K C (.type "object") = some true
structure OwnAll (g : Lk) (K : PySem.W.Frag) : Prop where
  cl : ∀ (c : Nat) (C : Addr) (ns : List Str), g.cls c = some (C, ns) → OwnTy K C
  ex : ∀ (c : Nat) (C : Addr) (ns : List Str), g.exc c = some (C, ns) → ExcC K C
theorem tag_ty {g : Lk} {K : PySem.W.Frag} (hK : K = g.K) (ho : OwnAll g K) {ι : List Addr} {m : Hm} {H : Hp} {d : D} {v : V} {t : Tg} (hr : HR g ι m H) (r : RV g ι H d v) (h : tagD m d = some t) : ∃ tv, TgR g t tv ∧ TyE K H v tv := by
  cases r with
  | non => cases h; exact ⟨_, .non, .inl (.base .non)⟩
  | bl b => cases h; exact ⟨_, .bl, .inl (.base (.bl b))⟩
  | int b => cases h; exact ⟨_, .int, .inl (.base (.int b))⟩
  | str b => cases h; exact ⟨_, .str, .inl (.base (.str b))⟩
  | tup s t => cases h; exact ⟨_, .tup, .inl (.base (.tup s))⟩
  | tup0 z =>
    cases h
    rcases z with (z | ⟨o, z⟩) | ⟨o, its, n, z1, z2, z3⟩
    · cases z
    · cases z
    · exact ⟨_, .tup, .inl (.kTuple (by rw [hK]; exact z1) z2)⟩
  | frl s t => cases h
  | @ref n a hi =>
    simp only [tagD] at h
    split at h
    · rename_i xs q; cases h
      obtain ⟨u, hu, r⟩ := hr.at q hi
      cases r; exact ⟨_, .lst, .inl (.base (.lst hu))⟩
    · rename_i xs q; cases h
      obtain ⟨u, hu, r⟩ := hr.at q hi
      cases r; exact ⟨_, .dct, .inl (.base (.dK hu))⟩
    · rename_i xs q; cases h
      obtain ⟨u, hu, r⟩ := hr.at q hi
      cases r; exact ⟨_, .dct, .inl (.base (.dT hu))⟩
    · rename_i xs q; cases h
      obtain ⟨u, hu, r⟩ := hr.at q hi
      cases r; exact ⟨_, .dct, .inl (.fDict hu)⟩
    · rename_i c xs q; cases h
      obtain ⟨u, hu, r⟩ := hr.at q hi
      cases r with | ins hc hl hv =>
      have T := ho.cl _ _ _ hc
      exact ⟨_, .own hc, .inl (.base (.ins hu T.cl T.ha T.hn T.htk T.hm))⟩
    · rename_i c xs q; cases h
      obtain ⟨u, hu, r⟩ := hr.at q hi
      cases r with | xc hc =>
      obtain ⟨C, ns, h1, h2, h3⟩ := hc
      cases h2
      refine ⟨_, .exc h1, .inr ⟨_, _, _, _, rfl, rfl, hu, ho.ex _ _ _ h1, ?_⟩⟩
      rcases h3 with ⟨_, h3⟩ | ⟨d, gs, h3, h4, _⟩
      · exact .inl h3
      · exact .inr ⟨d, gs, h3, h4⟩
    · cases h
    · cases h
/-- a class as an expression -/
structure CtE (g : Lk) (X : Cx) (e : Expr) (c : Ct) : Prop where
  ex : ∃ v u, PE X e (tC v) ∧ ClsV v u ∧ ∀ t tv, TgR g t tv → PySem.W.kitOne X.K tv u = some (isa t c)
def bltOf : Ct → String
  | .bl => "bool" | .int => "int" | .str => "str" | .tup => "tuple" | .lst => "list" | .dct => "dict" | .own _ => "" | .exc _ => ""
theorem kit_all (K : PySem.W.Frag) : ∀ (c : Ct), (∀ k, c ≠ .own k) → (∀ k, c ≠ .exc k) → ∀ {g : Lk} {t : Tg} {tv : Value}, (∀ k, t ≠ .own k) → (∀ k, t ≠ .exc k) → TgR g t tv → PySem.W.kitOne K tv (.type (bltOf c)) = some (isa t c) := by
  intro c hc hc2 g t tv ht ht2 r
  cases c with
  | own k => exact absurd rfl (hc k)
  | exc k => exact absurd rfl (hc2 k)
  | _ =>
    cases r with
    | own h => exact absurd rfl (ht _)
    | exc h => exact absurd rfl (ht2 _)
    | _ => exact kit_ty (by decide +kernel)
/-- no own class is one of the built-in ones -/
def OwnNo (g : Lk) (K : PySem.W.Frag) (c : Ct) : Prop := ∀ (k : Nat) (C : Addr) (ns : List Str), (g.cls k = some (C, ns) ∨ g.exc k = some (C, ns)) → PySem.W.kitOne K (.ref C) (.type (bltOf c)) = some false
theorem cte_ty {g : Lk} {X : Cx} {x : Str} {p : Pos} (c : Ct) (hno : OwnNo g X.K c) (hg : Gl X x) (hm : X.mg x = none) (hv : bootBuiltins x = some (.type (bltOf c))) (hc : ∀ k, c ≠ .own k := by intro _ z; cases z) (hc2 : ∀ k, c ≠ .exc k := by intro _ z; cases z) (hn : x ≠ "__name__" := by decide) (hd : (x == ("__debug__" : Str)) = false := by decide) : CtE g X (.Name x p) c := by
  refine ⟨.ty (bltOf c), .type (bltOf c), pe_bltn hg hm hv rfl hn hd, .ty _, fun t tv r => ?_⟩
  by_cases h : ∃ k, t = .own k
  · obtain ⟨k, rfl⟩ := h
    cases r with | own q =>
    rw [hno _ _ _ (.inl q)]
    cases c with
    | own k => exact absurd rfl (hc k)
    | _ => rfl
  · by_cases h2 : ∃ k, t = .exc k
    · obtain ⟨k, rfl⟩ := h2
      cases r with | exc q =>
      rw [hno _ _ _ (.inr q)]
      cases c with
      | exc k => exact absurd rfl (hc2 k)
      | _ => rfl
    · exact kit_all X.K c hc hc2 (fun k e => h ⟨k, e⟩) (fun k e => h2 ⟨k, e⟩) r
inductive CtsE (g : Lk) (X : Cx) : List Expr → List Ct → Prop
  | nil : CtsE g X [] []
  | cons {e : Expr} {es : List Expr} {c : Ct} {cs : List Ct} : CtE g X e c → CtsE g X es cs → starEach (e :: es) X.env = (false, eval e X.env) :: starEach es X.env → CtsE g X (e :: es) (c :: cs)
theorem CtsE.pa {g : Lk} {X : Cx} {es : List Expr} {cs : List Ct} (h : CtsE g X es cs) : ∃ vs us, vs.length = es.length ∧ PA X es (fun _ H Q => Q vs H) ∧ Paired ClsV vs us ∧ ∀ t tv, TgR g t tv → PySem.W.kitAny X.K tv us = some (cs.any (isa t)) := by
  induction h with
  | nil => exact ⟨[], [], rfl, pa_nil, .nil, fun _ _ _ => rfl⟩
  | cons h _ hs ih =>
    obtain ⟨v, u, p, k, q⟩ := h.ex
    obtain ⟨vs, us, hl, p2, k2, q2⟩ := ih
    refine ⟨v :: vs, u :: us, by simp [hl], paI (pa_cons p p2 hs) fun σ H Q z => z, .cons k k2, fun t tv r => ?_⟩
    rw [List.any_cons]
    refine kitAny_cons (q t tv r) (fun e => ?_) (fun e => ?_)
    · rw [e, Bool.false_or]; exact q2 t tv r
    · rw [e]; rfl
def eIsi (cs : List Ct) (a : Mv D) : Mv D := fun ρ m => bnd (a ρ m) fun d m1 => (tagD m1 d).map fun t => .ok (.bl (cs.any (isa t))) m1
section
variable {g : Lk} {W : WX} {X : Cx} {p pos : Pos} {e ec : Expr} {ca : Mv D}
theorem me_isi {c : Ct} (hK : X.K = g.K) (ho : OwnAll g X.K) (hm : X.mg "isinstance" = none) (ha : ME g W X e ca) (hc : CtE g X ec c) (hg : Gl X "isinstance" := by rfl) (he : starEach [e, ec] X.env = (false, eval e X.env) :: starEach [ec] X.env := by rfl) (he2 : starEach [ec] X.env = (false, eval ec X.env) :: starEach [] X.env := by rfl)
    (hpl : (backTo pos (starEach [ec] X.env)).any (·.1) = false := by rfl) : ME g W X (.Call (.Name "isinstance" p) [e, ec] [] pos) (eIsi [c] ca) := by
  obtain ⟨v, u, pv, kv, kq⟩ := hc.ex
  refine peI (pe_callB call_isE2 hg hm (show bootBuiltins "isinstance" = some (.builtin "isinstance") from by decide +kernel) (pa_cons ha (pa_cons pv pa_nil he2) he) (by decide) (by decide) he hpl) fun σ H Q q => ?_
  obtain ⟨ι, m, ρ, r, s, hc, ho', hx⟩ := q
  refine useE s hc hx fun ι1 m1 d v1 H1 e1 s1 rv hk => ?_
  cases q : tagD m1 d with
  | none => rw [q] at hk; cases hk
  | some t =>
    rw [q] at hk; cases hk
    obtain ⟨tv, rt, ty⟩ := tag_ty hK ho s1.hr rv q
    refine ⟨v1, v, tv, u, _, rfl, kv, ty, kq t tv rt, ?_⟩
    have := ho' _ _ rfl ι1 (.bl _) H1 e1 s1.hr (.bl _)
    simpa using this
theorem me_isiT {es : List Expr} {cs : List Ct} {k : Nat} {tpos : Pos} (hK : X.K = g.K) (ho : OwnAll g X.K) (hm : X.mg "isinstance" = none) (ha : ME g W X e ca) (hc : CtsE g X es cs) (hn : es.length ≤ sizeLine := by decide) (hg : Gl X "isinstance" := by rfl) (he : starEach [e, .Tuple es k tpos] X.env = (false, eval e X.env) :: starEach [.Tuple es k tpos] X.env := by rfl)
    (he2 : starEach [.Tuple es k tpos] X.env = (false, eval (.Tuple es k tpos) X.env) :: starEach [] X.env := by rfl)
    (hpl : (backTo pos (starEach [.Tuple es k tpos] X.env)).any (·.1) = false := by rfl) : ME g W X (.Call (.Name "isinstance" p) [e, .Tuple es k tpos] [] pos) (eIsi cs ca) := by
  obtain ⟨vs, us, hl, pv, kv, kq⟩ := hc.pa
  refine peI (pe_callB call_isET hg hm (show bootBuiltins "isinstance" = some (.builtin "isinstance") from by decide +kernel) (pa_cons ha (pa_cons (pe_tup pv) pa_nil he2) he) (by decide) (by decide) he hpl) fun σ H Q q => ?_
  obtain ⟨ι, m, ρ, r, s, hc, ho', hx⟩ := q
  refine useE s hc hx fun ι1 m1 d v1 H1 e1 s1 rv hk => ?_
  refine ⟨by rw [hl]; exact hn, fun tp htp => ?_⟩
  cases q : tagD m1 d with
  | none => rw [q] at hk; cases hk
  | some t =>
    rw [q] at hk; cases hk
    have ex : Ext ι1 H1 ι1 (upd H1 tp (.tup vs)) := ext_side htp
    have hr := s1.hr.side (u := .tup vs) htp
    obtain ⟨tv, rt, ty⟩ := tag_ty hK ho hr (rv.ext s1.hr ex) q
    exact ⟨v1, tp, vs, tv, us, _, rfl, upd_same, kv, ty, kq t tv rt, ho' _ _ rfl ι1 (.bl _) _ (e1.trans ex) hr (.bl _)⟩
/-- a class of the text, by its name -/
theorem cte_cls {x : Str} {C : Addr} (c : Ct) (gC : X.mg x = some (.ref C)) (hq : ∀ t tv, TgR g t tv → PySem.W.kitOne X.K tv (.ref C) = some (isa t c)) (hg : Gl X x := by rfl) (hd : (x == ("__debug__" : Str)) = false := by decide) : CtE g X (.Name x p) c :=
  ⟨.ref C, .ref C, pe_glob hg gC rfl hd, .own C, hq⟩
/-- a built-in class of exceptions -/
theorem cte_blt {x : Str} {nm : String} (c : Ct) (hm : X.mg x = none) (hv : bootBuiltins x = some (.type nm)) (hq : ∀ t tv, TgR g t tv → PySem.W.kitOne X.K tv (.type nm) = some (isa t c)) (hg : Gl X x := by rfl) (hn : x ≠ "__name__" := by decide) (hd : (x == ("__debug__" : Str)) = false := by decide) : CtE g X (.Name x p) c :=
  ⟨.ty nm, .type nm, pe_bltn hg hm hv rfl hn hd, .ty _, hq⟩
/-- isinstance(e, ..), e held by the suite -/
def eIsH (i : Nat) (cs : List Ct) (x : Ex) : Mv D := fun ρ m => match ρ[i]? with
  | some .hel => some (.ok (.bl (cs.any (isa (.exc x.c)))) m)
  | _ => none
theorem me_isH {c : Ct} {a : Addr} {oe : Obj} {cls : Value} {dd : Option Addr} {pn : List (Addr × Obj)} {x : Ex} {nm : Str} {p2 : Pos} (i : Nat) (ho : OwnAll g X.K) (hm : X.mg "isinstance" = none) (hc : CtE (hold g ⟨a, cls, dd, x⟩) (X.suite a ((a, oe) :: pn)) ec c)
    (hz : Zc cls dd oe) (hf : ∃ vs, oe.data = .fields vs) (hN : X.N[i]? = some nm := by rfl) (hv : Vis X.env.scope nm := by first | exact Or.inl rfl | exact Or.inr (Or.inl rfl) | exact Or.inr (Or.inr rfl)) (hd : (nm == ("__debug__" : Str)) = false := by decide)
    (hcd : (nm == ("__classdict__" : Str)) = false := by decide) (hg : Gl X "isinstance" := by rfl) (he : starEach [.Name nm p2, ec] X.env = (false, eval (.Name nm p2) X.env) :: starEach [ec] X.env := by rfl) (he2 : starEach [ec] X.env = (false, eval ec X.env) :: starEach [] X.env := by rfl)
    (hpl : (backTo pos (starEach [ec] X.env)).any (·.1) = false := by rfl) : ME (hold g ⟨a, cls, dd, x⟩) W (X.suite a ((a, oe) :: pn)) (.Call (.Name "isinstance" p) [.Name nm p2, ec] [] pos) (eIsH i [c] x) := by
  obtain ⟨v, u, pv', kv, kq⟩ := hc.ex
  refine peI (pe_callB (X := X.suite a ((a, oe) :: pn)) (call_isH hz hf) hg hm (show bootBuiltins "isinstance" = some (.builtin "isinstance") from by decide +kernel) (pa_cons (pv i hN hv hd hcd) (pa_cons pv' pa_nil he2) he) (by decide) (by decide) he hpl) fun σ H Q q => ?_
  obtain ⟨ι, m, ρ, r, s, hc, ho', hx⟩ := q
  unfold eIsH at hc
  split at hc
  · rename_i h1
    cases hc
    obtain ⟨h, e1, e2⟩ := s.hel i h1
    cases e1
    obtain ⟨C', ns', h2, h3, h4⟩ := s.hx _ rfl
    have h2' : g.exc x.c = some (C', ns') := h2
    refine ⟨_, e2, v, u, _, C', rfl, h3, ho.ex _ _ _ h2', ?_, kv, kq (.exc x.c) _ (.exc h2), ?_⟩
    · rcases h4 with ⟨_, h5⟩ | ⟨d, fs, h5, h6, h7⟩
      · exact .inl h5
      · exact .inr ⟨d, fs, h5, h6⟩
    · have := ho' _ _ rfl ι (.bl _) H (Ext.refl _ _) s.hr (.bl _)
      simpa using this
  · cases hc
theorem me_isHT {es : List Expr} {cs : List Ct} {k : Nat} {tpos : Pos} {a : Addr} {oe : Obj} {cls : Value} {dd : Option Addr} {pn : List (Addr × Obj)} {x : Ex} {nm : Str} {p2 : Pos} (i : Nat) (ho : OwnAll g X.K) (hm : X.mg "isinstance" = none) (hc : CtsE (hold g ⟨a, cls, dd, x⟩) (X.suite a ((a, oe) :: pn)) es cs)
    (hz : Zc cls dd oe) (hf : ∃ vs, oe.data = .fields vs) (hn : es.length ≤ sizeLine := by decide) (hN : X.N[i]? = some nm := by rfl) (hv : Vis X.env.scope nm := by first | exact Or.inl rfl | exact Or.inr (Or.inl rfl) | exact Or.inr (Or.inr rfl)) (hd : (nm == ("__debug__" : Str)) = false := by decide)
    (hcd : (nm == ("__classdict__" : Str)) = false := by decide) (hg : Gl X "isinstance" := by rfl) (he : starEach [.Name nm p2, .Tuple es k tpos] X.env = (false, eval (.Name nm p2) X.env) :: starEach [.Tuple es k tpos] X.env := by rfl) (he2 : starEach [.Tuple es k tpos] X.env = (false, eval (.Tuple es k tpos) X.env) :: starEach [] X.env := by rfl)
    (hpl : (backTo pos (starEach [.Tuple es k tpos] X.env)).any (·.1) = false := by rfl) : ME (hold g ⟨a, cls, dd, x⟩) W (X.suite a ((a, oe) :: pn)) (.Call (.Name "isinstance" p) [.Name nm p2, .Tuple es k tpos] [] pos) (eIsH i cs x) := by
  obtain ⟨vs, us, hl, pv', kv, kq⟩ := hc.pa
  refine peI (pe_callB (X := X.suite a ((a, oe) :: pn)) (call_isHT hz hf) hg hm (show bootBuiltins "isinstance" = some (.builtin "isinstance") from by decide +kernel) (pa_cons (pv i hN hv hd hcd) (pa_cons (pe_tup pv') pa_nil he2) he) (by decide) (by decide) he hpl) fun σ H Q q => ?_
  obtain ⟨ι, m, ρ, r, s, hc, ho', hx⟩ := q
  unfold eIsH at hc
  split at hc
  · rename_i h1
    cases hc
    obtain ⟨h, e1, e2⟩ := s.hel i h1
    cases e1
    refine ⟨_, e2, by rw [hl]; exact hn, fun tp htp => ?_⟩
    obtain ⟨C', ns', h2, h3, h4⟩ := s.hx _ rfl
    have h2' : g.exc x.c = some (C', ns') := h2
    have ex : Ext ι H ι (upd H tp (.tup vs)) := ext_side htp
    refine ⟨tp, vs, us, _, C', rfl, upd_same, kv, h3, ho.ex _ _ _ h2', ?_, kq (.exc x.c) _ (.exc h2), ho' _ _ rfl ι (.bl _) _ ex (s.hr.side htp) (.bl _)⟩
    rcases h4 with ⟨_, h5⟩ | ⟨d, fs, h5, h6, h7⟩
    · exact .inl h5
    · exact .inr ⟨d, fs, h5, by rw [upd_ne (ne_of_none h6 htp)]; exact h6⟩
  · cases hc
end
theorem TgR.ofH {g : Lk} {h : Held} {t : Tg} {tv : Value} (r : TgR (hold g h) t tv) : TgR g t tv := by
  cases r with
  | own q => exact .own q
  | exc q => exact .exc q
  | non => exact .non
  | bl => exact .bl
  | int => exact .int
  | str => exact .str
  | tup => exact .tup
  | lst => exact .lst
  | dct => exact .dct
theorem OwnAll.toH {g : Lk} {h : Held} {K : PySem.W.Frag} (o : OwnAll g K) : OwnAll (hold g h) K := ⟨o.cl, o.ex⟩
theorem FldX.toH {g : Lk} {h : Held} {K : PySem.W.Frag} {l : List (Nat × Nat)} {f : Str} (o : FldX K g l f) : FldX K (hold g h) l f := ⟨o.ex⟩
end Mi
namespace L2
open PySem PySem.Spec PyProof.Rows
section
variable {X : Cx} {e : Expr} {te : TE} {p apos cpos pos : Pos}
def tListV (f : List (Key × V) → List V) (te : TE) : TE := fun σ H Q => te σ H fun x H1 => ∃ d kvs, x = .ref d ∧ Rd H1 d (.dK kvs) ∧ ∀ p, H1 p = none → Q (.ref p) (upd H1 p (.lst (f kvs)))
/-- list(e.keys()) -/
theorem pe_listKeys (hc : X.calm = true) (he : PE X e te) (hg : Gl X "list") (hm : X.mg "list" = none) (hbase : attributeBase e "keys" X.env (eval e X.env) = eval e X.env := by rfl) (hline : (apos.endLine == cpos.line) = true := by rfl)
    (hs : starEach [.Call (.Attribute e "keys" apos) [] [] cpos] X.env = (false, eval (.Call (.Attribute e "keys" apos) [] [] cpos) X.env) :: starEach [] X.env := by rfl) :
    PE X (.Call (.Name "list" p) [.Call (.Attribute e "keys" apos) [] [] cpos] [] pos) (tListV (fun kvs => kvs.map fun kv => kV kv.1) te) := by
  refine ⟨fun pins s σ H Q I hq => ?_⟩
  refine wpAny_Call_Name_kw (ld_blt I hg hm (u := .type "list") (by decide +kernel) ?_)
  refine PyProof.Rows.callWith_type1 ?_ hs rfl
  rw [hs]
  show wpAny _ _ (spliced ((false, eval (.Call (.Attribute e "keys" apos) [] [] cpos) X.env) :: backTo pos (starEach [] X.env))) _ _ s
  refine Calls.spliced_cons ?_
  refine wpAny_Call_method (T := "dict") (id := "dict.keys") hbase rfl hline F.plainAttrs_dict F.slot_dict_keys F.type_dict_keys (thn (he.run pins s σ H _ I hq) fun u s1 ⟨x, H1, I1, rx, d, kvs, ex, hd, q⟩ => ?_)
  subst ex
  obtain rfl : u = Value.ref d := rx
  obtain ⟨z, lo, vs, rel, dd⟩ := dk_rd I1.hok hd
  obtain ⟨ep, hat⟩ := dd.dictAt
  have lk : kvs.length = vs.length := Paired.length rel
  refine ⟨dd.typeIs, dd.mapOf.noDict, ?_⟩
  show wpAny _ _ (callWith cpos (.builtin "dict.keys") [.ref d] [] []) _ X.xe s1
  have I2 : Inv X pins σ H1 { s1 with heap := s1.heap.push { cls := .type "dict_keys", data := .fields #[.ref d] } } := I1.kept (t' := s1.toks) fun b ob q => Heap.get?_push_of_some _ q
  refine method_meetsIn F.slot_dict_keys F.entry_dict_keys rfl (PySem.evalArgs_none ⟨rfl, dd.typeIs, F.args_dict_keys_1 _, _, PySem.W.kdl_meets_keys (mixKind X.prog X.w) d lo, ⟨vs, dd⟩, ?_⟩)
  refine Calls.spliced_nil ?_
  refine PySem.W.kdl_call (PySem.W.kdl_keys (knd := mixKind X.prog X.w) (d := d) (kvs := vs) (ep := ep)) (I1.ok.hd hc) ⟨⟨_, Heap.get?_push_size _ rfl, rfl, rfl⟩, hat.push _⟩ (by rw [← lk]; exact z) fun h' tk acc c' hk hD hacc => ?_
  have ek : (kvs.map fun kv => kV kv.1) = vs.map fun p => kV p.1 := by
    have e := congrArg (List.map kV) rel.keys
    rw [List.map_map, List.map_map] at e
    exact e
  have hv : Vals (vs.map fun p => kV p.1) acc.toList := keys_at (by rw [Array.length_toList]; exact hacc.1) fun j v e => hacc.2 j v (by rw [← Array.getElem?_toList]; exact e)
  exact ⟨.ref _, upd H1 _ (.lst (kvs.map fun kv => kV kv.1)), I2.laid (t' := tk) hk (Nat.le_refl _)
    (show ObjOk X.prog X.w _ _ _ (.lst (kvs.map fun kv => kV kv.1)) from ⟨by rw [List.length_map]; exact z, acc.toList, c', by rw [ek]; exact hv, by rw [Array.toArray_toList]; exact hD⟩), rfl, q _ (I2.hok.fresh (Nat.le_refl _))⟩
theorem vals_vs : ∀ {kvs : List (Key × V)} {vs : List (Key × Value)}, KV kvs vs → Vals (kvs.map (·.2)) (vs.map (·.2))
  | _, _, .nil => .nil
  | _, _, .cons h t => .cons h.2 (vals_vs t)
/-- list(e.values()) -/
theorem pe_listVals (hc : X.calm = true) (he : PE X e te) (hg : Gl X "list") (hm : X.mg "list" = none) (hbase : attributeBase e "values" X.env (eval e X.env) = eval e X.env := by rfl) (hline : (apos.endLine == cpos.line) = true := by rfl)
    (hs : starEach [.Call (.Attribute e "values" apos) [] [] cpos] X.env = (false, eval (.Call (.Attribute e "values" apos) [] [] cpos) X.env) :: starEach [] X.env := by rfl) :
    PE X (.Call (.Name "list" p) [.Call (.Attribute e "values" apos) [] [] cpos] [] pos) (tListV (fun kvs => kvs.map fun kv => kv.2) te) := by
  refine ⟨fun pins s σ H Q I hq => ?_⟩
  refine wpAny_Call_Name_kw (ld_blt I hg hm (u := .type "list") (by decide +kernel) ?_)
  refine PyProof.Rows.callWith_type1 ?_ hs rfl
  rw [hs]
  show wpAny _ _ (spliced ((false, eval (.Call (.Attribute e "values" apos) [] [] cpos) X.env) :: backTo pos (starEach [] X.env))) _ _ s
  refine Calls.spliced_cons ?_
  refine wpAny_Call_method (T := "dict") (id := "dict.values") hbase rfl hline F.plainAttrs_dict F.slot_dict_values F.type_dict_values (thn (he.run pins s σ H _ I hq) fun u s1 ⟨x, H1, I1, rx, d, kvs, ex, hd, q⟩ => ?_)
  subst ex
  obtain rfl : u = Value.ref d := rx
  obtain ⟨z, lo, vs, rel, dd⟩ := dk_rd I1.hok hd
  obtain ⟨ep, hat⟩ := dd.dictAt
  have lk : kvs.length = vs.length := Paired.length rel
  refine ⟨dd.typeIs, dd.mapOf.noDict, ?_⟩
  show wpAny _ _ (callWith cpos (.builtin "dict.values") [.ref d] [] []) _ X.xe s1
  have I2 : Inv X pins σ H1 { s1 with heap := s1.heap.push { cls := .type "dict_values", data := .fields #[.ref d] } } := I1.kept (t' := s1.toks) fun b ob q => Heap.get?_push_of_some _ q
  refine method_meetsIn F.slot_dict_values F.entry_dict_values rfl (PySem.evalArgs_none ⟨rfl, dd.typeIs, F.args_dict_values_1 _, _, meets_dict_values (mixKind X.prog X.w) d lo, ⟨vs, dd⟩, ?_⟩)
  refine Calls.spliced_nil ?_
  refine PySem.W.kdl_call (PySem.W.kdl_values (knd := mixKind X.prog X.w) (d := d) (kvs := vs) (ep := ep)) (I1.ok.hd hc) ⟨⟨_, Heap.get?_push_size _ rfl, rfl, rfl⟩, hat.push _⟩ (by rw [← lk]; exact z) fun h' tk acc c' hk hD hacc => ?_
  have ea : acc.toList = vs.map (·.2) := PySem.W.kdl_vals_eq acc.toList (by rw [Array.length_toList]; exact hacc.1) fun j v e => hacc.2 j v (by rw [← Array.getElem?_toList]; exact e)
  have hv : Vals (kvs.map (·.2)) acc.toList := by rw [ea]; exact vals_vs rel
  exact ⟨.ref _, upd H1 _ (.lst (kvs.map (·.2))), I2.laid (t' := tk) hk (Nat.le_refl _)
    (show ObjOk X.prog X.w _ _ _ (.lst (kvs.map (·.2))) from ⟨by rw [List.length_map]; exact z, acc.toList, c', hv, by rw [Array.toArray_toList]; exact hD⟩), rfl, q _ (I2.hok.fresh (Nat.le_refl _))⟩
end
end L2
namespace Mi
open PySem PySem.Spec PyProof.Rows L2
theorem peOr {X : Cx} {e : Expr} {t t' : TE} (h : PE X e t) (h' : PE X e t') : PE X e (fun σ H Q => t σ H Q ∨ t' σ H Q) := ⟨fun pins s σ H Q I q => q.elim (fun q => h.run pins s σ H Q I q) fun q => h'.run pins s σ H Q I q⟩

/-! ## subscripts, dicts too -/
def dctD (m : Hm) (n : Nat) (i : D) : Option D := match m[n]? with
  | some (.dK kvs) => (keyOf i).bind fun k => getKD kvs k
  | some (.lK kvs) => (keyOf i).bind fun k => getKD kvs k
  | some (.dT kvs) => (keyT i).bind fun k => getKD kvs k
  | some (.lT kvs) => (keyT i).bind fun k => getKD kvs k
  | _ => none
def ixA (m : Hm) (x i : D) : Option D := match ixD m x i with
  | some d => some d
  | none => match x with
    | .ref n => dctD m n i
    | _ => none
def opIxA : Mop := fun x y m => (ixA m x y).map fun d => (d, m)
theorem keyT_tup {i : D} {k : List Key} (h : keyT i = some k) : ∃ e es, i = .tup (e :: es) ∧ keysOf (e :: es) = some k := by
  cases i <;> simp [keyT] at h
  rename_i l
  cases l with
  | nil => simp [keyT] at h
  | cons x y => exact ⟨x, y, rfl, h⟩
theorem dget_of {g : Lk} {ι : List Addr} {m : Hm} {H : Hp} {n : Nat} {a : Addr} {i d : D} {iv : V} (hr : HR g ι m H) (hi : ι[n]? = some a) (ri : RV g ι H i iv) (h : dctD m n i = some d) : ∃ v, DGet H a iv (some v) ∧ RV g ι H d v := by
  unfold dctD at h
  split at h
  · rename_i kvs hx
    cases hk : keyOf i with
    | none => rw [hk] at h; cases h
    | some k =>
      rw [hk] at h
      have h : getKD kvs k = some d := h
      obtain ⟨u, hu, ro⟩ := hr.at hx hi
      cases ro with | dK rk =>
      obtain ⟨v, hv, rv⟩ := (rk.get k).1 d h
      exact ⟨v, .inl ⟨_, k, .inl hu, keyOf_kV ri hk, hv.symm⟩, rv⟩
  · rename_i kvs hx
    cases hk : keyOf i with
    | none => rw [hk] at h; cases h
    | some k =>
      rw [hk] at h
      have h : getKD kvs k = some d := h
      obtain ⟨u, hu, ro⟩ := hr.at hx hi
      cases ro with | lK rk =>
      obtain ⟨v, hv, rv⟩ := (rk.get k).1 d h
      exact ⟨v, .inl ⟨_, k, .inr ⟨_, hu⟩, keyOf_kV ri hk, hv.symm⟩, rv⟩
  · rename_i kvs hx
    cases hk : keyT i with
    | none => rw [hk] at h; cases h
    | some k =>
      rw [hk] at h
      have h : getKD kvs k = some d := h
      obtain ⟨e0, es0, rfl, hk⟩ := keyT_tup hk
      obtain ⟨u, hu, ro⟩ := hr.at hx hi
      cases ro with | dT rk =>
      obtain ⟨v, hv, rv⟩ := (rk.get k).1 d h
      obtain ⟨a1, vs1, rfl, hs1, t1⟩ := ri.tupN
      have ev := keysOf_kV t1 hk
      subst ev
      exact ⟨v, .inr ⟨_, k, a1, .inl hu, rfl, hs1, hv.symm⟩, rv⟩
  · rename_i kvs hx
    cases hk : keyT i with
    | none => rw [hk] at h; cases h
    | some k =>
      rw [hk] at h
      have h : getKD kvs k = some d := h
      obtain ⟨e0, es0, rfl, hk⟩ := keyT_tup hk
      obtain ⟨u, hu, ro⟩ := hr.at hx hi
      cases ro with | lT rk =>
      obtain ⟨v, hv, rv⟩ := (rk.get k).1 d h
      obtain ⟨a1, vs1, rfl, hs1, t1⟩ := ri.tupN
      have ev := keysOf_kV t1 hk
      subst ev
      exact ⟨v, .inr ⟨_, k, a1, .inr ⟨_, hu⟩, rfl, hs1, hv.symm⟩, rv⟩
  · cases h
section
variable {g : Lk} {W : WX} {X : Cx} {a b e o i : Expr} {es : List Expr} {ca cb ce co ci : Mv D} {p pos apos cpos : Pos}
theorem me_ixA (hK : X.K = g.K) (hu : X.A.units + 1 < cLine) (ha : ME g W X a ca) (hb : ME g W X b cb) (hs : PlainIx b := by intro _ _; rfl) : ME g W X (.Subscript a b pos) (eBin opIxA ca cb) :=
  peI (peOr (me_ix hK ha hb hs) (pe_dget hu ha hb hs)) fun σ H Q q => by
    obtain ⟨ι, m, ρ, r, s, hc, ho, hx⟩ := q
    by_cases tp : ∃ x m1 y m2, ca ρ m = some (.ok x m1) ∧ cb ρ m1 = some (.ok y m2) ∧ ixD m2 x y = none
    · obtain ⟨x, m1, y, m2, h1, h2, h3⟩ := tp
      refine .inr ?_
      refine useEq s hc hx fun ι1 m1' d1 v1 H1 q1 e1 s1 r1 k1 => ?_
      rw [h1] at q1; cases q1
      refine useEq s1 k1 (hx.ext e1) fun ι2 m2' d2 v2 H2 q2 e2 s2 r2 k2 => ?_
      rw [h2] at q2; cases q2
      unfold opIxA ixA at k2
      rw [h3] at k2
      have z1 := r1.ext s1.hr e2
      cases x with
      | ref n =>
        cases q3 : dctD m2 n y with
        | none => simp only [q3] at k2; cases k2
        | some d =>
          simp only [q3] at k2; cases k2
          cases z1 with | ref hi =>
          obtain ⟨v, hg, rv⟩ := dget_of s2.hr hi r2 q3
          exact ⟨_, v, rfl, hg, ho _ _ rfl ι2 v H2 (e1.trans e2) s2.hr rv⟩
      | _ => cases k2
    · refine .inl ⟨ι, m, ρ, r, s, ?_, ho, hx⟩
      unfold eBin at hc ⊢
      cases h1 : ca ρ m with
      | none => rw [h1] at hc; cases hc
      | some z1 =>
        rw [h1] at hc
        cases z1 with
        | ex x m1 => exact hc
        | ok x m1 =>
          simp only [bnd] at hc ⊢
          cases h2 : cb ρ m1 with
          | none => rw [h2] at hc; cases hc
          | some z2 =>
            rw [h2] at hc
            cases z2 with
            | ex y m2 => exact hc
            | ok y m2 =>
              simp only at hc ⊢
              cases h3 : ixD m2 x y with
              | none => exact (tp ⟨x, m1, y, m2, h1, h2, h3⟩).elim
              | some d =>
                unfold opIxA ixA at hc
                unfold opIx
                rw [h3] at hc ⊢
                exact hc

/-! ## dict displays -/
def eD0 : Mv D := fun _ m => some (.ok (.ref m.length) (m ++ [.dK []]))
def eD0T : Mv D := fun _ m => some (.ok (.ref m.length) (m ++ [.dT []]))
theorem me_d0 : ME g W X (.Dict [] [] pos) eD0 := peI pe_dnewK fun σ H Q q => by
  obtain ⟨ι, m, ρ, r, s, hc, ho, hx⟩ := q
  cases hc
  exact fun p hp => ho _ _ rfl (ι ++ [p]) _ _ (ext_new hp) (s.hr.alloc hp (.dK .nil)) (.ref (by rw [← s.hr.len]; simp))
theorem me_d0T : ME g W X (.Dict [] [] pos) eD0T := peI pe_dnewT fun σ H Q q => by
  obtain ⟨ι, m, ρ, r, s, hc, ho, hx⟩ := q
  cases hc
  exact fun p hp => ho _ _ rfl (ι ++ [p]) _ _ (ext_new hp) (s.hr.alloc hp (.dT .nil)) (.ref (by rw [← s.hr.len]; simp))
/-- {k: v}, one pair, k a constant -/
def eD1 (k : Key) (c : Mv D) : Mv D := fun ρ m => bnd (c ρ m) fun d m1 => some (.ok (.ref m1.length) (m1 ++ [.dK [(k, d)]]))
end

/-! ## methods of lists -/
section
variable {g : Lk} {W : WX} {X : Cx} {a b e o i : Expr} {es : List Expr} {ca : Mv (List D)} {cb ce co ci : Mv D} {p pos apos cpos : Pos} {name : Str} {id : String} {n : Nat}
abbrev Met := Nat → List D → List D → Hm → Option (D × Hm)
def rMt (g : Lk) (f : Met) : V → List V → Hp → VK → Prop := fun x vs H Q => ∃ ι m k a xs ds d m', x = .ref a ∧ ι[k]? = some a ∧ m[k]? = some (.lst xs) ∧ HR g ι m H ∧ RVs g ι H ds vs ∧ f k xs ds m = some (d, m') ∧ ∀ ι' v H', Ext ι H ι' H' → HR g ι' m' H' → RV g ι' H' d v → Q v H'
def eMt (f : Met) (o : Mv D) (a : Mv (List D)) : Mv D := fun ρ m => bnd (o ρ m) fun x m1 => match x with
  | .ref k => match m1[k]? with
    | some (.lst _) => bnd (a ρ m1) fun ds m2 => match m2[k]? with
      | some (.lst xs) => (f k xs ds m2).map fun p => .ok p.1 p.2
      | _ => none
    | _ => none
  | _ => none
theorem tMtM {f : Met} {σ : L2.St} {H : Hp} {Q : VK} (hK : X.K = g.K) (q : liftE g W (eMt f co ca) σ H Q) : tBM X.K "list" (rMt g f) (liftE g W co) (liftA g W n ca) σ H Q := by
  obtain ⟨ι, m, ρ, r, s, hc, ho, hx⟩ := q
  refine useE s hc hx fun ι1 m1 d1 v1 H1 e1 s1 r1 h1 => ?_
  split at h1
  · rename_i k
    cases r1 with | ref hi =>
    split at h1
    · rename_i xs0 hx0
      obtain ⟨vs0, hv0, t0⟩ := s1.hr.lst hx0 hi
      refine ⟨.inl ⟨rfl, vs0, by rw [hK]; exact SqL.of hv0⟩, ?_⟩
      refine useA s1 h1 (hx.ext e1) fun ι2 m2 ds vs H2 e2 s2 rvs hl h2 => ?_
      split at h2
      · rename_i xs hx2
        cases q : f k xs ds m2 with
        | none => rw [q] at h2; cases h2
        | some p =>
          rw [q] at h2; cases h2
          have hi2 := hi
          have hi2 : ι2[k]? = ι1[k]? := by
            obtain ⟨t, rfl⟩ := e2.pre
            rw [List.getElem?_append_left (List.getElem?_eq_some_iff.mp hi).1]
          exact ⟨ι2, m2, k, _, xs, ds, p.1, p.2, rfl, hi2.trans hi, hx2, s2.hr, rvs, q, fun ι' v H' ex hr rv => ho _ _ rfl ι' v H' ((e1.trans e2).trans ex) hr rv⟩
      · cases h2
    · cases h1
  · cases h1
theorem me_mt {f : Met} (hK : X.K = g.K) (slot : Slot "list" name id) (hty : typeOf (.builtin id) = pure (.type "method_descriptor")) (hm : MtR X id (rMt g f)) (ho : ME g W X o co) (ha : MA g W X (e :: es) n ca)
    (hbase : attributeBase o name X.env (eval o X.env) = eval o X.env := by rfl)
    (hfew : ((backTo cpos (starEach (e :: es) X.env)).all (fun x => !x.1) && (backToKw cpos (keywordEach [] X.env)).all (fun x => x.1.isSome)
      && decide ((e :: es).length + ([] : List Keyword).length + (if ([] : List Keyword).isEmpty then 0 else 1) < 30)) = true := by rfl)
    (hline : (apos.endLine == cpos.line) = true := by rfl) (hs : starEach (e :: es) X.env = (false, eval e X.env) :: starEach es X.env := by rfl) (hplain : (backTo cpos (starEach es X.env)).any (·.1) = false := by rfl) :
    ME g W X (.Call (.Attribute o name apos) (e :: es) [] cpos) (eMt f co ca) := peI (pe_bm F.plainAttrs_list slot hty hm ho ha hbase hfew hline hs hplain) fun _ _ _ q => tMtM hK q
def mApp : Met := fun k xs ds m => match ds with
  | [y] => if xs.length < sizeLine then some (.non, m.set k (.lst (xs ++ [y]))) else none
  | _ => none
theorem mtR_app : MtR X "list.append" (rMt g mApp) := by
  intro pins s σ H x vs v us Q I rx rv q
  obtain ⟨ι, m, k, a, xs, ds, d, m', rfl, hi, hx, hr, rs, hf, post⟩ := q
  unfold mApp at hf
  split at hf
  · rename_i y
    split at hf
    · rename_i hl
      cases hf
      cases rs with | @cons _ _ w0 _ r t =>
      cases t
      obtain ⟨ws, hw, tw⟩ := hr.lst hx hi
      refine mt_append pins s σ H _ _ v us Q I rx rv ⟨a, ws, w0, rfl, rfl, hw, by rw [← tw.length]; exact hl, ?_⟩
      have nf : ∀ o u, H a ≠ some (.frz o u) := fun o u z => by rw [hw] at z; cases z
      have x3 := ext_wr (u := .lst (ws ++ [w0])) (H := H) (List.mem_of_getElem? hi) nf
      exact post ι .non _ x3 (hr.write hi nf (.lst ((tw.append (.cons r .nil)).ext hr x3))) .non
    · cases hf
  · cases hf
end

/-! ## for k in d -/
section
theorem Fz.upd {K : PySem.W.Frag} {H : Hp} {a p : Addr} {vs : List V} {u : HO} (h : Fz K H a vs) (hn : ∀ o xs, H p ≠ some (.frz o (.lst xs))) : Fz K (L2.upd H p u) a vs :=
  h.imp (fun ⟨o, q⟩ => ⟨o, by rw [upd_ne (fun e => hn o vs (by rw [← e]; exact q))]; exact q⟩) id
variable {g : Lk} {ι : List Addr} {H : Hp} {p : Addr} {u : HO} {m : Hm} {ρ : Ro} {σ : L2.St}
mutual
theorem RV.upd (h1 : ∀ xs, H p ≠ some (.tup xs)) (h2 : ∀ o xs, H p ≠ some (.frz o (.lst xs))) : ∀ {d : D} {v : V}, RV g ι H d v → RV g ι (L2.upd H p u) d v
  | _, _, .non => .non
  | _, _, .bl b => .bl b
  | _, _, .int i => .int i
  | _, _, .str x => .str x
  | _, _, .tup s r => .tup (by rw [upd_ne (fun e => h1 _ (by rw [← e]; exact s))]; exact s) (RVs.upd h1 h2 r)
  | _, _, .tup0 z => .tup0 z
  | _, _, .ref q => .ref q
  | _, _, .frl s r => .frl (s.upd h2) (RVs.upd h1 h2 r)
theorem RVs.upd (h1 : ∀ xs, H p ≠ some (.tup xs)) (h2 : ∀ o xs, H p ≠ some (.frz o (.lst xs))) : ∀ {ds : List D} {vs : List V}, RVs g ι H ds vs → RVs g ι (L2.upd H p u) ds vs
  | _, _, .nil => .nil
  | _, _, .cons r t => .cons (RV.upd h1 h2 r) (RVs.upd h1 h2 t)
end
theorem RK.upd (h1 : ∀ xs, H p ≠ some (.tup xs)) (h2 : ∀ o xs, H p ≠ some (.frz o (.lst xs))) {κ : Type} {ks : List (κ × D)} {vs : List (κ × V)} (r : RK g ι H ks vs) : RK g ι (L2.upd H p u) ks vs := by
  induction r with
  | nil => exact .nil
  | cons r _ ih => exact .cons (r.upd h1 h2) ih
theorem ExR.upd (h1 : ∀ xs, H p ≠ some (.tup xs)) (h2 : ∀ o xs, H p ≠ some (.frz o (.lst xs))) (h3 : ∀ fs, H p ≠ some (.xd fs)) {x : Ex} {cls : Value} {dd : Option Addr} (r : ExR g ι H x cls dd) : ExR g ι (L2.upd H p u) x cls dd := by
  obtain ⟨C, ns, k1, k2, k3⟩ := r
  refine ⟨C, ns, k1, k2, k3.imp id ?_⟩
  rintro ⟨d, fs, k4, k5, k6⟩
  exact ⟨d, fs, k4, by rw [upd_ne (fun e => h3 fs (by rw [← e]; exact k5))]; exact k5, fun i f y q1 q2 => let ⟨v, hv, r⟩ := k6 i f y q1 q2; ⟨v, hv, r.upd h1 h2⟩⟩
theorem RO.upd (h1 : ∀ xs, H p ≠ some (.tup xs)) (h2 : ∀ o xs, H p ≠ some (.frz o (.lst xs))) (h3 : ∀ fs, H p ≠ some (.xd fs)) {o : O} {z : HO} (r : RO g ι H o z) : RO g ι (L2.upd H p u) o z := by
  cases r with
  | lst r => exact .lst (r.upd h1 h2)
  | dK r => exact .dK (r.upd h1 h2)
  | dT r => exact .dT (r.upd h1 h2)
  | lK r => exact .lK (r.upd h1 h2)
  | lT r => exact .lT (r.upd h1 h2)
  | ins c l r => exact .ins c l (r.upd h1 h2)
  | xc r => exact .xc (ExR.upd h1 h2 h3 r)
/-- an object of the mirror is written, whatever it was -/
theorem HR.rewrite {o : O} (h : HR g ι m H) {n : Nat} {a : Addr} (ha : ι[n]? = some a) (h1 : ∀ xs, H a ≠ some (.tup xs)) (h2 : ∀ o xs, H a ≠ some (.frz o (.lst xs))) (r : RO g ι (L2.upd H a u) o u) : HR g ι (m.set n o) (L2.upd H a u) := by
  refine ⟨by simp [h.len], h.nd, fun k o' q => ?_⟩
  by_cases hk : k = n
  · subst hk
    have hl : k < m.length := by rw [← h.len]; exact (List.getElem?_eq_some_iff.mp ha).1
    rw [List.getElem?_set_self hl] at q
    cases q
    exact ⟨a, u, ha, upd_same, r⟩
  · rw [List.getElem?_set_ne (Ne.symm hk)] at q
    obtain ⟨b, w, hb, hw, r'⟩ := h.obj k o' q
    have hne : b ≠ a := fun e => by
      subst e
      have h1 := List.getElem?_eq_some_iff.mp hb
      have h2 := List.getElem?_eq_some_iff.mp ha
      exact hk ((List.getElem_inj h.nd).mp (h1.2.trans h2.2.symm))
    exact ⟨b, w, hb, by rw [upd_ne hne]; exact hw, r'.upd h1 h2 fun fs q => h.notXd q (List.mem_of_getElem? ha)⟩
theorem SR.upd (s : SR g ι m ρ σ H) {m' : Hm} (hr : HR g ι m' (L2.upd H p u)) (h1 : ∀ xs, H p ≠ some (.tup xs)) (h2 : ∀ o xs, H p ≠ some (.frz o (.lst xs))) (h3 : ∀ fs, H p ≠ some (.xd fs)) : SR g ι m' ρ σ (L2.upd H p u) :=
  ⟨hr, s.len, fun i d q => let ⟨v, hv, r⟩ := s.slot i d q; ⟨v, hv, r.upd h1 h2⟩, s.hel, fun h q => (s.hx h q).upd h1 h2 h3⟩
end
/-- keys as data -/
def kTD (k : List Key) : D := .tup (k.map kD)
def lockD (m : Hm) (n : Nat) : Option (Hm × List D) := match m[n]? with
  | some (.dK kvs) => some (m.set n (.lK kvs), kvs.map fun kv => kD kv.1)
  | some (.dT kvs) => some (m.set n (.lT kvs), kvs.map fun kv => kTD kv.1)
  | _ => none
def unlockO (n : Nat) (o : O) : Ou → Option Ou
  | .nx ρ m => some (.nx ρ (m.set n o))
  | .bk ρ m => some (.bk ρ (m.set n o))
  | .ct ρ m => some (.ct ρ (m.set n o))
  | .rt d m => some (.rt d (m.set n o))
  | .ex _ _ _ => none
def sForD (i : Nat) (tg : Mg) (body : Ms) : Ms := fun ρ m => match ρ[i]? with
  | some (.is (.ref n)) => match m[n]? with
    | some o => match lockD m n with
      | some (m1, ks) => (forL (itFix ks fun _ x => x) tg body ks.length 0 ρ m1).bind (unlockO n o)
      | none => none
    | none => none
  | _ => none
theorem rv_kD {g : Lk} {ι : List Addr} {H : Hp} (k : Key) : RV g ι H (kD k) (kV k) := by
  cases k with
  | inl i => exact .int i
  | inr s => exact .str s
theorem rvs_kD {g : Lk} {ι : List Addr} {H : Hp} : ∀ ks : List Key, RVs g ι H (ks.map kD) (ks.map kV)
  | [] => .nil
  | k :: ks => .cons (rv_kD k) (rvs_kD ks)
theorem RK.key {g : Lk} {ι : List Addr} {H : Hp} {κ : Type} {a : List (κ × D)} {b : List (κ × V)} (r : RK g ι H a b) : a.map (·.1) = b.map (·.1) := by
  induction r with
  | nil => rfl
  | cons _ _ ih => simp [ih]
theorem Gr.refl' {ι : List Addr} {H : Hp} : Gr ι H ι H := Gr.refl ι H
theorem walkM_keys {g : Lk} {ι0 : List Addr} {H0 : Hp} {d : Addr} {o : Obj} {kvs : List (Key × V)} (hd : H0 d = some (.frz o (.dK kvs))) : WalkM g ι0 H0 (itFix (kvs.map fun kv => kD kv.1) fun _ x => x) (Itk d o kvs) := by
  refine ⟨fun ι m H i dd ex hr hl h => ?_, fun ι m H ex hr h => ⟨ex.frz _ _ _ hd, by simp [itFix]⟩⟩
  simp only [itFix, List.length_map] at h hl
  rw [List.getElem?_map, List.getElem?_eq_getElem hl] at h
  cases h
  refine ⟨⟨ex.frz _ _ _ hd, hl⟩, fun x H' ⟨e, k, v, hk, ex2⟩ => ?_⟩
  subst e; subst ex2
  rw [List.getElem?_eq_getElem hl] at hk
  have : kvs[i].1 = k := by rw [Option.some.inj hk]
  exact ⟨Ext.refl _ _, hr, by show RV g ι H' (kD kvs[i].1) _; rw [this]; exact rv_kD k⟩
theorem walkM_keysT {g : Lk} {ι0 : List Addr} {H0 : Hp} {d : Addr} {o : Obj} {kvs : List (List Key × V)} (hd : H0 d = some (.frz o (.dT kvs))) : WalkM g ι0 H0 (itFix (kvs.map fun kv => kTD kv.1) fun _ x => x) (Itkt d o kvs) := by
  refine ⟨fun ι m H i dd ex hr hl h => ?_, fun ι m H ex hr h => ⟨ex.frz _ _ _ hd, by simp [itFix]⟩⟩
  simp only [itFix, List.length_map] at h hl
  rw [List.getElem?_map, List.getElem?_eq_getElem hl] at h
  cases h
  refine ⟨⟨ex.frz _ _ _ hd, hl⟩, fun x H' ⟨e, k, v, q, hk, ex2, hq⟩ => ?_⟩
  subst e; subst ex2
  rw [List.getElem?_eq_getElem hl] at hk
  have : kvs[i].1 = k := by rw [Option.some.inj hk]
  exact ⟨Ext.refl _ _, hr, by show RV g ι H' (kTD kvs[i].1) _; rw [this]; exact .tup hq (rvs_kD k)⟩
section
variable {g : Lk} {W : WX} {X : Cx} {tg : Expr} {pos p : Pos} {cg : Mg} {ws : List Nat} {body : List Stmt} {cb : Ms} {x : Str}
theorem unlock_post {ι ι1 : List Addr} {H H1 : Hp} {n : Nat} {a : Addr} {od : Obj} {u : HO} {ob : O} {D : Ends} {z o' : Ou} (hi : ι[n]? = some a) (hH : H a = some u) (e1 : ι1 = ι) (eH1 : H1 = upd H a (.frz od u)) (hu1 : ∀ xs, u ≠ .lst xs) (hu2 : ∀ xs, u ≠ .tup xs)
    (hnf : ∀ o w, H a ≠ some (.frz o w)) (hob : ∀ ι' H', Ext ι1 H1 ι' H' → HR g ι' (match z with | .nx _ m => m | .bk _ m => m | .ct _ m => m | .rt _ m => m | .ex _ _ m => m) H' → RO g ι' (upd H' a u) ob u) (hz : unlockO n ob z = some o') (p : PostS g W ι H o' D) :
    PostS g W ι1 H1 z ⟨fun σ' H' => H' a = some (.frz od u) ∧ D.nx σ' (upd H' a u), fun v H' => H' a = some (.frz od u) ∧ D.rt v (upd H' a u), fun σ' H' => H' a = some (.frz od u) ∧ D.bk σ' (upd H' a u), fun σ' H' => H' a = some (.frz od u) ∧ D.ct σ' (upd H' a u)⟩ := by
  subst e1
  subst eH1
  have lk : ∀ {ι' : List Addr} {H' : Hp}, Ext ι1 (upd H a (.frz od u)) ι' H' → H' a = some (.frz od u) := fun e => e.lck a od u upd_same
  have n1 : ∀ {ι' : List Addr} {H' : Hp}, Ext ι1 (upd H a (.frz od u)) ι' H' → ∀ xs, H' a ≠ some (.tup xs) := fun e xs q => by rw [lk e] at q; cases q
  have n2 : ∀ {ι' : List Addr} {H' : Hp}, Ext ι1 (upd H a (.frz od u)) ι' H' → ∀ o xs, H' a ≠ some (.frz o (.lst xs)) := fun e o xs q => by
    rw [lk e] at q
    exact hu1 xs (HO.frz.inj (Option.some.inj q)).2
  have n3 : ∀ {ι' : List Addr} {H' : Hp}, Ext ι1 (upd H a (.frz od u)) ι' H' → ∀ fs, H' a ≠ some (.xd fs) := fun e fs q => by rw [lk e] at q; cases q
  have hi' : ∀ {ι' : List Addr} {H' : Hp}, Ext ι1 (upd H a (.frz od u)) ι' H' → ι'[n]? = some a := fun e => by
    obtain ⟨t, rfl⟩ := e.pre
    rw [List.getElem?_append_left (List.getElem?_eq_some_iff.mp hi).1]; exact hi
  have am : a ∈ ι1 := List.mem_of_getElem? hi
  have back : ∀ {ι' : List Addr} {H' : Hp}, Ext ι1 (upd H a (.frz od u)) ι' H' → Ext ι1 H ι' (upd H' a u) := fun {ι' H'} e => by
    refine ⟨e.pre, fun b o h hn => ?_, fun b hb => ?_, fun b o w h => ?_⟩
    · have hba : b ≠ a := fun z => hn (z ▸ am)
      rw [upd_ne hba]
      exact e.fix b o (by rw [upd_ne hba]; exact h) hn
    · rcases e.new b hb with h | h
      · exact .inl h
      · by_cases hba : b = a
        · subst hba; exact .inl am
        · rw [upd_ne hba] at h; exact .inr h
    · have hba : b ≠ a := fun z => hnf o w (z ▸ h)
      rw [upd_ne hba]
      exact e.lck b o w (by rw [upd_ne hba]; exact h)
  cases z with
  | nx ρ m =>
    cases hz
    exact fun ι' σ' H' e s => ⟨lk e, p ι' σ' _ (back e) (s.upd (s.hr.rewrite (hi' e) (n1 e) (n2 e) (hob ι' H' e s.hr)) (n1 e) (n2 e) (n3 e))⟩
  | bk ρ m =>
    cases hz
    exact fun ι' σ' H' e s => ⟨lk e, p ι' σ' _ (back e) (s.upd (s.hr.rewrite (hi' e) (n1 e) (n2 e) (hob ι' H' e s.hr)) (n1 e) (n2 e) (n3 e))⟩
  | ct ρ m =>
    cases hz
    exact fun ι' σ' H' e s => ⟨lk e, p ι' σ' _ (back e) (s.upd (s.hr.rewrite (hi' e) (n1 e) (n2 e) (hob ι' H' e s.hr)) (n1 e) (n2 e) (n3 e))⟩
  | rt d m =>
    cases hz
    exact fun ι' v H' e hr rv => ⟨lk e, p ι' v _ (back e) (hr.rewrite (hi' e) (n1 e) (n2 e) (hob ι' H' e hr)) (rv.upd (n1 e) (n2 e))⟩
  | ex x ρ m => cases hz
theorem ms_forD (i : Nat) (hp : PassesOwn (model X.prog X.w) X.A X.env X.xe) (hc : X.calm = true) (hg : MG g X tg ws cg) (hb : MSs g W X body cb) (hN : X.N[i]? = some x := by rfl) (hv : Vis X.env.scope x := by first | exact Or.inl rfl | exact Or.inr (Or.inl rfl) | exact Or.inr (Or.inr rfl)) (hd : (x == ("__debug__" : Str)) = false := by decide)
    (hcd : (x == ("__classdict__" : Str)) = false := by decide)
    (hs : ∀ z, foldedSetIterable (.Name x p) X.env z = pure z := by intro _; rfl) : MS g W X (.For tg (.Name x p) body [] pos) (sForD i cg cb) :=
  psI (ps_lock (ps_for hp hc (pi_keys (pv i hN hv hd hcd)) hg hb hs)) fun D σ H q => by
    obtain ⟨ι, m, ρ, o, s, hc, p⟩ := q
    unfold sForD at hc
    split at hc
    · rename_i n hρ
      split at hc
      · rename_i ob hob
        split at hc
        · rename_i m1 ks hlk
          obtain ⟨v, hv, rv⟩ := s.slot _ _ hρ
          cases rv with | ref hi =>
          rename_i a
          unfold lockD at hlk
          rw [hob] at hlk
          cases hz : forL (itFix ks fun _ x => x) cg cb ks.length 0 ρ m1 with
          | none => rw [hz] at hc; cases hc
          | some z =>
            rw [hz] at hc
            have hun : unlockO n ob z = some o := hc
            cases ob with
            | dK kvs =>
              cases hlk
              obtain ⟨u, hu, ro⟩ := s.hr.at hob hi
              cases ro with | @dK _ kvs' rk =>
              refine ⟨a, _, hu, trivial, fun od => ?_⟩
              have nf : ∀ o u, H a ≠ some (.frz o u) := fun o u z => by rw [hu] at z; cases z
              have ex : Ext ι H ι (upd H a (.frz od (.dK kvs'))) := ext_wr (List.mem_of_getElem? hi) nf
              have hr1 := s.hr.write hi nf (o := .lK kvs) (.lK (rk.ext s.hr ex))
              have s1 := s.ext ex hr1
              refine ⟨.ref a, hv, a, od, rfl, .inl ⟨kvs', upd_same, ?_⟩⟩
              have wk : WalkM g ι (upd H a (.frz od (.dK kvs'))) (itFix (kvs.map fun kv => kD kv.1) fun _ x => x) (Itk a od kvs') := by
                have : (kvs.map fun kv => kD kv.1) = kvs'.map fun kv => kD kv.1 := by
                  have := congrArg (List.map kD) rk.key
                  rw [List.map_map, List.map_map] at this
                  exact this
                rw [this]
                exact walkM_keys upd_same
              refine for_turns wk (W := W) (o := z) ?_ s1 (by simpa [itFix] using hz)
              refine unlock_post hi hu rfl rfl (fun xs z => by cases z) (fun xs z => by cases z) nf (fun ι' H' e hr => ?_) hun p
              have n1 : ∀ xs, H' a ≠ some (.tup xs) := fun xs q => by rw [e.lck a _ _ upd_same] at q; cases q
              have n2 : ∀ o xs, H' a ≠ some (.frz o (.lst xs)) := fun o xs q => by rw [e.lck a _ _ upd_same] at q; cases q
              exact .dK (((rk.ext s.hr ex).ext hr1 e).upd n1 n2)
            | dT kvs =>
              cases hlk
              obtain ⟨u, hu, ro⟩ := s.hr.at hob hi
              cases ro with | @dT _ kvs' rk =>
              refine ⟨a, _, hu, trivial, fun od => ?_⟩
              have nf : ∀ o u, H a ≠ some (.frz o u) := fun o u z => by rw [hu] at z; cases z
              have ex : Ext ι H ι (upd H a (.frz od (.dT kvs'))) := ext_wr (List.mem_of_getElem? hi) nf
              have hr1 := s.hr.write hi nf (o := .lT kvs) (.lT (rk.ext s.hr ex))
              have s1 := s.ext ex hr1
              refine ⟨.ref a, hv, a, od, rfl, .inr ⟨kvs', upd_same, ?_⟩⟩
              have wk : WalkM g ι (upd H a (.frz od (.dT kvs'))) (itFix (kvs.map fun kv => kTD kv.1) fun _ x => x) (Itkt a od kvs') := by
                have : (kvs.map fun kv => kTD kv.1) = kvs'.map fun kv => kTD kv.1 := by
                  have := congrArg (List.map kTD) rk.key
                  rw [List.map_map, List.map_map] at this
                  exact this
                rw [this]
                exact walkM_keysT upd_same
              refine for_turns wk (W := W) (o := z) ?_ s1 (by simpa [itFix] using hz)
              refine unlock_post hi hu rfl rfl (fun xs z => by cases z) (fun xs z => by cases z) nf (fun ι' H' e hr => ?_) hun p
              have n1 : ∀ xs, H' a ≠ some (.tup xs) := fun xs q => by rw [e.lck a _ _ upd_same] at q; cases q
              have n2 : ∀ o xs, H' a ≠ some (.frz o (.lst xs)) := fun o xs q => by rw [e.lck a _ _ upd_same] at q; cases q
              exact .dT (((rk.ext s.hr ex).ext hr1 e).upd n1 n2)
            | _ => cases hlk
        · cases hc
      · cases hc
    · cases hc
end

/-! ## list(d.keys()), list(d.values()) -/
def lsK (f : List (Key × D) → List D) (o : Mv D) : Mv D := fun ρ m => bnd (o ρ m) fun x m1 => match x with
  | .ref n => match m1[n]? with
    | some (.dK kvs) => some (.ok (.ref m1.length) (m1 ++ [.lst (f kvs)]))
    | _ => none
  | _ => none
theorem RK.vals {g : Lk} {ι : List Addr} {H : Hp} {κ : Type} {a : List (κ × D)} {b : List (κ × V)} (r : RK g ι H a b) : RVs g ι H (a.map (·.2)) (b.map (·.2)) := by
  induction r with
  | nil => exact .nil
  | cons r _ ih => exact .cons r ih
theorem RK.keyV {g : Lk} {ι : List Addr} {H : Hp} {a : List (Key × D)} {b : List (Key × V)} (r : RK g ι H a b) : RVs g ι H (a.map fun kv => kD kv.1) (b.map fun kv => kV kv.1) := by
  induction r with
  | nil => exact .nil
  | cons r _ ih => exact .cons (rv_kD _) ih
section
variable {g : Lk} {W : WX} {X : Cx} {e : Expr} {ce : Mv D} {p pos apos cpos : Pos}
theorem tLsM {f : List (Key × D) → List D} {f' : List (Key × V) → List V} (hf : ∀ {ι : List Addr} {H : Hp} {a : List (Key × D)} {b : List (Key × V)}, RK g ι H a b → RVs g ι H (f a) (f' b)) {σ : L2.St} {H : Hp} {Q : VK} (q : liftE g W (lsK f ce) σ H Q) : tListV f' (liftE g W ce) σ H Q := by
  obtain ⟨ι, m, ρ, r, s, hc, ho, hx⟩ := q
  refine useE s hc hx fun ι1 m1 d1 v1 H1 e1 s1 r1 h1 => ?_
  split at h1
  · rename_i n
    cases r1 with | ref hi =>
    split at h1
    · rename_i kvs hk
      cases h1
      obtain ⟨u, hu, ro⟩ := s1.hr.at hk hi
      cases ro with | dK rk =>
      refine ⟨_, _, rfl, .inl hu, fun p hp => ?_⟩
      exact ho _ _ rfl (ι1 ++ [p]) _ _ (e1.trans (ext_new hp)) (s1.hr.alloc hp (.lst ((hf rk).ext s1.hr (ext_new hp)))) (.ref (by rw [← s1.hr.len]; simp))
    · cases h1
  · cases h1
theorem me_lsKeys (hc : X.calm = true) (hm : X.mg "list" = none) (he : ME g W X e ce) (hg : Gl X "list" := by rfl) (hbase : attributeBase e "keys" X.env (eval e X.env) = eval e X.env := by rfl) (hline : (apos.endLine == cpos.line) = true := by rfl)
    (hs : starEach [.Call (.Attribute e "keys" apos) [] [] cpos] X.env = (false, eval (.Call (.Attribute e "keys" apos) [] [] cpos) X.env) :: starEach [] X.env := by rfl) :
    ME g W X (.Call (.Name "list" p) [.Call (.Attribute e "keys" apos) [] [] cpos] [] pos) (lsK (fun kvs => kvs.map fun kv => kD kv.1) ce) := peI (pe_listKeys hc he hg hm hbase hline hs) fun _ _ _ q => tLsM (fun r => r.keyV) q
theorem me_lsVals (hc : X.calm = true) (hm : X.mg "list" = none) (he : ME g W X e ce) (hg : Gl X "list" := by rfl) (hbase : attributeBase e "values" X.env (eval e X.env) = eval e X.env := by rfl) (hline : (apos.endLine == cpos.line) = true := by rfl)
    (hs : starEach [.Call (.Attribute e "values" apos) [] [] cpos] X.env = (false, eval (.Call (.Attribute e "values" apos) [] [] cpos) X.env) :: starEach [] X.env := by rfl) :
    ME g W X (.Call (.Name "list" p) [.Call (.Attribute e "values" apos) [] [] cpos] [] pos) (lsK (fun kvs => kvs.map fun kv => kv.2) ce) := peI (pe_listVals hc he hg hm hbase hline hs) fun _ _ _ q => tLsM (fun r => r.vals) q
end
end Mi
namespace Mi
open PySem PySem.Spec PyProof.Rows L2

/-! ## dict displays with constant keys -/
structure MPs (g : Lk) (W : WX) (X : Cx) (pos : Pos) (keys : List (Option Expr)) (vals : List Expr) (ks : List Key) (n : Nat) (c : Mv (List D)) : Prop where
  ex : ∃ trs, PPs X pos keys vals trs ∧ ∀ σ H Q, liftA g W n c σ H (fun vs H' => Q ((ks.map kV).zip vs) H') → tPairs trs σ H Q
section
variable {g : Lk} {W : WX} {X : Cx} {pos : Pos} {keys : List (Option Expr)} {vals : List Expr} {ks : List Key} {n : Nat} {ca : Mv (List D)} {e ek : Expr} {ce : Mv D}
theorem mps_nil : MPs g W X pos [] [] [] 0 aNil := ⟨[], pps_nil, fun σ H Q q => by
  obtain ⟨ι, m, ρ, r, s, hc, ho, hx⟩ := q
  cases hc
  exact ho _ _ rfl ι [] H (Ext.refl _ _) s.hr .nil rfl⟩
theorem mps_cons {k : Key} (hk : PE X ek (tC (kV k))) (he : ME g W X e ce) (hr : MPs g W X pos keys vals ks n ca) : MPs g W X pos (some ek :: keys) (e :: vals) (k :: ks) (n + 1) (aCons ce ca) := by
  obtain ⟨trs, hp, ht⟩ := hr.ex
  refine ⟨(tC (kV k), liftE g W ce) :: trs, pps_cons hk he hp, fun σ H Q q => ?_⟩
  obtain ⟨ι, m, ρ, r, s, hc, ho, hx⟩ := q
  show liftE g W ce σ H _
  refine useE s hc hx fun ι1 m1 d v H1 e1 s1 rv hk => ht _ _ _ ?_
  refine useA s1 hk (hx.ext e1) fun ι2 m2 ds vs H2 e2 s2 rvs hn hk2 => ?_
  cases hk2
  exact ho _ _ rfl ι2 (v :: vs) H2 (e1.trans e2) s2.hr (.cons (rv.ext s1.hr e2) rvs) (by simp [hn])
theorem pk_int {i : Int} {j : Nat} {p : Pos} : PE X (.Constant (.int i) j p) (tC (kV (.inl i))) := pe_int
theorem pk_str {x : Str} {j : Nat} {p : Pos} : PE X (.Constant (.str x) j p) (tC (kV (.inr x))) := pe_str
def dkOf (ks : List Key) (ds : List D) : List (Key × D) := (ks.zip ds).foldl (fun acc kv => putKD acc kv.1 kv.2) []
def eDs (ks : List Key) (a : Mv (List D)) : Mv D := fun ρ m => bnd (a ρ m) fun ds m1 => some (.ok (.ref m1.length) (m1 ++ [.dK (dkOf ks ds)]))
theorem zip_map_kV : ∀ (ks : List Key) (vs : List V), (ks.map kV).zip vs = (ks.zip vs).map fun kv => (kV kv.1, kv.2)
  | [], _ => by simp
  | _ :: _, [] => by simp
  | k :: ks, v :: vs => by simp [zip_map_kV ks vs]
theorem merge_rk {ι : List Addr} {H : Hp} : ∀ {ks : List Key} {ds : List D} {vs : List V} {a : List (Key × D)} {b : List (Key × V)}, RVs g ι H ds vs → RK g ι H a b → RK g ι H ((ks.zip ds).foldl (fun acc kv => putKD acc kv.1 kv.2) a) (mergeK b (ks.zip vs))
  | [], _, _, _, _, _, r => by simpa [mergeK] using r
  | _ :: _, [], _, _, _, .nil, r => by simpa [mergeK] using r
  | k :: ks, d :: ds, _, _, _, .cons q t, r => by
    simp only [List.zip_cons_cons, List.foldl_cons, mergeK]
    exact merge_rk (ks := ks) t (r.put k q)
theorem HR.sideU {ι : List Addr} {m : Hm} {H : Hp} {p : Addr} {u : HO} (hr : HR g ι m H) (hp : p ∉ ι) (h1 : ∀ xs, H p ≠ some (.tup xs)) (h2 : ∀ o xs, H p ≠ some (.frz o (.lst xs))) (h3 : ∀ fs, H p ≠ some (.xd fs)) : HR g ι m (upd H p u) :=
  ⟨hr.len, hr.nd, fun n o q => let ⟨a, w, ha, hw, r⟩ := hr.obj n o q; ⟨a, w, ha, by rw [upd_ne (side_ne hr hp ha)]; exact hw, r.upd h1 h2 h3⟩⟩
theorem me_ds (h : MPs g W X pos keys vals ks n ca) (hall : keys.all (·.isSome) = true := by rfl) (hl : keys.length = vals.length := by rfl) (h0 : keys ≠ [] := by intro z; cases z) (h15 : keys.length ≤ 15 := by decide) (hkn : ks.length = n := by rfl) (hn : n ≤ 15 := by decide) : ME g W X (.Dict keys vals pos) (eDs ks ca) := by
  obtain ⟨trs, hp, ht⟩ := h.ex
  refine peI (pe_disp hp hall hl h0 h15) fun σ H Q q => ?_
  obtain ⟨ι, m, ρ, r, s, hc, ho, hx⟩ := q
  intro p hp
  have e0 : Ext ι H ι (upd H p (.dK [])) := ext_side hp
  have hpn := fresh_notin s.hr hp
  refine ht _ _ _ ?_
  refine useA (s.ext e0 (s.hr.side hp)) hc (hx.ext e0) fun ι1 m1 ds vs H1 e1 s1 rvs hln hk => ?_
  obtain ⟨hp1, hl1⟩ := keep_side e1 hpn upd_same
  cases hk
  have n1 : ∀ xs, H1 p ≠ some (.tup xs) := fun xs z => by rw [hl1] at z; cases z
  have n2 : ∀ o xs, H1 p ≠ some (.frz o (.lst xs)) := fun o xs z => by rw [hl1] at z; cases z
  refine ⟨hl1, ks.zip vs, zip_map_kV ks vs, ?_, ?_⟩
  · rw [List.length_zip]; omega
  · have rk : RK g ι1 H1 (dkOf ks ds) (mergeK [] (ks.zip vs)) := merge_rk rvs .nil
    have hr2 : HR g ι1 m1 (upd H1 p (.dK (mergeK [] (ks.zip vs)))) := s1.hr.sideU hp1 n1 n2 fun fs z => by rw [hl1] at z; cases z
    have e2 : Ext ι H ι1 (upd H1 p (.dK (mergeK [] (ks.zip vs)))) := ext_sidew (e0.trans e1) hp
    have e3 : Ext ι H (ι1 ++ [p]) (upd H1 p (.dK (mergeK [] (ks.zip vs)))) := by
      obtain ⟨t, rfl⟩ := e2.pre
      refine ⟨⟨t ++ [p], by simp⟩, e2.fix, fun b hb => ?_, e2.lck⟩
      rcases List.mem_append.mp hb with h | h
      · exact e2.new b h
      · have : b = p := by simpa using h
        subst this; exact .inr hp
    exact ho _ _ rfl (ι1 ++ [p]) (.ref p) _ e3 (hr2.adopt hp1 upd_same (.dK (rk.upd n1 n2))) (.ref (by rw [← s1.hr.len]; simp))
end
end Mi
namespace Mi
open PySem PySem.Spec PyProof.Rows L2

/-! ## the head's Hook: facts, defs, one Bool more -/
abbrev AlM : Type := He.AlD × Bool
def obsM (n : Nat) (fa : List He.Fa) (fn : List He.DefD) (ex : PySem.W.Frag → Bool) (g : Addr → Option Obj) : AlM := (He.obsDG n fa fn g, ex (He.frG g (He.asD g n)))
def hookM (n : Nat) (fa : List He.Fa) (fn : List He.DefD) (ex : PySem.W.Frag → Bool) : PySem.W.Hook where
  α := AlM
  obs := fun s => obsM n fa fn ex s.heap.get?
  val := fun _ => (He.valD fn, true)
  says := fun _ h => ∃ K : PySem.W.Frag, K.In h ∧ He.SaysD fa fn K ∧ ex K = true
  of := fun _ _ e => ⟨_, He.frG_in, congrArg (fun z : AlM => z.1) e, congrArg (fun z : AlM => z.2) e⟩
  keeps := fun _ _ _ ⟨K, hK, c⟩ k => ⟨K, PySem.W.Frag.In.keeps hK k, c⟩
theorem obsM_eq {n : Nat} {fa : List He.Fa} {fn : List He.DefD} {ex : PySem.W.Frag → Bool} {g : Addr → Option Obj} {s : Shared} (h : ∀ a, g a = s.heap.get? a) : obsM n fa fn ex g = (hookM n fa fn ex).obs s := by
  have e : g = s.heap.get? := funext h
  rw [e] <;> rfl
/-- the end -/
theorem walk_ofBE {l : PySem.W.OpenLaw} {n k : Nat} {q : Program} {loose : List Str} {XP : (Str → Option Value) → Heap → Prop} {YP : World → Heap → Prop} {d : DefRec} {CX : World → CXT} {x : Str}
    (hn : l.most = some n) (hn2 : n ≤ sizeLine) (hdf : d.params.defaults = []) (hr : Room k callerA)
    (F : ∀ (w : World) (mg : Str → Option Value) (fa : Addr) (h : Heap), YP w h → h.Ns mainGlobals mg → mg d.name = some (.ref fa) →
      ∃ (K : PySem.W.Frag) (fd : FuncData) (sp : Sp), K.In h ∧ (∀ (s : Shared) (u : Value), BindsTo s fd ⟨[u], []⟩ [(x, u)]) ∧
        (∀ (H : Hp) (a : Addr) (ns : List Int), ns.length ≤ n → (∀ z ∈ ns, Builtin.Int.intBits z ≤ 1048576) → Only H → SqL K H a (ns.map V.int) → sp [.ref a] H (fun v _ => v = .bl true) fun _ _ _ => False) ∧
        ∀ base : Heap, K.In base → base.Ns mainGlobals mg → FnOk l.prog w K mg base (CX w) k fa fd [x] sp)
    (hCX : ∀ (w : World) (H : Hp) (s : Shared) (e : Value) (s' : Shared), CX w [] H s (fun _ _ _ => False) e s' → False) :
    PySem.W.WalkO q loose XP YP l.row.toRowW d [] (fun f vs => PySem.call f vs) := by
  refine Att.attach_callB hn hdf fun w s₀ s₁ mg mb fa o pm cd doc a vs ns G Y ho hd hcd hmg hobj hints hlen hbits hg => ?_
  obtain ⟨K, fd, sp, KX, hb, hsp, hF⟩ := F w mg fa _ Y G.T.g hmg
  exact law_call KX G.T.g G.T.b G.T.builtins G.T.nolimit hg hobj hints (Nat.le_trans hlen hn2) hr hF hb (fun H hO hS => hsp H a ns hlen hbits hO hS) fun H e s' => hCX w H s₁ e s'
theorem cx_no {P : Program} {w : World} {H : Hp} {s s' : Shared} {e : Value} (h : L2.CX P w [] H s (fun _ _ _ => False) e s') : False := by
  obtain ⟨_, _, _, _, _, _, _, _, _, _, _, _, z⟩ := h
  exact z

/-! ## what a text knows of its names -/
/-- an exception class: its name, its attributes; top: every other one stands under it -/
structure ES where
  name : Str
  fs : List Str
  top : Bool
def esB (K : PySem.W.Frag) (e : ES) : Bool := if e.fs.isEmpty = true then exB0 K e.name else exB1 K e.name e.fs
def catB (K : PySem.W.Frag) (es : List ES) : Bool := (List.range es.length).all fun i => (List.range es.length).all fun j => match es[i]?, es[j]? with
  | some a, some b => decide (PySem.W.exmOne K (.ref (He.ga K a.name)) (.ref (He.ga K b.name)) = some (b.top || i == j))
  | _, _ => true
/-- a class: its name, its attributes in the order of their making, its methods, its properties -/
structure CS where
  name : Str
  fs : List Str
  ms : List Str
  ps : List Str
  e0 : Bool
/-- an empty tuple of the written part -/
def kt0B (K : PySem.W.Frag) (a : Addr) : Bool := match K.lookup a with
  | some ⟨.type t, _, .seq its _, _⟩ => t == "tuple" && its.isEmpty
  | _ => false
/-- the i-th default of the def at p is () -/
def dfl0 (K : PySem.W.Frag) (p : Str × Option Str) (i : Nat) : Bool := kt0B K (He.dflAt p i K)
def pA (K : PySem.W.Frag) (x f : Str) : Addr := match PySem.W.findIn K (.ref (He.ga K x)) f with
  | some (some (.ref p)) => p
  | _ => 0
def pG (K : PySem.W.Frag) (x f : Str) : Addr := match PySem.W.recIn K (pA K x f) "property" with
  | some (.ref g :: _) => g
  | _ => 0
def propB (K : PySem.W.Frag) (x f : Str) : Bool := decide (PySem.W.findIn K (.ref (He.ga K x)) f = some (some (.ref (pA K x f)))) && (decide (PySem.W.specialIn K (.ref (pA K x f)) "__get__" = some (some (.builtin "property.__get__"))) && (decide (PySem.W.takesIn K (.ref (pA K x f)) = some true) &&
  match PySem.W.recIn K (pA K x f) "property" with
  | some (.ref g :: _) => decide (g = pG K x f)
  | _ => false))
theorem propB_ok {K : PySem.W.Frag} {x f : Str} (h : propB K x f = true) : PropOf K (He.ga K x) f (pA K x f) (pG K x f) := by
  obtain ⟨h1, h⟩ := Bool.and_eq_true_iff.mp h
  obtain ⟨h2, h⟩ := Bool.and_eq_true_iff.mp h
  obtain ⟨h3, h4⟩ := Bool.and_eq_true_iff.mp h
  refine ⟨of_decide_eq_true h1, of_decide_eq_true h2, of_decide_eq_true h3, ?_⟩
  split at h4
  · rename_i g r q
    have e := of_decide_eq_true h4
    exact ⟨r, by rw [q, e]⟩
  · cases h4
def clsK (K : PySem.W.Frag) (C : Addr) : Bool := decide (PySem.W.findIn K (.ref C) "__class__" = some (some (.builtin "object.__class__"))) && (decide (PySem.W.specialIn K (.builtin "object.__class__") "__get__" = some (some (.builtin "getset_descriptor.__get__"))) && (decide (PySem.W.takesIn K (.builtin "object.__class__") = some true) && decide (PySem.W.mroIn K C (.type "object") = some true)))
def csB (K : PySem.W.Frag) (c : CS) : Bool := (He.Fa.cls c.name).ok K && (c.fs.all (fun f => (He.Fa.noat c.name f).ok K) && (c.ms.all (fun m => (He.Fa.meth c.name m).ok K) && ((He.Fa.mkr c.name).ok K && (c.ps.all (fun f => propB K c.name f) && (clsK K (He.ga K c.name) && (!c.e0 || dfl0 K (c.name, some "__init__") 0))))))
/-- the classes that a text may ask for: the table of isinstance -/
def tyAll : List String := ["NoneType", "bool", "int", "str", "tuple", "list", "dict"]
def kitC (K : PySem.W.Frag) (x : Str) (ve : Bool) : Bool := tyAll.all (fun t => decide (PySem.W.kitOne K (.type t) (.ref (He.ga K x)) = some false) && decide (PySem.W.kitOne K (.ref (He.ga K x)) (.type t) = some false)) && decide (PySem.W.kitOne K (.ref (He.ga K x)) (.type "ValueError") = some ve)
def kitEE (K : PySem.W.Frag) (es : List ES) : Bool := (List.range es.length).all fun i => (List.range es.length).all fun j => match es[i]?, es[j]? with
  | some a, some b => decide (PySem.W.kitOne K (.ref (He.ga K a.name)) (.ref (He.ga K b.name)) = some (b.top || i == j))
  | _, _ => true
def kitCC (K : PySem.W.Frag) (cs : List CS) : Bool := (List.range cs.length).all fun i => (List.range cs.length).all fun j => match cs[i]?, cs[j]? with
  | some a, some b => decide (PySem.W.kitOne K (.ref (He.ga K a.name)) (.ref (He.ga K b.name)) = some (i == j))
  | _, _ => true
def kitEC (K : PySem.W.Frag) (es : List ES) (cs : List CS) : Bool := es.all fun e => cs.all fun c => decide (PySem.W.kitOne K (.ref (He.ga K e.name)) (.ref (He.ga K c.name)) = some false) && decide (PySem.W.kitOne K (.ref (He.ga K c.name)) (.ref (He.ga K e.name)) = some false)
def excK (K : PySem.W.Frag) (C : Addr) : Bool := xfB K C && clsK K C
theorem excK_ok {K : PySem.W.Frag} {C : Addr} (h : excK K C = true) : ExcC K C := by
  obtain ⟨h1, h2⟩ := Bool.and_eq_true_iff.mp h
  have x := xfB_ok h1
  obtain ⟨k1, h⟩ := Bool.and_eq_true_iff.mp h2
  obtain ⟨k2, h⟩ := Bool.and_eq_true_iff.mp h
  obtain ⟨k3, k4⟩ := Bool.and_eq_true_iff.mp h
  exact ⟨x.ga, x.gg, x.exC, x.hdC, of_decide_eq_true k1, of_decide_eq_true k2, of_decide_eq_true k3, of_decide_eq_true k4⟩
def exAll (es : List ES) (cs : List CS) (K : PySem.W.Frag) : Bool := es.all (esB K) && (catB K es && (es.all (fun e => excK K (He.ga K e.name) && kitC K e.name true) && (kitEE K es && (cs.all (fun c => csB K c && kitC K c.name false) && (kitCC K cs && kitEC K es cs)))))
def lkOf (es : List ES) (cs : List CS) (K : PySem.W.Frag) : Lk := ⟨fun i => (cs[i]?).map fun c => (He.ga K c.name, c.fs), fun i => (es[i]?).map fun e => (He.ga K e.name, e.fs), K, none⟩
structure Tx (K : PySem.W.Frag) (mg : Str → Option Value) (g : Lk) (es : List ES) (cs : List CS) : Prop where
  g_ : g = lkOf es cs K
  ex : exAll es cs K = true
  gl : ∀ e ∈ es, mg e.name = some (.ref (He.ga K e.name))
  gc : ∀ c ∈ cs, mg c.name = some (.ref (He.ga K c.name))
theorem optMap {α β : Type} {o : Option α} {f : α → β} {b : β} (h : o.map f = some b) : ∃ a, o = some a ∧ f a = b := by
  cases o with
  | none => cases h
  | some a => exact ⟨a, rfl, Option.some.inj h⟩
section
variable {K : PySem.W.Frag} {mg : Str → Option Value} {g : Lk} {es : List ES} {cs : List CS}
theorem Tx.hK (T : Tx K mg g es cs) : K = g.K := by rw [T.g_]; rfl
theorem Tx.held (T : Tx K mg g es cs) : g.held = none := by rw [T.g_]; rfl
theorem Tx.a1 (T : Tx K mg g es cs) : es.all (esB K) = true := (Bool.and_eq_true_iff.mp T.ex).1
theorem Tx.a2 (T : Tx K mg g es cs) : catB K es = true := (Bool.and_eq_true_iff.mp (Bool.and_eq_true_iff.mp T.ex).2).1
theorem Tx.a3 (T : Tx K mg g es cs) : es.all (fun e => excK K (He.ga K e.name) && kitC K e.name true) = true := (Bool.and_eq_true_iff.mp (Bool.and_eq_true_iff.mp (Bool.and_eq_true_iff.mp T.ex).2).2).1
theorem Tx.a4 (T : Tx K mg g es cs) : kitEE K es = true := (Bool.and_eq_true_iff.mp (Bool.and_eq_true_iff.mp (Bool.and_eq_true_iff.mp (Bool.and_eq_true_iff.mp T.ex).2).2).2).1
theorem Tx.a5 (T : Tx K mg g es cs) : cs.all (fun c => csB K c && kitC K c.name false) = true := (Bool.and_eq_true_iff.mp (Bool.and_eq_true_iff.mp (Bool.and_eq_true_iff.mp (Bool.and_eq_true_iff.mp (Bool.and_eq_true_iff.mp T.ex).2).2).2).2).1
theorem Tx.a6 (T : Tx K mg g es cs) : kitCC K cs = true ∧ kitEC K es cs = true := Bool.and_eq_true_iff.mp (Bool.and_eq_true_iff.mp (Bool.and_eq_true_iff.mp (Bool.and_eq_true_iff.mp (Bool.and_eq_true_iff.mp (Bool.and_eq_true_iff.mp T.ex).2).2).2).2).2
theorem Tx.clsG (T : Tx K mg g es cs) {k : Nat} {C : Addr} {ns : List Str} (h : g.cls k = some (C, ns)) : ∃ c, cs[k]? = some c ∧ C = He.ga K c.name ∧ ns = c.fs := by
  rw [T.g_] at h
  obtain ⟨c, h1, h2⟩ := optMap (show (cs[k]?).map (fun c => (He.ga K c.name, c.fs)) = some (C, ns) from h)
  cases h2; exact ⟨c, h1, rfl, rfl⟩
theorem Tx.excG (T : Tx K mg g es cs) {k : Nat} {C : Addr} {ns : List Str} (h : g.exc k = some (C, ns)) : ∃ e, es[k]? = some e ∧ C = He.ga K e.name ∧ ns = e.fs := by
  rw [T.g_] at h
  obtain ⟨c, h1, h2⟩ := optMap (show (es[k]?).map (fun c => (He.ga K c.name, c.fs)) = some (C, ns) from h)
  cases h2; exact ⟨c, h1, rfl, rfl⟩
theorem Tx.cs_ (T : Tx K mg g es cs) {k : Nat} {c : CS} (h : cs[k]? = some c) : csB K c = true ∧ kitC K c.name false = true := Bool.and_eq_true_iff.mp (List.all_eq_true.mp T.a5 c (List.mem_of_getElem? h))
theorem Tx.ek_ (T : Tx K mg g es cs) {k : Nat} {e : ES} (h : es[k]? = some e) : excK K (He.ga K e.name) = true ∧ kitC K e.name true = true := Bool.and_eq_true_iff.mp (List.all_eq_true.mp T.a3 e (List.mem_of_getElem? h))
theorem csB_cls {c : CS} (h : csB K c = true) : Cls K (He.ga K c.name) := He.cls_ok (Bool.and_eq_true_iff.mp h).1
theorem csB_no {c : CS} (h : csB K c = true) {f : Str} (hf : f ∈ c.fs) : NoAttr K (He.ga K c.name) f := He.noat_ok (List.all_eq_true.mp (Bool.and_eq_true_iff.mp (Bool.and_eq_true_iff.mp h).2).1 f hf)
theorem csB_meth {c : CS} (h : csB K c = true) {f : Str} (hf : f ∈ c.ms) : Meth K (He.ga K c.name) f (He.ma K (He.ga K c.name) f) := He.meth_ok (List.all_eq_true.mp (Bool.and_eq_true_iff.mp (Bool.and_eq_true_iff.mp (Bool.and_eq_true_iff.mp h).2).2).1 f hf)
theorem csB_mk {c : CS} (h : csB K c = true) : Mk K (He.ga K c.name) (He.ma K (He.ga K c.name) "__init__") := He.mkr_ok (Bool.and_eq_true_iff.mp (Bool.and_eq_true_iff.mp (Bool.and_eq_true_iff.mp (Bool.and_eq_true_iff.mp h).2).2).2).1
theorem csB_prop {c : CS} (h : csB K c = true) {f : Str} (hf : f ∈ c.ps) : PropOf K (He.ga K c.name) f (pA K c.name f) (pG K c.name f) := propB_ok (List.all_eq_true.mp (Bool.and_eq_true_iff.mp (Bool.and_eq_true_iff.mp (Bool.and_eq_true_iff.mp (Bool.and_eq_true_iff.mp (Bool.and_eq_true_iff.mp h).2).2).2).2).1 f hf)
theorem csB_e0 {c : CS} (h : csB K c = true) (he : c.e0 = true) : dfl0 K (c.name, some "__init__") 0 = true := by
  have q := (Bool.and_eq_true_iff.mp (Bool.and_eq_true_iff.mp (Bool.and_eq_true_iff.mp (Bool.and_eq_true_iff.mp (Bool.and_eq_true_iff.mp (Bool.and_eq_true_iff.mp h).2).2).2).2).2).2
  rw [he] at q
  simpa using q
theorem csB_own {c : CS} (h : csB K c = true) : OwnTy K (He.ga K c.name) := by
  obtain ⟨k1, q⟩ := Bool.and_eq_true_iff.mp (Bool.and_eq_true_iff.mp (Bool.and_eq_true_iff.mp (Bool.and_eq_true_iff.mp (Bool.and_eq_true_iff.mp (Bool.and_eq_true_iff.mp (Bool.and_eq_true_iff.mp h).2).2).2).2).2).1
  obtain ⟨k2, q⟩ := Bool.and_eq_true_iff.mp q
  obtain ⟨k3, k4⟩ := Bool.and_eq_true_iff.mp q
  exact ⟨csB_cls h, of_decide_eq_true k1, of_decide_eq_true k2, of_decide_eq_true k3, of_decide_eq_true k4⟩
theorem kitC_ty {x : Str} {b : Bool} (h : kitC K x b = true) {t : String} (ht : t ∈ tyAll) : PySem.W.kitOne K (.type t) (.ref (He.ga K x)) = some false ∧ PySem.W.kitOne K (.ref (He.ga K x)) (.type t) = some false := by
  obtain ⟨h1, h2⟩ := Bool.and_eq_true_iff.mp (List.all_eq_true.mp (Bool.and_eq_true_iff.mp h).1 t ht)
  exact ⟨of_decide_eq_true h1, of_decide_eq_true h2⟩
theorem kitC_ve {x : Str} {b : Bool} (h : kitC K x b = true) : PySem.W.kitOne K (.ref (He.ga K x)) (.type "ValueError") = some b := of_decide_eq_true (Bool.and_eq_true_iff.mp h).2
theorem Tx.own (T : Tx K mg g es cs) : OwnAll g K := ⟨fun c C ns h => by
    obtain ⟨c, h1, rfl, _⟩ := T.clsG h
    exact csB_own (T.cs_ h1).1, fun c C ns h => by
    obtain ⟨c, h1, rfl, _⟩ := T.excG h
    exact excK_ok (T.ek_ h1).1⟩
theorem Tx.ownN (T : Tx K mg g es cs) {c : Ct} (hc : bltOf c ∈ tyAll := by decide) : OwnNo g K c := fun k C ns h => by
  rcases h with h | h
  · obtain ⟨c, h1, rfl, _⟩ := T.clsG h
    exact (kitC_ty (T.cs_ h1).2 hc).2
  · obtain ⟨c, h1, rfl, _⟩ := T.excG h
    exact (kitC_ty (T.ek_ h1).2 hc).2
theorem tgR_ty {t : Tg} {tv : Value} (r : TgR g t tv) : (∃ x ∈ tyAll, tv = .type x ∧ ∀ c, (∃ k, c = Ct.own k) ∨ (∃ k, c = Ct.exc k) → isa t c = false) ∨ (∃ k C ns, t = .own k ∧ tv = .ref C ∧ g.cls k = some (C, ns)) ∨ ∃ k C ns, t = .exc k ∧ tv = .ref C ∧ g.exc k = some (C, ns) := by
  cases r with
  | own h => exact .inr (.inl ⟨_, _, _, rfl, rfl, h⟩)
  | exc h => exact .inr (.inr ⟨_, _, _, rfl, rfl, h⟩)
  | _ => exact .inl ⟨_, by decide, rfl, fun c hc => by rcases hc with ⟨k, rfl⟩ | ⟨k, rfl⟩ <;> rfl⟩
/-- the answers of isinstance(.., an exception class) -/
theorem Tx.kE (T : Tx K mg g es cs) {j : Nat} {e : ES} (h : es[j]? = some e) : ∀ t tv, TgR g t tv → PySem.W.kitOne K tv (.ref (He.ga K e.name)) = some (isa t (.exc fun n => e.top || n == j)) := fun t tv r => by
  rcases tgR_ty r with ⟨x, hx, rfl, q⟩ | ⟨k, C, ns, rfl, rfl, q⟩ | ⟨k, C, ns, rfl, rfl, q⟩
  · rw [(kitC_ty (T.ek_ h).2 hx).1, q _ (.inr ⟨_, rfl⟩)]
  · obtain ⟨c, h1, rfl, _⟩ := T.clsG q
    have := List.all_eq_true.mp (List.all_eq_true.mp T.a6.2 e (List.mem_of_getElem? h)) c (List.mem_of_getElem? h1)
    exact of_decide_eq_true (Bool.and_eq_true_iff.mp this).2
  · obtain ⟨c, h1, rfl, _⟩ := T.excG q
    have h2 := List.all_eq_true.mp T.a4 k (List.mem_range.mpr (List.getElem?_eq_some_iff.mp h1).1)
    have h3 := List.all_eq_true.mp h2 j (List.mem_range.mpr (List.getElem?_eq_some_iff.mp h).1)
    rw [h1, h] at h3
    exact of_decide_eq_true h3
theorem Tx.kV (T : Tx K mg g es cs) : ∀ t tv, TgR g t tv → PySem.W.kitOne K tv (.type "ValueError") = some (isa t (.exc fun _ => true)) := fun t tv r => by
  cases r with
  | own q =>
    obtain ⟨c, h1, rfl, _⟩ := T.clsG q
    exact kitC_ve (T.cs_ h1).2
  | exc q =>
    obtain ⟨c, h1, rfl, _⟩ := T.excG q
    exact kitC_ve (T.ek_ h1).2
  | _ => exact kit_ty (by decide +kernel)
/-- .. an own class -/
theorem Tx.kC (T : Tx K mg g es cs) {j : Nat} {c : CS} (h : cs[j]? = some c) : ∀ t tv, TgR g t tv → PySem.W.kitOne K tv (.ref (He.ga K c.name)) = some (isa t (.own j)) := fun t tv r => by
  rcases tgR_ty r with ⟨x, hx, rfl, q⟩ | ⟨k, C, ns, rfl, rfl, q⟩ | ⟨k, C, ns, rfl, rfl, q⟩
  · rw [(kitC_ty (T.cs_ h).2 hx).1, q _ (.inl ⟨_, rfl⟩)]
  · obtain ⟨a, h1, rfl, _⟩ := T.clsG q
    have h2 := List.all_eq_true.mp T.a6.1 k (List.mem_range.mpr (List.getElem?_eq_some_iff.mp h1).1)
    have h3 := List.all_eq_true.mp h2 j (List.mem_range.mpr (List.getElem?_eq_some_iff.mp h).1)
    rw [h1, h] at h3
    exact of_decide_eq_true h3
  · obtain ⟨a, h1, rfl, _⟩ := T.excG q
    have := List.all_eq_true.mp (List.all_eq_true.mp T.a6.2 a (List.mem_of_getElem? h1)) c (List.mem_of_getElem? h)
    exact of_decide_eq_true (Bool.and_eq_true_iff.mp this).1
theorem Tx.exc (T : Tx K mg g es cs) {i : Nat} {e : ES} (h : es[i]? = some e) : g.exc i = some (He.ga K e.name, e.fs) := by
  rw [T.g_]
  show (es[i]?).map _ = _
  rw [h]; rfl
theorem Tx.clsI (T : Tx K mg g es cs) {i : Nat} {c : CS} (h : cs[i]? = some c) : g.cls i = some (He.ga K c.name, c.fs) := by
  rw [T.g_]
  show (cs[i]?).map _ = _
  rw [h]; rfl
theorem Tx.es_ (T : Tx K mg g es cs) {i : Nat} {e : ES} (h : es[i]? = some e) : esB K e = true := List.all_eq_true.mp T.a1 e (List.mem_of_getElem? h)
theorem Tx.e0 (T : Tx K mg g es cs) {i : Nat} {e : ES} (h : es[i]? = some e) (hf : e.fs = []) : ExC0 K (He.ga K e.name) := by
  have := T.es_ h
  unfold esB at this
  rw [hf] at this
  exact exB0_ok this
theorem Tx.e1 (T : Tx K mg g es cs) {i : Nat} {e : ES} (h : es[i]? = some e) (hf : e.fs.isEmpty = false) : ExC1 K (He.ga K e.name) (fI K e.name) e.fs := by
  have := T.es_ h
  unfold esB at this
  rw [if_neg (by rw [hf]; exact Bool.false_ne_true)] at this
  exact exB1_ok this
theorem Tx.nm (T : Tx K mg g es cs) {i : Nat} {e : ES} (h : es[i]? = some e) : mg e.name = some (.ref (He.ga K e.name)) := T.gl e (List.mem_of_getElem? h)
theorem Tx.cn (T : Tx K mg g es cs) {i : Nat} {c : CS} (h : cs[i]? = some c) : mg c.name = some (.ref (He.ga K c.name)) := T.gc c (List.mem_of_getElem? h)
theorem Tx.cat (T : Tx K mg g es cs) {j : Nat} {e : ES} (h : es[j]? = some e) : Cat g K (.ref (He.ga K e.name)) fun n => e.top || n == j := fun i C ns hi => by
  obtain ⟨a, q, rfl, _⟩ := T.excG hi
  have h2 := List.all_eq_true.mp T.a2 i (List.mem_range.mpr (List.getElem?_eq_some_iff.mp q).1)
  have h3 := List.all_eq_true.mp h2 j (List.mem_range.mpr (List.getElem?_eq_some_iff.mp h).1)
  rw [q, h] at h3
  exact of_decide_eq_true h3
/-- an attribute of exceptions -/
def xfL (es : List ES) (l : List (Nat × Nat)) (f : Str) : Bool := l.all fun p => match es[p.1]? with
  | some e => !e.fs.isEmpty && decide (e.fs[p.2]? = some f)
  | none => false
theorem Tx.fldX (T : Tx K mg g es cs) {l : List (Nat × Nat)} {f : Str} (h : xfL es l f = true) : FldX K g l f := ⟨fun c i hl => by
  have hm : (c, i) ∈ l := by
    clear h
    induction l with
    | nil => cases hl
    | cons p l ih =>
      obtain ⟨a, b⟩ := p
      rw [List.lookup_cons] at hl
      by_cases e : c = a
      · subst e
        simp at hl
        subst hl
        exact List.mem_cons_self ..
      · have e' : (c == a) = false := by simpa using e
        rw [e'] at hl
        exact List.mem_cons_of_mem _ (ih hl)
  have h1 := List.all_eq_true.mp h _ hm
  dsimp only at h1
  split at h1
  · rename_i e he
    obtain ⟨h2, h3⟩ := Bool.and_eq_true_iff.mp h1
    have h3 := of_decide_eq_true h3
    have E := T.e1 he (by simpa using h2)
    exact ⟨_, _, T.exc he, E.xf, E.no f (List.mem_of_getElem? h3), h3⟩
  · cases h1⟩
theorem exc_at {k : Nat} {x : Ex} {z : Addr × List Str} (h : (x.c == k) = true) (e : g.exc k = some z) : g.exc x.c = some z := by rw [eq_of_beq h]; exact e
end
/-- a module's int -/
theorem me_gint {g : Lk} {W : WX} {X : Cx} {x : Str} {i : Int} {pos : Pos} (h : ∃ t, X.mg x = some (.int i t)) (hg : Gl X x := by rfl) (hd : (x == ("__debug__" : Str)) = false := by decide) : ME g W X (.Name x pos) (eC (.int i)) := by
  obtain ⟨t, h⟩ := h
  exact me_glob (.int i) hg h ⟨t, rfl⟩ hd
theorem me_gstr {g : Lk} {W : WX} {X : Cx} {x z : Str} {pos : Pos} (h : ∃ t, X.mg x = some (.str z t)) (hg : Gl X x := by rfl) (hd : (x == ("__debug__" : Str)) = false := by decide) : ME g W X (.Name x pos) (eC (.str z)) := by
  obtain ⟨t, h⟩ := h
  exact me_glob (.str z) hg h ⟨t, rfl⟩ hd
/-- a def, at no depth -/
theorem fnM0 {P : Program} {w : World} {K : PySem.W.Frag} {mg : Str → Option Value} {base : Heap} {g : Lk} {d : He.DefD} {k : Nat} {f : Addr} {fd : FuncData} {x : Str} {ps : List Str} (hm : mg x = some (.ref f)) (F : FunD K d.name d.qual d.params d.body d.scope (d.dvs K) (d.kws K) f fd) :
    FnM P w K mg base g k d x ps (fun _ _ => none) := by
  refine ⟨f, fd, hm, F, ⟨fun vs H Q E h => ?_, fun A outer s H args us vs Q E hr e0 hb rv h => ?_⟩⟩
  · obtain ⟨ι, m, ds, r, _, _, _, h, _⟩ := h; cases h
  · obtain ⟨ι, m, ds, r, _, _, _, h, _⟩ := h; cases h
theorem FnM.up {P : Program} {w : World} {K : PySem.W.Frag} {mg : Str → Option Value} {base : Heap} {g : Lk} {d : He.DefD} {k k' : Nat} {x : Str} {ps : List Str} {F : Fx} (h : FnM P w K mg base g k d x ps F) (hk : k ≤ k') : FnM P w K mg base g k' d x ps F := by
  obtain ⟨f, fd, h1, h2, h3⟩ := h.ex
  exact ⟨f, fd, h1, h2, h3.mono hk⟩
/-- the script at the law's entry -/
theorem script_rv {K : PySem.W.Frag} {g : Lk} (hK : K = g.K) {H : Hp} {a : Addr} {ns : List Int} (hO : Only H) (hS : SqL K H a (ns.map V.int)) : HR g [] [] H ∧ RVs g [] H [.frl (ns.map D.int)] [.ref a] := by
  refine ⟨⟨rfl, List.nodup_nil, fun n o h => by simp at h⟩, .cons (.frl (vs := ns.map V.int) ?_ ?_) .nil⟩
  · rw [hK] at hS
    rcases hS with (h | h) | h
    · rcases hO a with z | ⟨o, xs, z⟩
      · rw [z] at h; cases h
      · rw [z] at h; cases h
    · exact .inl h
    · exact .inr (.inr h)
  · clear hS
    induction ns with
    | nil => exact .nil
    | cons n ns ih => exact .cons (.int n) ih
/-- the method of a class's text -/
def clsM (s : Stmt) (j : Nat) : Stmt := match s with
  | .ClassDef (body := b) .. => b.getD j (.Pass ⟨0, 0, 0, 0⟩)
  | s => s
end Mi
namespace Mi
open PySem PySem.Spec PyProof.Rows L2
theorem b_ValueError : bootBuiltins "ValueError" = some (.type "ValueError") := by decide +kernel
theorem b_sorted : bootBuiltins "sorted" = some (.builtin "sorted") := by decide +kernel
theorem b_len : bootBuiltins "len" = some (.builtin "len") := by decide +kernel
theorem b_int : bootBuiltins "int" = some (.type "int") := by decide +kernel
theorem b_list : bootBuiltins "list" = some (.type "list") := by decide +kernel
theorem b_tuple : bootBuiltins "tuple" = some (.type "tuple") := by decide +kernel
theorem b_bool : bootBuiltins "bool" = some (.type "bool") := by decide +kernel
theorem b_str : bootBuiltins "str" = some (.type "str") := by decide +kernel
theorem b_dict : bootBuiltins "dict" = some (.type "dict") := by decide +kernel
theorem b_min : bootBuiltins "min" = some (.builtin "min") := by decide +kernel
theorem b_max : bootBuiltins "max" = some (.builtin "max") := by decide +kernel
theorem b_abs : bootBuiltins "abs" = some (.builtin "abs") := by decide +kernel
theorem b_sum : bootBuiltins "sum" = some (.builtin "sum") := by decide +kernel
theorem b_all : bootBuiltins "all" = some (.builtin "all") := by decide +kernel
theorem b_any : bootBuiltins "any" = some (.builtin "any") := by decide +kernel
end Mi
namespace Mi
open PySem PySem.Spec PyProof.Rows L2
def blkB (N : List Str) (sc scope : Scope) (own : List (Str × Nat)) : Bool :=
  decide (scope.kind = .function) && (scope.names.all (fun y => decide (scope.names.lookup y.1 = some y.2)) && (own.all (fun p => decide (N[p.2]? = some p.1)) &&
    (scope.names.all (fun y => !decide (y.2 = .free) || (decide (sc.names.lookup y.1 = some .cell) || decide (sc.names.lookup y.1 = some .free))) &&
      scope.names.all (fun y => !(decide (y.2 = .local) || decide (y.2 = .cell)) || (decide (y.1 ∈ own.map (·.1)) || decide (y.1 ∉ N))))))
theorem blkB_ok {N : List Str} {sc scope : Scope} {own : List (Str × Nat)} (h : blkB N sc scope own = true) : BlkOk N sc scope own := by
  obtain ⟨h1, h⟩ := Bool.and_eq_true_iff.mp h
  obtain ⟨h2, h⟩ := Bool.and_eq_true_iff.mp h
  obtain ⟨h3, h⟩ := Bool.and_eq_true_iff.mp h
  obtain ⟨h4, h5⟩ := Bool.and_eq_true_iff.mp h
  refine ⟨of_decide_eq_true h1, fun y hy => of_decide_eq_true (List.all_eq_true.mp h2 y hy), fun p hp => of_decide_eq_true (List.all_eq_true.mp h3 p hp), fun y hy hf => ?_, fun y hy hf => ?_⟩
  · have := List.all_eq_true.mp h4 y hy
    simp only [hf, decide_true, Bool.not_true, Bool.false_or, Bool.or_eq_true, decide_eq_true_eq] at this
    exact this
  · have := List.all_eq_true.mp h5 y hy
    have e : (decide (y.2 = .local) || decide (y.2 = .cell)) = true := by simpa using hf
    rw [e] at this
    simp only [Bool.not_true, Bool.false_or, Bool.or_eq_true, decide_eq_true_eq] at this
    exact this
end Mi
namespace Mi
open PySem PySem.Spec PyProof.Rows L2
/-! ## instances of the text's classes: attributes -/
theorem RVs.get? {g : Lk} {ι : List Addr} {H : Hp} {ds : List D} {vs : List V} (r : RVs g ι H ds vs) {i : Nat} {d : D} (h : ds[i]? = some d) : ∃ v, vs[i]? = some v ∧ RV g ι H d v := r.get h
theorem lookup_zip {ns : List Str} {vs : List V} (nd : ns.Nodup) {i : Nat} {f : Str} {v : V} (h1 : ns[i]? = some f) (h2 : vs[i]? = some v) : (ns.zip vs).lookup f = some v := by
  induction ns generalizing vs i with
  | nil => simp at h1
  | cons n ns ih =>
    cases vs with
    | nil => simp at h2
    | cons x vs =>
      rw [List.nodup_cons] at nd
      cases i with
      | zero =>
        simp at h1 h2
        subst h1; subst h2
        simp [List.lookup]
      | succ i =>
        simp at h1 h2
        have hne : (f == n) = false := by
          rw [beq_eq_false_iff_ne]
          intro e
          subst e
          exact nd.1 (List.mem_of_getElem? h1)
        rw [List.zip_cons_cons, List.lookup_cons, hne]
        exact ih nd.2 h1 h2
/-- an attribute that is not the first to be made is told by its place -/
theorem putF_zip {ns : List Str} {vs : List V} (nd : ns.Nodup) {f : Str} {v : V} {i : Nat} (h1 : ns[i]? = some f) (h2 : i ≤ vs.length) (hl : vs.length ≤ ns.length) : putF f v (ns.zip vs) = ns.zip (if i < vs.length then vs.set i v else vs ++ [v]) := by
  induction ns generalizing vs i with
  | nil => simp at h1
  | cons n ns ih =>
    rw [List.nodup_cons] at nd
    cases vs with
    | nil =>
      have : i = 0 := by simpa using h2
      subst this
      simp at h1
      subst h1
      simp [putF]
    | cons x vs =>
      cases i with
      | zero =>
        simp at h1
        subst h1
        simp [putF]
      | succ i =>
        simp at h1 h2 hl
        have hne : n ≠ f := fun e => by
          subst e
          exact nd.1 (List.mem_of_getElem? h1)
        rw [List.zip_cons_cons, putF, if_neg hne, ih nd.2 h1 h2 hl]
        by_cases c : i < vs.length
        · simp [c]
        · simp [c]
/-- what is known of an attribute: by the class, its place -/
structure FldM (K : PySem.W.Frag) (g : Lk) (l : List (Nat × Nat)) (f : Str) : Prop where
  ex : ∀ c i, l.lookup c = some i → ∃ C ns, g.cls c = some (C, ns) ∧ Cls K C ∧ NoAttr K C f ∧ ns[i]? = some f ∧ ns.Nodup ∧ ns.length < 1000
def fldD (m : Hm) (l : List (Nat × Nat)) (x : D) : Option D := match x with
  | .ref n => match m[n]? with
    | some (.ins c fs) => match l.lookup c with
      | some i => fs[i]?
      | none => none
    | _ => none
  | _ => none
def eFld (l : List (Nat × Nat)) (a : Mv D) : Mv D := fun ρ m => bnd (a ρ m) fun x m1 => (fldD m1 l x).map fun d => .ok d m1
theorem HR.ins {g : Lk} {ι : List Addr} {m : Hm} {H : Hp} (h : HR g ι m H) {n c : Nat} {a : Addr} {fs : List D} (ha : ι[n]? = some a) (hn : m[n]? = some (.ins c fs)) :
    ∃ C dx ns vs, g.cls c = some (C, ns) ∧ fs.length ≤ ns.length ∧ RVs g ι H fs vs ∧ H a = some (.ins C dx (ns.zip vs)) := by
  obtain ⟨b, u, hb, hu, r⟩ := h.obj n _ hn
  rw [ha] at hb; cases hb
  cases r with
  | ins hc hl rv => exact ⟨_, _, _, _, hc, hl, rv, hu⟩
section
variable {g : Lk} {W : WX} {X : Cx} {e : Expr} {a : Mv D} {f : Str} {pos : Pos} {l : List (Nat × Nat)}
theorem me_fld (F : FldM X.K g l f) (he : ME g W X e a) (hb : attributeBase e f X.env (eval e X.env) = eval e X.env := by rfl) : ME g W X (.Attribute e f pos) (eFld l a) := peI (pe_fld he hb) fun σ H Q q => by
  obtain ⟨ι, m, ρ, r, s, hc, ho, hx⟩ := q
  refine useE s hc hx fun ι1 m1 d v H1 e1 s1 rv hk => ?_
  cases hd : fldD m1 l d with
  | none => rw [hd] at hk; cases hk
  | some y =>
    rw [hd] at hk
    cases hk
    unfold fldD at hd
    split at hd
    · rename_i n
      split at hd
      · rename_i c fs hn
        split at hd
        · rename_i i hi
          cases rv with | ref ha =>
          obtain ⟨C, dx, ns, vs, h1, h2, h3, h4⟩ := s1.hr.ins ha hn
          obtain ⟨C', ns', g1, g2, g3, g4, g5, _⟩ := F.ex c i hi
          rw [h1] at g1; cases g1
          obtain ⟨v, hv, rv⟩ := h3.get hd
          exact ⟨_, _, _, _, v, rfl, h4, g2, g3, lookup_zip g5 g4 hv, ho _ _ rfl ι1 v H1 e1 s1.hr rv⟩
        · cases hd
      · cases hd
    · cases hd
/-- o.f = value -/
def putD (m : Hm) (l : List (Nat × Nat)) (x y : D) : Option Hm := match x with
  | .ref n => match m[n]? with
    | some (.ins c fs) => match l.lookup c with
      | some i => if i < fs.length then some (m.set n (.ins c (fs.set i y))) else if i = fs.length then some (m.set n (.ins c (fs ++ [y]))) else none
      | none => none
    | _ => none
  | _ => none
def sPut (l : List (Nat × Nat)) (o v : Mv D) : Ms := fun ρ m => bndS (v ρ m) ρ fun y m1 => bndS (o ρ m1) ρ fun x m2 => (putD m2 l x y).map fun m3 => .nx ρ m3
theorem ms_put {o value : Expr} {co cv : Mv D} {pos' : Pos} (F : FldM X.K g l f) (ho : ME g W X o co) (hv : ME g W X value cv)
    (hs : swapsWith value (some (.Attribute o f pos')) pos.line X.env = pure false := by rfl) : MS g W X (.Assign [.Attribute o f pos'] value pos) (sPut l co cv) := psI (ps_fld ho hv hs) fun DD σ H q => by
  obtain ⟨ι, m, ρ, oo, s, hc, post⟩ := q
  refine useES s hc post fun ι1 m1 y yv H1 e1 s1 ry hk => ?_
  refine useES s1 hk (post.ext e1) fun ι2 m2 x xv H2 e2 s2 rx hk2 => ?_
  cases hd : putD m2 l x y with
  | none => rw [hd] at hk2; cases hk2
  | some m3 =>
    rw [hd] at hk2
    cases hk2
    unfold putD at hd
    split at hd
    · rename_i n
      split at hd
      · rename_i c fs hn
        split at hd
        · rename_i i hi
          cases rx with | ref ha =>
          obtain ⟨C, dx, ns, vs, h1, h2, h3, h4⟩ := s2.hr.ins ha hn
          obtain ⟨C', ns', g1, g2, g3, g4, g5, g6⟩ := F.ex c i hi
          rw [h1] at g1; cases g1
          have hl := h3.length
          have hz : (ns.zip vs).length = vs.length := by rw [List.length_zip]; omega
          have nf : ∀ o u, H2 _ ≠ some (.frz o u) := fun o u z => by rw [h4] at z; cases z
          have ry2 := ry.ext s1.hr e2
          refine ⟨_, C, dx, ns.zip vs, rfl, h4, g2, g3, by omega, ?_⟩
          have hin : i < ns.length := (List.getElem?_eq_some_iff.mp g4).1
          have fin : ∀ (ds : List D) (zs : List V), RVs g ι2 H2 ds zs → ds.length ≤ ns.length → putF f yv (ns.zip vs) = ns.zip zs → m3 = m2.set n (.ins c ds) → DD.nx σ (upd H2 _ (.ins C dx (putF f yv (ns.zip vs)))) := fun ds zs rz hlz hp hm => by
            subst hm
            have ex := ext_wr (u := .ins C dx (ns.zip zs)) (List.mem_of_getElem? ha) nf
            rw [hp]
            exact post ι2 σ _ ((e1.trans e2).trans ex) (s2.ext ex (s2.hr.write ha nf (.ins h1 hlz (rz.ext s2.hr ex))))
          split at hd
          · rename_i hi2
            cases hd
            exact fin _ _ (h3.set ry2) (by simpa using h2) (by rw [putF_zip g5 g4 (by omega) (by omega), if_pos (by omega)]) rfl
          · split at hd
            · rename_i hi2 hi3
              cases hd
              exact fin _ _ (h3.append (.cons ry2 .nil)) (by simp; omega) (by rw [putF_zip g5 g4 (by omega) (by omega), if_neg (by omega)]) rfl
            · cases hd
        · cases hd
      · cases hd
    · cases hd
end
end Mi
namespace Mi
open PySem PySem.Spec PyProof.Rows L2
/-! ## instances made -/
structure MkM (P : Program) (w : World) (K : PySem.W.Frag) (mg : Str → Option Value) (base : Heap) (g : Lk) (k c : Nat) (x : Str) (n : Nat) (F : Fx) : Prop where
  ex : ∃ C ns f, g.cls c = some (C, ns) ∧ mg x = some (.ref C) ∧ Mk K C f ∧ FnR P w K mg base (L2.CX P w) k f (spM g (n + 1) F)
def endMk (n : Nat) (o : Option (Rs D)) : Option (Rs D) := match o with
  | some (.ok .non m) => some (.ok (.ref n) m)
  | some (.ex x m) => some (.ex x m)
  | _ => none
def eMk (c : Nat) (F : Fx) (a : Mv (List D)) : Mv D := fun ρ m => bnd (a ρ m) fun ds m1 => endMk m1.length (F (.ref m1.length :: ds) (m1 ++ [.ins c []]))
section
variable {g : Lk} {W : WX} {X : Cx} {k c n : Nat} {x : Str} {F : Fx} {p pos : Pos} {e : Expr} {es : List Expr} {ca : Mv (List D)}
theorem mk_wish {ι : List Addr} {m : Hm} {ds : List D} {vs : List V} {r : Rs D} {σ : L2.St} {H : Hp} {Q : VK} {C : Addr} {ns : List Str} (hcls : g.cls c = some (C, ns)) (hr : HR g ι m H) (rv : RVs g ι H ds vs) (hl : ds.length = n)
    (hf : endMk m.length (F (.ref m.length :: ds) (m ++ [.ins c []])) = some r) (ho : ∀ d m', r = .ok d m' → ∀ ι' v H', Ext ι H ι' H' → HR g ι' m' H' → RV g ι' H' d v → Q v H') (hx : XW g W ι σ H r)
    {y dx : Addr} (hy : H y = none) (hd : H dx = none) (hne : dx ≠ y) :
    spM g (n + 1) F (.ref y :: vs) (upd (upd H dx (.own y)) y (.ins C dx [])) (fun v H2 => v = .non ∧ Q (.ref y) H2) (WE W σ) := by
  have e1 : Ext ι H ι (upd H dx (.own y)) := ext_side hd
  have hr1 := hr.side (u := .own y) hd
  have hy1 : upd H dx (.own y) y = none := by rw [upd_ne (Ne.symm hne)]; exact hy
  have e2 := ext_new (ι := ι) (u := HO.ins C dx []) hy1
  have hz : RO g (ι ++ [y]) (upd (upd H dx (.own y)) y (.ins C dx [])) (.ins c []) (.ins C dx []) := by
    have := RO.ins (g := g) (ι := ι ++ [y]) (H := upd (upd H dx (.own y)) y (.ins C dx [])) (dx := dx) (fs := []) (vs := []) hcls (Nat.zero_le _) .nil
    rwa [List.zip_nil_right] at this
  have hr2 := hr1.alloc hy1 (o := .ins c []) (u := .ins C dx []) hz
  have ry : RV g (ι ++ [y]) (upd (upd H dx (.own y)) y (.ins C dx [])) (.ref m.length) (.ref y) := .ref (by rw [← hr.len]; simp)
  cases q : F (.ref m.length :: ds) (m ++ [.ins c []]) with
  | none => rw [q] at hf; cases hf
  | some z =>
    refine ⟨ι ++ [y], m ++ [.ins c []], _, z, hr2, .cons ry ((rv.ext hr e1).ext hr1 e2), by simp [hl], q, fun d m' ez ι' v H' ex hr' rv' => ?_, fun xx m' ez ι' cls dd H' ex hr' er => ?_⟩
    · subst ez
      rw [q] at hf
      cases d with
      | non =>
        cases hf
        cases rv'
        refine ⟨rfl, ho _ _ rfl ι' _ H' ((e1.trans e2).trans ex) hr' (ry.ext hr2 ex)⟩
      | _ => cases hf
    · subst ez
      rw [q] at hf
      cases hf
      exact hx _ _ rfl ι' cls dd H' ((e1.trans e2).trans ex) hr' er
theorem run_mkM {pins : List (Addr × Obj)} {σ : L2.St} {H : Hp} {s : Shared} {Q : VK} {us : List Value} {vs : List V} {C f : Addr} {sp : Sp} {E : XK} (M : Mk X.K C f) (Fr_ : FnR X.prog X.w X.K X.mg X.base (L2.CX X.prog X.w) k f sp) (hr : Room (k + 1) X.A) (hx : PassesAt (L2.CX X.prog X.w) X σ E) (I : Inv X pins σ H s) (r : Vals vs us)
    (h : ∀ y dx, H y = none → H dx = none → dx ≠ y → sp (V.ref y :: vs) (upd (upd H dx (.own y)) y (.ins C dx [])) (fun v H2 => v = .non ∧ Q (.ref y) H2) E) :
    wpAny (model X.prog X.w) X.A (call (.ref C) us) (EP X pins σ Q) X.xe s := by
  have wish := h (s.heap.objs.size + 1) s.heap.objs.size (I.hok.fresh (Nat.le_succ _)) (I.hok.fresh (Nat.le_refl _)) (Nat.ne_of_lt (Nat.lt_succ_self _))
  have I2 := Inv.made (C := C) I
  have rs : Vals (V.ref (s.heap.objs.size + 1) :: vs) (Value.ref (s.heap.objs.size + 1) :: us) := .cons rfl r
  refine wpAny_call (make_map (f := f) I.kIn M.makes M.init (beq_iff_eq.mp M.fn) (codeAny_mono (Fr_ _ X.stack _ _ (Value.ref (s.heap.objs.size + 1) :: us) _ _ E (hr.make C us []) (I2.env0.make C us []) rs wish) fun out t good => ?_))
  cases out with
  | error e => exact hx pins _ _ e t I2 good
  | ok fl =>
    cases fl with
    | ret u =>
      obtain ⟨v, G, I3, rv, nn, fin⟩ := I2.after good
      subst nn
      exact ⟨rv, ⟨V.ref (s.heap.objs.size + 1), G, I3, rfl, fin⟩⟩
    | next => exact False.elim good
    | brk => exact False.elim good
    | cont => exact False.elim good
/-- C(e, ..) -/
theorem me_mk (h : MkM X.prog X.w X.K X.mg X.base g k c x n F) (hr : Room (k + 1) X.A) (tk : Takes X W) (ha : MA g W X (e :: es) n ca) (hg : Gl X x := by rfl) (hdb : (x == ("__debug__" : Str)) = false := by decide)
    (he : starEach (e :: es) X.env = (false, eval e X.env) :: starEach es X.env := by rfl) (hpl : (backTo pos (starEach es X.env)).any (·.1) = false := by rfl) : ME g W X (.Call (.Name x p) (e :: es) [] pos) (eMk c F ca) := by
  obtain ⟨C, ns, f, hcls, hm, M, Fo⟩ := h.ex
  refine ⟨fun pins s σ H Q I q => ?_⟩
  obtain ⟨ι, m, ρ, r, sr, hc, ho, hx⟩ := q
  refine wpAny_Call_Name_kw (ld_glob I hg hm ?_ hdb)
  refine PySem.W.callWith_K (h₀ := X.base) I.ok.mod.kin M.kp (thn (ha.run pos pins s σ H (fun vs H1 => ∀ y dx, H1 y = none → H1 dx = none → dx ≠ y → spM g (n + 1) F (.ref y :: vs) (upd (upd H1 dx (.own y)) y (.ins C dx [])) (fun v H2 => v = .non ∧ Q (.ref y) H2) (WE W σ)) I ?_)
    fun us s1 ⟨vs, H1, I1, rs, q1⟩ => ⟨I1.kIn, ?_⟩) he hpl
  · refine useA sr hc hx fun ι1 m1 ds vs H1 e1 s1 rvs hl hk y dx hy hd hne => ?_
    exact mk_wish hcls s1.hr rvs hl hk (fun d m' z ι' v H' ex => ho d m' z ι' v H' (e1.trans ex)) (hx.ext e1) hy hd hne
  · exact run_mkM M Fo hr (passAt tk σ) I1 rs q1
/-- C() -/
theorem me_mk0 (h : MkM X.prog X.w X.K X.mg X.base g k c x 0 F) (hr : Room (k + 1) X.A) (tk : Takes X W) (hg : Gl X x := by rfl) (hdb : (x == ("__debug__" : Str)) = false := by decide) : ME g W X (.Call (.Name x p) [] [] pos) (eMk c F aNil) := by
  obtain ⟨C, ns, f, hcls, hm, M, Fo⟩ := h.ex
  refine ⟨fun pins s σ H Q I q => ?_⟩
  obtain ⟨ι, m, ρ, r, sr, hc, ho, hx⟩ := q
  refine wpAny_Call_Name_kw (ld_glob I hg hm ?_ hdb)
  refine PySem.W.callWith_K0 I.kIn M.kp ?_
  show wpAny _ _ (call (.ref C) []) _ _ _
  exact run_mkM M Fo hr (passAt tk σ) I .nil fun y dx hy hd hne => mk_wish hcls sr.hr .nil rfl hc ho hx hy hd hne
end
end Mi
namespace Mi
open PySem PySem.Spec PyProof.Rows L2
/-! ## methods and properties of the text's classes -/
/-- default values that are left out -/
def dflF (F : Fx) (dds : List D) : Fx := fun ds => F (ds ++ dds)
theorem fnR_dfl {P : Program} {w : World} {K : PySem.W.Frag} {mg : Str → Option Value} {base : Heap} {g : Lk} {k n : Nat} {f : Addr} {fd : FuncData} {ps : List Str} {F : Fx} {dds : List D} {dvs : List V} {ds : List Value}
    (Fo : FnOk P w K mg base (L2.CX P w) k f fd ps (spM g (n + dds.length) F)) (hb : Binds K fd ps ds) (hd : Vals dvs ds) (hr : ∀ ι H, RVs g ι H dds dvs) : FnR P w K mg base (L2.CX P w) k f (spM g n (dflF F dds)) :=
  (Fo.raw hb hd).imp fun vs H Q E q => by
    obtain ⟨ι, m, xs, r, h1, h2, h3, h4, h5, h6⟩ := q
    exact ⟨ι, m, xs ++ dds, r, h1, h2.append (hr ι H), by simp [h3], h4, h5, h6⟩
/-- a method, by the class's number: mc tells the meaning, of the object and n arguments -/
structure MtM (P : Program) (w : World) (K : PySem.W.Frag) (mg : Str → Option Value) (base : Heap) (g : Lk) (k c : Nat) (x : Str) (n : Nat) (F : Fx) : Prop where
  ex : ∃ C ns f, g.cls c = some (C, ns) ∧ Cls K C ∧ Meth K C x f ∧ x ∉ ns ∧ FnR P w K mg base (L2.CX P w) k f (spM g (n + 1) F)
def selfC (m : Hm) (c : Nat) : D → Bool
  | .ref n => match m[n]? with
    | some (.ins c' _) => c' == c
    | _ => false
  | _ => false
def eMeth (c : Nat) (F : Fx) (o : Mv D) (a : Mv (List D)) : Mv D := fun ρ m => bnd (o ρ m) fun x m1 => if selfC m1 c x = true then bnd (a ρ m1) fun ds m2 => F (x :: ds) m2 else none
theorem lookup_zip_none {ns : List Str} {x : Str} (h : x ∉ ns) : ∀ vs : List V, (ns.zip vs).lookup x = none := by
  induction ns with
  | nil => intro vs; rfl
  | cons n ns ih =>
    intro vs
    cases vs with
    | nil => rfl
    | cons v vs =>
      have h1 : (x == n) = false := by
        rw [beq_eq_false_iff_ne]
        exact fun e => h (by rw [e]; simp)
      rw [List.zip_cons_cons, List.lookup_cons, h1]
      exact ih (fun z => h (by simp [z])) vs
section
variable {g : Lk} {W : WX} {X : Cx} {k c n : Nat} {x : Str} {F : Fx} {p apos pos : Pos} {o e : Expr} {es : List Expr} {co : Mv D} {ca : Mv (List D)}
theorem run_fnRS {pins : List (Addr × Obj)} {σ : L2.St} {H : Hp} {s : Shared} {Q : VK} {us : List Value} {vs : List V} {f : Addr} {sp : Sp} {E : XK} (Fo : FnR X.prog X.w X.K X.mg X.base (L2.CX X.prog X.w) k f sp) (hr : Room k X.A) (hx : PassesAt (L2.CX X.prog X.w) X σ E) (I : Inv X pins σ H s) (r : Vals vs us) (h : sp vs H Q E) :
    wpAny (model X.prog X.w) X.A (call (.ref f) us) (EP X pins σ Q) X.xe s := by
  refine wpAny_call (codeAny_mono (Fo X.A X.stack s H us vs Q E hr I.env0 r h) fun out t good => ?_)
  cases out with
  | error er => exact hx pins H s er t I good
  | ok fl =>
    cases fl with
    | ret u => exact I.after good
    | next => exact False.elim good
    | brk => exact False.elim good
    | cont => exact False.elim good
theorem selfC_ins {ι : List Addr} {m : Hm} {H : Hp} {d : D} {v : V} {C : Addr} {ns : List Str} (hcls : g.cls c = some (C, ns)) (hr : HR g ι m H) (rv : RV g ι H d v) (h : selfC m c d = true) : ∃ a dx vs, v = .ref a ∧ H a = some (.ins C dx (ns.zip vs)) := by
  unfold selfC at h
  split at h
  · rename_i n
    split at h
    · rename_i c' fs hn
      have hc : c' = c := by simpa using h
      subst hc
      cases rv with | ref ha =>
      obtain ⟨C', dx, ns', vs, h1, h2, h3, h4⟩ := hr.ins ha hn
      rw [hcls] at h1; cases h1
      exact ⟨_, dx, vs, rfl, h4⟩
    · cases h
  · cases h
/-- o.m(e, ..) -/
theorem me_meth {pl : Sem Bool} (h : MtM X.prog X.w X.K X.mg X.base g k c x n F) (hr : Room k X.A) (tk : Takes X W) (hO : ME g W X o co) (ha : MA g W X (e :: es) n ca)
    (hst : starEach (e :: es) X.env = (false, eval e X.env) :: starEach es X.env := by rfl) (hpl : (backTo pos (starEach es X.env)).any (·.1) = false := by rfl)
    (ht : eval (.Call (.Attribute o x apos) (e :: es) [] pos) X.env = (do
      let ov ← eval o X.env
      standAt apos.atName
      let (f, first) ← holding [ov] (getMethod ov x pl)
      callWith pos f first (backTo pos (starEach (e :: es) X.env)) (backToKw pos (keywordEach [] X.env))) := by rfl) : ME g W X (.Call (.Attribute o x apos) (e :: es) [] pos) (eMeth c F co ca) := by
  obtain ⟨C, ns, f, hcls, cC, hm, hns, Fo⟩ := h.ex
  refine ⟨fun pins s σ H Q I q => ?_⟩
  obtain ⟨ι, m, ρ, r, sr, hc, ho, hx⟩ := q
  refine PySem.W.methodCall_KW (pl := pl) (thn (hO.run pins s σ H (fun xv H1 => ∃ a dx vs, xv = .ref a ∧ H1 a = some (.ins C dx (ns.zip vs)) ∧ liftA g W n ca σ H1 fun us H2 => spM g (n + 1) F (.ref a :: us) H2 Q (WE W σ)) I ?_) fun u s1 ⟨xv, H1, I1, rx, a, dx, vs, ex, ea, q1⟩ => ?_) ht
  · refine useE sr hc hx fun ι1 m1 d v H1 e1 s1 rv hk => ?_
    split at hk
    · rename_i hself
      obtain ⟨a, dx, vs, rfl, ea⟩ := selfC_ins hcls s1.hr rv hself
      refine ⟨a, dx, vs, rfl, ea, useA s1 hk (hx.ext e1) fun ι2 m2 ds us H2 e2 s2 rvs hl hk2 => ?_⟩
      exact sp_of s2.hr (.cons (rv.ext s1.hr e2) rvs) (by simp [hl]) hk2 (fun d m' z ι' v H' ex => ho d m' z ι' v H' ((e1.trans e2).trans ex)) (hx.ext (e1.trans e2))
    · cases hk
  · subst ex
    obtain rfl : u = Value.ref a := rx
    refine getmeth_ok I1 ea cC hm (lookup_zip_none hns vs) ?_
    refine PySem.W.callWith_K (first := [.ref a]) (h₀ := X.base) I.ok.mod.kin hm.kp (thn (ha.run pos pins s1 σ H1 _ I1 q1) fun us s2 ⟨zs, H2, I2, rz, q2⟩ => ⟨I2.kIn, ?_⟩) hst hpl
    exact run_fnRS (us := .ref a :: us) (vs := .ref a :: zs) Fo hr (passAt tk σ) I2 (.cons rfl rz) q2
/-- o.m() -/
theorem me_meth0 {pl : Sem Bool} (h : MtM X.prog X.w X.K X.mg X.base g k c x 0 F) (hr : Room k X.A) (tk : Takes X W) (hO : ME g W X o co)
    (ht : eval (.Call (.Attribute o x apos) [] [] pos) X.env = (do
      let ov ← eval o X.env
      standAt apos.atName
      let (f, first) ← holding [ov] (getMethod ov x pl)
      callWith pos f first (backTo pos (starEach [] X.env)) (backToKw pos (keywordEach [] X.env))) := by rfl) : ME g W X (.Call (.Attribute o x apos) [] [] pos) (eMeth c F co aNil) := by
  obtain ⟨C, ns, f, hcls, cC, hm, hns, Fo⟩ := h.ex
  refine ⟨fun pins s σ H Q I q => ?_⟩
  obtain ⟨ι, m, ρ, r, sr, hc, ho, hx⟩ := q
  refine PySem.W.methodCall_KW (pl := pl) (thn (hO.run pins s σ H (fun xv H1 => ∃ a dx vs, xv = .ref a ∧ H1 a = some (.ins C dx (ns.zip vs)) ∧ spM g 1 F [.ref a] H1 Q (WE W σ)) I ?_) fun u s1 ⟨xv, H1, I1, rx, a, dx, vs, ex, ea, q1⟩ => ?_) ht
  · refine useE sr hc hx fun ι1 m1 d v H1 e1 s1 rv hk => ?_
    split at hk
    · rename_i hself
      obtain ⟨a, dx, vs, rfl, ea⟩ := selfC_ins hcls s1.hr rv hself
      refine ⟨a, dx, vs, rfl, ea, ?_⟩
      exact sp_of s1.hr (.cons rv .nil) rfl hk (fun d m' z ι' v H' ex => ho d m' z ι' v H' (e1.trans ex)) (hx.ext e1)
    · cases hk
  · subst ex
    obtain rfl : u = Value.ref a := rx
    refine getmeth_ok I1 ea cC hm (lookup_zip_none hns vs) ?_
    exact PySem.W.callWith_K0 (first := [.ref a]) I1.kIn hm.kp (run_fnRS (us := [.ref a]) (vs := [.ref a]) Fo hr (passAt tk σ) I1 (.cons rfl .nil) q1)
/-! properties -/
structure PrM (P : Program) (w : World) (K : PySem.W.Frag) (mg : Str → Option Value) (base : Heap) (g : Lk) (k c : Nat) (x : Str) (F : Fx) : Prop where
  ex : ∃ C ns pr f fd q, g.cls c = some (C, ns) ∧ Cls K C ∧ PropOf K C x pr f ∧ FnOk P w K mg base (L2.CX P w) k f fd [q] (spM g 1 F) ∧ Binds K fd [q] []
/-- what does not raise -/
def calmF (o : Option (Rs D)) : Option (Rs D) := match o with
  | some (.ok d m) => some (.ok d m)
  | _ => none
def eProp (c : Nat) (F : Fx) (o : Mv D) : Mv D := fun ρ m => bnd (o ρ m) fun x m1 => if selfC m1 c x = true then calmF (F [x] m1) else none
theorem me_prop (h : PrM X.prog X.w X.K X.mg X.base g k c x F) (hr : Room (k + 1) X.A) (hO : ME g W X o co) (hb : attributeBase o x X.env (eval o X.env) = eval o X.env := by rfl) : ME g W X (.Attribute o x pos) (eProp c F co) := by
  obtain ⟨C, ns, pr, f, fd, q0, hcls, cC, hp, Fo, hB⟩ := h.ex
  refine peI (pe_prop (E := fun _ _ _ => False) (dvs := []) (ds := []) hO cC hp Fo hr hB .nil (fun pins σ H s e s' I hq => ?_) hb) fun σ H Q q => ?_
  · obtain ⟨_, _, _, _, _, _, _, _, _, _, _, _, hE⟩ := hq
    exact hE.elim
  · obtain ⟨ι, m, ρ, r, s, hc, ho, hx⟩ := q
    refine useE s hc hx fun ι1 m1 d v H1 e1 s1 rv hk => ?_
    split at hk
    · rename_i hself
      obtain ⟨a, dx, vs, rfl, ea⟩ := selfC_ins hcls s1.hr rv hself
      refine ⟨a, dx, _, rfl, ea, ?_⟩
      cases hf : F [d] m1 with
      | none => rw [hf] at hk; cases hk
      | some z =>
        rw [hf] at hk
        cases z with
        | ex y m2 => cases hk
        | ok y m2 =>
          cases hk
          exact ⟨ι1, m1, [d], _, s1.hr, .cons rv .nil, rfl, hf, fun d' m' z ι' v H' ex hr rv => by cases z; exact ho _ _ rfl ι' v H' (e1.trans ex) hr rv, fun y m' z => by cases z⟩
    · cases hk
end
end Mi
namespace Mi
open PySem PySem.Spec PyProof.Rows L2
/-! ## x is True, x is not False -/
section
variable {X : Cx} {g : Lk}
theorem sameB {M : Model} {A : Around} {E : Value → Shared → Prop} {s : Shared} {x : V} {u : Value} {b : Bool} {R : Bool → Shared → Prop} (r : RelV x u) (q : R (decide (x = .bl b)) s) : wpAny M A (isSame u (.bool b)) R E s := by
  have eq_ : ∀ {u : Value} {z : Bool}, plainIs u (.bool b) = true → (u == Value.bool b) = z → R z s → wpAny M A (isSame u (.bool b)) R E s := fun h1 h2 q => wpAny_isSame_plain h1 (by rw [h2]; exact q)
  cases x with
  | ref a => cases r; exact eq_ (z := false) rfl rfl (by simpa using q)
  | non => cases r; exact eq_ (z := false) rfl rfl (by simpa using q)
  | bl c =>
    cases r
    refine eq_ rfl rfl ?_
    have : (Value.bool c == Value.bool b) = decide (V.bl c = V.bl b) := by cases b <;> cases c <;> rfl
    rw [this]
    exact q
  | int i => obtain ⟨t, rfl⟩ := r; exact eq_ (z := false) rfl rfl (by simpa using q)
  | str x => obtain ⟨t, rfl⟩ := r; exact eq_ (z := false) rfl rfl (by simpa using q)
  | byt x => obtain ⟨t, rfl⟩ := r; exact eq_ (z := false) rfl rfl (by simpa using q)
  | flt x => obtain ⟨t, rfl⟩ := r; exact eq_ (z := false) rfl rfl (by simpa using q)
  | ty n => cases r; exact eq_ (z := false) rfl rfl (by simpa using q)
def blIs (b : Bool) : D → Bool
  | .bl c => c == b
  | _ => false
def opIsB (neg : Bool) : Mop := fun x y m => match y with
  | .bl b => some (.bl (neg != blIs b x), m)
  | _ => none
theorem blIs_eq {ι : List Addr} {H : Hp} {d : D} {x : V} {b : Bool} (r : RV g ι H d x) : decide (x = .bl b) = blIs b d := by
  cases r with
  | bl c => cases b <;> cases c <;> rfl
  | _ => simp [blIs]
theorem mo_isB : OpR X (compareOp .Is) (rM g (opIsB false)) := by
  intro pins s σ H x y v u Q I rx ry q
  obtain ⟨ι, m, dx, dy, d, m', hr, r1, r2, hq, post⟩ := q
  unfold opIsB at hq
  split at hq
  · rename_i b
    cases r2; cases hq; cases ry
    show wpAny _ _ ((isSame v (Value.bool b)) >>= fun z => pure (Value.bool z)) _ _ s
    refine wpAny_bind (sameB rx (wpAny_pure (fin_bl I (post ι _ H (Ext.refl _ _) hr ?_) rfl)))
    rw [blIs_eq r1]
    simp
    exact .bl _
  · cases hq
theorem mo_isNotB : OpR X (compareOp .IsNot) (rM g (opIsB true)) := by
  intro pins s σ H x y v u Q I rx ry q
  obtain ⟨ι, m, dx, dy, d, m', hr, r1, r2, hq, post⟩ := q
  unfold opIsB at hq
  split at hq
  · rename_i b
    cases r2; cases hq; cases ry
    show wpAny _ _ ((isSame v (Value.bool b)) >>= fun z => pure (Value.bool (!z))) _ _ s
    refine wpAny_bind (sameB rx (wpAny_pure (fin_bl I (post ι _ H (Ext.refl _ _) hr ?_) rfl)))
    rw [blIs_eq r1]
    simp
    exact .bl _
  · cases hq
end
end Mi
namespace Mi
open PySem PySem.Spec PyProof.Rows L2
/-! ## dict comprehensions whose keys are tuples -/
theorem putT {X : Cx} {pins : List (Addr × Obj)} {σ : L2.St} {H : Hp} {s : Shared} {E : Value → Shared → Prop} {T b : Addr} {kvs : List (List Key × V)} {k : List Key} {v : V} {r : Value} {Q : Unit → Shared → Prop} (hu : X.A.units < cLine)
    (I : Inv X pins σ H s) (hT : H T = some (.dT kvs)) (hz : kvs.length < sizeLine) (eb : H b = some (.tup (k.map kV))) (rv : RelV v r) (h : ∀ t, Inv X pins σ (upd H T (.dT (putK kvs k v))) t → Q () t) : wpAny (model X.prog X.w) X.A (dictSet T (.ref b) r) Q E s := by
  obtain ⟨z, hd, xs, rel, dd⟩ := dt_of I.hok hT
  have few : xs.length ≤ sizeLine := by rw [← Paired.length rel]; exact z
  have most : (putK kvs k v).length ≤ sizeLine := by have := length_putK kvs k v; omega
  refine wpAny_dictSet_heap (hsz := few) hu (key_of I.hok eb) dd fun h' dd' hs => h _ ?_
  obtain ⟨q, es, ep, hq, h2, h3, h4, _, h5⟩ := dd'
  have stay : ∀ c ys, H c = some (.tup ys) → upd H T (.dT (putK kvs k v)) c = some (.tup ys) := fun c ys ec => by
    rw [upd_ne (ne_of ec hT (fun z => nomatch z))]; exact ec
  exact d_write I (by rw [hT]; exact True.intro) hs ⟨q, hq⟩ ⟨most, hd, _, (rel.put k eb rv).keeps stay, q, es, ep, hq, h2, h3, h4, h5⟩
section
variable {X : Cx}
/-- the wish: Dn the new dict, at each turn the key is a tuple of ints and texts -/
def tDcT (wit : TI) (g : TG) (tt : TT) (tk tv : TE) (vs : List Nat) : TE := fun σ H Q => wit σ H fun J H1 => ∀ Dn, H1 Dn = none → ∃ W : Nat → Nat → Hp → Prop, (∃ m, W 0 m (upd H1 Dn (.dT []))) ∧ ∀ i m H, W i m H →
  (J.stop i H ∧ Q (.ref Dn) H) ∨ (J.go i H ∧ ∃ Nx : Hp → Prop, (∀ H', Nx H' → ∃ m', m' < m ∧ W (i + 1) m' H') ∧ ∀ x H', J.yld i H x H' → g x (wipe σ vs) H' fun σ2 Ha => wipe σ2 vs = wipe σ vs ∧ tt σ2 Ha fun b Hb =>
    if b = true then tk σ2 Hb fun y Hk => tv σ2 Hk fun z Hv => ∃ kvs k bk, y = .ref bk ∧ Hv bk = some (.tup (k.map kV)) ∧ Hv Dn = some (.dT kvs) ∧ kvs.length < sizeLine ∧ Nx (upd Hv Dn (.dT (putK kvs k z))) else Nx Hb)
theorem dcT_core {pins : List (Addr × Obj)} {s : Shared} {σ : L2.St} {H : Hp} {Q : VK} {ke ve tgt itr : Expr} {tests : List Expr} {sc : Scope} {mine : List (Str × Nat)} {pos pos' : Pos} {wit : TI} {g : TG} {tt : TT} {tk tv : TE} {us_ : Option (Value → Sem Unit)} {Qe : Value → Shared → Prop}
    (hu : X.A.units < cLine) (hc : X.calm = true) (hN : X.N.Nodup) (I : Inv X pins σ H s) (hi : PI X tgt itr wit) (ok : BlkOk X.N X.env.scope sc mine)
    (hg : ∀ (s : Shared) (H : Hp) (C : Addr) (cl : List (Str × Addr)) (aims : List Addr), PG (X.blk s H sc (compEnvC sc cl C X.env) aims) tgt g) (ht : ∀ (s : Shared) (H : Hp) (C : Addr) (cl : List (Str × Addr)) (aims : List Addr), PTs (X.blk s H sc (compEnvC sc cl C X.env) aims) tests tt)
    (hk : ∀ (s : Shared) (H : Hp) (C : Addr) (cl : List (Str × Addr)) (aims : List Addr), PE (X.blk s H sc (compEnvC sc cl C X.env) aims) ke tk)
    (he : ∀ (s : Shared) (H : Hp) (C : Addr) (cl : List (Str × Addr)) (aims : List Addr), PE (X.blk s H sc (compEnvC sc cl C X.env) aims) ve tv) (hs : ∀ x, foldedSetIterable itr X.env x = pure x)
    (h : tDcT wit g tt tk tv (mine.map (·.2)) σ H Q)
    (hRR : ∀ Dn C s' m H', Inv X pins σ H' s' → Q (.ref Dn) H' → s'.heap.Ns C m → FpOk X pins H' C → compPost (model X.prog X.w) X.A X.xe us_ Qe (.ref Dn) C (.ok .next) s') :
    wpAny (model X.prog X.w) X.A (comprehension (.DictComp ke ve [⟨tgt, itr, tests, 0⟩] sc pos) sc X.env pos' newDict false (eval itr X.env) us_) Qe X.xe s := by
  have frees : ∀ y ∈ sc.names, y.2 = .free → ∃ c, X.env.cells.lookup y.1 = some c := fun y hy e => by
    rcases ok.free y hy e with k | k
    · exact I.ok.has _ (.inl k)
    · exact I.ok.has _ (.inr k)
  refine wpAny_comprehension_free (use := us_) rfl hs (closure_ok frees) ok.kind (fun y hy e => by rw [ok.uniq y hy, e])
    (thn (hi.run pins s σ H _ I h) fun xv s1 hx => thn hx fun itv ti h2 => ?_)
  obtain ⟨it, aims, tn, J, Hi, e, Ji, T, stI, fI, q⟩ := h2
  subst e
  refine wpAny_newObj_type (newEnv_comp ?_)
  generalize hNew : ti.heap.objs.size = Dn
  have hNone : Hi Dn = none := Ji.hok.fresh (Nat.le_of_eq hNew)
  obtain ⟨W, ⟨mm0, wz⟩, turns⟩ := q Dn hNone
  generalize hsd : ({ ti with heap := ti.heap.push { cls := .type "dict", data := .dict #[] } } : Shared) = td
  have Jd : Inv X pins σ (upd Hi Dn (.dT [])) td := by
    rw [← hsd]
    refine Ji.laid (t' := ti.toks) (fun b o e => Heap.get?_push_of_some _ e) (Nat.le_of_eq hNew) ?_
    rw [← hNew]
    exact dt_empty ti.heap Ji.big
  have h3 : td.heap = ti.heap.push { cls := .type "dict", data := .dict #[] } := by rw [← hsd]
  have sz : ∀ b ∈ aims, b < ti.heap.objs.size := fun b hb => by
    obtain ⟨o, e, _⟩ := T.obj _ _ stI b hb
    exact Heap.lt_size e
  have fD : ∀ b ∈ aims, FpOk X pins (upd Hi Dn (.dT [])) b ∧ b < td.heap.objs.size := fun b hb => by
    have hlt := sz b hb
    refine ⟨⟨?_, (fI b hb).2⟩, by rw [h3, Heap.size_push]; exact Nat.lt_succ_of_lt hlt⟩
    rw [upd_ne (by rw [← hNew]; exact Nat.ne_of_lt hlt)]
    exact (fI b hb).1
  have stD : tn 0 td.heap := T.keep _ _ _ stI fun b _ o e => by rw [h3]; exact Heap.get?_push_of_some _ e
  have Jb := block_start Jd ok hN fD
  have pgt := hg td (upd Hi Dn (.dT [])) td.heap.objs.size (cellsFrom (td.heap.objs.size + 1) sc.names (cloFrom X.env.cells sc.names [])) aims
  have ptt := ht td (upd Hi Dn (.dT [])) td.heap.objs.size (cellsFrom (td.heap.objs.size + 1) sc.names (cloFrom X.env.cells sc.names [])) aims
  have pkk := hk td (upd Hi Dn (.dT [])) td.heap.objs.size (cellsFrom (td.heap.objs.size + 1) sc.names (cloFrom X.env.cells sc.names [])) aims
  have pee := he td (upd Hi Dn (.dT [])) td.heap.objs.size (cellsFrom (td.heap.objs.size + 1) sc.names (cloFrom X.env.cells sc.names [])) aims
  show codeAny _ _ (.compStart (.DictComp ke ve [⟨tgt, itr, tests, 0⟩] sc pos) 0 (.ref it) (.ref Dn) (compEnvC sc (cellsFrom (td.heap.objs.size + 1) sc.names (cloFrom X.env.cells sc.names [])) td.heap.objs.size X.env)) (compPost (model X.prog X.w) X.A X.xe us_ Qe (.ref Dn) td.heap.objs.size) { td with heap := pushCells (td.heap.push { cls := .type "dict", data := .dict #[] }) sc.names }
  have noAim : ∀ b ∈ aims, (upd Hi Dn (.dT [])) b = none := fun b hb => (fD b hb).1.1
  generalize hcenv : compEnvC sc (cellsFrom (td.heap.objs.size + 1) sc.names (cloFrom X.env.cells sc.names [])) td.heap.objs.size X.env = cenv at Jb pgt ptt pkk pee ⊢
  have cLoc : cenv.locals = td.heap.objs.size := by subst hcenv; rfl
  generalize hHd : upd Hi Dn (.dT []) = Hd at Jd Jb pgt ptt pkk pee wz noAim fD
  generalize hsb : ({ td with heap := pushCells (td.heap.push { cls := .type "dict", data := .dict #[] }) sc.names } : Shared) = tb at Jb ⊢
  have stB : tn 0 tb.heap := T.keep _ _ _ stD fun b _ o e => by rw [← hsb]; exact pushCells_keeps _ _ _ _ (Heap.get?_push_of_some _ e)
  have stays : ∀ {σ' : L2.St} {H' : Hp} {s' : Shared}, Inv (X.blk td Hd sc cenv aims) [] σ' H' s' → (∀ b ∈ aims, H' b = none) → ∀ b ∈ aims, FpOk (X.blk td Hd sc cenv aims) [] H' b := fun {σ' H' s'} I' hn b hb =>
    ⟨hn b hb, (I'.ok.exf b hb).1, I'.ok.exfs b hb, .inl hb, fun x c e => (I'.ok.exf b hb).2 x c e, fun p hp => absurd (show p ∈ ([] : List (Addr × Obj)) ++ [] from hp) (by simp)⟩
  have runs : codeAny (model X.prog X.w) X.A (.compLoop (.DictComp ke ve [⟨tgt, itr, tests, 0⟩] sc pos) 0 (.ref it) (.ref Dn) cenv) (compPost (model X.prog X.w) X.A X.xe us_ Qe (.ref Dn) td.heap.objs.size) tb := by
    refine compLoop_anyD (fun n s' => ∃ i H', Inv (X.blk td Hd sc cenv aims) [] (wipe σ (mine.map (·.2))) H' s' ∧ tn i s'.heap ∧ (∀ b ∈ aims, H' b = none) ∧ W i n H') ?_ mm0 ⟨0, Hd, Jb, stB, noAim, wz⟩
    rintro n tt_ ⟨i, Ht, Jt, stT, nT, wT⟩
    rcases turns i n Ht wT with ⟨stop, qz⟩ | ⟨go, Nx, hNx, step⟩
    · have tz := T.done (X.blk td Hd sc cenv aims) rfl rfl rfl hc i [] tt_ _ Ht (fun _ _ => False) Jt (stays Jt nT) stT stop
      refine thnF tz fun r te ⟨hr, Je⟩ => ?_
      subst hr
      have Jy : Inv X pins σ Ht te := Jd.call' (ch := aims) Je.os Je.base Je.hok Je.bare fun b hb => ⟨(fD b hb).1.2.2.2.1, (fD b hb).1.2.1, (fD b hb).1.2.2.2.2.1, (fD b hb).1.2.2.2.2.2⟩
      have nLoc : Ht td.heap.objs.size = none := by
        have z : Ht cenv.locals = none := Je.free
        rw [cLoc] at z
        exact z
      obtain ⟨m, hn, _⟩ := Je.loc
      have hn : te.heap.Ns cenv.locals m := hn
      rw [cLoc] at hn
      exact hRR Dn td.heap.objs.size te m Ht Jy qz hn (Jd.fpOk (Nat.le_refl _) nLoc)
    · have tw := T.item (X.blk td Hd sc cenv aims) rfl rfl rfl hc i [] tt_ _ Ht (fun _ _ => False) Jt (stays Jt nT) stT go
      refine thnF tw fun r te ⟨u, hr, h6⟩ => ?_
      subst hr
      refine thnF h6 fun _ ty ⟨x, Hy, Jy, ry_, y7, stY, nY⟩ => ?_
      have I7' := Jy.pinned (stays Jy nY) (T.obj _ _ stY)
      refine thnF (pgt.run _ ty _ Hy x u _ I7' ry_ (step x Hy y7)) fun _ tg_ ⟨σ8, Hg, Jg, hwp, qG⟩ => ?_
      refine thnF (ptt.run _ tg_ σ8 Hg _ Jg qG) fun b tc ⟨Hc, Jc, qC⟩ => ?_
      have ends : ∀ {s' : Shared} {H' : Hp}, Inv (X.blk td Hd sc cenv aims) ([] ++ pinsAt aims ty.heap) σ8 H' s' → Nx H' → ∃ m, m < n ∧ ∃ i H', Inv (X.blk td Hd sc cenv aims) [] (wipe σ (mine.map (·.2))) H' s' ∧ tn i s'.heap ∧ (∀ b ∈ aims, H' b = none) ∧ W i m H' := fun {s' H'} I' nx => by
        obtain ⟨m', hlt, w'⟩ := hNx H' nx
        have pin' : ∀ b ∈ aims, ∀ o, ty.heap.get? b = some o → s'.heap.get? b = some o ∧ H' b = none := fun b hb o e =>
          let z := I'.pin (b, o) (List.mem_append_right _ (List.mem_append_right _ (mem_pinsAt hb e)))
          ⟨z.1, z.2.1⟩
        have hl : (wipe σ (mine.map (·.2))).length = σ8.length := by rw [← hwp, wipe_length]
        refine ⟨m', hlt, i + 1, H', (I'.unpinned (pins := [])).weak hl (fun j v e => ?_), T.keep _ _ _ stY fun b hb o e => (pin' b hb o e).1, fun b hb => ?_, w'⟩
        · rw [← hwp] at e
          exact (wipe_some e).1
        · obtain ⟨o, e, _⟩ := T.obj _ _ stY b hb
          exact (pin' b hb o e).2
      cases b with
      | false =>
        simp only [Bool.false_eq_true, if_false] at qC ⊢
        exact ends Jc qC
      | true =>
        simp only [if_true] at qC ⊢
        refine thnF (pkk.run _ tc σ8 Hc _ Jc qC) fun z tk_ ⟨yk, Hk, Jk, rk, qK⟩ => ?_
        refine thnF (pee.run _ tk_ σ8 Hk _ Jk qK) fun z2 tv_ ⟨yv, Hv, Jv, rz, kvs, k, bk, ek, eb, atD, few, nx⟩ => ?_
        subst ek
        cases (show z = Value.ref bk from rk)
        exact putT (X := X.blk td Hd sc cenv aims) hu Jv atD few eb rz fun tn_ Jn => ends Jn nx
  exact codeAny_compStart_dict runs (T.self X.A 0 _ _ _ stB runs)
theorem pe_dcT {ke ve tgt itr : Expr} {tests : List Expr} {sc : Scope} {mine : List (Str × Nat)} {pos : Pos} {wit : TI} {g : TG} {tt : TT} {tk tv : TE} (hu : X.A.units < cLine) (hc : X.calm = true) (hN : X.N.Nodup) (hi : PI X tgt itr wit) (ok : BlkOk X.N X.env.scope sc mine)
    (hg : ∀ (s : Shared) (H : Hp) (C : Addr) (cl : List (Str × Addr)) (aims : List Addr), PG (X.blk s H sc (compEnvC sc cl C X.env) aims) tgt g) (ht : ∀ (s : Shared) (H : Hp) (C : Addr) (cl : List (Str × Addr)) (aims : List Addr), PTs (X.blk s H sc (compEnvC sc cl C X.env) aims) tests tt)
    (hk : ∀ (s : Shared) (H : Hp) (C : Addr) (cl : List (Str × Addr)) (aims : List Addr), PE (X.blk s H sc (compEnvC sc cl C X.env) aims) ke tk)
    (he : ∀ (s : Shared) (H : Hp) (C : Addr) (cl : List (Str × Addr)) (aims : List Addr), PE (X.blk s H sc (compEnvC sc cl C X.env) aims) ve tv) (hs : ∀ x, foldedSetIterable itr X.env x = pure x := by intro _; rfl) :
    PE X (.DictComp ke ve [⟨tgt, itr, tests, 0⟩] sc pos) (tDcT wit g tt tk tv (mine.map (·.2))) := by
  refine ⟨fun pins s σ H Q I h => ?_⟩
  rw [arm_eval_DictComp]
  refine dcT_core hu hc hN I hi ok hg ht hk he hs h fun Dn C s' m H' I' q hn f => ⟨m, hn, fun h'' sb => ?_⟩
  obtain ⟨f0, f1, fI, fD, f4, f5⟩ := f
  exact ⟨.ref Dn, H', I'.turned (t' := s'.toks) (fun b o hb e => (sb.2 b hb).trans e) f0 f1 fD f4 f5, rfl, q⟩
end
end Mi
namespace Mi
open PySem PySem.Spec PyProof.Rows L2
/-! ## an object aside that is written -/
structure Aside (H : Hp) (p : Addr) : Prop where
  t : ∀ xs, H p ≠ some (.tup xs)
  f : ∀ o u, H p ≠ some (.frz o u)
  x : ∀ fs, H p ≠ some (.xd fs)
section
variable {g : Lk} {ι : List Addr} {m : Hm} {ρ : Ro} {σ : L2.St} {H : Hp} {p : Addr} {u : HO}
theorem Aside.gr (s : Aside H p) : Gr ι H ι (L2.upd H p u) :=
  ⟨⟨[], by simp⟩, fun b xs q => by rw [upd_ne (fun e => s.t xs (by rw [← e]; exact q))]; exact q, fun b o xs q => by rw [upd_ne (fun e => s.f o xs (by rw [← e]; exact q))]; exact q, fun b xs q => by rw [upd_ne (fun e => s.x xs (by rw [← e]; exact q))]; exact q⟩
theorem ExR.gr {ι' : List Addr} {H' : Hp} (e : Gr ι H ι' H') {x : Ex} {cls : Value} {dd : Option Addr} (r : ExR g ι H x cls dd) : ExR g ι' H' x cls dd := by
  obtain ⟨C, ns, h1, h2, h3⟩ := r
  refine ⟨C, ns, h1, h2, h3.imp id ?_⟩
  rintro ⟨d, fs, h4, h5, h6⟩
  exact ⟨d, fs, h4, e.xd _ _ h5, fun i f y q1 q2 => let ⟨v, hv, r⟩ := h6 i f y q1 q2; ⟨v, hv, r.gr e⟩⟩
theorem RK.gr {κ : Type} {ι' : List Addr} {H' : Hp} (e : Gr ι H ι' H') {a : List (κ × D)} {b : List (κ × V)} (r : RK g ι H a b) : RK g ι' H' a b := by
  induction r with
  | nil => exact .nil
  | cons r _ ih => exact .cons (r.gr e) ih
theorem RO.gr {ι' : List Addr} {H' : Hp} (e : Gr ι H ι' H') {o : O} {v : HO} (r : RO g ι H o v) : RO g ι' H' o v := by
  cases r with
  | lst r => exact .lst (r.gr e)
  | dK r => exact .dK (RK.gr e r)
  | dT r => exact .dT (RK.gr e r)
  | lK r => exact .lK (RK.gr e r)
  | lT r => exact .lT (RK.gr e r)
  | ins c l r => exact .ins c l (r.gr e)
  | xc r => exact .xc (ExR.gr e r)
theorem HR.aside (h : HR g ι m H) (s : Aside H p) (hp : p ∉ ι) : HR g ι m (L2.upd H p u) := by
  refine ⟨h.len, h.nd, fun n o q => ?_⟩
  obtain ⟨a, v, ha, hv, r⟩ := h.obj n o q
  have hne : a ≠ p := fun e => hp (by rw [← e]; exact List.mem_of_getElem? ha)
  exact ⟨a, v, ha, by rw [upd_ne hne]; exact hv, r.gr s.gr⟩
theorem SR.aside (r : SR g ι m ρ σ H) (s : Aside H p) (hp : p ∉ ι) : SR g ι m ρ σ (L2.upd H p u) := by
  refine ⟨r.hr.aside s hp, r.len, fun i d q => ?_, r.hel, fun h q => ?_⟩
  · obtain ⟨v, hv, rv⟩ := r.slot i d q
    exact ⟨v, hv, rv.gr s.gr⟩
  · exact ExR.gr s.gr (r.hx h q)
theorem aside_dT {kvs : List (List Key × V)} (h : H p = some (.dT kvs)) : Aside H p := by
  refine ⟨fun xs z => ?_, fun o u z => ?_, fun fs z => ?_⟩ <;> (rw [h] at z; cases z)
end
end Mi
namespace Mi
open PySem PySem.Spec PyProof.Rows L2
/-! ## {k: v for t in it}, the keys tuples -/
abbrev Kvt := List (List Key × D)
def dcPut (acc : Kvt) (y z : D) : Option Kvt := match keyT y with
  | some k => if acc.length < sizeLine then some (putKD acc k z) else none
  | none => none
def dcL (w : Wk) (tg : Mg) (t : Mv Bool) (ek ev : Mv D) (ρ : Ro) : Nat → Nat → Hm → Kvt → Option (Kvt × Hm)
  | 0, _, m, acc => if w.fin m = true then some (acc, m) else none
  | k + 1, i, m, acc => match w.at_ i m with
    | none => none
    | some d => match tg d ρ m with
      | none => none
      | some (ρ1, m1) => match t ρ1 m1 with
        | some (.ok true m2) => match ek ρ1 m2 with
          | some (.ok y m3) => match ev ρ1 m3 with
            | some (.ok z m4) => match dcPut acc y z with
              | some acc' => dcL w tg t ek ev ρ k (i + 1) m4 acc'
              | none => none
            | _ => none
          | _ => none
        | some (.ok false m2) => dcL w tg t ek ev ρ k (i + 1) m2 acc
        | _ => none
def eDcT (it : Mi_) (tg : Mg) (t : Mv Bool) (ek ev : Mv D) (vs : List Nat) : Mv D := fun ρ m => bnd (it ρ m) fun w m1 => (dcL w tg t ek ev (wipeM ρ vs) w.n 0 m1 []).map fun p => .ok (.ref p.2.length) (p.2 ++ [.dT p.1])
theorem keep_aside {ι ι' : List Addr} {H H' : Hp} {p : Addr} {o : HO} (e : Ext ι H ι' H') (hp : p ∉ ι) (hl : H p = some o) : p ∉ ι' ∧ H' p = some o := keep_side e hp hl
section
variable {g : Lk} {X : Cx} {ci : Mi_} {cg : Mg} {ct : Mv Bool} {ck cv : Mv D} {ws vs : List Nat}
theorem dc_run {ιb ι0 : List Addr} {Hb H0 : Hp} {w : Wk} {J : It} (wm : WalkM g ι0 H0 w J) (hws : ∀ i ∈ ws, i ∈ vs) {m0 : Hm} {ρ : Ro} {σ : L2.St} (s0 : SR g ι0 m0 ρ σ H0) {p : Addr} (hb : Hb p = none) (eb : Ext ιb Hb ι0 H0) (hp0 : p ∉ ι0) {us0 : List (List Key × V)} (hl0 : H0 p = some (.dT us0)) {acc0 : Kvt} (ra0 : RK g ι0 H0 acc0 us0) {Qd : Hp → Prop}
    {zs : Kvt} {mz : Hm} (h : dcL w cg ct ck cv (wipeM ρ vs) w.n 0 m0 acc0 = some (zs, mz))
    (done : ∀ ι H us, Ext ιb Hb ι H → SR g ι mz ρ σ H → p ∉ ι → H p = some (.dT us) → RK g ι H zs us → Qd H) :
    ∃ W_ : Nat → Nat → Hp → Prop, (∃ m, W_ 0 m H0) ∧ ∀ i m H, W_ i m H →
      (J.stop i H ∧ Qd H) ∨ (J.go i H ∧ ∃ Nx : Hp → Prop, (∀ H', Nx H' → ∃ m', m' < m ∧ W_ (i + 1) m' H') ∧ ∀ x H', J.yld i H x H' → liftG g ws cg x (wipe σ vs) H' fun σ2 Ha => wipe σ2 vs = wipe σ vs ∧ liftT g W0 ct σ2 Ha fun b Hc =>
        if b = true then liftE g W0 ck σ2 Hc fun y Hk => liftE g W0 cv σ2 Hk fun z Hv => ∃ kvs k bk, y = .ref bk ∧ Hv bk = some (.tup (k.map kV)) ∧ Hv p = some (.dT kvs) ∧ kvs.length < sizeLine ∧ Nx (upd Hv p (.dT (putK kvs k z))) else Nx Hc) := by
  refine ⟨fun i k H => i + k = w.n ∧ ∃ ι m acc us, Ext ιb Hb ι H ∧ Gr ι0 H0 ι H ∧ SR g ι m ρ σ H ∧ p ∉ ι ∧ H p = some (.dT us) ∧ RK g ι H acc us ∧ dcL w cg ct ck cv (wipeM ρ vs) k i m acc = some (zs, mz),
    ⟨w.n, by simp, ι0, m0, acc0, us0, eb, Gr.refl _ _, s0, hp0, hl0, ra0, h⟩, ?_⟩
  rintro i k H ⟨hk, ι, m, acc, us, ex, eg, s, hp, hl, ra, hf⟩
  cases k with
  | zero =>
    obtain rfl : i = w.n := by omega
    simp only [dcL] at hf
    split at hf
    · rename_i hfin
      cases hf
      exact .inl ⟨wm.stop ι mz H eg s.hr hfin, done ι H us ex s hp hl ra⟩
    · cases hf
  | succ k =>
    simp only [dcL] at hf
    split at hf
    · cases hf
    rename_i d hd
    obtain ⟨go, yl⟩ := wm.go ι m H i d eg s.hr (by omega) hd
    refine .inr ⟨go, fun H' => i + 1 + k = w.n ∧ ∃ ι m acc us, Ext ιb Hb ι H' ∧ Gr ι0 H0 ι H' ∧ SR g ι m ρ σ H' ∧ p ∉ ι ∧ H' p = some (.dT us) ∧ RK g ι H' acc us ∧ dcL w cg ct ck cv (wipeM ρ vs) k (i + 1) m acc = some (zs, mz),
      fun H' n => ⟨k, Nat.lt_succ_self k, n⟩, fun x H1 hy => ?_⟩
    obtain ⟨e1, hr1, rx⟩ := yl x H1 hy
    obtain ⟨hp1, hl1⟩ := keep_aside e1 hp hl
    have ra1 := ra.ext s.hr e1
    have eg1 := eg.trans (e1.gr s.hr)
    split at hf
    · cases hf
    rename_i ρ1 m1 hg
    refine ⟨ι, m, wipeM ρ vs, d, ρ1, m1, (s.ext e1 hr1).wipe vs, rx, hg, fun ι2 σ2 H2 e2 s2 o2 => ⟨(wipe_out2 o2 vs hws).trans (wipe_wipe σ vs), ?_⟩⟩
    obtain ⟨hp2, hl2⟩ := keep_aside e2 hp1 hl1
    have ra2 := ra1.ext hr1 e2
    have eg2 := eg1.trans (e2.gr hr1)
    cases q : ct ρ1 m1 with
    | none => rw [q] at hf; cases hf
    | some zt =>
      rw [q] at hf
      refine ⟨ι2, m1, ρ1, zt, s2, q, fun b m2 ez ι3 H3 e3 hr3 => ?_, fun y m' ez => by subst ez; cases hf⟩
      subst ez
      obtain ⟨hp3, hl3⟩ := keep_aside e3 hp2 hl2
      have ra3 := ra2.ext s2.hr e3
      have eg3 := eg2.trans (e3.gr s2.hr)
      have e13 := (e1.trans e2).trans e3
      cases b with
      | false =>
        rw [if_neg Bool.false_ne_true]
        exact ⟨by omega, ι3, m2, acc, us, ex.trans e13, eg3, s.ext e13 hr3, hp3, hl3, ra3, hf⟩
      | true =>
        rw [if_pos rfl]
        simp only at hf
        cases qk : ck ρ1 m2 with
        | none => rw [qk] at hf; cases hf
        | some zk =>
          rw [qk] at hf
          have s3 := s2.ext e3 hr3
          refine ⟨ι3, m2, ρ1, zk, s3, qk, fun y m3 ey ι4 vk H4 e4 hr4 rvk => ?_, fun y m' ez => by subst ez; cases hf⟩
          subst ey
          simp only at hf
          obtain ⟨hp4, hl4⟩ := keep_aside e4 hp3 hl3
          have ra4 := ra3.ext hr3 e4
          have e14 := e13.trans e4
          cases qv : cv ρ1 m3 with
          | none => rw [qv] at hf; cases hf
          | some zv =>
            rw [qv] at hf
            refine ⟨ι4, m3, ρ1, zv, s3.ext e4 hr4, qv, fun z m4 ey ι5 vv H5 e5 hr5 rvv => ?_, fun y m' ez => by subst ez; cases hf⟩
            subst ey
            simp only at hf
            obtain ⟨hp5, hl5⟩ := keep_aside e5 hp4 hl4
            have ra5 := ra4.ext hr4 e5
            have e15 := e14.trans e5
            have rvk5 := rvk.ext hr4 e5
            split at hf
            · rename_i acc' hput
              unfold dcPut at hput
              split at hput
              · rename_i kk hkk
                split at hput
                · rename_i hlen
                  cases hput
                  obtain ⟨d0, ds0, rfl⟩ : ∃ d0 ds0, y = .tup (d0 :: ds0) := by
                    cases y <;> simp [keyT] at hkk
                    rename_i l
                    cases l with
                    | nil => simp [keyT] at hkk
                    | cons x y => exact ⟨x, y, rfl⟩
                  obtain ⟨bk, vs1, rfl, hs1, t1⟩ := rvk5.tupN
                  have ek := keysOf_kV t1 hkk
                  subst ek
                  have as := aside_dT hl5
                  refine ⟨us, kk, bk, rfl, hs1, hl5, by rw [← ra5.length]; exact hlen, by omega, ι5, m4, _, putK us kk vv, ext_sidew (ex.trans e15) hb, ((eg3.trans (e4.gr hr3)).trans (e5.gr hr4)).trans as.gr, (s.ext e15 hr5).aside as hp5, hp5, upd_same, RK.gr as.gr (ra5.put kk rvv), hf⟩
                · cases hput
              · cases hput
            · cases hf
theorem tDcM {W : WX} {σ : L2.St} {H : Hp} {Q : VK} (hws : ∀ i ∈ ws, i ∈ vs) (q : liftE g W (eDcT ci cg ct ck cv vs) σ H Q) : tDcT (liftI g W ci) (liftG g ws cg) (liftT g W0 ct) (liftE g W0 ck) (liftE g W0 cv) vs σ H Q := by
  obtain ⟨ι, m, ρ, r, s, hc, ho, hx⟩ := q
  refine useI s hc hx fun ι1 m1 w J H1 e1 s1 wm hk => ?_
  intro p hp
  cases q : dcL w cg ct ck cv (wipeM ρ vs) w.n 0 m1 [] with
  | none => rw [q] at hk; cases hk
  | some z =>
    obtain ⟨zs, mz⟩ := z
    rw [q] at hk; cases hk
    refine dc_run (wm.later ((ext_side hp).gr s1.hr)) hws (s1.ext (ext_side hp) (s1.hr.side hp)) hp (ext_side hp) (fresh_notin s1.hr hp) upd_same .nil q fun ι2 H2 us e2 s2 hpn hl ra => ?_
    have e3 : Ext ι1 H1 (ι2 ++ [p]) H2 := by
      obtain ⟨t, rfl⟩ := e2.pre
      refine ⟨⟨t ++ [p], by simp⟩, e2.fix, fun b hb => ?_, e2.lck⟩
      rcases List.mem_append.mp hb with h | h
      · exact e2.new b h
      · obtain rfl : b = p := by simpa using h
        exact .inr hp
    exact ho _ _ rfl (ι2 ++ [p]) (.ref p) H2 (e1.trans e3) (s2.hr.adopt hpn hl (.dT ra)) (.ref (by rw [← s2.hr.len]; simp))
end
section
variable {g : Lk} {W : WX} {X : Cx} {ke ve tg iter : Expr} {scope : Scope} {own : List (Str × Nat)} {pos : Pos} {ci : Mi_} {cg : Mg} {ct : Mv Bool} {ck cv : Mv D} {ws : List Nat}
theorem me_dcT (hu : X.A.units < cLine) (hc : X.calm = true) (hN : X.N.Nodup) (hi : MI g W X tg iter ci) (ok : BlkOk X.N X.env.scope scope own) (hg : BlkG g X scope tg ws cg) (hk : BlkE g X scope ke ck) (he : BlkE g X scope ve cv) (hws : ∀ i ∈ ws, i ∈ own.map (·.2) := by decide)
    (hs : ∀ x, foldedSetIterable iter X.env x = pure x := by intro _; rfl) : ME g W X (.DictComp ke ve [⟨tg, iter, [], 0⟩] scope pos) (eDcT ci cg tYesM ck cv (own.map (·.2))) :=
  peI (pe_dcT (tt := liftT g W0 tYesM) hu hc hN hi ok hg (fun s H C cl fp => ptsI pts_nil fun _ _ _ q => yes_of (X := X) q) hk he hs) fun σ H Q q => tDcM hws q
end
end Mi
namespace Mi
open PySem PySem.Spec PyProof.Rows L2
/-! ## list.pop -/
def mPopAt : Met := fun k xs ds m => match ds with
  | [.int i] => if -(2 ^ 63) ≤ i ∧ i < 2 ^ 63 then match seqIndex? i xs.length with
    | some j => (xs[j]?).map fun y => (y, m.set k (.lst (xs.eraseIdx j)))
    | none => none
    else none
  | _ => none
def mPop : Met := fun k xs ds m => match ds with
  | [] => (xs[xs.length - 1]?).map fun y => (y, m.set k (.lst xs.dropLast))
  | _ => none
theorem RVs.dropLast {g : Lk} {ι : List Addr} {H : Hp} {ds : List D} {vs : List V} (r : RVs g ι H ds vs) : RVs g ι H ds.dropLast vs.dropLast := by
  rw [List.dropLast_eq_take, List.dropLast_eq_take, r.length]
  exact r.take _
section
variable {g : Lk} {W : WX} {X : Cx} {a b e o i : Expr} {es : List Expr} {ca : Mv (List D)} {cb ce co ci : Mv D} {p pos apos cpos : Pos} {name : Str} {id : String} {n : Nat}
theorem mtR_popAt : MtR X "list.pop" (rMt g mPopAt) := by
  intro pins s σ H x vs v us Q I rx rv q
  obtain ⟨ι, m, k, a, xs, ds, d, m', rfl, hi, hx, hr, rs, hf, post⟩ := q
  unfold mPopAt at hf
  split at hf
  · rename_i z
    split at hf
    · rename_i hl
      split at hf
      · rename_i j hj
        cases hy : xs[j]? with
        | none => rw [hy] at hf; cases hf
        | some y =>
          rw [hy] at hf
          cases hf
          cases rs with | @cons _ _ w0 _ r t =>
          cases t
          cases r
          obtain ⟨ws, hw, tw⟩ := hr.lst hx hi
          obtain ⟨u, hu, ru⟩ := tw.get hy
          refine mt_popAt pins s σ H _ _ v us Q I rx rv ⟨a, ws, z, j, u, rfl, rfl, hw, hl.1, hl.2, by rw [← tw.length]; exact hj, hu, ?_⟩
          have nf : ∀ o u, H a ≠ some (.frz o u) := fun o u z => by rw [hw] at z; cases z
          have x3 := ext_wr (u := .lst (ws.eraseIdx j)) (H := H) (List.mem_of_getElem? hi) nf
          exact post ι _ _ x3 (hr.write hi nf (.lst ((tw.eraseIdx j).ext hr x3))) (ru.ext hr x3)
      · cases hf
    · cases hf
  · cases hf
theorem mtR_pop : MtR X "list.pop" (rMt g mPop) := by
  intro pins s σ H x vs v us Q I rx rv q
  obtain ⟨ι, m, k, a, xs, ds, d, m', rfl, hi, hx, hr, rs, hf, post⟩ := q
  unfold mPop at hf
  split at hf
  · cases hy : xs[xs.length - 1]? with
    | none => rw [hy] at hf; cases hf
    | some y =>
      rw [hy] at hf
      cases hf
      cases rs
      obtain ⟨ws, hw, tw⟩ := hr.lst hx hi
      obtain ⟨u, hu, ru⟩ := tw.get hy
      refine mt_pop pins s σ H _ _ v us Q I rx rv ⟨a, ws, u, rfl, rfl, hw, by rw [← tw.length]; exact hu, ?_⟩
      have nf : ∀ o u, H a ≠ some (.frz o u) := fun o u z => by rw [hw] at z; cases z
      have x3 := ext_wr (u := .lst ws.dropLast) (H := H) (List.mem_of_getElem? hi) nf
      exact post ι _ _ x3 (hr.write hi nf (.lst (tw.dropLast.ext hr x3))) (ru.ext hr x3)
  · cases hf
end
/-! ## tuple(range(..)), list(range(..)) -/
def rgD (a b : Int) : List D := (List.range (b - a).toNat).map fun i => D.int (a + (i : Nat))
theorem rgD_rv {g : Lk} {ι : List Addr} {H : Hp} (a b : Int) : RVs g ι H (rgD a b) (rgV a b) := by
  unfold rgD rgV
  generalize (b - a).toNat = n
  have : ∀ l : List Nat, RVs g ι H (l.map fun i => D.int (a + (i : Nat))) (l.map fun i => V.int (a + (i : Nat))) := fun l => by
    induction l with
    | nil => exact .nil
    | cons x l ih => exact .cons (.int _) ih
  exact this _
/-- one bound or two -/
def rgA (ds : List D) : Option (Int × Int) := match ds with
  | [.int n] => if -(2 ^ 62) ≤ n ∧ n < 2 ^ 62 ∧ n.toNat ≤ 2 ^ 24 then some (0, n) else none
  | [.int a, .int b] => if -(2 ^ 62) ≤ a ∧ a < 2 ^ 62 ∧ -(2 ^ 62) ≤ b ∧ b < 2 ^ 62 ∧ (b - a).toNat ≤ 2 ^ 24 then some (a, b) else none
  | _ => none
def eTupRg (a : Mv (List D)) : Mv D := fun ρ m => bnd (a ρ m) fun ds m1 => (rgA ds).map fun p => .ok (.tup (rgD p.1 p.2)) m1
def eLstRg (a : Mv (List D)) : Mv D := fun ρ m => bnd (a ρ m) fun ds m1 => (rgA ds).map fun p => .ok (.ref m1.length) (m1 ++ [.lst (rgD p.1 p.2)])
section
variable {g : Lk} {W : WX} {X : Cx} {e e1 e2 : Expr} {ca c1 c2 : Mv D} {p p2 pos pos2 : Pos}
theorem rg1_ok {n : Int} {z : Int × Int} (h : rgA [.int n] = some z) : z = (0, n) ∧ RgOk 0 n := by
  have h : (if -(2 ^ 62) ≤ n ∧ n < 2 ^ 62 ∧ n.toNat ≤ 2 ^ 24 then some ((0 : Int), n) else none) = some z := h
  split at h
  · rename_i k
    exact ⟨(Option.some.inj h).symm, by omega, by omega, k.1, k.2.1, by omega⟩
  · cases h
theorem rg2_ok {a b : Int} {z : Int × Int} (h : rgA [.int a, .int b] = some z) : z = (a, b) ∧ RgOk a b := by
  have h : (if -(2 ^ 62) ≤ a ∧ a < 2 ^ 62 ∧ -(2 ^ 62) ≤ b ∧ b < 2 ^ 62 ∧ (b - a).toNat ≤ 2 ^ 24 then some (a, b) else none) = some z := h
  split at h
  · rename_i k
    exact ⟨(Option.some.inj h).symm, k⟩
  · cases h
theorem rgA_1 {d : D} {z : Int × Int} (h : rgA [d] = some z) : ∃ n, d = .int n := by
  cases d <;> first | exact ⟨_, rfl⟩ | cases h
theorem rgA_2 {d d' : D} {z : Int × Int} (h : rgA [d, d'] = some z) : ∃ a b, d = .int a ∧ d' = .int b := by
  cases d <;> cases d' <;> first | exact ⟨_, _, rfl, rfl⟩ | cases h
theorem me_tupRg1 (hc : X.calm = true) (hm : X.mg "tuple" = none) (hmr : X.mg "range" = none) (he : ME g W X e ca) (hg : Gl X "tuple" := by rfl) (hgr : Gl X "range" := by rfl) (na : starEach [e] X.env = (false, eval e X.env) :: starEach [] X.env := by rfl)
    (na2 : starEach [.Call (.Name "range" p2) [e] [] pos2] X.env = (false, eval (.Call (.Name "range" p2) [e] [] pos2) X.env) :: starEach [] X.env := by rfl) : ME g W X (.Call (.Name "tuple" p) [.Call (.Name "range" p2) [e] [] pos2] [] pos) (eTupRg (aCons ca aNil)) :=
  peI (pe_tupRg hc hg hm (prg_1 hgr hmr he na) na2) fun σ H Q q => by
    obtain ⟨ι, m, ρ, r, s, hc, ho, hx⟩ := q
    show liftE g W ca σ H _
    have hc' : bnd (ca ρ m) (fun d m1 => bnd (bnd (aNil ρ m1) fun ds m2 => some (.ok (d :: ds) m2)) fun ds m2 => (rgA ds).map fun p => Rs.ok (D.tup (rgD p.1 p.2)) m2) = some r := by
      have z := hc
      unfold eTupRg aCons at z
      cases q : ca ρ m with
      | none => rw [q] at z; cases z
      | some w => rw [q] at z; cases w <;> exact z
    refine useE s hc' hx fun ι1 m1 d v H1 e1 s1 rv hk => ?_
    have hk : ((rgA [d]).map fun p => Rs.ok (D.tup (rgD p.1 p.2)) m1) = some r := hk
    cases hz : rgA [d] with
    | none => rw [hz] at hk; cases hk
    | some z =>
      rw [hz] at hk
      cases hk
      obtain ⟨n, rfl⟩ := rgA_1 hz
      obtain ⟨rfl, ok⟩ := rg1_ok hz
      cases rv
      exact ⟨n, rfl, ok, fun q hq => ho _ _ rfl ι1 (.ref q) _ (e1.trans (ext_side hq)) (s1.hr.side hq) (.tup upd_same (rgD_rv _ _))⟩
theorem me_tupRg2 (hc : X.calm = true) (hm : X.mg "tuple" = none) (hmr : X.mg "range" = none) (he1 : ME g W X e1 c1) (he2 : ME g W X e2 c2) (hg : Gl X "tuple" := by rfl) (hgr : Gl X "range" := by rfl) (na : starEach [e1, e2] X.env = (false, eval e1 X.env) :: starEach [e2] X.env := by rfl) (nb : starEach [e2] X.env = (false, eval e2 X.env) :: starEach [] X.env := by rfl) (hpl : (backTo pos2 (starEach [e2] X.env)).any (·.1) = false := by rfl)
    (na2 : starEach [.Call (.Name "range" p2) [e1, e2] [] pos2] X.env = (false, eval (.Call (.Name "range" p2) [e1, e2] [] pos2) X.env) :: starEach [] X.env := by rfl) : ME g W X (.Call (.Name "tuple" p) [.Call (.Name "range" p2) [e1, e2] [] pos2] [] pos) (eTupRg (aCons c1 (aCons c2 aNil))) :=
  peI (pe_tupRg hc hg hm (prg_2 hgr hmr he1 he2 na nb hpl) na2) fun σ H Q q => by
    obtain ⟨ι, m, ρ, r, s, hc, ho, hx⟩ := q
    show liftE g W c1 σ H _
    have hc' : bnd (c1 ρ m) (fun d m1 => bnd (c2 ρ m1) fun d2 m2 => (rgA [d, d2]).map fun p => Rs.ok (D.tup (rgD p.1 p.2)) m2) = some r := by
      have z := hc
      unfold eTupRg aCons at z
      cases q : c1 ρ m with
      | none => rw [q] at z; cases z
      | some w =>
        rw [q] at z
        cases w with
        | ex x m' => exact z
        | ok d m1 =>
          simp only [bnd] at z ⊢
          cases q2 : c2 ρ m1 with
          | none => rw [q2] at z; cases z
          | some w => rw [q2] at z; cases w <;> exact z
    refine useE s hc' hx fun ι1 m1 d v H1 e1 s1 rv hk => ?_
    refine useE s1 hk (hx.ext e1) fun ι2 m2 d2 v2 H2 e2 s2 rv2 hk => ?_
    cases hz : rgA [d, d2] with
    | none => rw [hz] at hk; cases hk
    | some z =>
      rw [hz] at hk
      cases hk
      obtain ⟨a, b, rfl, rfl⟩ := rgA_2 hz
      obtain ⟨rfl, ok⟩ := rg2_ok hz
      cases rv; cases rv2
      exact ⟨a, b, rfl, rfl, ok, fun q hq => ho _ _ rfl ι2 (.ref q) _ ((e1.trans e2).trans (ext_side hq)) (s2.hr.side hq) (.tup upd_same (rgD_rv _ _))⟩
theorem me_lstRg1 (hc : X.calm = true) (hm : X.mg "list" = none) (hmr : X.mg "range" = none) (he : ME g W X e ca) (hg : Gl X "list" := by rfl) (hgr : Gl X "range" := by rfl) (na : starEach [e] X.env = (false, eval e X.env) :: starEach [] X.env := by rfl)
    (na2 : starEach [.Call (.Name "range" p2) [e] [] pos2] X.env = (false, eval (.Call (.Name "range" p2) [e] [] pos2) X.env) :: starEach [] X.env := by rfl) : ME g W X (.Call (.Name "list" p) [.Call (.Name "range" p2) [e] [] pos2] [] pos) (eLstRg (aCons ca aNil)) :=
  peI (pe_listRg hc hg hm (prg_1 hgr hmr he na) na2) fun σ H Q q => by
    obtain ⟨ι, m, ρ, r, s, hc, ho, hx⟩ := q
    show liftE g W ca σ H _
    have hc' : bnd (ca ρ m) (fun d m1 => bnd (bnd (aNil ρ m1) fun ds m2 => some (.ok (d :: ds) m2)) fun ds m2 => (rgA ds).map fun p => Rs.ok (D.ref m2.length) (m2 ++ [.lst (rgD p.1 p.2)])) = some r := by
      have z := hc
      unfold eLstRg aCons at z
      cases q : ca ρ m with
      | none => rw [q] at z; cases z
      | some w => rw [q] at z; cases w <;> exact z
    refine useE s hc' hx fun ι1 m1 d v H1 e1 s1 rv hk => ?_
    have hk : ((rgA [d]).map fun p => Rs.ok (D.ref m1.length) (m1 ++ [.lst (rgD p.1 p.2)])) = some r := hk
    cases hz : rgA [d] with
    | none => rw [hz] at hk; cases hk
    | some z =>
      rw [hz] at hk
      cases hk
      obtain ⟨n, rfl⟩ := rgA_1 hz
      obtain ⟨rfl, ok⟩ := rg1_ok hz
      cases rv
      exact ⟨n, rfl, ok, fun q hq => ho _ _ rfl (ι1 ++ [q]) (.ref q) _ (e1.trans (ext_new hq)) (s1.hr.alloc hq (.lst (rgD_rv _ _))) (.ref (by rw [← s1.hr.len]; simp))⟩
end
end Mi
namespace Mi
open PySem PySem.Spec PyProof.Rows L2
/-! ## defs by their address: methods, aliases, defaults -/
/-- a def at the address f, with its meaning -/
structure FnA (P : Program) (w : World) (K : PySem.W.Frag) (mg : Str → Option Value) (base : Heap) (g : Lk) (k : Nat) (d : He.DefD) (f : Addr) (ps : List Str) (F : Fx) : Prop where
  ex : ∃ fd, FunD K d.name d.qual d.params d.body d.scope (d.dvs K) (d.kws K) f fd ∧ FnOk P w K mg base (L2.CX P w) k f fd ps (spM g ps.length F)
/-- n values are given, the defaults from the j-th on fill up -/
def BindD (d : He.DefD) (ps : List Str) (n j : Nat) : Prop := ∀ (T : Addr) (kV doc pm : Value) (an : Option Addr) (cdv ct : Value) (us its : List Value), us.length = n → its.length = d.dfl.length →
  ∃ k, bindArgs (PySem.W.fnOf d.name d.qual d.params d.body d.scope (.ref T) kV doc pm an cdv ct) ⟨us, []⟩ = seqItems? (.ref T) >>= k ∧ k (some its.toArray) = pure (ps.zip (us ++ its.drop j))
theorem kt0B_ok {K : PySem.W.Frag} {a : Addr} (h : kt0B K a = true) : KT0 K a := by
  unfold kt0B at h
  split at h
  · rename_i t dd its n sl q
    obtain ⟨h1, h2⟩ := Bool.and_eq_true_iff.mp h
    have h1 := eq_of_beq h1
    subst h1
    have h2 : its = #[] := by simpa using h2
    subst h2
    exact .inr ⟨_, #[], n, q, rfl, rfl, by simp, .nil⟩
  · cases h
section
variable {P : Program} {w : World} {K : PySem.W.Frag} {mg : Str → Option Value} {base : Heap} {g : Lk} {d : He.DefD} {k : Nat} {f : Addr} {ps : List Str} {F : Fx}
theorem fnA {fd : FuncData} {N ps : List Str} {b : Ms} (hg : g.held = none) (F : FunD K d.name d.qual d.params d.body d.scope (d.dvs K) (d.kws K) f fd) (S : FnScope N ps d.scope)
    (hb : ∀ (cdv : Value) (A : Around) (outer : List Env) (s : Shared) (H : Hp) (E : XK), Room k (A.deeper (envOfC d.qual d.scope s.heap.objs.size f cdv)) →
      MSs g (WF E) (cxOf (L2.CX P w) P w K mg base N d.qual d.scope f cdv A outer s H E) d.body b) : FnA P w K mg base g (k + 1) d f ps (runF N.length b) := by
  refine ⟨fd, F, F.ok S (fun vs H Q E h => ?_) fun cdv A outer s H vs Q E hr h => body_run hg (hb cdv A outer s H E hr) h⟩
  obtain ⟨ι, m, ds, r, hr, rv, hl, _⟩ := h
  rw [← rv.length, hl]
theorem FnA.all (h : FnA P w K mg base g k d f ps F) (hd : d.dfl = []) (hb : BindA d ps) : FnR P w K mg base (L2.CX P w) k f (spM g ps.length F) := by
  obtain ⟨fd, Fd, Fo⟩ := h.ex
  have := Fo.raw (binds_of Fd hd hb) .nil
  exact this.imp fun vs H Q E q => by rw [List.append_nil]; exact q
theorem FnA.full (h : FnA P w K mg base g k d f ps F) (hd : d.dfl ≠ []) (hb : BindD d ps ps.length d.dfl.length) : FnR P w K mg base (L2.CX P w) k f (spM g ps.length F) := by
  obtain ⟨fd, Fd, Fo⟩ := h.ex
  have hdv : (d.dvs K).length = d.dfl.length := by unfold He.DefD.dvs; simp
  have hne : d.dvs K ≠ [] := fun z => hd (List.eq_nil_of_length_eq_zero (by rw [← hdv, z]; rfl))
  obtain ⟨ds, h1, h2⟩ := FunD.binds1 (ps := ps) Fd ps.length d.dfl.length hne (by rw [hdv]; omega) fun T kV doc pm an cdv ct us its l1 l2 => hb T kV doc pm an cdv ct us its l1 (l2.trans hdv)
  have e : (d.dvs K).drop d.dfl.length = [] := by rw [← hdv]; simp
  rw [e] at h1
  cases h1
  exact (Fo.raw h2 .nil).imp fun vs H Q E q => by rw [List.append_nil]; exact q
/-- one default, (), is left out -/
theorem FnA.one0 {n : Nat} (h : FnA P w K mg base g k d f ps F) (hd : d.dfl = [.adr (He.dflAt d.at_ 0)]) (hn : n + 1 = ps.length) (hb : BindD d ps n 0) (hK : K = g.K) (ht : dfl0 K d.at_ 0 = true) : FnR P w K mg base (L2.CX P w) k f (spM g n (dflF F [.tup []])) := by
  obtain ⟨fd, Fd, Fo⟩ := h.ex
  have hdv : d.dvs K = [.ref (He.dflAt d.at_ 0 K)] := by unfold He.DefD.dvs; rw [hd]; rfl
  obtain ⟨ds, h1, h2⟩ := FunD.binds1 (ps := ps) Fd n 0 (by rw [hdv]; intro z; cases z) (by rw [hdv]; simpa using hn) fun T kV doc pm an cdv ct us its l1 l2 => hb T kV doc pm an cdv ct us its l1 (by rw [l2, hdv, hd]; rfl)
  rw [List.drop_zero, hdv] at h1
  refine fnR_dfl (dds := [.tup []]) (n := n) ?_ h2 h1 fun ι H => .cons (.tup0 (by rw [← hK]; exact kt0B_ok ht)) .nil
  have : ps.length = n + [D.tup []].length := by simpa using hn.symm
  rw [← this]
  exact Fo
end
section
variable {P : Program} {w : World} {K : PySem.W.Frag} {mg : Str → Option Value} {base : Heap} {g : Lk} {es : List ES} {cs : List CS} {k n : Nat} {F : Fx}
theorem Tx.mkC (T : Tx K mg g es cs) {i : Nat} {c : CS} (h : cs[i]? = some c) (Fr : FnR P w K mg base (L2.CX P w) k (He.ma K (He.ga K c.name) "__init__") (spM g (n + 1) F)) : MkM P w K mg base g k i c.name n F :=
  ⟨_, _, _, T.clsI h, T.cn h, csB_mk (T.cs_ h).1, Fr⟩
theorem Tx.mtC (T : Tx K mg g es cs) {i : Nat} {c : CS} {x : Str} (h : cs[i]? = some c) (hm : x ∈ c.ms) (hx : x ∉ c.fs) (Fr : FnR P w K mg base (L2.CX P w) k (He.ma K (He.ga K c.name) x) (spM g (n + 1) F)) : MtM P w K mg base g k i x n F :=
  ⟨_, _, _, T.clsI h, csB_cls (T.cs_ h).1, csB_meth (T.cs_ h).1 hm, hx, Fr⟩
/-- an attribute of instances -/
def flL' (cs : List CS) (l : List (Nat × Nat)) (f : Str) : Bool := l.all fun p => match cs[p.1]? with
  | some c => decide (c.fs[p.2]? = some f) && (decide c.fs.Nodup && decide (c.fs.length < 1000))
  | none => false
theorem Tx.fld (T : Tx K mg g es cs) {l : List (Nat × Nat)} {f : Str} (h : flL' cs l f = true) : FldM K g l f := ⟨fun c i hl => by
  have hm : (c, i) ∈ l := by
    clear h
    induction l with
    | nil => cases hl
    | cons p l ih =>
      obtain ⟨a, b⟩ := p
      rw [List.lookup_cons] at hl
      by_cases e : c = a
      · subst e
        simp at hl
        subst hl
        exact List.mem_cons_self ..
      · have e' : (c == a) = false := by simpa using e
        rw [e'] at hl
        exact List.mem_cons_of_mem _ (ih hl)
  have h1 := List.all_eq_true.mp h _ hm
  dsimp only at h1
  split at h1
  · rename_i e he
    obtain ⟨h2, h3⟩ := Bool.and_eq_true_iff.mp h1
    obtain ⟨h3, h4⟩ := Bool.and_eq_true_iff.mp h3
    have h2 := of_decide_eq_true h2
    exact ⟨_, _, T.clsI he, csB_cls (T.cs_ he).1, csB_no (T.cs_ he).1 (List.mem_of_getElem? h2), h2, of_decide_eq_true h3, of_decide_eq_true h4⟩
  · cases h1⟩
end
end Mi
namespace Mi
open PySem PySem.Spec PyProof.Rows L2
/-! ## sorted(xs) of pairs of ints -/
def pD (p : Int × Int) : D := .tup [.int p.1, .int p.2]
def pairOf : D → Option (Int × Int)
  | .tup [.int a, .int b] => some (a, b)
  | _ => none
theorem pairOf_eq {d : D} {p : Int × Int} (h : pairOf d = some p) : d = pD p := by
  unfold pairOf at h
  split at h
  · cases h; rfl
  · cases h
def srtP (l : List (Int × Int)) : List (Int × Int) := l.mergeSort fun a b => !SrtO.lexB b a
def bSrtP : Cal := fun ds m => match ds with
  | [.ref n] => match lstOf m n with
    | some xs => (xs.mapM pairOf).map fun ps => (.ref m.length, m ++ [.lst ((srtP ps).map pD)])
    | none => none
  | _ => none
theorem srtP_perm (l : List (Int × Int)) : (srtP l).Perm l := List.mergeSort_perm _ _
theorem srtP_pw (l : List (Int × Int)) : (srtP l).Pairwise fun a b => SrtO.lexB b a = false := by
  have := List.pairwise_mergeSort (le := fun a b => !SrtO.lexB b a) (fun a b c h1 h2 => by
    simp only [Bool.not_eq_true'] at h1 h2 ⊢
    rw [SrtO.lexB_no] at h1 h2 ⊢
    omega) (fun a b => by
    by_cases h : SrtO.lexB b a = true
    · have : SrtO.lexB a b = false := by
        rw [SrtO.lexB_iff] at h
        rw [SrtO.lexB_no]
        omega
      simp [this]
    · simp [h]) l
  exact this.imp fun h => by simpa using h
theorem srtP_uniq {l m : List (Int × Int)} (h1 : l.Pairwise fun a b => SrtO.lexB b a = false) (h2 : l.Perm m) : l = srtP m :=
  List.Perm.eq_of_pairwise (le := fun a b => SrtO.lexB b a = false) (fun a b _ _ h3 h4 => by
    rw [SrtO.lexB_no] at h3 h4
    exact Prod.ext (by omega) (by omega)) h1 (srtP_pw m) (h2.trans (srtP_perm m).symm)
/-- the pair that stands at an address -/
def keyP (H : Hp) : V → Int × Int
  | .ref t => match H t with
    | some (.tup [.int a, .int b]) => (a, b)
    | _ => (0, 0)
  | _ => (0, 0)
theorem mapM_rvs {g : Lk} {ι : List Addr} {H : Hp} : ∀ {xs : List D} {vs : List V} {ps : List (Int × Int)}, RVs g ι H xs vs → xs.mapM pairOf = some ps →
    vs.map (keyP H) = ps ∧ ∀ x ∈ vs, (∃ t, x = V.ref t ∧ H t = some (.tup [.int (keyP H x).1, .int (keyP H x).2])) ∧ RV g ι H (pD (keyP H x)) x
  | [], _, ps, .nil, h => by
    have : ps = [] := by simpa [List.mapM_nil] using h.symm
    subst this; exact ⟨rfl, fun x hx => by cases hx⟩
  | d :: xs, _, ps, .cons (v := v) r t, h => by
    obtain ⟨y, zs, rfl, h1, h2⟩ := mapM_cons_some h
    obtain ⟨e, q⟩ := mapM_rvs t h2
    have hd := pairOf_eq h1
    subst hd
    obtain ⟨a, ws, rfl, hs, rs⟩ := r.tupN
    have hw : ws = [.int y.1, .int y.2] := by
      cases rs with | cons r1 t => cases t with | cons r2 t => cases t; cases r1; cases r2; rfl
    subst hw
    have hk : keyP H (.ref a) = y := by
      show (match H a with
        | some (.tup [.int a, .int b]) => (a, b)
        | _ => ((0 : Int), (0 : Int))) = y
      rw [hs]
    refine ⟨by rw [List.map_cons, hk, e], fun x hx => ?_⟩
    rcases List.mem_cons.mp hx with rfl | hx
    · rw [hk]; exact ⟨⟨a, rfl, hs⟩, r⟩
    · exact q x hx
section
variable {g : Lk} {X : Cx}
theorem mc_sortedP (hK : X.K = g.K) : CallR X (.builtin "sorted") (rC g bSrtP) := by
  intro pins s σ H xs us Q I rv q
  obtain ⟨ι, m, ds, d, m', hr, rs, hf, post⟩ := q
  unfold bSrtP at hf
  split at hf
  · rename_i n
    cases rs with | cons r t =>
    cases t
    cases r with | ref hi =>
    cases q2 : lstOf m n with
    | none => rw [q2] at hf; cases hf
    | some xs =>
      rw [q2] at hf
      have hf : ((xs.mapM pairOf).map fun ps => (D.ref m.length, m ++ [O.lst ((srtP ps).map pD)])) = some (d, m') := hf
      cases q3 : xs.mapM pairOf with
      | none => rw [q3] at hf; cases hf
      | some ps =>
        rw [q3] at hf
        cases hf
        obtain ⟨vs, hs, t⟩ := hr.seqL q2 hi
        obtain ⟨e, q⟩ := mapM_rvs t q3
        refine cr_sortedPO pins s σ H _ us Q I rv ⟨_, vs, keyP H, rfl, by rw [hK]; exact hs, fun x hx => (q x hx).1, fun ys p h1 h2 hp => ?_⟩
        have e2 : ys.map (keyP H) = srtP ps := by
          refine srtP_uniq ?_ (by rw [← e]; exact h2.perm.map _)
          rw [List.pairwise_map]
          exact h1.imp fun h => h
        have r2 : RVs g ι H ((srtP ps).map pD) ys := by
          rw [← e2]
          have hm : ∀ y ∈ ys, RV g ι H (pD (keyP H y)) y := fun y hy => (q y (h2.perm.mem_iff.mp hy)).2
          clear e2 h1 h2
          induction ys with
          | nil => exact .nil
          | cons y ys ih => exact .cons (hm y (by simp)) (ih fun z hz => hm z (by simp [hz]))
        exact post (ι ++ [p]) _ _ (ext_new hp) (hr.alloc hp (.lst (r2.ext hr (ext_new hp)))) (.ref (by rw [← hr.len]; simp))
  · cases hf
end
/-! ## list(x), len(x), dicts too -/
def bListA : Cal := fun ds m => match ds with
  | [.ref n] => match m[n]? with
    | some (.dT kvs) => some (.ref m.length, m ++ [.lst (kvs.map fun kv => .tup (kv.1.map kD))])
    | some (.dK kvs) => some (.ref m.length, m ++ [.lst (kvs.map fun kv => kD kv.1)])
    | _ => bList ds m
  | _ => bList ds m
def bLenA : Cal := fun ds m => match ds with
  | [.ref n] => match m[n]? with
    | some (.dT kvs) => some (.int kvs.length, m)
    | some (.dK kvs) => some (.int kvs.length, m)
    | _ => bLen ds m
  | _ => bLen ds m
section
variable {g : Lk} {X : Cx} {ι : List Addr} {H : Hp}
theorem keys_rvs (ks : List Key) : RVs g ι H (ks.map kD) (ks.map kV) := by
  induction ks with
  | nil => exact .nil
  | cons k ks ih =>
    refine .cons ?_ ih
    cases k with
    | inl i => exact .int i
    | inr x => exact .str x
theorem isKeys_rvs {a : List (List Key × D)} {b : List (List Key × V)} {bs : List Addr} (r : RK g ι H a b) (h : IsKeys H b bs) : RVs g ι H (a.map fun kv => D.tup (kv.1.map kD)) (bs.map V.ref) := by
  unfold IsKeys at h
  induction r generalizing bs with
  | nil => cases h; exact .nil
  | cons r _ ih =>
    cases h with
    | cons h t => exact .cons (.tup h (keys_rvs _)) (ih t)
theorem keysK_rvs {a : List (Key × D)} {b : List (Key × V)} (r : RK g ι H a b) : RVs g ι H (a.map fun kv => kD kv.1) (b.map fun kv => kV kv.1) := by
  induction r with
  | nil => exact .nil
  | @cons k d v r r' rv _ ih =>
    refine .cons ?_ ih
    cases k with
    | inl i => exact .int i
    | inr x => exact .str x
theorem mc_listA (hK : X.K = g.K) (hc : X.calm = true) : CallR X (.type "list") (rC g bListA) := by
  intro pins s σ H xs us Q I rv q
  obtain ⟨ι, m, ds, d, m', hr, rs, hf, post⟩ := q
  have old : bList ds m = some (d, m') → wpAny (model X.prog X.w) X.A (call (.type "list") us) (EP X pins σ Q) X.xe s := fun hf => mc_list hK pins s σ H _ us Q I rv ⟨ι, m, ds, d, m', hr, rs, hf, post⟩
  unfold bListA at hf
  split at hf
  · rename_i n
    split at hf
    · rename_i kvs hn
      cases hf
      cases rs with | cons r t =>
      cases t
      cases r with | ref hi =>
      obtain ⟨u, hu, ro⟩ := hr.at hn hi
      cases ro with | dT rk =>
      refine call_list_dT hc pins s σ H _ us Q I rv ⟨_, _, rfl, .inl hu, fun p bs hp hb => ?_⟩
      exact post (ι ++ [p]) _ _ (ext_new hp) (hr.alloc hp (.lst ((isKeys_rvs rk hb).ext hr (ext_new hp)))) (.ref (by rw [← hr.len]; simp))
    · rename_i kvs hn
      cases hf
      cases rs with | cons r t =>
      cases t
      cases r with | ref hi =>
      obtain ⟨u, hu, ro⟩ := hr.at hn hi
      cases ro with | dK rk =>
      refine call_list_dK hc pins s σ H _ us Q I rv ⟨_, _, rfl, hu, fun p hp => ?_⟩
      exact post (ι ++ [p]) _ _ (ext_new hp) (hr.alloc hp (.lst ((keysK_rvs rk).ext hr (ext_new hp)))) (.ref (by rw [← hr.len]; simp))
    · exact old hf
  · exact old hf
theorem mc_lenA (hK : X.K = g.K) : CallR X (.builtin "len") (rC g bLenA) := by
  intro pins s σ H xs us Q I rv q
  obtain ⟨ι, m, ds, d, m', hr, rs, hf, post⟩ := q
  have old : bLen ds m = some (d, m') → wpAny (model X.prog X.w) X.A (call (.builtin "len") us) (EP X pins σ Q) X.xe s := fun hf => mc_len hK pins s σ H _ us Q I rv ⟨ι, m, ds, d, m', hr, rs, hf, post⟩
  unfold bLenA at hf
  split at hf
  · rename_i n
    split at hf
    · rename_i kvs hn
      cases hf
      cases rs with | cons r t =>
      cases t
      cases r with | ref hi =>
      obtain ⟨u, hu, ro⟩ := hr.at hn hi
      cases ro with | dT rk =>
      refine call_len_dT pins s σ H _ us Q I rv ⟨_, _, rfl, hu, ?_⟩
      rw [← rk.length]
      exact post ι _ H (Ext.refl _ _) hr (.int _)
    · rename_i kvs hn
      cases hf
      cases rs with | cons r t =>
      cases t
      cases r with | ref hi =>
      obtain ⟨u, hu, ro⟩ := hr.at hn hi
      cases ro with | dK rk =>
      refine call_lenD pins s σ H _ us Q I rv ⟨_, _, rfl, hu, ?_⟩
      rw [← rk.length]
      exact post ι _ H (Ext.refl _ _) hr (.int _)
    · exact old hf
  · exact old hf
end
/-! ## for x in reversed(range(..)) -/
def itRv (lo : Int) (n : Nat) : Wk := ⟨n, fun i _ => some (.int (lo + (n : Int) - 1 - (i : Nat))), fun _ => true⟩
def iRev (a : Mv (List D)) : Mi_ := fun ρ m => bnd (a ρ m) fun ds m1 => match ds with
  | [.int j] => if -(2 ^ 62) ≤ j ∧ j < 2 ^ 62 then some (.ok (itRv 0 j.toNat) m1) else none
  | [.int i, .int j] => if -(2 ^ 62) ≤ i ∧ i < 2 ^ 62 ∧ -(2 ^ 62) ≤ j ∧ j < 2 ^ 62 then some (.ok (itRv i (j - i).toNat) m1) else none
  | _ => none
section
variable {g : Lk} {W : WX} {X : Cx} {tg e e1 e2 : Expr} {ce c1 c2 : Mv D} {p p2 pos pos2 : Pos}
theorem walkM_rv {ι0 : List Addr} {H0 : Hp} {lo : Int} {n : Nat} : WalkM g ι0 H0 (itRv lo n) (Itc (lo + (n : Int) - 1) (-1) n) := by
  refine ⟨fun ι m H i d ex hr hl h => ?_, fun ι m H ex hr h => Nat.le_refl n⟩
  simp only [itRv] at h hl; cases h
  refine ⟨hl, fun x H' ⟨e, ez⟩ => ?_⟩
  subst e; subst ez
  have e : lo + (n : Int) - 1 + (i : Nat) * (-1) = lo + (n : Int) - 1 - (i : Nat) := by omega
  rw [e]
  exact ⟨Ext.refl _ _, hr, .int _⟩
/-- reversed(range(n)) -/
theorem mi_rev1 (hm : X.mg "reversed" = none) (hmr : X.mg "range" = none) (he : ME g W X e ce) (hg : Gl X "reversed" := by rfl) (hgr : Gl X "range" := by rfl) (na : starEach [e] X.env = (false, eval e X.env) :: starEach [] X.env := by rfl)
    (nb : starEach [.Call (.Name "range" p2) [e] [] pos2] X.env = (false, eval (.Call (.Name "range" p2) [e] [] pos2) X.env) :: starEach [] X.env := by rfl) : MI g W X tg (.Call (.Name "reversed" p) [.Call (.Name "range" p2) [e] [] pos2] [] pos) (iRev (aCons ce aNil)) :=
  piI (pi_revR hg hm (prg_1 hgr hmr he na) nb) fun σ H R q => by
    obtain ⟨ι, m, ρ, r, s, hc, ho, hx⟩ := q
    show liftE g W ce σ H _
    have hc' : bnd (ce ρ m) (fun d m1 => match ([d] : List D) with
      | [.int j] => if -(2 ^ 62) ≤ j ∧ j < 2 ^ 62 then some (Rs.ok (itRv 0 j.toNat) m1) else none
      | [.int i, .int j] => if -(2 ^ 62) ≤ i ∧ i < 2 ^ 62 ∧ -(2 ^ 62) ≤ j ∧ j < 2 ^ 62 then some (Rs.ok (itRv i (j - i).toNat) m1) else none
      | _ => none) = some r := by
      have z := hc
      unfold iRev aCons at z
      cases q : ce ρ m with
      | none => rw [q] at z; cases z
      | some w => rw [q] at z; cases w <;> exact z
    refine useE s hc' hx fun ι1 m1 d v H1 e1 s1 rv hk => ?_
    cases d with
    | int j =>
      have hk : (if -(2 ^ 62) ≤ j ∧ j < 2 ^ 62 then some (Rs.ok (itRv 0 j.toNat) m1) else none) = some r := hk
      split at hk
      · rename_i hj
        cases hk
        cases rv
        have e0 : (j - 0).toNat = j.toNat := by rw [Int.sub_zero]
        refine ⟨j, rfl, by omega, by omega, hj.1, hj.2, ?_⟩
        rw [e0]
        exact ho _ _ rfl ι1 _ H1 e1 s1.hr walkM_rv
      · cases hk
    | _ => cases hk
end
end Mi
namespace Mi
open PySem PySem.Spec PyProof.Rows L2
/-! ## xs[::-1] -/
def eRevL (a : Mv D) : Mv D := fun ρ m => bnd (a ρ m) fun x m1 => match x with
  | .ref n => (lstOf m1 n).map fun xs => .ok (.ref m1.length) (m1 ++ [.lst xs.reverse])
  | _ => none
section
variable {g : Lk} {W : WX} {X : Cx} {e : Expr} {ce : Mv D} {k : Nat} {p1 p2 p3 pos : Pos}
theorem me_revL (hK : X.K = g.K) (he : ME g W X e ce) : ME g W X (.Subscript e (.Slice none none (some (.UnaryOp .USub (.Constant (.int 1) k p1) p2)) p3) pos) (eRevL ce) := peI (pe_revL he) fun σ H Q q => by
  obtain ⟨ι, m, ρ, r, s, hc, ho, hx⟩ := q
  refine useE s hc hx fun ι1 m1 d v H1 e1 s1 rv hk => ?_
  split at hk
  · rename_i n
    cases rv with | ref hi =>
    cases q2 : lstOf m1 n with
    | none => rw [q2] at hk; cases hk
    | some xs =>
      rw [q2] at hk
      cases hk
      obtain ⟨vs, hs, t⟩ := s1.hr.seqL q2 hi
      refine ⟨_, vs, rfl, by rw [hK]; exact hs, fun p hp => ?_⟩
      exact ho _ _ rfl (ι1 ++ [p]) _ _ (e1.trans (ext_new hp)) (s1.hr.alloc hp (.lst (t.reverse.ext s1.hr (ext_new hp)))) (.ref (by rw [← s1.hr.len]; simp))
  · cases hk
end
/-! ## name = {k: v for ..} on one line -/
theorem swD_true {ke ve : Expr} {gs : List Comprehension} {sc : Scope} {pos py : Pos} {y : Str} {l : Nat} {env : Env} (hk : env.scope.kind = .function) (hy : env.scope.names.lookup y = some .local) (hl : (py.line == pos.line) = true)
    (ha : (sc.names.any fun (n, k) => n == y && (k == .local || k == .cell)) = false) : swapsWith (.DictComp ke ve gs sc pos) (some (.Name y py)) l env = pure true := by
  have h1 : env.kindOf y = some .local := hy
  have h2 : env.blockKind = .function := by unfold Env.blockKind; rw [hk]; rfl
  unfold swapsWith
  simp only [h2, h1, ha, Expr.pos, hl]
  rfl
section
variable {X : Cx}
theorem ps_setDcT {i : Nat} {y : Str} {py : Pos} {ke ve tgt itr : Expr} {tests : List Expr} {sc : Scope} {mine : List (Str × Nat)} {pos spos : Pos} {wit : TI} {g : TG} {tt : TT} {tk tv : TE} (hu : X.A.units < cLine) (hc : X.calm = true) (hN : X.N.Nodup) (hy : X.N[i]? = some y) (hyl : X.env.scope.names.lookup y = some .local)
    (hsw : swapsWith (.DictComp ke ve [⟨tgt, itr, tests, 0⟩] sc pos) (some (.Name y py)) spos.line X.env = pure true) (hi : PI X tgt itr wit) (ok : BlkOk X.N X.env.scope sc mine)
    (hg : ∀ (s : Shared) (H : Hp) (C : Addr) (cl : List (Str × Addr)) (aims : List Addr), PG (X.blk s H sc (compEnvC sc cl C X.env) aims) tgt g) (ht : ∀ (s : Shared) (H : Hp) (C : Addr) (cl : List (Str × Addr)) (aims : List Addr), PTs (X.blk s H sc (compEnvC sc cl C X.env) aims) tests tt)
    (hk : ∀ (s : Shared) (H : Hp) (C : Addr) (cl : List (Str × Addr)) (aims : List Addr), PE (X.blk s H sc (compEnvC sc cl C X.env) aims) ke tk)
    (he : ∀ (s : Shared) (H : Hp) (C : Addr) (cl : List (Str × Addr)) (aims : List Addr), PE (X.blk s H sc (compEnvC sc cl C X.env) aims) ve tv) (hs : ∀ x, foldedSetIterable itr X.env x = pure x := by intro _; rfl) :
    PS X (.Assign [.Name y py] (.DictComp ke ve [⟨tgt, itr, tests, 0⟩] sc pos) spos) (tAsg (tDcT wit g tt tk tv (mine.map (·.2))) (gName i)) := by
  refine ⟨fun pins s0 σ H0 DD J h0 => ?_⟩
  rw [exec_Assign_Name_used _ _ _ _ hsw]
  refine wpAny_bind (wpAny_standAt (wpAny_bind ?_))
  show wpAny _ X.A (do let _ ← comprehension (.DictComp ke ve [⟨tgt, itr, tests, 0⟩] sc pos) sc X.env (firstIterPos [⟨tgt, itr, tests, 0⟩] pos) newDict false (eval itr X.env) (some (assign (.Name y py) X.env))) _ _ s0
  have wish : tDcT wit g tt tk tv (mine.map (·.2)) σ H0 (fun x Hx => gName i x σ Hx DD.nx) := h0
  refine wpAny_bind (thn (dcT_core (Qe := fun _ s' => SP X pins DD .next s') hu hc hN J hi ok hg ht hk he hs wish fun Dn C t m Ht Jt q hn fp => ?_) fun _ t hq => wpAny_pure (wpAny_pure hq))
  show wpAny _ _ (assign (.Name y py) X.env (.ref Dn)) _ _ _
  refine wpAny_assign_Name (store_ok2 (v := V.ref Dn) Jt hN hy (.inl hyl) rfl (fun t2 J2 ⟨a, same, ha⟩ => ?_) (.inr hyl))
  obtain ⟨p0, p1, p2, p3, p4, p5⟩ := fp
  have hCa : C ≠ a := by
    rcases ha with z | z
    · rw [z]; exact p1
    · exact fun e => p4 y a z e.symm
  refine ⟨m, hn.sameBut same hCa, fun _ same3 => ?_⟩
  exact ⟨_, Ht, J2.turned (t' := t2.toks) (fun b o hb e => (same3.2 b hb).trans e) p0 p1 p3 p4 p5, q⟩
end
section
variable {g : Lk} {W : WX} {X : Cx} {ci : Mi_} {cg : Mg} {ck cv : Mv D} {ws : List Nat} {tg iter ke ve : Expr} {scope : Scope} {own : List (Str × Nat)} {pos spos : Pos}
theorem ms_dcT (i : Nat) {y : Str} {py : Pos} (hu : X.A.units < cLine) (hc : X.calm = true) (hN : X.N.Nodup) (hi : MI g W X tg iter ci) (ok : BlkOk X.N X.env.scope scope own) (hg : BlkG g X scope tg ws cg) (hk : BlkE g X scope ke ck) (he : BlkE g X scope ve cv)
    (hsw : swapsWith (.DictComp ke ve [⟨tg, iter, [], 0⟩] scope pos) (some (.Name y py)) spos.line X.env = pure true) (hy : X.N[i]? = some y := by rfl) (hyl : X.env.scope.names.lookup y = some .local := by rfl) (hws : ∀ i ∈ ws, i ∈ own.map (·.2) := by decide)
    (hs : ∀ x, foldedSetIterable iter X.env x = pure x := by intro _; rfl) : MS g W X (.Assign [.Name y py] (.DictComp ke ve [⟨tg, iter, [], 0⟩] scope pos) spos) (sAsg (eDcT ci cg tYesM ck cv (own.map (·.2))) (gNm i)) :=
  psI (ps_setDcT (tt := liftT g W0 tYesM) hu hc hN hy hyl hsw hi ok hg (fun s H C cl fp => ptsI pts_nil fun _ _ _ q => yes_of (X := X) q) hk he hs) fun D σ H q => by
    obtain ⟨ι, m, ρ, o, s, hc, p⟩ := q
    refine tDcM (W := W) hws ?_
    refine useES s hc p fun ι1 m1 d v H1 e1 s1 rv hk => ?_
    cases hk
    exact p ι1 _ H1 e1 (s1.set rv)
end
end Mi
namespace Mi
open PySem PySem.Spec PyProof.Rows L2
/-! ## max(xs), min(xs) of a list of ints -/
def bMaxL : Cal := fun ds m => match ds with
  | [.ref n] => ((((lstOf m n).bind intsOf).bind fun ns => ns.max?)).map fun k => (.int k, m)
  | _ => none
def bMinL : Cal := fun ds m => match ds with
  | [.ref n] => ((((lstOf m n).bind intsOf).bind fun ns => ns.min?)).map fun k => (.int k, m)
  | _ => none
section
variable {g : Lk} {X : Cx}
theorem max_uniq {ns : List Int} {k m : Int} (h : ns.max? = some k) (h1 : m ∈ ns) (h2 : ∀ y ∈ ns, y ≤ m) : m = k := by
  have := List.max?_eq_some_iff.mp h
  have a := this.2 m h1
  have b := h2 k this.1
  omega
theorem min_uniq {ns : List Int} {k m : Int} (h : ns.min? = some k) (h1 : m ∈ ns) (h2 : ∀ y ∈ ns, m ≤ y) : m = k := by
  have := List.min?_eq_some_iff.mp h
  have a := this.2 m h1
  have b := h2 k this.1
  omega
theorem mc_maxL (hK : X.K = g.K) (hc : X.calm = true) : CallR X (.builtin "max") (rC g bMaxL) := by
  intro pins s σ H xs us Q I rv q
  obtain ⟨ι, m, ds, d, m', hr, rs, hf, post⟩ := q
  unfold bMaxL at hf
  split at hf
  · rename_i n
    cases rs with | cons r t => cases t; cases r with | ref hi =>
    cases q2 : lstOf m n with
    | none => rw [q2] at hf; cases hf
    | some xs =>
      rw [q2] at hf
      simp only [Option.bind_some] at hf
      cases q3 : intsOf xs with
      | none => rw [q3] at hf; cases hf
      | some ns =>
        rw [q3] at hf
        simp only [Option.bind_some] at hf
        cases q4 : ns.max? with
        | none => rw [q4] at hf; cases hf
        | some k =>
          rw [q4] at hf; cases hf
          obtain ⟨vs, hs, t⟩ := hr.seqL q2 hi
          obtain ⟨rfl, _⟩ := intsOf_rv t q3
          refine cr_max hc pins s σ H _ us Q I rv ⟨_, ns, rfl, by rw [hK]; exact hs, ?_, fun m h1 h2 => ?_⟩
          · cases ns with
            | nil => cases q4
            | cons _ _ => simp
          · rw [max_uniq q4 h1 h2]; exact post ι _ H (Ext.refl _ _) hr (.int _)
  · cases hf
theorem mc_minL (hK : X.K = g.K) (hc : X.calm = true) : CallR X (.builtin "min") (rC g bMinL) := by
  intro pins s σ H xs us Q I rv q
  obtain ⟨ι, m, ds, d, m', hr, rs, hf, post⟩ := q
  unfold bMinL at hf
  split at hf
  · rename_i n
    cases rs with | cons r t => cases t; cases r with | ref hi =>
    cases q2 : lstOf m n with
    | none => rw [q2] at hf; cases hf
    | some xs =>
      rw [q2] at hf
      simp only [Option.bind_some] at hf
      cases q3 : intsOf xs with
      | none => rw [q3] at hf; cases hf
      | some ns =>
        rw [q3] at hf
        simp only [Option.bind_some] at hf
        cases q4 : ns.min? with
        | none => rw [q4] at hf; cases hf
        | some k =>
          rw [q4] at hf; cases hf
          obtain ⟨vs, hs, t⟩ := hr.seqL q2 hi
          obtain ⟨rfl, _⟩ := intsOf_rv t q3
          refine cr_min hc pins s σ H _ us Q I rv ⟨_, ns, rfl, by rw [hK]; exact hs, ?_, fun m h1 h2 => ?_⟩
          · cases ns with
            | nil => cases q4
            | cons _ _ => simp
          · rw [min_uniq q4 h1 h2]; exact post ι _ H (Ext.refl _ _) hr (.int _)
  · cases hf
end
end Mi
namespace Mi
open PySem PySem.Spec PyProof.Rows L2

/-! ## what the mirror does, by wishes; what goes on behind a part stands as a constant, so that simp goes from the left -/
def wE {α : Type} (c : Mv α) (ρ : Ro) (m : Hm) (Q : Rs α → Prop) : Prop := ∃ r, c ρ m = some r ∧ Q r
def wS (c : Ms) (ρ : Ro) (m : Hm) (Q : Ou → Prop) : Prop := ∃ o, c ρ m = some o ∧ Q o
def wF (F : Fx) (ds : List D) (m : Hm) (Q : Rs D → Prop) : Prop := ∃ r, F ds m = some r ∧ Q r
def wO (o : Option (D × Hm)) (Q : Rs D → Prop) : Prop := ∃ p, o = some p ∧ Q (.ok p.1 p.2)
def wG (o : Option (Ro × Hm)) (Q : Ou → Prop) : Prop := ∃ p, o = some p ∧ Q (.nx p.1 p.2)
def wH (o : Option Hm) (ρ : Ro) (Q : Ou → Prop) : Prop := ∃ p, o = some p ∧ Q (.nx ρ p)
def noK {α : Type} : Rs α → Prop := fun _ => False
def noS : Ou → Prop := fun _ => False
def okK {α β : Type} (k : α → Hm → Prop) (Q : Rs β → Prop) : Rs α → Prop := fun r => match r with
  | .ok d m => k d m
  | .ex x m => Q (.ex x m)
def okS {α : Type} (ρ : Ro) (k : α → Hm → Prop) (Q : Ou → Prop) : Rs α → Prop := fun r => match r with
  | .ok d m => k d m
  | .ex x m => Q (.ex x ρ m)
def nxK (k : Ro → Hm → Prop) (Q : Ou → Prop) : Ou → Prop := fun o => match o with
  | .nx ρ m => k ρ m
  | o => Q o
def reK (Q : Rs D → Prop) : Ou → Prop := fun o => match o with
  | .nx _ m => Q (.ok .non m)
  | .rt d m => Q (.ok d m)
  | .ex x _ m => Q (.ex x m)
  | _ => False
/-- a loop's turn ends -/
def lpK (I : Ro → Hm → Prop) (Q : Ou → Prop) : Ou → Prop := fun o => match o with
  | .nx ρ m => I ρ m
  | .ct ρ m => I ρ m
  | .bk ρ m => Q (.nx ρ m)
  | o => Q o
section
variable {α β : Type} {k : α → Hm → Prop} {Q : Rs β → Prop} {d : α} {m : Hm} {x : Ex} {ρ : Ro} {QS : Ou → Prop} {kS : Ro → Hm → Prop} {QD : Rs D → Prop} {e : D}
@[simp] theorem okK_ok : okK k Q (.ok d m) = k d m := rfl
@[simp] theorem okK_ex : okK k Q (.ex x m) = Q (.ex x m) := rfl
@[simp] theorem okS_ok : okS ρ k QS (.ok d m) = k d m := rfl
@[simp] theorem okS_ex : okS ρ k QS (.ex x m) = QS (.ex x ρ m) := rfl
@[simp] theorem nxK_nx : nxK kS QS (.nx ρ m) = kS ρ m := rfl
@[simp] theorem nxK_rt : nxK kS QS (.rt e m) = QS (.rt e m) := rfl
@[simp] theorem nxK_bk : nxK kS QS (.bk ρ m) = QS (.bk ρ m) := rfl
@[simp] theorem nxK_ct : nxK kS QS (.ct ρ m) = QS (.ct ρ m) := rfl
@[simp] theorem nxK_ex : nxK kS QS (.ex x ρ m) = QS (.ex x ρ m) := rfl
@[simp] theorem reK_nx : reK QD (.nx ρ m) = QD (.ok .non m) := rfl
@[simp] theorem reK_rt : reK QD (.rt e m) = QD (.ok e m) := rfl
@[simp] theorem reK_ex : reK QD (.ex x ρ m) = QD (.ex x m) := rfl
@[simp] theorem lpK_nx : lpK kS QS (.nx ρ m) = kS ρ m := rfl
@[simp] theorem lpK_ct : lpK kS QS (.ct ρ m) = kS ρ m := rfl
@[simp] theorem lpK_bk : lpK kS QS (.bk ρ m) = QS (.nx ρ m) := rfl
@[simp] theorem lpK_rt : lpK kS QS (.rt e m) = QS (.rt e m) := rfl
@[simp] theorem lpK_ex : lpK kS QS (.ex x ρ m) = QS (.ex x ρ m) := rfl
theorem w_bnd {a : Option (Rs α)} {k : α → Hm → Option (Rs β)} {k' : α → Hm → Prop} (hk : ∀ d m, (∃ r, k d m = some r ∧ Q r) ↔ k' d m) : (∃ r, bnd a k = some r ∧ Q r) = ∃ r, a = some r ∧ okK k' Q r := by
  refine propext ⟨?_, ?_⟩
  · rintro ⟨r, h, q⟩
    cases a with
    | none => cases h
    | some z =>
      refine ⟨z, rfl, ?_⟩
      cases z with
      | ok d m => exact (hk d m).mp ⟨r, h, q⟩
      | ex x m => cases h; exact q
  · rintro ⟨z, rfl, h⟩
    cases z with
    | ok d m => exact (hk d m).mpr h
    | ex x m => exact ⟨_, rfl, h⟩
theorem w_bndS {a : Option (Rs α)} {k : α → Hm → Option Ou} {k' : α → Hm → Prop} (hk : ∀ d m, (∃ r, k d m = some r ∧ QS r) ↔ k' d m) : (∃ r, bndS a ρ k = some r ∧ QS r) = ∃ r, a = some r ∧ okS ρ k' QS r := by
  refine propext ⟨?_, ?_⟩
  · rintro ⟨r, h, q⟩
    cases a with
    | none => cases h
    | some z =>
      refine ⟨z, rfl, ?_⟩
      cases z with
      | ok d m => exact (hk d m).mp ⟨r, h, q⟩
      | ex x m => cases h; exact q
  · rintro ⟨z, rfl, h⟩
    cases z with
    | ok d m => exact (hk d m).mpr h
    | ex x m => exact ⟨_, rfl, h⟩
theorem one_ {γ : Type} {o : γ} {Q : γ → Prop} : (∃ r, some o = some r ∧ Q r) ↔ Q o := ⟨fun ⟨r, h, q⟩ => by cases h; exact q, fun q => ⟨_, rfl, q⟩⟩
theorem w_map {o : Option (D × Hm)} {Q : Rs D → Prop} : (∃ r, (o.map fun p => Rs.ok p.1 p.2) = some r ∧ Q r) ↔ wO o Q := by
  unfold wO
  constructor
  · rintro ⟨r, h, q⟩
    cases o with
    | none => cases h
    | some p => cases h; exact ⟨p, rfl, q⟩
  · rintro ⟨p, rfl, q⟩; exact ⟨_, rfl, q⟩
end
theorem wE_mono {α : Type} {c : Mv α} {ρ : Ro} {m : Hm} {Q Q' : Rs α → Prop} (h : wE c ρ m Q) (hq : ∀ r, Q r → Q' r) : wE c ρ m Q' := let ⟨r, e, q⟩ := h; ⟨r, e, hq r q⟩
theorem wS_mono {c : Ms} {ρ : Ro} {m : Hm} {Q Q' : Ou → Prop} (h : wS c ρ m Q) (hq : ∀ r, Q r → Q' r) : wS c ρ m Q' := let ⟨r, e, q⟩ := h; ⟨r, e, hq r q⟩
theorem wF_mono {c : Fx} {ds : List D} {m : Hm} {Q Q' : Rs D → Prop} (h : wF c ds m Q) (hq : ∀ r, Q r → Q' r) : wF c ds m Q' := let ⟨r, e, q⟩ := h; ⟨r, e, hq r q⟩
/-! ### what goes on -/
def vK (o : Option Sl) (m : Hm) (Q : Rs D → Prop) : Prop := ∃ d, o = some (.is d) ∧ Q (.ok d m)
def oK (o : Option D) (m : Hm) (Q : Rs D → Prop) : Prop := ∃ d, o = some d ∧ Q (.ok d m)
def kB2 (f : Mop) (x : D) (Q : Rs D → Prop) (y : D) (m : Hm) : Prop := wO (f x y m) Q
def kB1 (f : Mop) (b : Mv D) (ρ : Ro) (Q : Rs D → Prop) (x : D) (m : Hm) : Prop := wE b ρ m (okK (kB2 f x Q) Q)
def kA2 (d : D) (Q : Rs (List D) → Prop) (ds : List D) (m : Hm) : Prop := Q (.ok (d :: ds) m)
def kA1 (b : Mv (List D)) (ρ : Ro) (Q : Rs (List D) → Prop) (d : D) (m : Hm) : Prop := wE b ρ m (okK (kA2 d Q) Q)
def kBl (f : Cal) (Q : Rs D → Prop) (ds : List D) (m : Hm) : Prop := wO (f ds m) Q
def kCl (F : Fx) (Q : Rs D → Prop) (ds : List D) (m : Hm) : Prop := wF F ds m Q
def kC2 (F : Fx) (idx : List Nat) (Q : Rs D → Prop) (ds es : List D) (m : Hm) : Prop := wF F (pick idx (ds ++ es)) m Q
def kC1 (F : Fx) (idx : List Nat) (b : Mv (List D)) (ρ : Ro) (Q : Rs D → Prop) (ds : List D) (m : Hm) : Prop := wE b ρ m (okK (kC2 F idx Q ds) Q)
def kLst (Q : Rs D → Prop) (ds : List D) (m : Hm) : Prop := Q (.ok (.ref m.length) (m ++ [.lst ds]))
def kDs (ks : List Key) (Q : Rs D → Prop) (ds : List D) (m : Hm) : Prop := Q (.ok (.ref m.length) (m ++ [.dK (dkOf ks ds)]))
def kTup (Q : Rs D → Prop) (ds : List D) (m : Hm) : Prop := Q (.ok (.tup ds) m)
def kNeg (Q : Rs D → Prop) (d : D) (m : Hm) : Prop := ∃ i, d = .int i ∧ Q (.ok (.int (-i)) m)
def ntK (o : Option Bool) (m : Hm) (Q : Rs D → Prop) : Prop := ∃ k, o = some k ∧ Q (.ok (.bl (!k)) m)
def kNot (Q : Rs D → Prop) (d : D) (m : Hm) : Prop := ntK (truD m d) m Q
def andK (o : Option Bool) (d : D) (b : Mv D) (ρ : Ro) (m : Hm) (Q : Rs D → Prop) : Prop := ∃ k, o = some k ∧ if k = true then wE b ρ m Q else Q (.ok d m)
def orK (o : Option Bool) (d : D) (b : Mv D) (ρ : Ro) (m : Hm) (Q : Rs D → Prop) : Prop := ∃ k, o = some k ∧ if k = true then Q (.ok d m) else wE b ρ m Q
def kAnd (b : Mv D) (ρ : Ro) (Q : Rs D → Prop) (d : D) (m : Hm) : Prop := andK (truD m d) d b ρ m Q
def kOr (b : Mv D) (ρ : Ro) (Q : Rs D → Prop) (d : D) (m : Hm) : Prop := orK (truD m d) d b ρ m Q
def iteE (k : Bool) (a b : Mv D) (ρ : Ro) (m : Hm) (Q : Rs D → Prop) : Prop := if k = true then wE a ρ m Q else wE b ρ m Q
def kIf (a b : Mv D) (ρ : Ro) (Q : Rs D → Prop) (k : Bool) (m : Hm) : Prop := iteE k a b ρ m Q
def chK (o : Option (D × Hm)) (f' : Mop) (y : D) (c : Mv D) (ρ : Ro) (Q : Rs D → Prop) : Prop := ∃ k m, o = some (.bl k, m) ∧ if k = true then wE c ρ m (okK (kB2 f' y Q) Q) else Q (.ok (.bl false) m)
def kH2 (f f' : Mop) (c : Mv D) (x : D) (ρ : Ro) (Q : Rs D → Prop) (y : D) (m : Hm) : Prop := chK (f x y m) f' y c ρ Q
def kH1 (f f' : Mop) (b c : Mv D) (ρ : Ro) (Q : Rs D → Prop) (x : D) (m : Hm) : Prop := wE b ρ m (okK (kH2 f f' c x ρ Q) Q)
def isK (o : Option Tg) (cs : List Ct) (m : Hm) (Q : Rs D → Prop) : Prop := ∃ t, o = some t ∧ Q (.ok (.bl (cs.any (isa t))) m)
def kIsi (cs : List Ct) (Q : Rs D → Prop) (d : D) (m : Hm) : Prop := isK (tagD m d) cs m Q
def helK (o : Option Sl) (v : Option D) (m : Hm) (Q : Rs D → Prop) : Prop := o = some .hel ∧ ∃ d, v = some d ∧ Q (.ok d m)
def kS3 (Q : Rs D → Prop) (x : D) (l h : Option Int) (m : Hm) : Prop := wO (slD x l h m) Q
def kS2 (hi : Mv (Option Int)) (ρ : Ro) (Q : Rs D → Prop) (x : D) (l : Option Int) (m : Hm) : Prop := wE hi ρ m (okK (kS3 Q x l) Q)
def kS1 (lo hi : Mv (Option Int)) (ρ : Ro) (Q : Rs D → Prop) (x : D) (m : Hm) : Prop := wE lo ρ m (okK (kS2 hi ρ Q x) Q)
def kPi (Q : Rs (Option Int) → Prop) (d : D) (m : Hm) : Prop := ∃ i, d = .int i ∧ Q (.ok (some i) m)
def ttK (o : Option Bool) (m : Hm) (Q : Rs Bool → Prop) : Prop := ∃ k, o = some k ∧ Q (.ok k m)
def kTt (Q : Rs Bool → Prop) (d : D) (m : Hm) : Prop := ttK (truD m d) m Q
def kTb (Q : Rs Bool → Prop) (d : D) (m : Hm) : Prop := ∃ k, d = .bl k ∧ Q (.ok k m)
def kTn (Q : Rs Bool → Prop) (k : Bool) (m : Hm) : Prop := Q (.ok (!k) m)
def kTa (u : Mv Bool) (ρ : Ro) (Q : Rs Bool → Prop) (k : Bool) (m : Hm) : Prop := if k = true then wE u ρ m Q else Q (.ok false m)
def kTo (u : Mv Bool) (ρ : Ro) (Q : Rs Bool → Prop) (k : Bool) (m : Hm) : Prop := if k = true then Q (.ok true m) else wE u ρ m Q
def kSq (s : Ms) (Q : Ou → Prop) (ρ : Ro) (m : Hm) : Prop := wS s ρ m Q
def kEx (ρ : Ro) (Q : Ou → Prop) (_ : D) (m : Hm) : Prop := Q (.nx ρ m)
def kRt (Q : Ou → Prop) (d : D) (m : Hm) : Prop := Q (.rt d m)
def iteS (k : Bool) (a b : Ms) (ρ : Ro) (m : Hm) (Q : Ou → Prop) : Prop := if k = true then wS a ρ m Q else wS b ρ m Q
def kIs (a b : Ms) (ρ : Ro) (Q : Ou → Prop) (k : Bool) (m : Hm) : Prop := iteS k a b ρ m Q
def kAs (g : Mg) (ρ : Ro) (Q : Ou → Prop) (d : D) (m : Hm) : Prop := wG (g d ρ m) Q
def kG2 (ρ : Ro) (d o : D) (Q : Ou → Prop) (i : D) (m : Hm) : Prop := wH (setD m o i d) ρ Q
def kG1 (b : Mv D) (ρ : Ro) (d : D) (Q : Ou → Prop) (o : D) (m : Hm) : Prop := wE b ρ m (okK (kG2 ρ d o Q) (noK (α := D)))
def tpK (o : Option (List D)) (n : Nat) (g : Mgs) (ρ : Ro) (m : Hm) (Q : Ou → Prop) : Prop := ∃ ds, o = some ds ∧ ds.length = n ∧ wG (g ds ρ m) Q
def kGs (g : Mgs) (ds : List D) (Q : Ou → Prop) (ρ : Ro) (m : Hm) : Prop := wG (g ds ρ m) Q
def kPr (i j : Nat) (ρ : Ro) (Q : Ou → Prop) (ds : List D) (m : Hm) : Prop := ∃ x y, ds = [x, y] ∧ Q (.nx ((ρ.set i (.is x)).set j (.is y)) m)
def kRs (k : Nat) (ρ : Ro) (Q : Ou → Prop) (ds : List D) (m : Hm) : Prop := Q (.ex ⟨k, ds⟩ ρ m)
def wI (w : Wk) (g : Mg) (s : Ms) (ρ : Ro) (m : Hm) (Q : Ou → Prop) : Prop := ∃ o, forL w g s w.n 0 ρ m = some o ∧ Q o
def kFor (g : Mg) (s : Ms) (ρ : Ro) (Q : Ou → Prop) (w : Wk) (m : Hm) : Prop := wI w g s ρ m Q
def sqL (o : Option (List D)) (n : Nat) (m : Hm) (Q : Rs Wk → Prop) : Prop := ∃ xs, o = some xs ∧ Q (.ok (itLst n xs.length fun _ x => x) m)
def sqK (d : D) (m : Hm) (Q : Rs Wk → Prop) : Prop := match d with
  | .tup ds => Q (.ok (itFix ds fun _ x => x) m)
  | .frl ds => Q (.ok (itFix ds fun _ x => x) m)
  | .ref n => sqL (lstOf m n) n m Q
  | _ => False
def kSqI (Q : Rs Wk → Prop) (d : D) (m : Hm) : Prop := sqK d m Q
def rgK (ds : List D) (m : Hm) (Q : Rs Wk → Prop) : Prop := match ds with
  | [.int j] => (-(2 ^ 62) ≤ j ∧ j < 2 ^ 62) ∧ Q (.ok (itRg 0 j.toNat) m)
  | [.int i, .int j] => (-(2 ^ 62) ≤ i ∧ i < 2 ^ 62 ∧ -(2 ^ 62) ≤ j ∧ j < 2 ^ 62) ∧ Q (.ok (itRg i (j - i).toNat) m)
  | _ => False
def kRg (Q : Rs Wk → Prop) (ds : List D) (m : Hm) : Prop := rgK ds m Q
def wkK (o : Option Wk) (f : Wk → Wk) (m : Hm) (Q : Rs Wk → Prop) : Prop := ∃ w, o = some w ∧ Q (.ok (f w) m)
def kEn (Q : Rs Wk → Prop) (ds : List D) (m : Hm) : Prop := ∃ d, ds = [d] ∧ wkK (wkOf m d) wkEnum m Q
def ziK (a b : Option Wk) (m : Hm) (Q : Rs Wk → Prop) : Prop := ∃ u w, a = some u ∧ b = some w ∧ Q (.ok (wkZip u w) m)
def kZi (Q : Rs Wk → Prop) (ds : List D) (m : Hm) : Prop := ∃ d e, ds = [d, e] ∧ ziK (wkOf m d) (wkOf m e) m Q
def wL (w : Wk) (g : Mg) (t : Mv Bool) (e : Mv D) (ρ : Ro) (m : Hm) (acc : List D) (Q : List D → Hm → Prop) : Prop := ∃ z, lcL w g t e ρ w.n 0 m acc = some z ∧ Q z.1 z.2
def wL2 (w : Wk) (g : Mg) (t : Mv Bool) (it1 : Mi_) (g1 : Mg) (t1 : Mv Bool) (e : Mv D) (vs1 : List Nat) (ρ : Ro) (m : Hm) (Q : List D → Hm → Prop) : Prop := ∃ z, lcO w g t it1 g1 t1 e vs1 ρ w.n 0 m [] = some z ∧ Q z.1 z.2
def kLe (Q : Rs D → Prop) (acc : List D) (m : Hm) : Prop := Q (.ok (.ref m.length) (m ++ [.lst acc]))
def kLc (g : Mg) (t : Mv Bool) (e : Mv D) (vs : List Nat) (ρ : Ro) (Q : Rs D → Prop) (w : Wk) (m : Hm) : Prop := wL w g t e (wipeM ρ vs) m [] (kLe Q)
def kLc2 (g : Mg) (t : Mv Bool) (it1 : Mi_) (g1 : Mg) (t1 : Mv Bool) (e : Mv D) (vs vs1 : List Nat) (ρ : Ro) (Q : Rs D → Prop) (w : Wk) (m : Hm) : Prop := wL2 w g t it1 g1 t1 e vs1 (wipeM ρ vs) m (kLe Q)
def kLa (I : List D → Hm → Prop) (acc : List D) (y : D) (m : Hm) : Prop := acc.length < sizeLine ∧ I (acc ++ [y]) m
def iteL (k : Bool) (e : Mv D) (ρ : Ro) (I : List D → Hm → Prop) (acc : List D) (m : Hm) : Prop := if k = true then wE e ρ m (okK (kLa I acc) (noK (α := D))) else I acc m
def kLi (e : Mv D) (ρ : Ro) (I : List D → Hm → Prop) (acc : List D) (k : Bool) (m : Hm) : Prop := iteL k e ρ I acc m
def kLt (t : Mv Bool) (e : Mv D) (I : List D → Hm → Prop) (acc : List D) (ρ : Ro) (m : Hm) : Prop := wE t ρ m (okK (kLi e ρ I acc) (noK (α := Bool)))
def kOw (g1 : Mg) (t1 : Mv Bool) (e : Mv D) (vs1 : List Nat) (ρ : Ro) (I : List D → Hm → Prop) (acc : List D) (w : Wk) (m : Hm) : Prop := wL w g1 t1 e (wipeM ρ vs1) m acc I
def iteO (k : Bool) (it1 : Mi_) (g1 : Mg) (t1 : Mv Bool) (e : Mv D) (vs1 : List Nat) (ρ : Ro) (I : List D → Hm → Prop) (acc : List D) (m : Hm) : Prop := if k = true then wE it1 ρ m (okK (kOw g1 t1 e vs1 ρ I acc) (noK (α := Wk))) else I acc m
def kOi (it1 : Mi_) (g1 : Mg) (t1 : Mv Bool) (e : Mv D) (vs1 : List Nat) (ρ : Ro) (I : List D → Hm → Prop) (acc : List D) (k : Bool) (m : Hm) : Prop := iteO k it1 g1 t1 e vs1 ρ I acc m
def kOt (t : Mv Bool) (it1 : Mi_) (g1 : Mg) (t1 : Mv Bool) (e : Mv D) (vs1 : List Nat) (I : List D → Hm → Prop) (acc : List D) (ρ : Ro) (m : Hm) : Prop := wE t ρ m (okK (kOi it1 g1 t1 e vs1 ρ I acc) (noK (α := Bool)))
def hnK (l : List Cl) (x : Ex) (ρ : Ro) (m : Hm) (Q : Ou → Prop) : Prop := ∃ o, handle l x ρ m = some o ∧ Q o
def lvQ (nm : Option Nat) (Q : Ou → Prop) : Ou → Prop := fun o => match o with
  | .nx ρ m => Q (.nx (lvR nm ρ) m)
  | .bk ρ m => Q (.bk (lvR nm ρ) m)
  | .ct ρ m => Q (.ct (lvR nm ρ) m)
  | .rt d m => Q (.rt d m)
  | _ => False
def hdK (l : List Cl) (Q : Ou → Prop) : Ou → Prop := fun o => match o with
  | .ex x ρ m => hnK l x ρ m Q
  | o => Q o
def kMt2 (f : Met) (k : Nat) (Q : Rs D → Prop) (ds : List D) (m : Hm) : Prop := ∃ xs, lstOf m k = some xs ∧ wO (f k xs ds m) Q
def kMt (f : Met) (a : Mv (List D)) (ρ : Ro) (Q : Rs D → Prop) (x : D) (m : Hm) : Prop := ∃ k xs, x = .ref k ∧ lstOf m k = some xs ∧ wE a ρ m (okK (kMt2 f k Q) Q)
def dkIn (o : Option O) (f : List (Key × D) → List D) (m : Hm) (Q : Rs D → Prop) : Prop := ∃ kvs, o = some (.dK kvs) ∧ Q (.ok (.ref m.length) (m ++ [.lst (f kvs)]))
def kLk (f : List (Key × D) → List D) (Q : Rs D → Prop) (x : D) (m : Hm) : Prop := ∃ n, x = .ref n ∧ dkIn (m[n]?) f m Q
section
variable {ρ : Ro} {m : Hm} {Q : Rs D → Prop} {QA : Rs (List D) → Prop} {QB : Rs Bool → Prop} {QO : Rs (Option Int) → Prop} {QS : Ou → Prop} {QW : Rs Wk → Prop} {a b c : Mv D} {t u : Mv Bool} {la lb : Mv (List D)} {s1 s2 : Ms} {f f' : Mop} {d x y : D} {ds : List D}
@[simp] theorem vK_is : vK (some (.is d)) m Q = Q (.ok d m) := propext ⟨fun ⟨_, h, q⟩ => by cases h; exact q, fun q => ⟨_, rfl, q⟩⟩
@[simp] theorem oK_some : oK (some d) m Q = Q (.ok d m) := propext ⟨fun ⟨_, h, q⟩ => by cases h; exact q, fun q => ⟨_, rfl, q⟩⟩
@[simp] theorem wO_some : wO (some (d, m)) Q = Q (.ok d m) := propext ⟨fun ⟨r, h, q⟩ => by cases h; exact q, fun q => ⟨_, rfl, q⟩⟩
@[simp] theorem wH_some : wH (some m) ρ QS = QS (.nx ρ m) := propext ⟨fun ⟨r, h, q⟩ => by cases h; exact q, fun q => ⟨_, rfl, q⟩⟩
theorem wO_if {P : Prop} [Decidable P] : wO (if P then some (d, m) else none) Q ↔ P ∧ Q (.ok d m) := by
  by_cases h : P <;> simp [h, wO]
theorem wO_opt {α : Type} {o : Option α} {g : α → D} : wO (o.map fun z => (g z, m)) Q = oK (o.map g) m Q := by
  refine propext ⟨?_, ?_⟩
  · rintro ⟨p, h, q⟩
    cases o with
    | none => cases h
    | some x => cases h; exact ⟨_, rfl, q⟩
  · rintro ⟨d, h, q⟩
    cases o with
    | none => cases h
    | some x => cases h; exact ⟨_, rfl, q⟩
@[simp] theorem wE_var {i : Nat} : wE (eVar i) ρ m Q = vK (ρ[i]?) m Q := by
  unfold wE eVar vK
  refine propext ⟨?_, ?_⟩
  · rintro ⟨r, h, q⟩
    split at h
    · rename_i d e; cases h; exact ⟨d, e, q⟩
    · cases h
  · rintro ⟨d, e, q⟩
    exact ⟨_, by rw [e], q⟩
@[simp] theorem wE_C : wE (eC d) ρ m Q = Q (.ok d m) := propext one_
@[simp] theorem wA_nil : wE aNil ρ m QA = QA (.ok [] m) := propext one_
@[simp] theorem kA2_ : kA2 d QA ds m = QA (.ok (d :: ds) m) := rfl
@[simp] theorem kA1_ : kA1 la ρ QA d m = wE la ρ m (okK (kA2 d QA) QA) := rfl
@[simp] theorem wA_cons : wE (aCons a la) ρ m QA = wE a ρ m (okK (kA1 la ρ QA) QA) := w_bnd fun d m => iff_of_eq (w_bnd fun ds m2 => one_)
@[simp] theorem kB2_ : kB2 f x Q y m = wO (f x y m) Q := rfl
@[simp] theorem kB1_ : kB1 f b ρ Q x m = wE b ρ m (okK (kB2 f x Q) Q) := rfl
@[simp] theorem wE_bin : wE (eBin f a b) ρ m Q = wE a ρ m (okK (kB1 f b ρ Q) Q) := w_bnd fun d m => iff_of_eq (w_bnd fun ds m2 => w_map)
@[simp] theorem kBl_ {f : Cal} : kBl f Q ds m = wO (f ds m) Q := rfl
@[simp] theorem wE_B {f : Cal} : wE (eB f la) ρ m Q = wE la ρ m (okK (kBl f Q) Q) := w_bnd fun d m => w_map
@[simp] theorem kCl_ {F : Fx} : kCl F Q ds m = wF F ds m Q := rfl
@[simp] theorem wE_call {F : Fx} : wE (eCall F la) ρ m Q = wE la ρ m (okK (kCl F Q) Q) := w_bnd fun d m => Iff.rfl
@[simp] theorem kC2_ {F : Fx} {idx : List Nat} {es : List D} : kC2 F idx Q ds es m = wF F (pick idx (ds ++ es)) m Q := rfl
@[simp] theorem kC1_ {F : Fx} {idx : List Nat} : kC1 F idx lb ρ Q ds m = wE lb ρ m (okK (kC2 F idx Q ds) Q) := rfl
@[simp] theorem wE_callK {F : Fx} {idx : List Nat} : wE (eCallK F idx la lb) ρ m Q = wE la ρ m (okK (kC1 F idx lb ρ Q) Q) := w_bnd fun d m => iff_of_eq (w_bnd fun ds m2 => Iff.rfl)
@[simp] theorem kLst_ : kLst Q ds m = Q (.ok (.ref m.length) (m ++ [.lst ds])) := rfl
@[simp] theorem wE_lst : wE (eLst la) ρ m Q = wE la ρ m (okK (kLst Q) Q) := w_bnd fun d m => one_
@[simp] theorem kDs_ {ks : List Key} : kDs ks Q ds m = Q (.ok (.ref m.length) (m ++ [.dK (dkOf ks ds)])) := rfl
@[simp] theorem wE_ds {ks : List Key} : wE (eDs ks la) ρ m Q = wE la ρ m (okK (kDs ks Q) Q) := w_bnd fun d m => one_
@[simp] theorem wE_d0 : wE eD0 ρ m Q = Q (.ok (.ref m.length) (m ++ [.dK []])) := propext one_
@[simp] theorem kTup_ : kTup Q ds m = Q (.ok (.tup ds) m) := rfl
@[simp] theorem wE_tup : wE (eTup la) ρ m Q = wE la ρ m (okK (kTup Q) Q) := w_bnd fun d m => one_
@[simp] theorem kNeg_ {i : Int} : kNeg Q (.int i) m = Q (.ok (.int (-i)) m) := propext ⟨fun ⟨_, h, q⟩ => by cases h; exact q, fun q => ⟨_, rfl, q⟩⟩
@[simp] theorem wE_neg : wE (eNeg a) ρ m Q = wE a ρ m (okK (kNeg Q) Q) := w_bnd fun d m => by
  constructor
  · rintro ⟨r, h, q⟩
    split at h
    · rename_i i; cases h; exact ⟨i, rfl, q⟩
    · cases h
  · rintro ⟨i, rfl, q⟩; exact ⟨_, rfl, q⟩
@[simp] theorem ntK_ {k : Bool} : ntK (some k) m Q = Q (.ok (.bl (!k)) m) := propext ⟨fun ⟨_, h, q⟩ => by cases h; exact q, fun q => ⟨_, rfl, q⟩⟩
@[simp] theorem kNot_ : kNot Q d m = ntK (truD m d) m Q := rfl
@[simp] theorem wE_not : wE (eNot a) ρ m Q = wE a ρ m (okK (kNot Q) Q) := w_bnd fun d m => by
  constructor
  · rintro ⟨r, h, q⟩
    cases e : truD m d with
    | none => rw [e] at h; cases h
    | some k => rw [e] at h; cases h; exact ⟨k, e, q⟩
  · rintro ⟨k, e, q⟩; exact ⟨_, by rw [e]; rfl, q⟩
@[simp] theorem andK_t : andK (some true) d b ρ m Q = wE b ρ m Q := propext ⟨fun ⟨_, h, q⟩ => by cases h; simpa using q, fun q => ⟨true, rfl, by simpa using q⟩⟩
@[simp] theorem andK_f : andK (some false) d b ρ m Q = Q (.ok d m) := propext ⟨fun ⟨_, h, q⟩ => by cases h; simpa using q, fun q => ⟨false, rfl, by simpa using q⟩⟩
@[simp] theorem orK_t : orK (some true) d b ρ m Q = Q (.ok d m) := propext ⟨fun ⟨_, h, q⟩ => by cases h; simpa using q, fun q => ⟨true, rfl, by simpa using q⟩⟩
@[simp] theorem orK_f : orK (some false) d b ρ m Q = wE b ρ m Q := propext ⟨fun ⟨_, h, q⟩ => by cases h; simpa using q, fun q => ⟨false, rfl, by simpa using q⟩⟩
@[simp] theorem kAnd_ : kAnd b ρ Q d m = andK (truD m d) d b ρ m Q := rfl
@[simp] theorem kOr_ : kOr b ρ Q d m = orK (truD m d) d b ρ m Q := rfl
@[simp] theorem wE_and : wE (eAnd a b) ρ m Q = wE a ρ m (okK (kAnd b ρ Q) Q) := w_bnd fun d m => by
  constructor
  · rintro ⟨r, h, q⟩
    split at h
    · rename_i e; exact ⟨true, e, by rw [if_pos rfl]; exact ⟨r, h, q⟩⟩
    · rename_i e; cases h; exact ⟨false, e, by rw [if_neg Bool.false_ne_true]; exact q⟩
    · cases h
  · rintro ⟨k, e, q⟩
    rw [e]
    cases k with
    | true => rw [if_pos rfl] at q; exact q
    | false => rw [if_neg Bool.false_ne_true] at q; exact ⟨_, rfl, q⟩
@[simp] theorem wE_or : wE (eOr a b) ρ m Q = wE a ρ m (okK (kOr b ρ Q) Q) := w_bnd fun d m => by
  constructor
  · rintro ⟨r, h, q⟩
    split at h
    · rename_i e; cases h; exact ⟨true, e, by rw [if_pos rfl]; exact q⟩
    · rename_i e; exact ⟨false, e, by rw [if_neg Bool.false_ne_true]; exact ⟨r, h, q⟩⟩
    · cases h
  · rintro ⟨k, e, q⟩
    rw [e]
    cases k with
    | true => rw [if_pos rfl] at q; exact ⟨_, rfl, q⟩
    | false => rw [if_neg Bool.false_ne_true] at q; exact q
@[simp] theorem iteE_t : iteE true a b ρ m Q = wE a ρ m Q := if_pos rfl
@[simp] theorem iteE_f : iteE false a b ρ m Q = wE b ρ m Q := if_neg Bool.false_ne_true
@[simp] theorem kIf_ {k : Bool} : kIf a b ρ Q k m = iteE k a b ρ m Q := rfl
@[simp] theorem wE_ifE : wE (eIf t a b) ρ m Q = wE t ρ m (okK (kIf a b ρ Q) Q) := w_bnd fun d m => by
  cases d
  · simp only [kIf_, iteE_f]; exact Iff.rfl
  · simp only [kIf_, iteE_t]; exact Iff.rfl
@[simp] theorem chK_t : chK (some (.bl true, m)) f' y c ρ Q = wE c ρ m (okK (kB2 f' y Q) Q) := propext ⟨fun ⟨_, _, h, q⟩ => by cases h; simpa using q, fun q => ⟨true, m, rfl, by simpa using q⟩⟩
@[simp] theorem chK_f : chK (some (.bl false, m)) f' y c ρ Q = Q (.ok (.bl false) m) := propext ⟨fun ⟨_, _, h, q⟩ => by cases h; simpa using q, fun q => ⟨false, m, rfl, by simpa using q⟩⟩
@[simp] theorem kH2_ : kH2 f f' c x ρ Q y m = chK (f x y m) f' y c ρ Q := rfl
@[simp] theorem kH1_ : kH1 f f' b c ρ Q x m = wE b ρ m (okK (kH2 f f' c x ρ Q) Q) := rfl
@[simp] theorem wE_chain : wE (eChain f f' a b c) ρ m Q = wE a ρ m (okK (kH1 f f' b c ρ Q) Q) := w_bnd fun d m => iff_of_eq (w_bnd fun ds m2 => by
  constructor
  · rintro ⟨r, h, q⟩
    split at h
    · rename_i m3 e
      refine ⟨true, m3, e, ?_⟩
      rw [if_pos rfl]
      exact (iff_of_eq (w_bnd fun d m => w_map)).mp ⟨r, h, q⟩
    · rename_i m3 e; cases h; exact ⟨false, m3, e, by rw [if_neg Bool.false_ne_true]; exact q⟩
    · cases h
  · rintro ⟨k, m3, e, q⟩
    rw [e]
    cases k with
    | true =>
      rw [if_pos rfl] at q
      exact (iff_of_eq (w_bnd fun d m => w_map)).mpr q
    | false => rw [if_neg Bool.false_ne_true] at q; exact ⟨_, rfl, q⟩)
@[simp] theorem isK_ {tg : Tg} {cs : List Ct} : isK (some tg) cs m Q = Q (.ok (.bl (cs.any (isa tg))) m) := propext ⟨fun ⟨_, h, q⟩ => by cases h; exact q, fun q => ⟨_, rfl, q⟩⟩
@[simp] theorem kIsi_ {cs : List Ct} : kIsi cs Q d m = isK (tagD m d) cs m Q := rfl
@[simp] theorem wE_isi {cs : List Ct} : wE (eIsi cs a) ρ m Q = wE a ρ m (okK (kIsi cs Q) Q) := w_bnd fun d m => by
  constructor
  · rintro ⟨r, h, q⟩
    cases e : tagD m d with
    | none => rw [e] at h; cases h
    | some k => rw [e] at h; cases h; exact ⟨k, e, q⟩
  · rintro ⟨k, e, q⟩; exact ⟨_, by rw [e]; rfl, q⟩
@[simp] theorem helK_ : helK (some .hel) (some d) m Q = Q (.ok d m) := propext ⟨fun ⟨_, _, h, q⟩ => by cases h; exact q, fun q => ⟨rfl, _, rfl, q⟩⟩
@[simp] theorem wE_hel {i k : Nat} {x : Ex} : wE (eHel i k x) ρ m Q = helK (ρ[i]?) (x.fs[k]?) m Q := by
  unfold wE eHel helK
  refine propext ⟨?_, ?_⟩
  · rintro ⟨r, h, q⟩
    split at h
    · rename_i e
      cases e2 : x.fs[k]? with
      | none => rw [e2] at h; cases h
      | some d => rw [e2] at h; cases h; exact ⟨e, d, rfl, q⟩
    · cases h
  · rintro ⟨e, d, e2, q⟩
    exact ⟨_, by rw [e]; simp [e2], q⟩
@[simp] theorem kS3_ {l h : Option Int} : kS3 Q x l h m = wO (slD x l h m) Q := rfl
@[simp] theorem kS2_ {l : Option Int} {hi : Mv (Option Int)} : kS2 hi ρ Q x l m = wE hi ρ m (okK (kS3 Q x l) Q) := rfl
@[simp] theorem kS1_ {lo hi : Mv (Option Int)} : kS1 lo hi ρ Q x m = wE lo ρ m (okK (kS2 hi ρ Q x) Q) := rfl
@[simp] theorem wE_sl {lo hi : Mv (Option Int)} : wE (eSl a lo hi) ρ m Q = wE a ρ m (okK (kS1 lo hi ρ Q) Q) := w_bnd fun d m => iff_of_eq (w_bnd fun ds m2 => iff_of_eq (w_bnd fun _ _ => w_map))
@[simp] theorem wP_no : wE pNo ρ m QO = QO (.ok none m) := propext one_
@[simp] theorem kPi_ {i : Int} : kPi QO (.int i) m = QO (.ok (some i) m) := propext ⟨fun ⟨_, h, q⟩ => by cases h; exact q, fun q => ⟨_, rfl, q⟩⟩
@[simp] theorem wP_int : wE (pInt a) ρ m QO = wE a ρ m (okK (kPi QO) QO) := w_bnd fun d m => by
  constructor
  · rintro ⟨r, h, q⟩
    split at h
    · rename_i i; cases h; exact ⟨i, rfl, q⟩
    · cases h
  · rintro ⟨i, rfl, q⟩; exact ⟨_, rfl, q⟩
/-! ### tests -/
@[simp] theorem ttK_ {k : Bool} : ttK (some k) m QB = QB (.ok k m) := propext ⟨fun ⟨_, h, q⟩ => by cases h; exact q, fun q => ⟨_, rfl, q⟩⟩
@[simp] theorem kTt_ : kTt QB d m = ttK (truD m d) m QB := rfl
@[simp] theorem wT_tru : wE (tTru a) ρ m QB = wE a ρ m (okK (kTt QB) QB) := w_bnd fun d m => by
  constructor
  · rintro ⟨r, h, q⟩
    cases e : truD m d with
    | none => rw [e] at h; cases h
    | some k => rw [e] at h; cases h; exact ⟨k, e, q⟩
  · rintro ⟨k, e, q⟩; exact ⟨_, by rw [e]; rfl, q⟩
@[simp] theorem kTb_ {k : Bool} : kTb QB (.bl k) m = QB (.ok k m) := propext ⟨fun ⟨_, h, q⟩ => by cases h; exact q, fun q => ⟨_, rfl, q⟩⟩
@[simp] theorem wT_bl : wE (tBl a) ρ m QB = wE a ρ m (okK (kTb QB) QB) := w_bnd fun d m => by
  constructor
  · rintro ⟨r, h, q⟩
    split at h
    · rename_i k; cases h; exact ⟨k, rfl, q⟩
    · cases h
  · rintro ⟨k, rfl, q⟩; exact ⟨_, rfl, q⟩
@[simp] theorem kTn_ {k : Bool} : kTn QB k m = QB (.ok (!k) m) := rfl
@[simp] theorem wT_not : wE (tNotM t) ρ m QB = wE t ρ m (okK (kTn QB) QB) := w_bnd fun d m => one_
@[simp] theorem kTa_t : kTa u ρ QB true m = wE u ρ m QB := if_pos rfl
@[simp] theorem kTa_f : kTa u ρ QB false m = QB (.ok false m) := if_neg Bool.false_ne_true
@[simp] theorem wT_and : wE (tAndM t u) ρ m QB = wE t ρ m (okK (kTa u ρ QB) QB) := w_bnd fun d m => by
  cases d
  · simp only [kTa_f]; exact one_
  · simp only [kTa_t]; exact Iff.rfl
@[simp] theorem kTo_t : kTo u ρ QB true m = QB (.ok true m) := if_pos rfl
@[simp] theorem kTo_f : kTo u ρ QB false m = wE u ρ m QB := if_neg Bool.false_ne_true
@[simp] theorem wT_or : wE (tOrM t u) ρ m QB = wE t ρ m (okK (kTo u ρ QB) QB) := w_bnd fun d m => by
  cases d
  · simp only [kTo_f]; exact Iff.rfl
  · simp only [kTo_t]; exact one_
@[simp] theorem wT_yes : wE tYesM ρ m QB = QB (.ok true m) := propext one_
/-! ### statements -/
@[simp] theorem wS_next : wS sNext ρ m QS = QS (.nx ρ m) := propext one_
@[simp] theorem wS_break : wS sBreak ρ m QS = QS (.bk ρ m) := propext one_
@[simp] theorem wS_cont : wS sCont ρ m QS = QS (.ct ρ m) := propext one_
@[simp] theorem wS_retN : wS sRetN ρ m QS = QS (.rt .non m) := propext one_
@[simp] theorem kSq_ : kSq s2 QS ρ m = wS s2 ρ m QS := rfl
@[simp] theorem wS_seq : wS (sSeq s1 s2) ρ m QS = wS s1 ρ m (nxK (kSq s2 QS) QS) := by
  unfold wS sSeq
  refine propext ⟨?_, ?_⟩
  · rintro ⟨r, h, q⟩
    cases e : s1 ρ m with
    | none => rw [e] at h; cases h
    | some z =>
      rw [e] at h
      refine ⟨z, rfl, ?_⟩
      cases z with
      | nx ρ1 m1 => exact ⟨r, h, q⟩
      | _ => cases h; exact q
  · rintro ⟨z, e, h⟩
    rw [e]
    cases z with
    | nx ρ1 m1 => exact h
    | _ => exact ⟨_, rfl, h⟩
@[simp] theorem kEx_ : kEx ρ QS d m = QS (.nx ρ m) := rfl
@[simp] theorem wS_expr : wS (sExpr a) ρ m QS = wE a ρ m (okS ρ (kEx ρ QS) QS) := w_bndS fun d m => one_
@[simp] theorem kRt_ : kRt QS d m = QS (.rt d m) := rfl
@[simp] theorem wS_ret : wS (sRet a) ρ m QS = wE a ρ m (okS ρ (kRt QS) QS) := w_bndS fun d m => one_
@[simp] theorem iteS_t : iteS true s1 s2 ρ m QS = wS s1 ρ m QS := if_pos rfl
@[simp] theorem iteS_f : iteS false s1 s2 ρ m QS = wS s2 ρ m QS := if_neg Bool.false_ne_true
@[simp] theorem kIs_ {k : Bool} : kIs s1 s2 ρ QS k m = iteS k s1 s2 ρ m QS := rfl
@[simp] theorem wS_if : wS (sIf t s1 s2) ρ m QS = wE t ρ m (okS ρ (kIs s1 s2 ρ QS) QS) := w_bndS fun d m => by
  cases d
  · simp only [kIs_, iteS_f]; exact Iff.rfl
  · simp only [kIs_, iteS_t]; exact Iff.rfl
@[simp] theorem kAs_ {g : Mg} : kAs g ρ QS d m = wG (g d ρ m) QS := rfl
@[simp] theorem wS_asg {g : Mg} : wS (sAsg a g) ρ m QS = wE a ρ m (okS ρ (kAs g ρ QS) QS) := w_bndS fun d m => by
  constructor
  · rintro ⟨r, h, q⟩
    split at h
    · rename_i ρ2 m2 e; cases h; exact ⟨_, e, q⟩
    · cases h
  · rintro ⟨⟨ρ2, m2⟩, e, q⟩
    exact ⟨_, by rw [e], q⟩
@[simp] theorem wG_nm {i : Nat} : wG (gNm i d ρ m) QS = QS (.nx (ρ.set i (.is d)) m) := propext ⟨fun ⟨r, h, q⟩ => by cases h; exact q, fun q => ⟨_, rfl, q⟩⟩
@[simp] theorem kG2_ {o i : D} : kG2 ρ d o QS i m = wH (setD m o i d) ρ QS := rfl
@[simp] theorem kG1_ {o : D} : kG1 b ρ d QS o m = wE b ρ m (okK (kG2 ρ d o QS) (noK (α := D))) := rfl
@[simp] theorem wG_ix : wG (gIx a b d ρ m) QS = wE a ρ m (okK (kG1 b ρ d QS) (noK (α := D))) := by
  unfold wG gIx wE
  refine propext ⟨?_, ?_⟩
  · rintro ⟨p, h, q⟩
    split at h
    · rename_i od m1 e1
      split at h
      · rename_i id m2 e2
        cases e3 : setD m2 od id d with
        | none => rw [e3] at h; cases h
        | some m3 => rw [e3] at h; cases h; exact ⟨_, e1, _, e2, m3, e3, q⟩
      · cases h
    · cases h
  · rintro ⟨r, e1, h⟩
    cases r with
    | ex x m1 => exact h.elim
    | ok o m1 =>
      obtain ⟨r2, e2, h⟩ := h
      cases r2 with
      | ex x m2 => exact h.elim
      | ok i m2 =>
        obtain ⟨m3, e3, q⟩ := h
        exact ⟨(ρ, m3), by simp [e1, e2, e3], q⟩
@[simp] theorem tpK_ {n : Nat} {g : Mgs} : tpK (some ds) n g ρ m QS = (ds.length = n ∧ wG (g ds ρ m) QS) := propext ⟨fun ⟨_, h, q⟩ => by cases h; exact q, fun q => ⟨_, rfl, q⟩⟩
@[simp] theorem wG_tp {n : Nat} {g : Mgs} : wG (gTp n g d ρ m) QS = tpK (seqOf m d) n g ρ m QS := by
  unfold wG gTp tpK wG
  refine propext ⟨?_, ?_⟩
  · rintro ⟨p, h, q⟩
    split at h
    · rename_i ds e
      split at h
      · rename_i hl; exact ⟨ds, e, hl, p, h, q⟩
      · cases h
    · cases h
  · rintro ⟨ds, e, hl, p, h, q⟩
    exact ⟨p, by simp only [e, hl, if_true]; exact h, q⟩
@[simp] theorem kGs_ {g : Mgs} : kGs g ds QS ρ m = wG (g ds ρ m) QS := rfl
@[simp] theorem wG_nil : wG (gsNil [] ρ m) QS = QS (.nx ρ m) := propext ⟨fun ⟨r, h, q⟩ => by cases h; exact q, fun q => ⟨_, rfl, q⟩⟩
@[simp] theorem wG_cons {g : Mg} {gs : Mgs} : wG (gsCons g gs (d :: ds) ρ m) QS = wG (g d ρ m) (nxK (kGs gs ds QS) noS) := by
  unfold wG gsCons
  refine propext ⟨?_, ?_⟩
  · rintro ⟨p, h, q⟩
    simp only at h
    split at h
    · rename_i ρ1 m1 e; exact ⟨(ρ1, m1), e, p, h, q⟩
    · cases h
  · rintro ⟨⟨ρ1, m1⟩, e, p, h, q⟩
    exact ⟨p, by simp only [e]; exact h, q⟩
@[simp] theorem kPr_ {i j : Nat} : kPr i j ρ QS [x, y] m = QS (.nx ((ρ.set i (.is x)).set j (.is y)) m) := propext ⟨fun ⟨_, _, h, q⟩ => by cases h; exact q, fun q => ⟨_, _, rfl, q⟩⟩
@[simp] theorem wS_par {i j : Nat} : wS (sPar i j la) ρ m QS = wE la ρ m (okS ρ (kPr i j ρ QS) QS) := w_bndS fun d m => by
  constructor
  · rintro ⟨r, h, q⟩
    split at h
    · cases h; exact ⟨_, _, rfl, q⟩
    · cases h
  · rintro ⟨x, y, rfl, q⟩; exact ⟨_, rfl, q⟩
@[simp] theorem kRs_ {k : Nat} : kRs k ρ QS ds m = QS (.ex ⟨k, ds⟩ ρ m) := rfl
@[simp] theorem wS_raise {k : Nat} : wS (sRaise k la) ρ m QS = wE la ρ m (okS ρ (kRs k ρ QS) QS) := w_bndS fun d m => one_
@[simp] theorem wS_raise0 {k : Nat} : wS (sRaise0 k) ρ m QS = QS (.ex ⟨k, []⟩ ρ m) := propext one_
theorem wF_run {nl : Nat} {s : Ms} : wF (runF nl s) ds m Q = wS s (slots nl ds) m (reK Q) := by
  unfold wF runF wS
  refine propext ⟨?_, ?_⟩
  · rintro ⟨r, h, q⟩
    cases e : s (slots nl ds) m with
    | none => rw [e] at h; cases h
    | some o =>
      rw [e] at h
      refine ⟨o, rfl, ?_⟩
      cases o <;> first | (cases h; exact q) | cases h
  · rintro ⟨o, e, q⟩
    rw [e]
    cases o with
    | bk _ _ => exact q.elim
    | ct _ _ => exact q.elim
    | _ => exact ⟨_, rfl, q⟩
/-! ### try -/
section
variable {l : List Cl} {z : Ex}
@[simp] theorem hdK_nx : hdK l QS (.nx ρ m) = QS (.nx ρ m) := rfl
@[simp] theorem hdK_rt : hdK l QS (.rt d m) = QS (.rt d m) := rfl
@[simp] theorem hdK_bk : hdK l QS (.bk ρ m) = QS (.bk ρ m) := rfl
@[simp] theorem hdK_ct : hdK l QS (.ct ρ m) = QS (.ct ρ m) := rfl
@[simp] theorem hdK_ex : hdK l QS (.ex z ρ m) = hnK l z ρ m QS := rfl
@[simp] theorem lvQ_nx {nm : Option Nat} : lvQ nm QS (.nx ρ m) = QS (.nx (lvR nm ρ) m) := rfl
@[simp] theorem lvQ_rt {nm : Option Nat} : lvQ nm QS (.rt d m) = QS (.rt d m) := rfl
@[simp] theorem lvQ_bk {nm : Option Nat} : lvQ nm QS (.bk ρ m) = QS (.bk (lvR nm ρ) m) := rfl
@[simp] theorem lvQ_ct {nm : Option Nat} : lvQ nm QS (.ct ρ m) = QS (.ct (lvR nm ρ) m) := rfl
@[simp] theorem hnK_nil : hnK [] z ρ m QS = QS (.ex z ρ m) := propext one_
theorem hnK_hit {t : Nat → Bool} {nm : Option Nat} {c : Ex → Ms} (h : t z.c = true) : hnK (⟨t, nm, c⟩ :: l) z ρ m QS = wS (c z) (enter nm ρ) m (lvQ nm QS) := by
  unfold hnK handle wS
  rw [if_pos h]
  show (∃ o, leaveM nm (c z (enter nm ρ) m) = some o ∧ QS o) = _
  refine propext ⟨?_, ?_⟩
  · rintro ⟨o, e, q⟩
    cases e2 : c z (enter nm ρ) m with
    | none => rw [e2] at e; cases e
    | some r =>
      rw [e2] at e
      refine ⟨r, rfl, ?_⟩
      cases r <;> first | (cases e; exact q) | cases e
  · rintro ⟨o, e, q⟩
    rw [e]
    cases o <;> first | exact ⟨_, rfl, q⟩ | exact q.elim
theorem hnK_miss {t : Nat → Bool} {nm : Option Nat} {c : Ex → Ms} (h : t z.c = false) : hnK (⟨t, nm, c⟩ :: l) z ρ m QS = hnK l z ρ m QS := by
  unfold hnK handle
  rw [if_neg (show ¬ (t z.c = true) by rw [h]; exact Bool.false_ne_true)]
  cases l <;> rfl
@[simp] theorem wS_try : wS (sTry s1 l) ρ m QS = wS s1 ρ m (hdK l QS) := by
  unfold wS sTry
  refine propext ⟨?_, ?_⟩
  · rintro ⟨r, h, q⟩
    cases e : s1 ρ m with
    | none => rw [e] at h; cases h
    | some z =>
      rw [e] at h
      refine ⟨z, rfl, ?_⟩
      cases z with
      | ex x ρ1 m1 => exact ⟨r, h, q⟩
      | _ => cases h; exact q
  · rintro ⟨z, e, h⟩
    rw [e]
    cases z with
    | ex x ρ1 m1 => exact h
    | _ => exact ⟨_, rfl, h⟩
end
/-! ### loops by an invariant -/
theorem forL_inv {w : Wk} {g : Mg} {s : Ms} {Q : Ou → Prop} (Inv : Nat → Ro → Hm → Prop)
    (step : ∀ i ρ m, i < w.n → Inv i ρ m → ∀ I : Ro → Hm → Prop, (∀ ρ m, Inv (i + 1) ρ m → I ρ m) → ∃ d, w.at_ i m = some d ∧ wG (g d ρ m) (nxK (kSq s (lpK I Q)) noS))
    (done : ∀ ρ m, Inv w.n ρ m → w.fin m = true ∧ Q (.nx ρ m)) : ∀ k i ρ m, i + k = w.n → Inv i ρ m → ∃ o, forL w g s k i ρ m = some o ∧ Q o
  | 0, i, ρ, m, h, inv => by
    have : i = w.n := by omega
    subst this
    obtain ⟨h1, h2⟩ := done ρ m inv
    exact ⟨_, by simp [forL, h1], h2⟩
  | k + 1, i, ρ, m, h, inv => by
    obtain ⟨d, h1, ⟨ρ1, m1⟩, h2, o, h3, h4⟩ := step i ρ m (by omega) inv _ (fun _ _ z => z)
    simp only at h3
    simp only [forL, h1, h2, h3]
    cases o with
    | nx ρ2 m2 => exact forL_inv Inv step done k (i + 1) ρ2 m2 (by omega) h4
    | ct ρ2 m2 => exact forL_inv Inv step done k (i + 1) ρ2 m2 (by omega) h4
    | bk ρ2 m2 => exact ⟨_, rfl, h4⟩
    | rt d m2 => exact ⟨_, rfl, h4⟩
    | ex x ρ2 m2 => exact ⟨_, rfl, h4⟩
@[simp] theorem kFor_ {g : Mg} {w : Wk} : kFor g s1 ρ QS w m = wI w g s1 ρ m QS := rfl
@[simp] theorem wS_for {it : Mi_} {g : Mg} : wS (sFor it g s1) ρ m QS = wE it ρ m (okS ρ (kFor g s1 ρ QS) QS) := w_bndS fun d m => Iff.rfl
theorem wI_inv {w : Wk} {g : Mg} {s : Ms} {ρ : Ro} {m : Hm} {Q : Ou → Prop} (Inv : Nat → Ro → Hm → Prop) (h0 : Inv 0 ρ m)
    (step : ∀ i ρ m, i < w.n → Inv i ρ m → ∀ I : Ro → Hm → Prop, (∀ ρ m, Inv (i + 1) ρ m → I ρ m) → ∃ d, w.at_ i m = some d ∧ wG (g d ρ m) (nxK (kSq s (lpK I Q)) noS))
    (done : ∀ ρ m, Inv w.n ρ m → w.fin m = true ∧ Q (.nx ρ m)) : wI w g s ρ m Q := forL_inv Inv step done w.n 0 ρ m (by simp) h0
/-! ### comprehensions -/
theorem lcL_inv {w : Wk} {g : Mg} {t : Mv Bool} {e : Mv D} {ρ : Ro} {Q : List D → Hm → Prop} (Inv : Nat → List D → Hm → Prop)
    (step : ∀ i acc m, i < w.n → Inv i acc m → ∀ I : List D → Hm → Prop, (∀ acc m, Inv (i + 1) acc m → I acc m) → ∃ d, w.at_ i m = some d ∧ wG (g d ρ m) (nxK (kLt t e I acc) noS))
    (done : ∀ acc m, Inv w.n acc m → w.fin m = true ∧ Q acc m) : ∀ k i acc m, i + k = w.n → Inv i acc m → ∃ z, lcL w g t e ρ k i m acc = some z ∧ Q z.1 z.2
  | 0, i, acc, m, h, inv => by
    have : i = w.n := by omega
    subst this
    obtain ⟨h1, h2⟩ := done acc m inv
    exact ⟨_, by simp [lcL, h1]; rfl, h2⟩
  | k + 1, i, acc, m, h, inv => by
    obtain ⟨d, h1, ⟨ρ1, m1⟩, h2, r, h3, h4⟩ := step i acc m (by omega) inv _ (fun _ _ z => z)
    simp only at h3
    simp only [lcL, h1, h2, h3]
    cases r with
    | ex x m2 => exact h4.elim
    | ok b m2 =>
      cases b with
      | false =>
        have h4 : Inv (i + 1) acc m2 := by simpa [kLi, iteL] using h4
        exact lcL_inv Inv step done k (i + 1) acc m2 (by omega) h4
      | true =>
        have h4 : wE e ρ1 m2 (okK (kLa (Inv (i + 1)) acc) (noK (α := D))) := by simpa [kLi, iteL] using h4
        obtain ⟨r, h5, h6⟩ := h4
        cases r with
        | ex x m3 => exact h6.elim
        | ok y m3 =>
          simp only [h5]
          rw [if_pos h6.1]
          exact lcL_inv Inv step done k (i + 1) _ m3 (by omega) h6.2
@[simp] theorem kLa_ {I : List D → Hm → Prop} : kLa I ds y m = (ds.length < sizeLine ∧ I (ds ++ [y]) m) := rfl
@[simp] theorem iteL_t {I : List D → Hm → Prop} : iteL true a ρ I ds m = wE a ρ m (okK (kLa I ds) (noK (α := D))) := if_pos rfl
@[simp] theorem iteL_f {I : List D → Hm → Prop} : iteL false a ρ I ds m = I ds m := if_neg Bool.false_ne_true
@[simp] theorem kLi_ {I : List D → Hm → Prop} {k : Bool} : kLi a ρ I ds k m = iteL k a ρ I ds m := rfl
@[simp] theorem kLt_ {I : List D → Hm → Prop} : kLt t a I ds ρ m = wE t ρ m (okK (kLi a ρ I ds) (noK (α := Bool))) := rfl
@[simp] theorem kLe_ : kLe Q ds m = Q (.ok (.ref m.length) (m ++ [.lst ds])) := rfl
@[simp] theorem kLc_ {g : Mg} {w : Wk} {vs : List Nat} : kLc g t a vs ρ Q w m = wL w g t a (wipeM ρ vs) m [] (kLe Q) := rfl
@[simp] theorem wE_lc {it : Mi_} {g : Mg} {vs : List Nat} : wE (eLc it g t a vs) ρ m Q = wE it ρ m (okK (kLc g t a vs ρ Q) Q) := w_bnd fun w m1 => by
  constructor
  · rintro ⟨r, h, q⟩
    cases e : lcL w g t a (wipeM ρ vs) w.n 0 m1 [] with
    | none => rw [e] at h; cases h
    | some z => rw [e] at h; cases h; exact ⟨z, e, q⟩
  · rintro ⟨z, e, q⟩; exact ⟨_, by rw [e]; rfl, q⟩
theorem wL_inv {w : Wk} {g : Mg} {t : Mv Bool} {e : Mv D} {ρ : Ro} {m : Hm} {acc : List D} {Q : List D → Hm → Prop} (Inv : Nat → List D → Hm → Prop) (h0 : Inv 0 acc m)
    (step : ∀ i acc m, i < w.n → Inv i acc m → ∀ I : List D → Hm → Prop, (∀ acc m, Inv (i + 1) acc m → I acc m) → ∃ d, w.at_ i m = some d ∧ wG (g d ρ m) (nxK (kLt t e I acc) noS))
    (done : ∀ acc m, Inv w.n acc m → w.fin m = true ∧ Q acc m) : wL w g t e ρ m acc Q := lcL_inv Inv step done w.n 0 acc m (by simp) h0
@[simp] theorem kOw_ {g1 : Mg} {vs1 : List Nat} {I : List D → Hm → Prop} {w : Wk} : kOw g1 t a vs1 ρ I ds w m = wL w g1 t a (wipeM ρ vs1) m ds I := rfl
@[simp] theorem iteO_t {it1 : Mi_} {g1 : Mg} {vs1 : List Nat} {I : List D → Hm → Prop} : iteO true it1 g1 t a vs1 ρ I ds m = wE it1 ρ m (okK (kOw g1 t a vs1 ρ I ds) (noK (α := Wk))) := if_pos rfl
@[simp] theorem iteO_f {it1 : Mi_} {g1 : Mg} {vs1 : List Nat} {I : List D → Hm → Prop} : iteO false it1 g1 t a vs1 ρ I ds m = I ds m := if_neg Bool.false_ne_true
@[simp] theorem kOi_ {it1 : Mi_} {g1 : Mg} {vs1 : List Nat} {I : List D → Hm → Prop} {k : Bool} : kOi it1 g1 t a vs1 ρ I ds k m = iteO k it1 g1 t a vs1 ρ I ds m := rfl
@[simp] theorem kOt_ {it1 : Mi_} {g1 : Mg} {vs1 : List Nat} {I : List D → Hm → Prop} : kOt u it1 g1 t a vs1 I ds ρ m = wE u ρ m (okK (kOi it1 g1 t a vs1 ρ I ds) (noK (α := Bool))) := rfl
theorem lcO_inv {w : Wk} {g : Mg} {t : Mv Bool} {it1 : Mi_} {g1 : Mg} {t1 : Mv Bool} {e : Mv D} {vs1 : List Nat} {ρ : Ro} {Q : List D → Hm → Prop} (Inv : Nat → List D → Hm → Prop)
    (step : ∀ i acc m, i < w.n → Inv i acc m → ∀ I : List D → Hm → Prop, (∀ acc m, Inv (i + 1) acc m → I acc m) → ∃ d, w.at_ i m = some d ∧ wG (g d ρ m) (nxK (kOt t it1 g1 t1 e vs1 I acc) noS))
    (done : ∀ acc m, Inv w.n acc m → w.fin m = true ∧ Q acc m) : ∀ k i acc m, i + k = w.n → Inv i acc m → ∃ z, lcO w g t it1 g1 t1 e vs1 ρ k i m acc = some z ∧ Q z.1 z.2
  | 0, i, acc, m, h, inv => by
    have : i = w.n := by omega
    subst this
    obtain ⟨h1, h2⟩ := done acc m inv
    exact ⟨_, by simp [lcO, h1]; rfl, h2⟩
  | k + 1, i, acc, m, h, inv => by
    obtain ⟨d, h1, ⟨ρ1, m1⟩, h2, r, h3, h4⟩ := step i acc m (by omega) inv _ (fun _ _ z => z)
    simp only at h3
    simp only [lcO, h1, h2, h3]
    cases r with
    | ex x m2 => exact h4.elim
    | ok b m2 =>
      cases b with
      | false =>
        have h4 : Inv (i + 1) acc m2 := by simpa [kOi, iteO] using h4
        exact lcO_inv Inv step done k (i + 1) acc m2 (by omega) h4
      | true =>
        have h4 : wE it1 ρ1 m2 (okK (kOw g1 t1 e vs1 ρ1 (Inv (i + 1)) acc) (noK (α := Wk))) := by simpa [kOi, iteO] using h4
        obtain ⟨r, h5, h6⟩ := h4
        cases r with
        | ex x m3 => exact h6.elim
        | ok w1 m3 =>
          obtain ⟨z, h7, h8⟩ := h6
          simp only [h5, h7]
          exact lcO_inv Inv step done k (i + 1) _ _ (by omega) h8
@[simp] theorem kLc2_ {g g1 : Mg} {w : Wk} {it1 : Mi_} {vs vs1 : List Nat} : kLc2 g t it1 g1 u a vs vs1 ρ Q w m = wL2 w g t it1 g1 u a vs1 (wipeM ρ vs) m (kLe Q) := rfl
@[simp] theorem wE_lc2 {it it1 : Mi_} {g g1 : Mg} {vs vs1 : List Nat} : wE (eLc2 it g t it1 g1 u a vs vs1) ρ m Q = wE it ρ m (okK (kLc2 g t it1 g1 u a vs vs1 ρ Q) Q) := w_bnd fun w m1 => by
  constructor
  · rintro ⟨r, h, q⟩
    cases e : lcO w g t it1 g1 u a vs1 (wipeM ρ vs) w.n 0 m1 [] with
    | none => rw [e] at h; cases h
    | some z => rw [e] at h; cases h; exact ⟨z, e, q⟩
  · rintro ⟨z, e, q⟩; exact ⟨_, by rw [e]; rfl, q⟩
theorem wL2_inv {w : Wk} {g : Mg} {t : Mv Bool} {it1 : Mi_} {g1 : Mg} {t1 : Mv Bool} {e : Mv D} {vs1 : List Nat} {ρ : Ro} {m : Hm} {Q : List D → Hm → Prop} (Inv : Nat → List D → Hm → Prop) (h0 : Inv 0 [] m)
    (step : ∀ i acc m, i < w.n → Inv i acc m → ∀ I : List D → Hm → Prop, (∀ acc m, Inv (i + 1) acc m → I acc m) → ∃ d, w.at_ i m = some d ∧ wG (g d ρ m) (nxK (kOt t it1 g1 t1 e vs1 I acc) noS))
    (done : ∀ acc m, Inv w.n acc m → w.fin m = true ∧ Q acc m) : wL2 w g t it1 g1 t1 e vs1 ρ m Q := lcO_inv Inv step done w.n 0 [] m (by simp) h0
/-! ### what is walked -/
@[simp] theorem sqL_ {n : Nat} : sqL (some ds) n m QW = QW (.ok (itLst n ds.length fun _ x => x) m) := propext ⟨fun ⟨_, h, q⟩ => by cases h; exact q, fun q => ⟨_, rfl, q⟩⟩
@[simp] theorem sqK_t : sqK (.tup ds) m QW = QW (.ok (itFix ds fun _ x => x) m) := rfl
@[simp] theorem sqK_f : sqK (.frl ds) m QW = QW (.ok (itFix ds fun _ x => x) m) := rfl
@[simp] theorem sqK_r {n : Nat} : sqK (.ref n) m QW = sqL (lstOf m n) n m QW := rfl
@[simp] theorem kSqI_ : kSqI QW d m = sqK d m QW := rfl
@[simp] theorem wI_seq : wE (iSeq a) ρ m QW = wE a ρ m (okK (kSqI QW) QW) := w_bnd fun d m => by
  cases d with
  | tup ds => exact one_
  | frl ds => exact one_
  | ref n =>
    constructor
    · rintro ⟨r, h, q⟩
      simp only at h
      split at h
      · rename_i xs e; cases h; exact ⟨xs, e, q⟩
      · cases h
    · rintro ⟨xs, e, q⟩; exact ⟨_, by simp only [e], q⟩
  | _ => constructor
         · rintro ⟨r, h, q⟩; cases h
         · exact fun h => h.elim
@[simp] theorem rgK_1 {j : Int} : rgK [.int j] m QW = ((-(2 ^ 62) ≤ j ∧ j < 2 ^ 62) ∧ QW (.ok (itRg 0 j.toNat) m)) := rfl
@[simp] theorem rgK_2 {i j : Int} : rgK [.int i, .int j] m QW = ((-(2 ^ 62) ≤ i ∧ i < 2 ^ 62 ∧ -(2 ^ 62) ≤ j ∧ j < 2 ^ 62) ∧ QW (.ok (itRg i (j - i).toNat) m)) := rfl
@[simp] theorem kRg_ : kRg QW ds m = rgK ds m QW := rfl
@[simp] theorem wI_range : wE (iRange la) ρ m QW = wE la ρ m (okK (kRg QW) QW) := w_bnd fun ds m => by
  constructor
  · rintro ⟨r, h, q⟩
    split at h
    · split at h
      · rename_i hj; cases h; exact ⟨hj, q⟩
      · cases h
    · split at h
      · rename_i hj; cases h; exact ⟨hj, q⟩
      · cases h
    · cases h
  · intro h
    show ∃ r, _
    unfold kRg rgK at h
    split at h
    · obtain ⟨h1, h2⟩ := h
      exact ⟨_, by simp only [h1, and_self, if_true], h2⟩
    · obtain ⟨h1, h2⟩ := h
      exact ⟨_, by simp only [h1, and_self, if_true], h2⟩
    · exact h.elim
@[simp] theorem wkK_ {w : Wk} {f : Wk → Wk} : wkK (some w) f m QW = QW (.ok (f w) m) := propext ⟨fun ⟨_, h, q⟩ => by cases h; exact q, fun q => ⟨_, rfl, q⟩⟩
@[simp] theorem kEn_ : kEn QW [d] m = wkK (wkOf m d) wkEnum m QW := propext ⟨fun ⟨_, h, q⟩ => by cases h; exact q, fun q => ⟨_, rfl, q⟩⟩
@[simp] theorem wI_enum : wE (iEnum' la) ρ m QW = wE la ρ m (okK (kEn QW) QW) := w_bnd fun ds m => by
  constructor
  · rintro ⟨r, h, q⟩
    split at h
    · rename_i d
      cases e : wkOf m d with
      | none => rw [e] at h; cases h
      | some w => rw [e] at h; cases h; exact ⟨d, rfl, w, e, q⟩
    · cases h
  · rintro ⟨d, rfl, w, e, q⟩
    exact ⟨_, by simp only [e]; rfl, q⟩
@[simp] theorem ziK_ {w w' : Wk} : ziK (some w) (some w') m QW = QW (.ok (wkZip w w') m) := propext ⟨fun ⟨_, _, h, h2, q⟩ => by cases h; cases h2; exact q, fun q => ⟨_, _, rfl, rfl, q⟩⟩
@[simp] theorem kZi_ : kZi QW [x, y] m = ziK (wkOf m x) (wkOf m y) m QW := propext ⟨fun ⟨_, _, h, q⟩ => by cases h; exact q, fun q => ⟨_, _, rfl, q⟩⟩
@[simp] theorem wI_zip : wE (iZip' la) ρ m QW = wE la ρ m (okK (kZi QW) QW) := w_bnd fun ds m => by
  constructor
  · rintro ⟨r, h, q⟩
    split at h
    · rename_i d e
      split at h
      · rename_i u w e1 e2; cases h; exact ⟨d, e, rfl, u, w, e1, e2, q⟩
      · cases h
    · cases h
  · rintro ⟨d, e, rfl, u, w, e1, e2, q⟩
    exact ⟨_, by simp only [e1, e2], q⟩
/-! ### methods -/
theorem lstOf_get {k : Nat} {xs : List D} (h : lstOf m k = some xs) : m[k]? = some (.lst xs) := by
  unfold lstOf at h
  split at h
  · rename_i ys e; cases h; exact e
  · cases h
theorem lstOf_of {n : Nat} {xs : List D} (h : m[n]? = some (.lst xs)) : lstOf m n = some xs := by unfold lstOf; rw [h]
theorem w_mt2 {f : Met} {k : Nat} (ds : List D) (m2 : Hm) : (∃ r, (match m2[k]? with
      | some (.lst xs) => (f k xs ds m2).map fun p => Rs.ok p.1 p.2
      | _ => none) = some r ∧ Q r) ↔ kMt2 f k Q ds m2 := by
  constructor
  · rintro ⟨r, h, q⟩
    split at h
    · rename_i ys hy; exact ⟨ys, lstOf_of hy, w_map.mp ⟨r, h, q⟩⟩
    · cases h
  · rintro ⟨ys, hy, q⟩
    obtain ⟨r, h, q⟩ := w_map.mpr q
    exact ⟨r, by simp only [lstOf_get hy]; exact h, q⟩
@[simp] theorem wE_mt {f : Met} : wE (eMt f a la) ρ m Q = wE a ρ m (okK (kMt f la ρ Q) Q) := w_bnd fun d m1 => by
  constructor
  · rintro ⟨r, h, q⟩
    split at h
    · rename_i k
      split at h
      · rename_i xs hx
        exact ⟨k, xs, rfl, lstOf_of hx, (iff_of_eq (w_bnd (k' := kMt2 f k Q) fun ds m2 => w_mt2 ds m2)).mp ⟨r, h, q⟩⟩
      · cases h
    · cases h
  · rintro ⟨k, xs, rfl, hx, q⟩
    have q2 := (iff_of_eq (w_bnd (a := la ρ m1) (k' := kMt2 f k Q) fun ds m2 => w_mt2 (f := f) (k := k) (Q := Q) ds m2)).mpr q
    obtain ⟨r, h, q3⟩ := q2
    exact ⟨r, by simp only [lstOf_get hx]; exact h, q3⟩
@[simp] theorem dkIn_ {kvs : List (Key × D)} {f : List (Key × D) → List D} : dkIn (some (.dK kvs)) f m Q = Q (.ok (.ref m.length) (m ++ [.lst (f kvs)])) := propext ⟨fun ⟨_, h, q⟩ => by cases h; exact q, fun q => ⟨_, rfl, q⟩⟩
@[simp] theorem kLk_ {n : Nat} {f : List (Key × D) → List D} : kLk f Q (.ref n) m = dkIn (m[n]?) f m Q := propext ⟨fun ⟨_, h, q⟩ => by cases h; exact q, fun q => ⟨_, rfl, q⟩⟩
@[simp] theorem wE_lsK {f : List (Key × D) → List D} : wE (lsK f a) ρ m Q = wE a ρ m (okK (kLk f Q) Q) := w_bnd fun d m1 => by
  constructor
  · rintro ⟨r, h, q⟩
    split at h
    · rename_i n
      split at h
      · rename_i kvs e; cases h; exact ⟨n, rfl, kvs, e, q⟩
      · cases h
    · cases h
  · rintro ⟨n, rfl, kvs, e, q⟩
    exact ⟨_, by simp only [e], q⟩
end
end Mi
namespace Mi
open PySem PySem.Spec PyProof.Rows L2
/-- both ways of an if meet again -/
theorem ite_join {k : Bool} {s1 s2 : Ms} {ρ : Ro} {m : Hm} {K : Ro → Hm → Prop} {Q : Ou → Prop} (P : Ro → Hm → Prop) (h1 : ∀ P' : Ro → Hm → Prop, (∀ ρ m, P ρ m → P' ρ m) → k = true → wS s1 ρ m (nxK P' Q)) (h2 : ∀ P' : Ro → Hm → Prop, (∀ ρ m, P ρ m → P' ρ m) → k = false → wS s2 ρ m (nxK P' Q)) (h : ∀ ρ m, P ρ m → K ρ m) : iteS k s1 s2 ρ m (nxK K Q) := by
  cases k with
  | true => rw [iteS_t]; exact h1 K h rfl
  | false => rw [iteS_f]; exact h2 K h rfl
/-- .. behind any statement -/
theorem seq_cut {s : Ms} {ρ : Ro} {m : Hm} {K : Ro → Hm → Prop} {Q : Ou → Prop} (P : Ro → Hm → Prop) (h1 : ∀ P' : Ro → Hm → Prop, (∀ ρ m, P ρ m → P' ρ m) → wS s ρ m (nxK P' Q)) (h : ∀ ρ m, P ρ m → K ρ m) : wS s ρ m (nxK K Q) := h1 K h
end Mi
namespace Mi
open PySem PySem.Spec PyProof.Rows L2
/-! ### a loop turn by turn -/
def wIx (w : Wk) (g : Mg) (s : Ms) (k i : Nat) (Q : Ou → Prop) (ρ : Ro) (m : Hm) : Prop := ∃ o, forL w g s k i ρ m = some o ∧ Q o
def atK (o : Option D) (w : Wk) (g : Mg) (s : Ms) (k i : Nat) (Q : Ou → Prop) (ρ : Ro) (m : Hm) : Prop := ∃ d, o = some d ∧ wG (g d ρ m) (nxK (kSq s (lpK (wIx w g s k (i + 1) Q) Q)) noS)
section
variable {w : Wk} {g : Mg} {s : Ms} {k i : Nat} {Q : Ou → Prop} {ρ : Ro} {m : Hm} {d : D}
theorem wI_ix : wI w g s ρ m Q = wIx w g s w.n 0 Q ρ m := rfl
@[simp] theorem atK_ : atK (some d) w g s k i Q ρ m = wG (g d ρ m) (nxK (kSq s (lpK (wIx w g s k (i + 1) Q) Q)) noS) := propext ⟨fun ⟨_, h, q⟩ => by cases h; exact q, fun q => ⟨_, rfl, q⟩⟩
@[simp] theorem wIx_0 : wIx w g s 0 i Q ρ m = (w.fin m = true ∧ Q (.nx ρ m)) := by
  unfold wIx
  simp only [forL]
  refine propext ⟨?_, ?_⟩
  · rintro ⟨o, h, q⟩
    split at h
    · rename_i e; cases h; exact ⟨e, q⟩
    · cases h
  · rintro ⟨h, q⟩; exact ⟨_, by rw [if_pos h], q⟩
@[simp] theorem wIx_s : wIx w g s (k + 1) i Q ρ m = atK (w.at_ i m) w g s k i Q ρ m := by
  unfold wIx atK
  simp only [forL]
  refine propext ⟨?_, ?_⟩
  · rintro ⟨o, h, q⟩
    split at h
    · cases h
    · rename_i d e
      refine ⟨d, e, ?_⟩
      split at h
      · cases h
      · rename_i ρ1 m1 e1
        refine ⟨(ρ1, m1), e1, ?_⟩
        cases e2 : s ρ1 m1 with
        | none => rw [e2] at h; cases h
        | some z =>
          rw [e2] at h
          refine ⟨z, e2, ?_⟩
          cases z with
          | nx ρ2 m2 => exact ⟨o, h, q⟩
          | ct ρ2 m2 => exact ⟨o, h, q⟩
          | bk ρ2 m2 => cases h; exact q
          | rt d m2 => cases h; exact q
          | ex x ρ2 m2 => cases h; exact q
  · rintro ⟨d, e, ⟨ρ1, m1⟩, e1, z, e2, h⟩
    simp only at e2
    simp only [e, e1, e2]
    cases z with
    | nx ρ2 m2 => exact h
    | ct ρ2 m2 => exact h
    | bk ρ2 m2 => exact ⟨_, rfl, h⟩
    | rt d m2 => exact ⟨_, rfl, h⟩
    | ex x ρ2 m2 => exact ⟨_, rfl, h⟩
end
end Mi
namespace Mi
open PySem PySem.Spec PyProof.Rows L2
open Builtin.Int
/-! ## operations on ints -/
section
variable {i j : Int} {m : Hm} {Q : Rs D → Prop}
@[simp] theorem op_add_i : opAdd (.int i) (.int j) m = some (.int (i + j), m) := rfl
@[simp] theorem op_sub_i : opSub (.int i) (.int j) m = some (.int (i - j), m) := rfl
@[simp] theorem op_mul_i : wO (opMul (.int i) (.int j) m) Q ↔ intBits i + intBits j ≤ 134217728 ∧ Q (.ok (.int (i * j)) m) := wO_if
@[simp] theorem op_fdiv_i : wO (opFdiv (.int i) (.int j) m) Q ↔ (0 < j ∧ j.natAbs.log2 < 9000) ∧ Q (.ok (.int (i / j)) m) := by
  unfold opFdiv opII
  by_cases h : 0 < j ∧ j.natAbs.log2 < 9000 <;> simp [h, wO]
@[simp] theorem op_mod_i : wO (opMod (.int i) (.int j) m) Q ↔ j ≠ 0 ∧ Q (.ok (.int (i.fmod j)) m) := by
  unfold opMod opII
  by_cases h : j = 0 <;> simp [h, wO]
@[simp] theorem op_pow_i : wO (opPow (.int i) (.int j) m) Q ↔ (0 ≤ j ∧ j ≤ 1000000 ∧ i.natAbs < 2 ^ 64) ∧ Q (.ok (.int (i ^ j.toNat)) m) := by
  unfold opPow opII
  by_cases h : 0 ≤ j ∧ j ≤ 1000000 ∧ i.natAbs < 2 ^ 64
  · simp only [h, if_true]; simp [wO]
  · simp only [h, if_false]; simp [wO]
@[simp] theorem op_and_i : opAnd (.int i) (.int j) m = some (.int (Builtin.bitAnd i j), m) := rfl
@[simp] theorem op_or_i : opOr (.int i) (.int j) m = some (.int (Builtin.bitOr i j), m) := rfl
@[simp] theorem op_lt_i : opLt (.int i) (.int j) m = some (.bl (decide (i < j)), m) := rfl
@[simp] theorem op_le_i : opLe (.int i) (.int j) m = some (.bl (decide (i ≤ j)), m) := rfl
@[simp] theorem op_gt_i : opGt (.int i) (.int j) m = some (.bl (decide (j < i)), m) := rfl
@[simp] theorem op_ge_i : opGe (.int i) (.int j) m = some (.bl (decide (j ≤ i)), m) := rfl
@[simp] theorem op_eq_i : opEq (.int i) (.int j) m = some (.bl (decide (i = j)), m) := by
  unfold opEq
  simp only [snap]
  by_cases h : i = j <;> simp [PyData.eqv, h]
@[simp] theorem op_ne_i : opNe (.int i) (.int j) m = some (.bl (!decide (i = j)), m) := by
  unfold opNe
  simp only [snap]
  by_cases h : i = j <;> simp [PyData.eqv, h]
@[simp] theorem op_is_n {x : D} : opIs x .non m = some (.bl (isNon x), m) := rfl
@[simp] theorem op_isN_n {x : D} : opIsNot x .non m = some (.bl (!isNon x), m) := rfl
@[simp] theorem b_int_i : bInt [.int i] m = some (.int i, m) := rfl
@[simp] theorem b_int_b {k : Bool} : bInt [.bl k] m = some (.int (if k then 1 else 0), m) := rfl
@[simp] theorem b_min_i : bMin2 [.int i, .int j] m = some (.int (if j < i then j else i), m) := rfl
@[simp] theorem b_max_i : bMax2 [.int i, .int j] m = some (.int (if j > i then j else i), m) := rfl
@[simp] theorem b_abs_i : bAbs [.int i] m = some (.int (if i < 0 then -i else i), m) := rfl
def lnK (o : Option Nat) (m : Hm) (Q : Rs D → Prop) : Prop := ∃ n, o = some n ∧ Q (.ok (.int (n : Int)) m)
def liK (o : Option (List D)) (m : Hm) (Q : Rs D → Prop) : Prop := ∃ xs, o = some xs ∧ Q (.ok (.ref m.length) (m ++ [.lst xs]))
def tuK (o : Option (List D)) (m : Hm) (Q : Rs D → Prop) : Prop := ∃ xs, o = some xs ∧ Q (.ok (.tup xs) m)
def blK (o : Option (List Bool)) (f : List Bool → Bool) (m : Hm) (Q : Rs D → Prop) : Prop := ∃ ks, o = some ks ∧ Q (.ok (.bl (f ks)) m)
@[simp] theorem lnK_ {n : Nat} : lnK (some n) m Q = Q (.ok (.int (n : Int)) m) := propext ⟨fun ⟨_, h, q⟩ => by cases h; exact q, fun q => ⟨_, rfl, q⟩⟩
@[simp] theorem liK_ {xs : List D} : liK (some xs) m Q = Q (.ok (.ref m.length) (m ++ [.lst xs])) := propext ⟨fun ⟨_, h, q⟩ => by cases h; exact q, fun q => ⟨_, rfl, q⟩⟩
@[simp] theorem tuK_ {xs : List D} : tuK (some xs) m Q = Q (.ok (.tup xs) m) := propext ⟨fun ⟨_, h, q⟩ => by cases h; exact q, fun q => ⟨_, rfl, q⟩⟩
@[simp] theorem blK_ {xs : List Bool} {f : List Bool → Bool} : blK (some xs) f m Q = Q (.ok (.bl (f xs)) m) := propext ⟨fun ⟨_, h, q⟩ => by cases h; exact q, fun q => ⟨_, rfl, q⟩⟩
theorem wO_mp {α : Type} {o : Option α} {g : α → D × Hm} : wO (o.map g) Q ↔ ∃ x, o = some x ∧ Q (.ok (g x).1 (g x).2) := by
  unfold wO
  constructor
  · rintro ⟨p, h, q⟩
    cases o with
    | none => cases h
    | some x => cases h; exact ⟨x, rfl, q⟩
  · rintro ⟨x, rfl, q⟩; exact ⟨_, rfl, q⟩
@[simp] theorem wO_ixA {x y : D} : wO (opIxA x y m) Q = oK (ixA m x y) m Q := propext wO_mp
@[simp] theorem b_len_D {x : D} : wO (bLen [x] m) Q = lnK (lenD m x) m Q := by
  unfold bLen wO lnK
  rcases h : lenD m x with _ | n <;> simp [h]
@[simp] theorem b_list_D {x : D} : wO (bList [x] m) Q = liK (seqOf m x) m Q := propext wO_mp
@[simp] theorem b_tuple_D {x : D} : wO (bTuple [x] m) Q = tuK (seqOf m x) m Q := propext wO_mp
@[simp] theorem b_all_D {n : Nat} : wO (bAll [.ref n] m) Q = blK ((lstOf m n).bind blsOf) (fun ks => ks.all id) m Q := propext wO_mp
@[simp] theorem b_any_D {n : Nat} : wO (bAny [.ref n] m) Q = blK ((lstOf m n).bind blsOf) (fun ks => ks.any id) m Q := propext wO_mp
end
section
variable {m : Hm} {n k : Nat} {xs : List D} {i : Int} {d v : D}
theorem ixA_lst (h : m[n]? = some (.lst xs)) : ixA m (.ref n) (.int i) = atI xs i := by
  have e1 : ixD m (.ref n) (.int i) = atI xs i := by
    show (lstOf m n).bind (fun xs => atI xs i) = _
    rw [lstOf_of h]; rfl
  have e2 : dctD m n (.int i) = none := by unfold dctD; rw [h]
  unfold ixA
  rw [e1]
  cases atI xs i with
  | some d => rfl
  | none => exact e2
theorem ixA_tup : ixA m (.tup xs) (.int i) = atI xs i := by
  have e1 : ixD m (.tup xs) (.int i) = atI xs i := rfl
  unfold ixA
  rw [e1]
  cases atI xs i <;> rfl
theorem ixN_nat {l k : Nat} (h : k < l) : ixN l (k : Int) = some k := by
  unfold ixN
  rw [if_pos (by omega)]
  simp [h]
theorem atI_nat (h : xs[k]? = some d) : atI xs (k : Int) = some d := by
  have hk := (List.getElem?_eq_some_iff.mp h).1
  unfold atI
  rw [ixN_nat hk]
  exact h
theorem ixA_nat (h : m[n]? = some (.lst xs)) (hd : xs[k]? = some d) : ixA m (.ref n) (.int (k : Int)) = some d := by rw [ixA_lst h]; exact atI_nat hd
theorem setD_lst (h : m[n]? = some (.lst xs)) : setD m (.ref n) (.int i) v = (ixN xs.length i).map fun j => m.set n (.lst (xs.set j v)) := by
  unfold setD
  simp only [h]
theorem lenD_lst (h : m[n]? = some (.lst xs)) : lenD m (.ref n) = some xs.length := by
  show (lstOf m n).map (·.length) = _
  rw [lstOf_of h]; rfl
theorem get_lt {o : O} (h : m[n]? = some o) : n < m.length := (List.getElem?_eq_some_iff.mp h).1
end
theorem bits_of {x : Int} {n : Nat} (h : x.natAbs < 2 ^ n) : intBits x ≤ n := intBits_le_iff.mpr h
theorem bits_mono {x : Int} {n k : Nat} (h : intBits x ≤ n) (hk : n ≤ k) : intBits x ≤ k := Nat.le_trans h hk
theorem log2_of {x : Int} {n : Nat} (h : intBits x ≤ n) (hn : n ≤ 8999) : x.natAbs.log2 < 9000 := by
  have h1 := intBits_le_iff.mp h
  by_cases hx : x.natAbs = 0
  · rw [hx]; decide
  · have := (Nat.log2_lt hx).mpr h1
    omega
/-! ## reading and writing objects, by simp -/
def ixO (o : Option O) (i : Int) : Option D := match o with
  | some (.lst xs) => atI xs i
  | some (.dK kvs) => getKD kvs (.inl i)
  | some (.lK kvs) => getKD kvs (.inl i)
  | _ => none
def ixOs (o : Option O) (i : Str) : Option D := match o with
  | some (.dK kvs) => getKD kvs (.inr i)
  | some (.lK kvs) => getKD kvs (.inr i)
  | _ => none
def lsO (o : Option O) : Option (List D) := match o with
  | some (.lst xs) => some xs
  | _ => none
def setO (o : Option O) (m : Hm) (n : Nat) (k : Int) (v : D) : Option Hm := match o with
  | some (.lst xs) => (ixN xs.length k).map fun j => m.set n (.lst (xs.set j v))
  | some (.dK kvs) => if kvs.length < sizeLine then some (m.set n (.dK (putKD kvs (.inl k) v))) else none
  | _ => none
def tagO (o : Option O) : Option Tg := match o with
  | some (.lst _) => some .lst
  | some (.dK _) => some .dct
  | some (.dT _) => some .dct
  | some (.lK _) => some .dct
  | some (.ins c _) => some (.own c)
  | some (.xc c _) => some (.exc c)
  | _ => none
section
variable {m : Hm} {n k : Nat} {xs : List D} {kvs : List (Key × D)} {i : Int} {z : Str} {d v : D} {c : Nat}
@[simp] theorem ixO_lst : ixO (some (.lst xs)) i = atI xs i := rfl
@[simp] theorem ixO_dK : ixO (some (.dK kvs)) i = getKD kvs (.inl i) := rfl
@[simp] theorem ixO_lK : ixO (some (.lK kvs)) i = getKD kvs (.inl i) := rfl
@[simp] theorem ixOs_dK : ixOs (some (.dK kvs)) z = getKD kvs (.inr z) := rfl
@[simp] theorem ixOs_lK : ixOs (some (.lK kvs)) z = getKD kvs (.inr z) := rfl
@[simp] theorem lsO_lst : lsO (some (.lst xs)) = some xs := rfl
@[simp] theorem setO_lst : setO (some (.lst xs)) m n i v = (ixN xs.length i).map fun j => m.set n (.lst (xs.set j v)) := rfl
@[simp] theorem setO_dK : setO (some (.dK kvs)) m n i v = if kvs.length < sizeLine then some (m.set n (.dK (putKD kvs (.inl i) v))) else none := rfl
@[simp] theorem tagO_lst : tagO (some (.lst xs)) = some .lst := rfl
@[simp] theorem tagO_dK : tagO (some (.dK kvs)) = some .dct := rfl
@[simp] theorem tagO_lK : tagO (some (.lK kvs)) = some .dct := rfl
@[simp] theorem lstOf_n : lstOf m n = lsO (m[n]?) := by
  unfold lstOf lsO
  cases m[n]? with
  | none => rfl
  | some o => cases o <;> rfl
@[simp] theorem ixA_n : ixA m (.ref n) (.int i) = ixO (m[n]?) i := by
  have e1 : ixD m (.ref n) (.int i) = (lstOf m n).bind fun xs => atI xs i := rfl
  unfold ixA
  rw [e1, lstOf_n]
  cases h : m[n]? with
  | none => simp [lsO, ixO, dctD, h]
  | some o =>
    cases o with
    | lst xs =>
      simp only [lsO, Option.bind_some, ixO]
      cases atI xs i with
      | some d => rfl
      | none => simp [dctD, h]
    | _ => simp [lsO, ixO, dctD, h, keyOf, keyT]
@[simp] theorem ixA_s : ixA m (.ref n) (.str z) = ixOs (m[n]?) z := by
  have e1 : ixD m (.ref n) (.str z) = none := rfl
  unfold ixA
  rw [e1]
  cases h : m[n]? with
  | none => simp [ixOs, dctD, h]
  | some o => cases o <;> simp [ixOs, dctD, h, keyOf, keyT]
@[simp] theorem ixA_t : ixA m (.tup xs) (.int i) = atI xs i := ixA_tup
@[simp] theorem lenD_n : lenD m (.ref n) = (lsO (m[n]?)).map (·.length) := by
  show (lstOf m n).map (·.length) = _
  rw [lstOf_n]
@[simp] theorem lenD_t : lenD m (.tup xs) = some xs.length := rfl
@[simp] theorem seqOf_n : seqOf m (.ref n) = lsO (m[n]?) := by
  show lstOf m n = _
  rw [lstOf_n]
@[simp] theorem seqOf_t : seqOf m (.tup xs) = some xs := rfl
@[simp] theorem tagD_n : tagD m (.ref n) = tagO (m[n]?) := by
  unfold tagO
  show (match m[n]? with
    | some (.lst _) => some Tg.lst
    | some (.dK _) => some .dct
    | some (.dT _) => some .dct
    | some (.lK _) => some .dct
    | some (.ins c _) => some (.own c)
    | some (.xc c _) => some (.exc c)
    | some (.lT _) => none
    | none => none) = _
  cases m[n]? with
  | none => rfl
  | some o => cases o <;> rfl
@[simp] theorem tagD_non : tagD m .non = some .non := rfl
@[simp] theorem tagD_bl {b : Bool} : tagD m (.bl b) = some .bl := rfl
@[simp] theorem tagD_int : tagD m (.int i) = some .int := rfl
@[simp] theorem tagD_str : tagD m (.str z) = some .str := rfl
@[simp] theorem tagD_tup : tagD m (.tup xs) = some .tup := rfl
@[simp] theorem truD_bl {b : Bool} : truD m (.bl b) = some b := rfl
@[simp] theorem truD_int : truD m (.int i) = some (i != 0) := rfl
@[simp] theorem truD_non : truD m .non = some false := rfl
@[simp] theorem truD_tup : truD m (.tup xs) = some (!xs.isEmpty) := rfl
@[simp] theorem truD_n : truD m (.ref n) = (lsO (m[n]?)).map fun xs => !xs.isEmpty := by
  show (lstOf m n).map _ = _
  rw [lstOf_n]
@[simp] theorem setD_n : setD m (.ref n) (.int i) v = setO (m[n]?) m n i v := by
  unfold setO setD
  cases h : m[n]? with
  | none => simp [h]
  | some o => cases o <;> simp [h, keyOf, keyT]
@[simp] theorem wkOf_n : wkOf m (.ref n) = (lsO (m[n]?)).map fun xs => itLst n xs.length fun _ x => x := by
  show (lstOf m n).map _ = _
  rw [lstOf_n]
@[simp] theorem wkOf_t : wkOf m (.tup xs) = some (itFix xs fun _ x => x) := rfl
theorem ixN_cast {l : Nat} : ixN l ((k : Nat) : Int) = if k < l then some k else none := by
  unfold ixN
  simp
@[simp] theorem atI_cast : atI xs ((k : Nat) : Int) = xs[k]? := by
  unfold atI
  rw [ixN_cast]
  by_cases h : k < xs.length
  · simp [h]
  · simp [h, List.getElem?_eq_none (Nat.le_of_not_lt h)]
@[simp] theorem atI_num : atI xs (no_index (OfNat.ofNat k : Int)) = xs[(OfNat.ofNat k : Nat)]? := atI_cast (k := k)
@[simp] theorem ixN_num {l : Nat} : ixN l (no_index (OfNat.ofNat k : Int)) = if (OfNat.ofNat k : Nat) < l then some (OfNat.ofNat k) else none := ixN_cast (k := k)
end
theorem get_set {m : Hm} {s : Nat} {o : O} (h : m[s]? = some o) (x : O) : (m.set s x)[s]? = some x := by
  rw [List.getElem?_set_self (get_lt h)]
theorem get_set_ne {m : Hm} {s c : Nat} (h : s ≠ c) (x : O) : (m.set s x)[c]? = m[c]? := List.getElem?_set_ne h
theorem get_app {m t : Hm} {s : Nat} {o : O} (h : m[s]? = some o) : (m ++ t)[s]? = some o := by
  rw [List.getElem?_append_left (get_lt h)]; exact h
/-! ## frames -/
/-- all but the object at s stays, more may stand behind -/
structure Frs (s : Nat) (m m' : Hm) : Prop where
  len : m.length ≤ m'.length
  get : ∀ (n : Nat) (o : O), n ≠ s → m[n]? = some o → m'[n]? = some o
theorem Frs.refl (s : Nat) (m : Hm) : Frs s m m := ⟨Nat.le_refl _, fun _ _ _ h => h⟩
theorem Frs.trans {s : Nat} {a b c : Hm} (x : Frs s a b) (y : Frs s b c) : Frs s a c := ⟨Nat.le_trans x.len y.len, fun n o h q => y.get n o h (x.get n o h q)⟩
theorem Frs.set {s : Nat} {m : Hm} {o : O} : Frs s m (m.set s o) := ⟨by simp, fun n o h q => by rw [List.getElem?_set_ne (Ne.symm h)]; exact q⟩
theorem Frs.app {s : Nat} {m t : Hm} : Frs s m (m ++ t) := ⟨by simp, fun n o _ q => by rw [List.getElem?_append_left (get_lt q)]; exact q⟩
/-- all stays -/
structure Gx (m m' : Hm) : Prop where
  len : m.length ≤ m'.length
  get : ∀ (n : Nat) (o : O), m[n]? = some o → m'[n]? = some o
theorem Gx.refl (m : Hm) : Gx m m := ⟨Nat.le_refl _, fun _ _ h => h⟩
theorem Gx.trans {a b c : Hm} (x : Gx a b) (y : Gx b c) : Gx a c := ⟨Nat.le_trans x.len y.len, fun n o q => y.get n o (x.get n o q)⟩
theorem Gx.app {m t : Hm} : Gx m (m ++ t) := ⟨by simp, fun n o q => by rw [List.getElem?_append_left (get_lt q)]; exact q⟩
theorem Gx.fr {s : Nat} {m m' : Hm} (x : Gx m m') : Frs s m m' := ⟨x.len, fun n o _ q => x.get n o q⟩
/-! ## the store -/
abbrev MM : Int := 2305843009213693951
structure St (s c : Nat) (L : Nat) (m : Hm) : Prop where
  ex : ∃ (cells : List Int) (i1 : Nat) (i2 i3 i4 : Int), m[s]? = some (.lst [.ref c, .int i1, .int i2, .int i3, .int i4]) ∧ m[c]? = some (.lst (cells.map .int)) ∧ s ≠ c ∧ (∀ z ∈ cells, intBits z ≤ 1048576) ∧
    0 ≤ i2 ∧ intBits i2 ≤ 1048576 ∧ 0 ≤ i3 ∧ i3 < MM ∧ 0 ≤ i4 ∧ i4 ≤ L
theorem St.gx {s c L : Nat} {m m' : Hm} (h : St s c L m) (g : Gx m m') : St s c L m' := by
  obtain ⟨cells, i1, i2, i3, i4, h1, h2, h3⟩ := h.ex
  exact ⟨cells, i1, i2, i3, i4, g.get _ _ h1, g.get _ _ h2, h3⟩
theorem St.up {s c L L' : Nat} {m : Hm} (h : St s c L m) (hl : L ≤ L') : St s c L' m := by
  obtain ⟨cells, i1, i2, i3, i4, h1, h2, h3, h4, h5, h6, h7, h8, h9, h10⟩ := h.ex
  exact ⟨cells, i1, i2, i3, i4, h1, h2, h3, h4, h5, h6, h7, h8, h9, by omega⟩
/-! ## data as trees -/
inductive Pd where
  | non | bl (b : Bool) | int (i : Int) | str (s : Str) | lst (xs : List Pd) | tup (xs : List Pd) | dct (kvs : List (Key × Pd))
mutual
inductive Rep (A : Nat → Prop) (m : Hm) : D → Pd → Prop
  | non : Rep A m .non .non
  | bl (b : Bool) : Rep A m (.bl b) (.bl b)
  | int (i : Int) : Rep A m (.int i) (.int i)
  | str (x : Str) : Rep A m (.str x) (.str x)
  | tup {ds : List D} {ps : List Pd} : Reps A m ds ps → Rep A m (.tup ds) (.tup ps)
  | lst {n : Nat} {ds : List D} {ps : List Pd} : A n → m[n]? = some (.lst ds) → Reps A m ds ps → Rep A m (.ref n) (.lst ps)
  | dct {n : Nat} {kvs : List (Key × D)} {qs : List (Key × Pd)} : A n → m[n]? = some (.dK kvs) → RepK A m kvs qs → Rep A m (.ref n) (.dct qs)
inductive Reps (A : Nat → Prop) (m : Hm) : List D → List Pd → Prop
  | nil : Reps A m [] []
  | cons {d : D} {ds : List D} {p : Pd} {ps : List Pd} : Rep A m d p → Reps A m ds ps → Reps A m (d :: ds) (p :: ps)
inductive RepK (A : Nat → Prop) (m : Hm) : List (Key × D) → List (Key × Pd) → Prop
  | nil : RepK A m [] []
  | cons {k : Key} {d : D} {ds : List (Key × D)} {p : Pd} {ps : List (Key × Pd)} : Rep A m d p → RepK A m ds ps → RepK A m ((k, d) :: ds) ((k, p) :: ps)
end
section
variable {A B : Nat → Prop} {m m' : Hm}
mutual
theorem Rep.to (h : ∀ n o, A n → m[n]? = some o → B n ∧ m'[n]? = some o) : ∀ {d : D} {p : Pd}, Rep A m d p → Rep B m' d p
  | _, _, .non => .non
  | _, _, .bl b => .bl b
  | _, _, .int i => .int i
  | _, _, .str x => .str x
  | _, _, .tup r => .tup (Reps.to h r)
  | _, _, .lst a e r => .lst (h _ _ a e).1 (h _ _ a e).2 (Reps.to h r)
  | _, _, .dct a e r => .dct (h _ _ a e).1 (h _ _ a e).2 (RepK.to h r)
theorem Reps.to (h : ∀ n o, A n → m[n]? = some o → B n ∧ m'[n]? = some o) : ∀ {ds : List D} {ps : List Pd}, Reps A m ds ps → Reps B m' ds ps
  | _, _, .nil => .nil
  | _, _, .cons r t => .cons (Rep.to h r) (Reps.to h t)
theorem RepK.to (h : ∀ n o, A n → m[n]? = some o → B n ∧ m'[n]? = some o) : ∀ {ds : List (Key × D)} {ps : List (Key × Pd)}, RepK A m ds ps → RepK B m' ds ps
  | _, _, .nil => .nil
  | _, _, .cons r t => .cons (Rep.to h r) (RepK.to h t)
end
theorem Rep.gx (g : Gx m m') {d : D} {p : Pd} (r : Rep A m d p) : Rep A m' d p := r.to fun n o a e => ⟨a, g.get n o e⟩
theorem Reps.gx (g : Gx m m') {d : List D} {p : List Pd} (r : Reps A m d p) : Reps A m' d p := r.to fun n o a e => ⟨a, g.get n o e⟩
theorem RepK.gx (g : Gx m m') {d : List (Key × D)} {p : List (Key × Pd)} (r : RepK A m d p) : RepK A m' d p := r.to fun n o a e => ⟨a, g.get n o e⟩
theorem Rep.fr {s : Nat} (g : Frs s m m') (ha : ∀ n, A n → n ≠ s) {d : D} {p : Pd} (r : Rep A m d p) : Rep A m' d p := r.to fun n o a e => ⟨a, g.get n o (ha n a) e⟩
theorem Reps.fr {s : Nat} (g : Frs s m m') (ha : ∀ n, A n → n ≠ s) {d : List D} {p : List Pd} (r : Reps A m d p) : Reps A m' d p := r.to fun n o a e => ⟨a, g.get n o (ha n a) e⟩
theorem Rep.wk (h : ∀ n, A n → n < m.length → B n) {d : D} {p : Pd} (r : Rep A m d p) : Rep B m d p := r.to fun n o a e => ⟨h n a (get_lt e), e⟩
theorem Reps.wk (h : ∀ n, A n → n < m.length → B n) {d : List D} {p : List Pd} (r : Reps A m d p) : Reps B m d p := r.to fun n o a e => ⟨h n a (get_lt e), e⟩
theorem Reps.length {ds : List D} {ps : List Pd} (r : Reps A m ds ps) : ds.length = ps.length := by
  induction ps generalizing ds with
  | nil => cases r; rfl
  | cons p ps ih => cases r with | cons r t => simp [ih t]
theorem Reps.get {ds : List D} {ps : List Pd} (r : Reps A m ds ps) {i : Nat} {p : Pd} (h : ps[i]? = some p) : ∃ d, ds[i]? = some d ∧ Rep A m d p := by
  induction ps generalizing ds i with
  | nil => simp at h
  | cons x ps ih =>
    cases r with
    | cons r t =>
      cases i with
      | zero => simp at h; subst h; exact ⟨_, rfl, r⟩
      | succ i => simp at h; obtain ⟨v, hv, q⟩ := ih t h; exact ⟨v, by simpa using hv, q⟩
theorem Reps.get' {ds : List D} {ps : List Pd} (r : Reps A m ds ps) {i : Nat} {d : D} (h : ds[i]? = some d) : ∃ p, ps[i]? = some p ∧ Rep A m d p := by
  induction ds generalizing ps i with
  | nil => simp at h
  | cons x ds ih =>
    cases r with
    | cons r t =>
      cases i with
      | zero => simp at h; subst h; exact ⟨_, rfl, r⟩
      | succ i => simp at h; obtain ⟨v, hv, q⟩ := ih t h; exact ⟨v, by simpa using hv, q⟩
theorem Reps.append {ds es : List D} {ps qs : List Pd} (a : Reps A m ds ps) (b : Reps A m es qs) : Reps A m (ds ++ es) (ps ++ qs) := by
  induction ds generalizing ps with
  | nil => cases a; exact b
  | cons x ds ih => cases a with | cons r t => exact .cons r (ih t)
theorem reps_ints (is : List Int) : Reps A m (is.map .int) (is.map .int) := by
  induction is with
  | nil => exact .nil
  | cons i is ih => exact .cons (.int i) ih
end
end Mi
namespace Mi
open PySem PySem.Spec PyProof.Rows L2
open Builtin.Int
section
variable {m : Hm}
@[simp] theorem op_eq_b {a b : Bool} : opEq (.bl a) (.bl b) m = some (.bl (a == b), m) := by
  unfold opEq
  simp [snap, PyData.eqv]
@[simp] theorem op_eq_s {a b : Str} : opEq (.str a) (.str b) m = some (.bl (a == b), m) := by
  unfold opEq
  simp [snap, PyData.eqv]
@[simp] theorem isNon_non : isNon .non = true := rfl
@[simp] theorem isNon_bl {b : Bool} : isNon (.bl b) = false := rfl
@[simp] theorem isNon_int {b : Int} : isNon (.int b) = false := rfl
@[simp] theorem isNon_str {b : Str} : isNon (.str b) = false := rfl
@[simp] theorem isNon_tup {b : List D} : isNon (.tup b) = false := rfl
@[simp] theorem isNon_ref {b : Nat} : isNon (.ref b) = false := rfl
end
/-! isinstance answers -/
@[simp] theorem isa_own (c k : Nat) : isa (.own c) (.own k) = (c == k) := rfl
section
variable {w : Wk} {ds : List D} {i n : Nat} {m : Hm} {f : Nat → D → D}
@[simp] theorem itFix_n : (itFix ds f).n = ds.length := rfl
@[simp] theorem itFix_at : (itFix ds f).at_ i m = (ds[i]?).map (f i) := rfl
@[simp] theorem itFix_fin : (itFix ds f).fin m = true := rfl
@[simp] theorem itLst_n : (itLst n i f).n = i := rfl
theorem itLst_at {xs : List D} {k : Nat} (h : m[n]? = some (.lst xs)) (hk : xs.length = k) : (itLst n k f).at_ i m = (xs[i]?).map (f i) := by
  unfold itLst
  simp [h, hk]
theorem itLst_fin {xs : List D} {k : Nat} (h : m[n]? = some (.lst xs)) (hk : xs.length = k) : (itLst n k f).fin m = true := by
  unfold itLst
  simp [h, hk]
@[simp] theorem itRg_n {lo : Int} : (itRg lo n).n = n := rfl
@[simp] theorem itRg_at {lo : Int} : (itRg lo n).at_ i m = some (.int (lo + (i : Nat))) := rfl
@[simp] theorem itRg_fin {lo : Int} : (itRg lo n).fin m = true := rfl
@[simp] theorem wkEnum_n : (wkEnum w).n = w.n := rfl
@[simp] theorem wkEnum_at : (wkEnum w).at_ i m = (w.at_ i m).map fun x => .tup [.int (i : Nat), x] := rfl
@[simp] theorem wkEnum_fin : (wkEnum w).fin m = w.fin m := rfl
end
/-- depth -/
def dle : Nat → Pd → Prop
  | 0, _ => False
  | _ + 1, .non => True
  | _ + 1, .bl _ => True
  | _ + 1, .int _ => True
  | _ + 1, .str _ => True
  | k + 1, .lst xs => xs.length ≤ 10000000 ∧ ∀ x ∈ xs, dle k x
  | k + 1, .tup xs => xs.length ≤ 10000000 ∧ ∀ x ∈ xs, dle k x
  | 1, .dct _ => False
  | k + 2, .dct kvs => kvs.length ≤ 10000000 ∧ 1 ≤ k ∧ ∀ kv ∈ kvs, dle k kv.2
theorem dle_0 {p : Pd} (h : dle 0 p) : False := h
theorem dle_pos {k : Nat} {p : Pd} (h : dle k p) : ∃ j, k = j + 1 := by
  cases k with
  | zero => exact (dle_0 h).elim
  | succ j => exact ⟨j, rfl⟩
theorem dle_up2 : ∀ {k : Nat}, (∀ {p : Pd}, dle k p → dle (k + 1) p) ∧ ∀ {p : Pd}, dle (k + 1) p → dle (k + 2) p
  | 0 => by
    refine ⟨fun h => (dle_0 h).elim, fun {p} h => ?_⟩
    cases p with
    | lst xs => exact ⟨h.1, fun x hx => (dle_0 (h.2 x hx)).elim⟩
    | tup xs => exact ⟨h.1, fun x hx => (dle_0 (h.2 x hx)).elim⟩
    | dct kvs => exact (show False from h).elim
    | _ => trivial
  | k + 1 => by
    obtain ⟨i1, i2⟩ := @dle_up2 k
    refine ⟨i2, fun {p} h => ?_⟩
    cases p with
    | lst xs => exact ⟨h.1, fun x hx => i2 (h.2 x hx)⟩
    | tup xs => exact ⟨h.1, fun x hx => i2 (h.2 x hx)⟩
    | dct kvs => exact ⟨h.1, by omega, fun kv hkv => i1 (h.2.2 kv hkv)⟩
    | _ => trivial
theorem dle_mono {k l : Nat} {p : Pd} (h : dle k p) (hl : k ≤ l) : dle l p := by
  induction hl with
  | refl => exact h
  | step _ ih => exact dle_up2.1 ih
theorem RepK.length {A : Nat → Prop} {m : Hm} {a : List (Key × D)} {b : List (Key × Pd)} (r : RepK A m a b) : a.length = b.length := by
  induction b generalizing a with
  | nil => cases r; rfl
  | cons p ps ih => cases r with | cons r t => simp [ih t]
def kP : Key → Pd
  | .inl i => .int i
  | .inr s => .str s
theorem RepK.keys {A : Nat → Prop} {m : Hm} {a : List (Key × D)} {b : List (Key × Pd)} (r : RepK A m a b) : Reps A m (a.map fun kv => kD kv.1) (b.map fun kv => kP kv.1) := by
  induction b generalizing a with
  | nil => cases r; exact .nil
  | cons p ps ih =>
    cases r with
    | @cons k d ds p ps r t =>
      refine .cons ?_ (ih t)
      cases k with
      | inl i => exact .int i
      | inr s => exact .str s
theorem RepK.vals {A : Nat → Prop} {m : Hm} {a : List (Key × D)} {b : List (Key × Pd)} (r : RepK A m a b) : Reps A m (a.map fun kv => kv.2) (b.map fun kv => kv.2) := by
  induction b generalizing a with
  | nil => cases r; exact .nil
  | cons p ps ih => cases r with | cons r t => exact .cons r (ih t)
end Mi
namespace Mi
open PySem PySem.Spec PyProof.Rows L2
section
variable {A B : Nat → Prop} {m : Hm}
mutual
theorem Rep.uniq : ∀ {d : D} {p p' : Pd}, Rep A m d p → Rep B m d p' → p = p'
  | _, _, _, .non, .non => rfl
  | _, _, _, .bl b, .bl _ => rfl
  | _, _, _, .int i, .int _ => rfl
  | _, _, _, .str x, .str _ => rfl
  | _, _, _, .tup r, .tup r' => by rw [Reps.uniq r r']
  | _, _, _, .lst _ e r, .lst _ e' r' => by
    rw [e] at e'
    cases e'
    rw [Reps.uniq r r']
  | _, _, _, .lst _ e r, .dct _ e' r' => by rw [e] at e'; cases e'
  | _, _, _, .dct _ e r, .lst _ e' r' => by rw [e] at e'; cases e'
  | _, _, _, .dct _ e r, .dct _ e' r' => by
    rw [e] at e'
    cases e'
    rw [RepK.uniq r r']
theorem Reps.uniq : ∀ {d : List D} {p p' : List Pd}, Reps A m d p → Reps B m d p' → p = p'
  | _, _, _, .nil, .nil => rfl
  | _, _, _, .cons r t, .cons r' t' => by rw [Rep.uniq r r', Reps.uniq t t']
theorem RepK.uniq : ∀ {d : List (Key × D)} {p p' : List (Key × Pd)}, RepK A m d p → RepK B m d p' → p = p'
  | _, _, _, .nil, .nil => rfl
  | _, _, _, .cons r t, .cons r' t' => by rw [Rep.uniq r r', RepK.uniq t t']
end
/-! a tree that is smaller than what stands at n does not go over n -/
mutual
theorem Rep.avoid {n : Nat} {t : Pd} (ht : Rep B m (.ref n) t) : ∀ {d : D} {p : Pd}, sizeOf p < sizeOf t → Rep A m d p → Rep (fun x => A x ∧ x ≠ n) m d p
  | _, _, _, .non => .non
  | _, _, _, .bl b => .bl b
  | _, _, _, .int i => .int i
  | _, _, _, .str x => .str x
  | _, .tup ps, h, .tup r => .tup (Reps.avoid ht (by simp at h; omega) r)
  | _, .lst ps, h, .lst a e r => .lst ⟨a, fun z => by
      subst z
      have := Rep.uniq (Rep.lst a e r) ht
      rw [this] at h; exact Nat.lt_irrefl _ h⟩ e (Reps.avoid ht (by simp at h; omega) r)
  | _, .dct ps, h, .dct a e r => .dct ⟨a, fun z => by
      subst z
      have := Rep.uniq (Rep.dct a e r) ht
      rw [this] at h; exact Nat.lt_irrefl _ h⟩ e (RepK.avoid ht (by simp at h; omega) r)
theorem Reps.avoid {n : Nat} {t : Pd} (ht : Rep B m (.ref n) t) : ∀ {d : List D} {p : List Pd}, sizeOf p < sizeOf t → Reps A m d p → Reps (fun x => A x ∧ x ≠ n) m d p
  | _, _, _, .nil => .nil
  | _, p :: ps, h, .cons r q => .cons (Rep.avoid ht (by simp at h; omega) r) (Reps.avoid ht (by simp at h; omega) q)
theorem RepK.avoid {n : Nat} {t : Pd} (ht : Rep B m (.ref n) t) : ∀ {d : List (Key × D)} {p : List (Key × Pd)}, sizeOf p < sizeOf t → RepK A m d p → RepK (fun x => A x ∧ x ≠ n) m d p
  | _, _, _, .nil => .nil
  | _, (k, p) :: ps, h, .cons r q => .cons (Rep.avoid ht (by simp at h; omega) r) (RepK.avoid ht (by simp at h; omega) q)
end
end
def unQ (n : Nat) (o : O) (Q : Ou → Prop) : Ou → Prop := fun z => match z with
  | .nx ρ m => Q (.nx ρ (m.set n o))
  | .bk ρ m => Q (.bk ρ (m.set n o))
  | .ct ρ m => Q (.ct ρ (m.set n o))
  | .rt d m => Q (.rt d (m.set n o))
  | .ex _ _ _ => False
@[simp] theorem unQ_nx {n : Nat} {o : O} {Q : Ou → Prop} {ρ : Ro} {m : Hm} : unQ n o Q (.nx ρ m) = Q (.nx ρ (m.set n o)) := rfl
@[simp] theorem unQ_rt {n : Nat} {o : O} {Q : Ou → Prop} {d : D} {m : Hm} : unQ n o Q (.rt d m) = Q (.rt d (m.set n o)) := rfl
theorem wS_forD {i n : Nat} {g : Mg} {s : Ms} {ρ : Ro} {m : Hm} {Q : Ou → Prop} {kvs : List (Key × D)} (h1 : ρ[i]? = some (.is (.ref n))) (h2 : m[n]? = some (.dK kvs))
    (h : wI (itFix (kvs.map fun kv => kD kv.1) fun _ x => x) g s ρ (m.set n (.lK kvs)) (unQ n (.dK kvs) Q)) : wS (sForD i g s) ρ m Q := by
  obtain ⟨z, e, q⟩ := h
  unfold wS sForD
  simp only [h1, h2, lockD]
  rw [show (kvs.map fun kv => kD kv.1).length = (itFix (kvs.map fun kv => kD kv.1) fun _ x => x).n from rfl, e]
  cases z with
  | nx ρ m => exact ⟨_, rfl, q⟩
  | bk ρ m => exact ⟨_, rfl, q⟩
  | ct ρ m => exact ⟨_, rfl, q⟩
  | rt d m => exact ⟨_, rfl, q⟩
  | ex x ρ m => exact q.elim
/-- the keys differ -/
def nodupK (kvs : List (Key × Pd)) : Prop := (kvs.map (·.1)).Nodup
theorem RepK.ks {A : Nat → Prop} {m : Hm} {a : List (Key × D)} {b : List (Key × Pd)} (r : RepK A m a b) : a.map (·.1) = b.map (·.1) := by
  induction b generalizing a with
  | nil => cases r; rfl
  | cons p ps ih => cases r with | cons r t => simp [ih t]
theorem putKD_new {kvs : List (Key × D)} {k : Key} {v : D} (h : k ∉ kvs.map (·.1)) : putKD kvs k v = kvs ++ [(k, v)] := by
  unfold putKD
  rw [if_neg]
  intro e
  obtain ⟨kv, h1, h2⟩ := List.any_eq_true.mp e
  exact h (List.mem_map.mpr ⟨kv, h1, by simpa using h2⟩)
theorem getKD_at {kvs : List (Key × D)} {i : Nat} {k : Key} {v : D} (hn : (kvs.map (·.1)).Nodup) (h : kvs[i]? = some (k, v)) : getKD kvs k = some v := by
  induction kvs generalizing i with
  | nil => simp at h
  | cons kv kvs ih =>
    unfold getKD
    rw [List.find?_cons]
    simp only [List.map_cons, List.nodup_cons] at hn
    cases i with
    | zero => simp at h; subst h; simp
    | succ i =>
      simp at h
      have hne : kv.1 ≠ k := fun e => hn.1 (List.mem_map.mpr ⟨(k, v), List.mem_of_getElem? h, e.symm⟩)
      simp [hne]
      have := ih hn.2 h
      simpa [getKD] using this
theorem RepK.get {A : Nat → Prop} {m : Hm} {a : List (Key × D)} {b : List (Key × Pd)} (r : RepK A m a b) {i : Nat} {k : Key} {p : Pd} (h : b[i]? = some (k, p)) : ∃ d, a[i]? = some (k, d) ∧ Rep A m d p := by
  induction b generalizing a i with
  | nil => simp at h
  | cons x ps ih =>
    cases r with
    | cons r t =>
      cases i with
      | zero => simp at h; obtain ⟨rfl, rfl⟩ := h; exact ⟨_, rfl, r⟩
      | succ i => simp at h; obtain ⟨v, hv, q⟩ := ih t h; exact ⟨v, by simpa using hv, q⟩
theorem RepK.append {A : Nat → Prop} {m : Hm} {ds es : List (Key × D)} {ps qs : List (Key × Pd)} (a : RepK A m ds ps) (b : RepK A m es qs) : RepK A m (ds ++ es) (ps ++ qs) := by
  induction ds generalizing ps with
  | nil => cases a; exact b
  | cons x ds ih => cases a with | cons r t => exact .cons r (ih t)
/-- writing an object that a tree does not go over -/
theorem Rep.set {A : Nat → Prop} {m : Hm} {n : Nat} {o : O} (ha : ∀ x, A x → x ≠ n) {d : D} {p : Pd} (r : Rep A m d p) : Rep A (m.set n o) d p := r.to fun x o a e => ⟨a, by rw [List.getElem?_set_ne (Ne.symm (ha x a))]; exact e⟩
theorem Reps.set {A : Nat → Prop} {m : Hm} {n : Nat} {o : O} (ha : ∀ x, A x → x ≠ n) {d : List D} {p : List Pd} (r : Reps A m d p) : Reps A (m.set n o) d p := r.to fun x o a e => ⟨a, by rw [List.getElem?_set_ne (Ne.symm (ha x a))]; exact e⟩
theorem RepK.set {A : Nat → Prop} {m : Hm} {n : Nat} {o : O} (ha : ∀ x, A x → x ≠ n) {d : List (Key × D)} {p : List (Key × Pd)} (r : RepK A m d p) : RepK A (m.set n o) d p := r.to fun x o a e => ⟨a, by rw [List.getElem?_set_ne (Ne.symm (ha x a))]; exact e⟩
end Mi
namespace Mi
open PySem PySem.Spec PyProof.Rows L2
@[simp] theorem keyOf_kD (k : Key) : keyOf (kD k) = some k := by cases k <;> rfl
theorem ixA_kD {m : Hm} {n : Nat} {kvs : List (Key × D)} {k : Key} (h : m[n]? = some (.lK kvs)) : ixA m (.ref n) (kD k) = getKD kvs k := by
  cases k with
  | inl i => simp [kD, h]
  | inr s => simp [kD, h]
theorem ixA_kD' {m : Hm} {n : Nat} {kvs : List (Key × D)} {k : Key} (h : m[n]? = some (.dK kvs)) : ixA m (.ref n) (kD k) = getKD kvs k := by
  cases k with
  | inl i => simp [kD, h]
  | inr s => simp [kD, h]
theorem setD_kD {m : Hm} {n : Nat} {kvs : List (Key × D)} {k : Key} {v : D} (h : m[n]? = some (.dK kvs)) (hl : kvs.length < sizeLine) : setD m (.ref n) (kD k) v = some (m.set n (.dK (putKD kvs k v))) := by
  unfold setD
  simp [h, hl]
end Mi
namespace Mi
open PySem PySem.Spec PyProof.Rows L2
def zipO (a b : Option D) : Option D := match a, b with
  | some x, some y => some (.tup [x, y])
  | _, _ => none
@[simp] theorem zipO_ {x y : D} : zipO (some x) (some y) = some (.tup [x, y]) := rfl
@[simp] theorem wkZip_n {u w : Wk} : (wkZip u w).n = min u.n w.n := rfl
@[simp] theorem wkZip_at {u w : Wk} {i : Nat} {m : Hm} : (wkZip u w).at_ i m = zipO (u.at_ i m) (w.at_ i m) := rfl
@[simp] theorem wkZip_fin {u w : Wk} {m : Hm} : (wkZip u w).fin m = (u.fin m && w.fin m) := rfl
theorem reps_int {A : Nat → Prop} {m : Hm} {ds : List D} {a : List Int} (r : Reps A m ds (a.map .int)) : ds = a.map .int := by
  induction a generalizing ds with
  | nil => cases r; rfl
  | cons x a ih => cases r with | cons r t => cases r; rw [ih t]; rfl
end Mi
namespace Mi
open PySem PySem.Spec PyProof.Rows L2
/-! ### methods of a list -/
def mtI (o : Option (List D)) (f : Met) (a : Mv (List D)) (k : Nat) (ρ : Ro) (m : Hm) (Q : Rs D → Prop) : Prop := ∃ xs, o = some xs ∧ wE a ρ m (okK (kMt2 f k Q) Q)
def mtJ (o : Option (List D)) (f : Met) (k : Nat) (ds : List D) (m : Hm) (Q : Rs D → Prop) : Prop := ∃ xs, o = some xs ∧ wO (f k xs ds m) Q
section
variable {o : Option (List D)} {f : Met} {a : Mv (List D)} {k : Nat} {ρ : Ro} {m : Hm} {Q : Rs D → Prop} {xs ds : List D} {d : D}
@[simp] theorem kMt_ : kMt f a ρ Q (.ref k) m = mtI (lstOf m k) f a k ρ m Q := propext ⟨fun ⟨_, xs, h, e, q⟩ => by cases h; exact ⟨xs, e, q⟩, fun ⟨xs, e, q⟩ => ⟨_, xs, rfl, e, q⟩⟩
@[simp] theorem mtI_ : mtI (some xs) f a k ρ m Q = wE a ρ m (okK (kMt2 f k Q) Q) := propext ⟨fun ⟨_, _, q⟩ => q, fun q => ⟨_, rfl, q⟩⟩
@[simp] theorem kMt2_ : kMt2 f k Q ds m = mtJ (lstOf m k) f k ds m Q := rfl
@[simp] theorem mtJ_ : mtJ (some xs) f k ds m Q = wO (f k xs ds m) Q := propext ⟨fun ⟨_, h, q⟩ => by cases h; exact q, fun q => ⟨_, rfl, q⟩⟩
@[simp] theorem mApp_ : wO (mApp k xs [d] m) Q ↔ xs.length < sizeLine ∧ Q (.ok .non (m.set k (.lst (xs ++ [d])))) := wO_if
end
end Mi
namespace Mi
open PySem PySem.Spec PyProof.Rows L2
/-! ### a list again and again -/
def rpO (o : Option O) (k : Int) (m : Hm) (Q : Rs D → Prop) : Prop := match o with
  | some (.lst xs) => (-(2 ^ 63) ≤ k ∧ k < 2 ^ 63 ∧ xs.length * k.toNat ≤ sizeLine) ∧ Q (.ok (.ref m.length) (m ++ [.lst (List.replicate k.toNat xs).flatten]))
  | _ => False
section
variable {n : Nat} {k : Int} {m : Hm} {Q : Rs D → Prop} {xs : List D}
@[simp] theorem rpO_ : rpO (some (.lst xs)) k m Q = ((-(2 ^ 63) ≤ k ∧ k < 2 ^ 63 ∧ xs.length * k.toNat ≤ sizeLine) ∧ Q (.ok (.ref m.length) (m ++ [.lst (List.replicate k.toNat xs).flatten]))) := rfl
@[simp] theorem op_mul_l : wO (opMul (.ref n) (.int k) m) Q = rpO (m[n]?) k m Q := by
  unfold opMul
  refine propext ?_
  cases e : m[n]? with
  | none => simp [e, rpO, wO]
  | some o =>
    cases o with
    | lst xs =>
      simp only [e, rpO_]
      exact wO_if
    | _ => simp [e, rpO, wO]
end
end Mi
namespace Mi
open PySem PySem.Spec PyProof.Rows L2
theorem ite_cut {k : Bool} {s1 s2 : Ms} {ρ : Ro} {m : Hm} {K : Ro → Hm → Prop} {Q : Ou → Prop} (P : Ro → Hm → Prop) (h1 : ∀ P' : Ro → Hm → Prop, (∀ ρ m, P ρ m → P' ρ m) → iteS k s1 s2 ρ m (nxK P' Q)) (h : ∀ ρ m, P ρ m → K ρ m) : iteS k s1 s2 ρ m (nxK K Q) := h1 K h
end Mi
namespace Mi
open PySem PySem.Spec PyProof.Rows L2
/-! ## wishes about instances -/
def fldO (o : Option O) (l : List (Nat × Nat)) : Option D := match o with
  | some (.ins c fs) => match l.lookup c with
    | some i => fs[i]?
    | none => none
  | _ => none
def putO (o : Option O) (m : Hm) (n : Nat) (l : List (Nat × Nat)) (y : D) : Option Hm := match o with
  | some (.ins c fs) => match l.lookup c with
    | some i => if i < fs.length then some (m.set n (.ins c (fs.set i y))) else if i = fs.length then some (m.set n (.ins c (fs ++ [y]))) else none
    | none => none
  | _ => none
def slfO (o : Option O) (c : Nat) : Bool := match o with
  | some (.ins c' _) => c' == c
  | _ => false
def kFl (l : List (Nat × Nat)) (Q : Rs D → Prop) (x : D) (m : Hm) : Prop := oK (fldD m l x) m Q
def kPu2 (l : List (Nat × Nat)) (y : D) (ρ : Ro) (Q : Ou → Prop) (x : D) (m : Hm) : Prop := wH (putD m l x y) ρ Q
def kPu1 (l : List (Nat × Nat)) (o : Mv D) (ρ : Ro) (Q : Ou → Prop) (y : D) (m : Hm) : Prop := wE o ρ m (okS ρ (kPu2 l y ρ Q) Q)
def mkQ (n : Nat) (Q : Rs D → Prop) : Rs D → Prop := fun r => match r with
  | .ok .non m => Q (.ok (.ref n) m)
  | .ex x m => Q (.ex x m)
  | _ => False
def kMk (c : Nat) (F : Fx) (Q : Rs D → Prop) (ds : List D) (m : Hm) : Prop := wF F (.ref m.length :: ds) (m ++ [.ins c []]) (mkQ m.length Q)
def kMe2 (F : Fx) (x : D) (Q : Rs D → Prop) (ds : List D) (m : Hm) : Prop := wF F (x :: ds) m Q
def kMe1 (c : Nat) (F : Fx) (a : Mv (List D)) (ρ : Ro) (Q : Rs D → Prop) (x : D) (m : Hm) : Prop := selfC m c x = true ∧ wE a ρ m (okK (kMe2 F x Q) Q)
def caQ (Q : Rs D → Prop) : Rs D → Prop := fun r => match r with
  | .ok d m => Q (.ok d m)
  | _ => False
def kPr1 (c : Nat) (F : Fx) (Q : Rs D → Prop) (x : D) (m : Hm) : Prop := selfC m c x = true ∧ wF F [x] m (caQ Q)
section
variable {l : List (Nat × Nat)} {a o v : Mv D} {la : Mv (List D)} {ρ : Ro} {m : Hm} {Q : Rs D → Prop} {QS : Ou → Prop} {x y : D} {c n : Nat} {F : Fx} {fs ds : List D} {z : Ex}
@[simp] theorem fldD_n : fldD m l (.ref n) = fldO (m[n]?) l := by
  unfold fldD fldO
  cases h : m[n]? with
  | none => simp [h]
  | some o =>
    cases o with
    | ins c fs => simp only [h] <;> (cases l.lookup c <;> rfl)
    | _ => simp [h]
@[simp] theorem putD_n : putD m l (.ref n) y = putO (m[n]?) m n l y := by
  unfold putD putO
  cases h : m[n]? with
  | none => simp [h]
  | some o =>
    cases o with
    | ins c fs => simp only [h] <;> (cases l.lookup c <;> rfl)
    | _ => simp [h]
@[simp] theorem selfC_n : selfC m c (.ref n) = slfO (m[n]?) c := by
  unfold selfC slfO
  cases h : m[n]? with
  | none => simp [h]
  | some o => cases o <;> simp [h]
@[simp] theorem fldO_ {i : Nat} : fldO (some (.ins c fs)) ((c, i) :: l) = fs[i]? := by simp [fldO]
@[simp] theorem putO_ {i : Nat} : putO (some (.ins c fs)) m n ((c, i) :: l) y = if i < fs.length then some (m.set n (.ins c (fs.set i y))) else if i = fs.length then some (m.set n (.ins c (fs ++ [y]))) else none := by simp [putO]
@[simp] theorem slfO_ : slfO (some (.ins c fs)) c = true := by simp [slfO]
@[simp] theorem kFl_ : kFl l Q x m = oK (fldD m l x) m Q := rfl
@[simp] theorem wE_fld : wE (eFld l a) ρ m Q = wE a ρ m (okK (kFl l Q) Q) := w_bnd fun d m1 => by
  constructor
  · rintro ⟨r, h, q⟩
    cases e : fldD m1 l d with
    | none => rw [e] at h; cases h
    | some y => rw [e] at h; cases h; exact ⟨y, e, q⟩
  · rintro ⟨y, e, q⟩
    exact ⟨_, by rw [e]; rfl, q⟩
@[simp] theorem kPu2_ : kPu2 l y ρ QS x m = wH (putD m l x y) ρ QS := rfl
@[simp] theorem kPu1_ : kPu1 l o ρ QS y m = wE o ρ m (okS ρ (kPu2 l y ρ QS) QS) := rfl
@[simp] theorem wS_put : wS (sPut l o v) ρ m QS = wE v ρ m (okS ρ (kPu1 l o ρ QS) QS) := w_bndS fun y m1 => iff_of_eq (w_bndS fun x m2 => by
  constructor
  · rintro ⟨r, h, q⟩
    cases e : putD m2 l x y with
    | none => rw [e] at h; cases h
    | some m3 => rw [e] at h; cases h; exact ⟨m3, e, q⟩
  · rintro ⟨m3, e, q⟩
    exact ⟨_, by rw [e]; rfl, q⟩)
@[simp] theorem mkQ_ok : mkQ n Q (.ok .non m) = Q (.ok (.ref n) m) := rfl
@[simp] theorem mkQ_ex : mkQ n Q (.ex z m) = Q (.ex z m) := rfl
@[simp] theorem kMk_ : kMk c F Q ds m = wF F (.ref m.length :: ds) (m ++ [.ins c []]) (mkQ m.length Q) := rfl
@[simp] theorem wE_mk : wE (eMk c F la) ρ m Q = wE la ρ m (okK (kMk c F Q) Q) := w_bnd fun ds m1 => by
  unfold kMk wF
  constructor
  · rintro ⟨r, h, q⟩
    cases e : F (.ref m1.length :: ds) (m1 ++ [.ins c []]) with
    | none => rw [e] at h; cases h
    | some w =>
      rw [e] at h
      refine ⟨w, rfl, ?_⟩
      cases w with
      | ex y m2 => cases h; exact q
      | ok d m2 => cases d <;> first | (cases h; exact q) | cases h
  · rintro ⟨w, e, q⟩
    rw [e]
    cases w with
    | ex y m2 => exact ⟨_, rfl, q⟩
    | ok d m2 => cases d <;> first | exact ⟨_, rfl, q⟩ | exact q.elim
@[simp] theorem kMe2_ : kMe2 F x Q ds m = wF F (x :: ds) m Q := rfl
@[simp] theorem kMe1_ : kMe1 c F la ρ Q x m = (selfC m c x = true ∧ wE la ρ m (okK (kMe2 F x Q) Q)) := rfl
@[simp] theorem wE_meth : wE (eMeth c F a la) ρ m Q = wE a ρ m (okK (kMe1 c F la ρ Q) Q) := w_bnd fun x m1 => by
  constructor
  · rintro ⟨r, h, q⟩
    split at h
    · rename_i hs
      exact ⟨hs, (iff_of_eq (w_bnd (k' := kMe2 F x Q) fun ds m2 => Iff.rfl)).mp ⟨r, h, q⟩⟩
    · cases h
  · rintro ⟨hs, q⟩
    obtain ⟨r, h, q⟩ := (iff_of_eq (w_bnd (a := la ρ m1) (k := fun ds m2 => F (x :: ds) m2) (k' := kMe2 F x Q) (Q := Q) fun ds m2 => Iff.rfl)).mpr q
    exact ⟨r, by rw [if_pos hs]; exact h, q⟩
@[simp] theorem caQ_ok : caQ Q (.ok x m) = Q (.ok x m) := rfl
@[simp] theorem kPr1_ : kPr1 c F Q x m = (selfC m c x = true ∧ wF F [x] m (caQ Q)) := rfl
@[simp] theorem wE_prop : wE (eProp c F a) ρ m Q = wE a ρ m (okK (kPr1 c F Q) Q) := w_bnd fun x m1 => by
  constructor
  · rintro ⟨r, h, q⟩
    split at h
    · rename_i hs
      refine ⟨hs, ?_⟩
      cases e : F [x] m1 with
      | none => rw [e] at h; cases h
      | some w =>
        rw [e] at h
        cases w with
        | ok d m2 => cases h; exact ⟨_, e, q⟩
        | ex y m2 => cases h
    · cases h
  · rintro ⟨hs, w, e, q⟩
    rw [if_pos hs, e]
    cases w with
    | ok d m2 => exact ⟨_, rfl, q⟩
    | ex y m2 => exact q.elim
end
end Mi
namespace Mi
open PySem PySem.Spec PyProof.Rows L2
/-! ## wishes about exceptions as values -/
def xfO (o : Option O) (l : List (Nat × Nat)) : Option D := match o with
  | some (.xc c fs) => match l.lookup c with
    | some i => fs[i]?
    | none => none
  | _ => none
def kXf (l : List (Nat × Nat)) (Q : Rs D → Prop) (x : D) (m : Hm) : Prop := oK (xfD m l x) m Q
def kXc (c : Nat) (Q : Rs D → Prop) (ds : List D) (m : Hm) : Prop := Q (.ok (.ref m.length) (m ++ [.xc c ds]))
def kXcK (c : Nat) (idx : List Nat) (Q : Rs D → Prop) (ds : List D) (m : Hm) : Prop := Q (.ok (.ref m.length) (m ++ [.xc c (pick idx ds)]))
def ishK (o : Option Sl) (cs : List Ct) (x : Ex) (m : Hm) (Q : Rs D → Prop) : Prop := o = some .hel ∧ Q (.ok (.bl (cs.any (isa (.exc x.c)))) m)
def trK (o : Option (Int × Int)) (m : Hm) (Q : Rs D → Prop) : Prop := ∃ p, o = some p ∧ Q (.ok (.tup (rgD p.1 p.2)) m)
def lrK (o : Option (Int × Int)) (m : Hm) (Q : Rs D → Prop) : Prop := ∃ p, o = some p ∧ Q (.ok (.ref m.length) (m ++ [.lst (rgD p.1 p.2)]))
def kTr (Q : Rs D → Prop) (ds : List D) (m : Hm) : Prop := trK (rgA ds) m Q
def kLr (Q : Rs D → Prop) (ds : List D) (m : Hm) : Prop := lrK (rgA ds) m Q
section
variable {l : List (Nat × Nat)} {a o v : Mv D} {la : Mv (List D)} {ρ : Ro} {m : Hm} {Q : Rs D → Prop} {QS : Ou → Prop} {x y : D} {c n i : Nat} {F : Fx} {fs ds : List D} {z : Ex} {idx : List Nat} {cs : List Ct} {e : Ex} {p : Int × Int}
@[simp] theorem xfD_n : xfD m l (.ref n) = xfO (m[n]?) l := by
  unfold xfD xfO
  cases h : m[n]? with
  | none => simp [h]
  | some o =>
    cases o with
    | xc c fs => simp only [h] <;> (cases l.lookup c <;> rfl)
    | _ => simp [h]
@[simp] theorem kXf_ : kXf l Q x m = oK (xfD m l x) m Q := rfl
@[simp] theorem wE_xf : wE (eXf l a) ρ m Q = wE a ρ m (okK (kXf l Q) Q) := w_bnd fun d m1 => by
  constructor
  · rintro ⟨r, h, q⟩
    cases e : xfD m1 l d with
    | none => rw [e] at h; cases h
    | some y => rw [e] at h; cases h; exact ⟨y, e, q⟩
  · rintro ⟨y, e, q⟩
    exact ⟨_, by rw [e]; rfl, q⟩
@[simp] theorem kXc_ : kXc c Q ds m = Q (.ok (.ref m.length) (m ++ [.xc c ds])) := rfl
@[simp] theorem kXcK_ : kXcK c idx Q ds m = Q (.ok (.ref m.length) (m ++ [.xc c (pick idx ds)])) := rfl
@[simp] theorem wE_xc : wE (eXc c la) ρ m Q = wE la ρ m (okK (kXc c Q) Q) := w_bnd fun ds m1 => one_
@[simp] theorem wE_xcK : wE (eXcK c idx la) ρ m Q = wE la ρ m (okK (kXcK c idx Q) Q) := w_bnd fun ds m1 => one_
@[simp] theorem ishK_ : ishK (some .hel) cs e m Q = Q (.ok (.bl (cs.any (isa (.exc e.c)))) m) := by simp [ishK]
@[simp] theorem wE_isH : wE (eIsH i cs e) ρ m Q = ishK (ρ[i]?) cs e m Q := by
  refine propext ⟨?_, ?_⟩
  · rintro ⟨r, h, q⟩
    unfold eIsH at h
    split at h
    · rename_i h1; cases h; exact ⟨h1, q⟩
    · cases h
  · rintro ⟨h, q⟩
    exact ⟨_, by unfold eIsH; rw [h], q⟩
@[simp] theorem kTr_ : kTr Q ds m = trK (rgA ds) m Q := rfl
@[simp] theorem kLr_ : kLr Q ds m = lrK (rgA ds) m Q := rfl
@[simp] theorem trK_ : trK (some p) m Q = Q (.ok (.tup (rgD p.1 p.2)) m) := by simp [trK]
@[simp] theorem lrK_ : lrK (some p) m Q = Q (.ok (.ref m.length) (m ++ [.lst (rgD p.1 p.2)])) := by simp [lrK]
@[simp] theorem wE_tupRg : wE (eTupRg la) ρ m Q = wE la ρ m (okK (kTr Q) Q) := w_bnd fun ds m1 => by
  constructor
  · rintro ⟨r, h, q⟩
    cases e : rgA ds with
    | none => rw [e] at h; cases h
    | some p => rw [e] at h; cases h; exact ⟨p, e, q⟩
  · rintro ⟨p, e, q⟩
    exact ⟨_, by rw [e]; rfl, q⟩
@[simp] theorem wE_lstRg : wE (eLstRg la) ρ m Q = wE la ρ m (okK (kLr Q) Q) := w_bnd fun ds m1 => by
  constructor
  · rintro ⟨r, h, q⟩
    cases e : rgA ds with
    | none => rw [e] at h; cases h
    | some p => rw [e] at h; cases h; exact ⟨p, e, q⟩
  · rintro ⟨p, e, q⟩
    exact ⟨_, by rw [e]; rfl, q⟩
theorem rgA_1' {n : Int} (h1 : -(2 ^ 62) ≤ n) (h2 : n < 2 ^ 62) (h3 : n.toNat ≤ 2 ^ 24) : rgA [.int n] = some (0, n) := by
  show (if _ then _ else _) = _
  rw [if_pos ⟨h1, h2, h3⟩]
end
end Mi
namespace Mi
open PySem PySem.Spec PyProof.Rows L2
open Builtin.Int
theorem fmod_bd (a : Int) {b : Int} (hb : 0 < b) : 0 ≤ a.fmod b ∧ a.fmod b < b := ⟨Int.fmod_nonneg_of_pos a hb, Int.fmod_lt_of_pos a hb⟩
theorem bits_mm {x : Int} (h0 : 0 ≤ x) (h1 : x < MM) : intBits x ≤ 61 := bits_of (by unfold MM at h1; omega)

theorem get_app1 {m : Hm} {o : O} : (m ++ [o])[m.length]? = some o := by simp
theorem len_bd {n : Nat} (h : n ≤ sizeLine) : (n : Int) < 4611686018427387904 := by
  have : sizeLine = 16777216 := sizeLine_eq
  omega

/-- dicts with unlike keys, everywhere -/
def okd : Nat → Pd → Prop
  | 0, _ => True
  | k + 1, .lst xs => ∀ x ∈ xs, okd k x
  | k + 1, .tup xs => ∀ x ∈ xs, okd k x
  | k + 1, .dct kvs => nodupK kvs ∧ ∀ kv ∈ kvs, okd k kv.2
  | _, _ => True
abbrev New (m : Hm) : Nat → Prop := fun n => m.length ≤ n
theorem New.wk {m m1 m2 : Hm} {d : D} {p : Pd} (g : Gx m m1) (r : Rep (New m1) m2 d p) : Rep (New m) m2 d p := r.wk fun n h _ => Nat.le_trans g.len h

def seqP : Pd → Option (List Pd)
  | .lst xs => some xs
  | .tup xs => some xs
  | _ => none
def isI : Pd → Bool
  | .int _ => true
  | _ => false
section
variable {m : Hm} {A : Nat → Prop} {d : D} {p : Pd} {ps : List Pd} {Q : Rs D → Prop}
/-- what a sequence's data is -/
structure Sq (m : Hm) (d : D) (ds : List D) : Prop where
  ex : d = .tup ds ∨ ∃ n, d = .ref n ∧ m[n]? = some (.lst ds)
theorem Sq.gx {m m' : Hm} {d : D} {ds : List D} (h : Sq m d ds) (g : Gx m m') : Sq m' d ds := ⟨h.ex.imp id fun ⟨n, e, h⟩ => ⟨n, e, g.get _ _ h⟩⟩
theorem Sq.len {ds : List D} (h : Sq m d ds) : lenD m d = some ds.length := by
  rcases h.ex with rfl | ⟨n, rfl, e⟩
  · rfl
  · simp [e]
theorem Sq.seq {ds : List D} (h : Sq m d ds) : seqOf m d = some ds := by
  rcases h.ex with rfl | ⟨n, rfl, e⟩
  · rfl
  · simp [e]
theorem Sq.ix {ds : List D} (h : Sq m d ds) (i : Int) : ixA m d (.int i) = atI ds i := by
  rcases h.ex with rfl | ⟨n, rfl, e⟩
  · simp
  · simp [e]
theorem Sq.tag {ds : List D} (h : Sq m d ds) : ∃ t, tagD m d = some t ∧ (isa t .lst || isa t .tup) = true := by
  rcases h.ex with rfl | ⟨n, rfl, e⟩
  · exact ⟨.tup, rfl, rfl⟩
  · exact ⟨.lst, by simp [e], rfl⟩
theorem Rep.sq (r : Rep A m d p) (h : seqP p = some ps) : ∃ ds, Sq m d ds ∧ Reps A m ds ps := by
  cases r with
  | tup t => cases h; exact ⟨_, ⟨.inl rfl⟩, t⟩
  | lst a e t => cases h; exact ⟨_, ⟨.inr ⟨_, rfl, e⟩⟩, t⟩
  | _ => cases h
/-- the walk over a sequence, whatever it is -/
theorem Sq.wk {ds : List D} (h : Sq m d ds) : ∃ w, wkOf m d = some w ∧ w.n = ds.length ∧ (∀ m', Gx m m' → ∀ i, w.at_ i m' = ds[i]?) ∧ ∀ m', Gx m m' → w.fin m' = true := by
  rcases h.ex with rfl | ⟨n, rfl, e⟩
  · exact ⟨_, rfl, rfl, fun m' g i => by simp, fun m' g => rfl⟩
  · exact ⟨itLst n ds.length fun _ x => x, by simp [e], rfl, fun m' g i => by rw [itLst_at (g.get _ _ e) rfl]; simp, fun m' g => itLst_fin (g.get _ _ e) rfl⟩
theorem Sq.it {ds : List D} (h : Sq m d ds) : ∃ w, (∀ QW : Rs Wk → Prop, sqK d m QW = QW (.ok w m)) ∧ w.n = ds.length ∧ (∀ m', Gx m m' → ∀ i, w.at_ i m' = ds[i]?) ∧ ∀ m', Gx m m' → w.fin m' = true := by
  rcases h.ex with rfl | ⟨n, rfl, e⟩
  · exact ⟨_, fun QW => rfl, rfl, fun m' g i => by simp, fun m' g => rfl⟩
  · exact ⟨itLst n ds.length fun _ x => x, fun QW => by simp [e], rfl, fun m' g i => by rw [itLst_at (g.get _ _ e) rfl]; simp, fun m' g => itLst_fin (g.get _ _ e) rfl⟩
theorem blsOf_map (bs : List Bool) : blsOf (bs.map D.bl) = some bs := by
  induction bs with
  | nil => rfl
  | cons b bs ih => simp [blsOf, ih]
theorem blsOf_comp {α : Type} (f : α → Bool) (l : List α) : blsOf (l.map (D.bl ∘ f)) = some (l.map f) := by
  rw [← List.map_map]; exact blsOf_map _
end

abbrev Ns (s : Nat) : Nat → Prop := fun n => n ≠ s
theorem St.lt {s c L : Nat} {m : Hm} (S : St s c L m) : s < m.length := by
  obtain ⟨cells, i1, i2, i3, i4, h1, h2, h3⟩ := S.ex
  exact get_lt h1
theorem St.ctr {s c L : Nat} {m : Hm} (S : St s c L m) : c ≠ s ∧ c < m.length := by
  obtain ⟨cells, i1, i2, i3, i4, h1, h2, h3, _⟩ := S.ex
  exact ⟨Ne.symm h3, get_lt h2⟩
theorem St.set {s c L t : Nat} {m : Hm} {o : O} (S : St s c L m) (h1 : t ≠ s) (h2 : t ≠ c) : St s c L (m.set t o) := by
  obtain ⟨cells, i1, i2, i3, i4, e1, e2, h3⟩ := S.ex
  exact ⟨cells, i1, i2, i3, i4, by rw [get_set_ne h1]; exact e1, by rw [get_set_ne h2]; exact e2, h3⟩
theorem St.app {s c L : Nat} {m t : Hm} (S : St s c L m) : St s c L (m ++ t) := S.gx Gx.app
theorem New.ns {s : Nat} {m m' : Hm} (h : s < m.length) {d : D} {p : Pd} (r : Rep (New m) m' d p) : Rep (Ns s) m' d p := r.wk fun n hn _ => by simp [New] at hn; omega
/-- a sequence's data, away from some objects -/
structure SqA (A : Nat → Prop) (m : Hm) (d : D) (ds : List D) : Prop where
  ex : d = .tup ds ∨ ∃ n, A n ∧ d = .ref n ∧ m[n]? = some (.lst ds)
theorem SqA.sq {A : Nat → Prop} {m : Hm} {d : D} {ds : List D} (h : SqA A m d ds) : Sq m d ds := ⟨h.ex.imp id fun ⟨n, _, e, q⟩ => ⟨n, e, q⟩⟩
theorem SqA.fr {s : Nat} {m m' : Hm} {d : D} {ds : List D} (h : SqA (Ns s) m d ds) (g : Frs s m m') : SqA (Ns s) m' d ds := ⟨h.ex.imp id fun ⟨n, a, e, q⟩ => ⟨n, a, e, g.get _ _ a q⟩⟩
theorem Rep.sqA {A : Nat → Prop} {m : Hm} {d : D} {p : Pd} {ps : List Pd} (r : Rep A m d p) (h : seqP p = some ps) : ∃ ds, SqA A m d ds ∧ Reps A m ds ps := by
  cases r with
  | tup t => cases h; exact ⟨_, ⟨.inl rfl⟩, t⟩
  | lst a e t => cases h; exact ⟨_, ⟨.inr ⟨_, a, rfl, e⟩⟩, t⟩
  | _ => cases h

/-- a row of drawn ints -/
theorem ints_comp {s c L j n cost : Nat} {m : Hm} {e : Mv D} {ρ : Ro} {P : Int → Prop} {Q : List D → Hm → Prop} (hn : n ≤ 100000) (S : St s c L m)
    (he : ∀ (i L' : Nat) m' (Q' : Rs D → Prop), i < n → St s c L' m' → L' + cost ≤ L + n * cost → (∀ k m2, P k → St s c (L' + cost) m2 → Frs s m' m2 → m2.length = m'.length → Q' (.ok (.int k) m2)) → wE e (ρ.set j (.is (.int i))) m' Q')
    (q : ∀ (a : List Int) m', a.length = n → (∀ x ∈ a, P x) → St s c (L + n * cost) m' → Frs s m m' → m'.length = m.length → Q (a.map .int) m') : wL (itRg 0 n) (gNm j) tYesM e ρ m [] Q := by
  refine wL_inv (fun i acc m' => ∃ a : List Int, acc = a.map .int ∧ a.length = i ∧ (∀ x ∈ a, P x) ∧ St s c (L + i * cost) m' ∧ Frs s m m' ∧ m'.length = m.length) ⟨[], rfl, rfl, by simp, by simpa using S, Frs.refl _ _, rfl⟩ ?_ ?_
  · rintro i acc m' hi ⟨a, rfl, rfl, hP, S', F, l⟩ I hI
    have hi : a.length < n := hi
    refine ⟨_, rfl, ?_⟩
    have h1 : (a.length + 1) * cost = a.length * cost + cost := Nat.succ_mul _ _
    have h2 : (a.length + 1) * cost ≤ n * cost := Nat.mul_le_mul_right _ hi
    simp
    refine he a.length _ m' _ hi S' (by omega) fun k m2 hk S2 F2 l2 => ?_
    simp
    refine ⟨by rw [sizeLine_eq]; omega, hI _ _ ⟨a ++ [k], by simp, by simp, ?_, by rw [h1]; exact S2.up (by omega), F.trans F2, l2.trans l⟩⟩
    intro x hx
    rcases List.mem_append.mp hx with h | h
    · exact hP x h
    · simp at h; subst h; exact hk
  · rintro acc m' ⟨a, rfl, ha, hP, S', F, l⟩
    exact ⟨rfl, q a m' ha hP S' F l⟩

/-! lists and tuples in each other's place -/
mutual
inductive Mx : Pd → Pd → Prop
  | same (p : Pd) : Mx p p
  | seq {p p' : Pd} {ps ps' : List Pd} (e : seqP p = some ps) (e' : seqP p' = some ps') (h : Mxs ps ps') : Mx p p'
inductive Mxs : List Pd → List Pd → Prop
  | nil : Mxs [] []
  | cons {p p' : Pd} {ps ps' : List Pd} : Mx p p' → Mxs ps ps' → Mxs (p :: ps) (p' :: ps')
end
theorem Mxs.length {ps ps' : List Pd} (h : Mxs ps ps') : ps'.length = ps.length := by
  induction ps generalizing ps' with
  | nil => cases h; rfl
  | cons p ps ih => cases h with | cons h t => simp [ih t]
theorem Mxs.get {ps ps' : List Pd} (h : Mxs ps ps') {i : Nat} {p' : Pd} (e : ps'[i]? = some p') : ∃ p, ps[i]? = some p ∧ Mx p p' := by
  induction ps generalizing ps' i with
  | nil => cases h; simp at e
  | cons p ps ih =>
    cases h with
    | cons h t =>
      cases i with
      | zero => simp at e; subst e; exact ⟨p, rfl, h⟩
      | succ i => simp at e; obtain ⟨v, hv, q⟩ := ih t e; exact ⟨v, by simpa using hv, q⟩
theorem Mxs.snoc {ps ps' : List Pd} (h : Mxs ps ps') {p p' : Pd} (e : Mx p p') : Mxs (ps ++ [p]) (ps' ++ [p']) := by
  induction ps generalizing ps' with
  | nil => cases h; exact .cons e .nil
  | cons q ps ih => cases h with | cons h t => exact .cons h (ih t)
theorem seqP_cases {p : Pd} {ps : List Pd} (h : seqP p = some ps) : p = .lst ps ∨ p = .tup ps := by
  cases p with
  | lst xs => cases h; exact .inl rfl
  | tup xs => cases h; exact .inr rfl
  | _ => cases h
theorem dle_seq {k : Nat} {p : Pd} {ps : List Pd} (h : seqP p = some ps) : dle (k + 1) p ↔ ps.length ≤ 10000000 ∧ ∀ x ∈ ps, dle k x := by
  rcases seqP_cases h with rfl | rfl <;> exact Iff.rfl
theorem okd_seq {k : Nat} {p : Pd} {ps : List Pd} (h : seqP p = some ps) : okd (k + 1) p ↔ ∀ x ∈ ps, okd k x := by
  rcases seqP_cases h with rfl | rfl <;> exact Iff.rfl
theorem Mx.dle : ∀ {k : Nat} {p p' : Pd}, Mx p p' → dle k p → dle k p'
  | 0, _, _, _, h => (dle_0 h).elim
  | k + 1, _, _, .same p, h => h
  | k + 1, p, p', .seq e e' hm, h => by
    rw [dle_seq e] at h
    rw [dle_seq e']
    refine ⟨by rw [hm.length]; exact h.1, fun x hx => ?_⟩
    obtain ⟨i, hi⟩ := List.getElem?_of_mem hx
    obtain ⟨y, hy, hxy⟩ := hm.get hi
    exact Mx.dle hxy (h.2 y (List.mem_of_getElem? hy))
theorem Mx.okd : ∀ {k : Nat} {p p' : Pd}, Mx p p' → okd k p → okd k p'
  | 0, _, _, _, _ => trivial
  | k + 1, _, _, .same p, h => h
  | k + 1, p, p', .seq e e' hm, h => by
    rw [okd_seq e] at h
    rw [okd_seq e']
    intro x hx
    obtain ⟨i, hi⟩ := List.getElem?_of_mem hx
    obtain ⟨y, hy, hxy⟩ := hm.get hi
    exact Mx.okd hxy (h y (List.mem_of_getElem? hy))
/-- how many draws at most -/
def mc : Nat → Nat
  | 0 => 0
  | k + 1 => 10000000 * mc k + 1
def isSeqP (p : Pd) : Bool := (seqP p).isSome

abbrev Nst (s t : Nat) : Nat → Prop := fun n => n ≠ s ∧ n ≠ t

theorem Frs.setN {s r : Nat} {m m' : Hm} {o : O} (f : Frs s m m') (h : m.length ≤ r) : Frs s m (m'.set r o) :=
  ⟨by rw [List.length_set]; exact f.len, fun n x hn hx => by rw [List.getElem?_set_ne (by have := get_lt hx; omega)]; exact f.get n x hn hx⟩
/-! ### lists joined, cut -/
def adO (a b : Option (List D)) (m : Hm) (Q : Rs D → Prop) : Prop := ∃ xs ys, a = some xs ∧ b = some ys ∧ xs.length + ys.length ≤ sizeLine ∧ Q (.ok (.ref m.length) (m ++ [.lst (xs ++ ys)]))
def slO (a : Option (List D)) (l h : Option Int) (m : Hm) (Q : Rs D → Prop) : Prop := ∃ xs, a = some xs ∧ Q (.ok (.ref m.length) (m ++ [.lst (cutD xs l h)]))
section
variable {a b : Nat} {m : Hm} {Q : Rs D → Prop} {xs ys : List D} {l h : Option Int}
@[simp] theorem adO_ : adO (some xs) (some ys) m Q = (xs.length + ys.length ≤ sizeLine ∧ Q (.ok (.ref m.length) (m ++ [.lst (xs ++ ys)]))) := propext ⟨fun ⟨_, _, h1, h2, h3, q⟩ => by cases h1; cases h2; exact ⟨h3, q⟩, fun ⟨h, q⟩ => ⟨_, _, rfl, rfl, h, q⟩⟩
@[simp] theorem op_add_l : wO (opAdd (.ref a) (.ref b) m) Q = adO (lsO (m[a]?)) (lsO (m[b]?)) m Q := by
  unfold opAdd adO
  refine propext ?_
  cases e1 : m[a]? with
  | none => simp [e1, wO, lsO]
  | some o =>
    cases o with
    | lst xs =>
      cases e2 : m[b]? with
      | none => simp [e1, e2, wO, lsO]
      | some o2 =>
        cases o2 with
        | lst ys =>
          simp only [e1, e2]
          rw [wO_if]
          constructor
          · rintro ⟨h, q⟩; exact ⟨xs, ys, rfl, rfl, h, q⟩
          · rintro ⟨_, _, h1, h2, h3, q⟩; cases h1; cases h2; exact ⟨h3, q⟩
        | _ => simp [e1, e2, wO, lsO]
    | _ => simp [e1, wO, lsO]
@[simp] theorem op_add_t : wO (opAdd (.tup xs) (.tup ys) m) Q = (xs.length + ys.length ≤ sizeLine ∧ Q (.ok (.tup (xs ++ ys)) m)) := propext wO_if
@[simp] theorem slO_ : slO (some xs) l h m Q = Q (.ok (.ref m.length) (m ++ [.lst (cutD xs l h)])) := propext ⟨fun ⟨_, h1, q⟩ => by cases h1; exact q, fun q => ⟨_, rfl, q⟩⟩
@[simp] theorem sl_l : wO (slD (.ref a) l h m) Q = slO (lsO (m[a]?)) l h m Q := by
  unfold slO wO
  show (∃ p, ((lstOf m a).map fun xs => (D.ref m.length, m ++ [O.lst (cutD xs l h)])) = some p ∧ Q (.ok p.1 p.2)) = _
  rw [lstOf_n]
  refine propext ?_
  cases lsO (m[a]?) with
  | none => simp
  | some xs => simp
@[simp] theorem sl_t : wO (slD (.tup xs) l h m) Q = Q (.ok (.tup (cutD xs l h)) m) := wO_some
end
theorem cutD_to (xs : List D) (n : Nat) : cutD xs none (some (n : Int)) = xs.take n := by
  unfold cutD HT.sIx
  have h1 : ¬ ((n : Int) < 0) := by omega
  simp [h1]
theorem cutD_from (xs : List D) (n : Nat) : cutD xs (some (n : Int)) none = xs.drop n := by
  unfold cutD HT.sIx
  have h1 : ¬ ((n : Int) < 0) := by omega
  simp [h1]
  rw [List.take_of_length_le (by simp)]
  by_cases h : n ≤ xs.length
  · rw [Nat.min_eq_left h]
  · rw [Nat.min_eq_right (by omega), List.drop_length, List.drop_eq_nil_of_le (by omega)]
/-- if a and b: .. (where b is False at last) -/
theorem kTa_cut {k : Bool} {u : Mv Bool} {ρ : Ro} {m : Hm} {s1 : Ms} {K : Ro → Hm → Prop} {Q R : Ou → Prop} (P : Hm → Prop) (h1 : k = true → ∀ QB : Rs Bool → Prop, (∀ m', P m' → QB (.ok false m')) → wE u ρ m QB) (h2 : k = false → P m) (h : ∀ m', P m' → K ρ m') :
    kTa u ρ (okS ρ (kIs s1 sNext ρ (nxK K Q)) R) k m := by
  cases k with
  | true =>
    rw [kTa_t]
    exact h1 rfl _ fun m' p => by simp; exact h m' p
  | false =>
    rw [kTa_f]
    simp
    exact h m (h2 rfl)
@[simp] theorem setO_l {m : Hm} {n : Nat} {xs : List D} {i : Nat} {v : D} : setO (some (.lst xs)) m n ((i : Nat) : Int) v = if i < xs.length then some (m.set n (.lst (xs.set i v))) else none := by
  unfold setO
  simp only [ixN_cast]
  by_cases h : i < xs.length <;> simp [h]
theorem okd_dn : ∀ {k : Nat} {p : Pd}, okd (k + 1) p → okd k p
  | 0, _, _ => trivial
  | k + 1, p, h => by
    cases p with
    | lst xs => exact fun x hx => okd_dn (h x hx)
    | tup xs => exact fun x hx => okd_dn (h x hx)
    | dct kvs => exact ⟨h.1, fun x hx => okd_dn (h.2 x hx)⟩
    | _ => trivial
theorem okd_all : ∀ (k : Nat) {p : Pd}, dle k p → okd k p → ∀ l, okd l p
  | 0, _, h, _, _ => (dle_0 h).elim
  | _, _, _, _, 0 => trivial
  | k + 1, p, h, o, l + 1 => by
    cases p with
    | lst xs => exact fun x hx => okd_all k (h.2 x hx) (o x hx) l
    | tup xs => exact fun x hx => okd_all k (h.2 x hx) (o x hx) l
    | dct kvs =>
      cases k with
      | zero => exact (show False from h).elim
      | succ k => exact ⟨o.1, fun x hx => okd_all k (h.2.2 x hx) (okd_dn (o.2 x hx)) l⟩
    | _ => trivial
/-- a comprehension that makes no object -/
theorem mapC {w : Wk} {e : Mv D} {ρ : Ro} {j : Nat} {m : Hm} {ds : List D} {Q : List D → Hm → Prop} (hn : w.n = ds.length) (hl : ds.length ≤ 10000000) (hw : ∀ i y, ds[i]? = some y → ∃ d, w.at_ i m = some d ∧ ∀ Q' : Rs D → Prop, Q' (.ok y m) → wE e (ρ.set j (.is d)) m Q')
    (hf : w.fin m = true) (q : Q ds m) : wL w (gNm j) tYesM e ρ m [] Q := by
  refine wL_inv (fun i acc m' => m' = m ∧ acc = ds.take i) ⟨rfl, by simp⟩ ?_ ?_
  · rintro i acc m' hi ⟨rfl, rfl⟩ I hI
    have hi : i < ds.length := by omega
    obtain ⟨y, hy⟩ : ∃ y, ds[i]? = some y := ⟨_, List.getElem?_eq_getElem hi⟩
    obtain ⟨d, hd, he⟩ := hw i y hy
    refine ⟨d, hd, ?_⟩
    simp
    refine he _ ?_
    simp
    refine ⟨by rw [sizeLine_eq]; omega, hI _ _ ⟨rfl, ?_⟩⟩
    rw [List.take_add_one, hy]; rfl
  · rintro acc m' ⟨rfl, rfl⟩
    rw [hn, List.take_length]
    exact ⟨hf, q⟩
theorem intsOf_map (ns : List Int) : intsOf (ns.map D.int) = some ns := by
  induction ns with
  | nil => rfl
  | cons n ns ih => simp [intsOf, ih]
theorem sum_w {a : Nat} {m : Hm} {ns : List Int} {Q : Rs D → Prop} (e : m[a]? = some (.lst (ns.map .int))) : wO (bSum [.ref a] m) Q = Q (.ok (.int ns.sum) m) := by
  unfold bSum
  show wO (((lstOf m a).bind intsOf).map fun ns => (D.int ns.sum, m)) Q = _
  rw [lstOf_n, e]
  show wO (((some (ns.map D.int)).bind intsOf).map fun ns => (D.int ns.sum, m)) Q = _
  rw [Option.bind_some, intsOf_map]
  exact wO_some
theorem ints_at {ns : List Int} {i : Nat} {y : D} (h : (ns.map D.int)[i]? = some y) : ∃ x, ns[i]? = some x ∧ y = .int x := by
  rw [List.getElem?_map] at h
  cases q : ns[i]? with
  | none => rw [q] at h; cases h
  | some x => rw [q] at h; cases h; exact ⟨x, rfl, rfl⟩
end Mi
namespace Mi
open PySem PySem.Spec PyProof.Rows L2
/-! ## wishes about dict comprehensions, sorted pairs, lists and lengths of dicts, reversed ranges and lists, defaults -/
def wD (w : Wk) (g : Mg) (t : Mv Bool) (ek ev : Mv D) (ρ : Ro) (m : Hm) (acc : Kvt) (Q : Kvt → Hm → Prop) : Prop := ∃ z, dcL w g t ek ev ρ w.n 0 m acc = some z ∧ Q z.1 z.2
def kDe (Q : Rs D → Prop) (acc : Kvt) (m : Hm) : Prop := Q (.ok (.ref m.length) (m ++ [.dT acc]))
def kDc (g : Mg) (t : Mv Bool) (ek ev : Mv D) (vs : List Nat) (ρ : Ro) (Q : Rs D → Prop) (w : Wk) (m : Hm) : Prop := wD w g t ek ev (wipeM ρ vs) m [] (kDe Q)
def dpK (o : Option Kvt) (I : Kvt → Hm → Prop) (m : Hm) : Prop := ∃ a, o = some a ∧ I a m
def kDv (I : Kvt → Hm → Prop) (acc : Kvt) (y z : D) (m : Hm) : Prop := dpK (dcPut acc y z) I m
def kDk (ev : Mv D) (ρ : Ro) (I : Kvt → Hm → Prop) (acc : Kvt) (y : D) (m : Hm) : Prop := wE ev ρ m (okK (kDv I acc y) (noK (α := D)))
def iteD (k : Bool) (ek ev : Mv D) (ρ : Ro) (I : Kvt → Hm → Prop) (acc : Kvt) (m : Hm) : Prop := if k = true then wE ek ρ m (okK (kDk ev ρ I acc) (noK (α := D))) else I acc m
def kDi (ek ev : Mv D) (ρ : Ro) (I : Kvt → Hm → Prop) (acc : Kvt) (k : Bool) (m : Hm) : Prop := iteD k ek ev ρ I acc m
def kDt (t : Mv Bool) (ek ev : Mv D) (I : Kvt → Hm → Prop) (acc : Kvt) (ρ : Ro) (m : Hm) : Prop := wE t ρ m (okK (kDi ek ev ρ I acc) (noK (α := Bool)))
def srK (o : Option (List (Int × Int))) (m : Hm) (Q : Rs D → Prop) : Prop := ∃ ps, o = some ps ∧ Q (.ok (.ref m.length) (m ++ [.lst ((srtP ps).map pD)]))
def liA (o : Option O) (m : Hm) (Q : Rs D → Prop) : Prop := match o with
  | some (.dT kvs) => Q (.ok (.ref m.length) (m ++ [.lst (kvs.map fun kv => .tup (kv.1.map kD))]))
  | some (.dK kvs) => Q (.ok (.ref m.length) (m ++ [.lst (kvs.map fun kv => kD kv.1)]))
  | some (.lst xs) => Q (.ok (.ref m.length) (m ++ [.lst xs]))
  | _ => False
def lnA (o : Option O) (m : Hm) (Q : Rs D → Prop) : Prop := match o with
  | some (.dT kvs) => Q (.ok (.int kvs.length) m)
  | some (.dK kvs) => Q (.ok (.int kvs.length) m)
  | some (.lst xs) => Q (.ok (.int xs.length) m)
  | _ => False
def rvK (ds : List D) (m : Hm) (Q : Rs Wk → Prop) : Prop := match ds with
  | [.int j] => (-(2 ^ 62) ≤ j ∧ j < 2 ^ 62) ∧ Q (.ok (itRv 0 j.toNat) m)
  | [.int i, .int j] => (-(2 ^ 62) ≤ i ∧ i < 2 ^ 62 ∧ -(2 ^ 62) ≤ j ∧ j < 2 ^ 62) ∧ Q (.ok (itRv i (j - i).toNat) m)
  | _ => False
def kRv (Q : Rs Wk → Prop) (ds : List D) (m : Hm) : Prop := rvK ds m Q
def rvO (o : Option (List D)) (m : Hm) (Q : Rs D → Prop) : Prop := ∃ xs, o = some xs ∧ Q (.ok (.ref m.length) (m ++ [.lst xs.reverse]))
def kRvL (Q : Rs D → Prop) (x : D) (m : Hm) : Prop := ∃ n, x = .ref n ∧ rvO (lsO (m[n]?)) m Q
section
variable {w : Wk} {g : Mg} {t : Mv Bool} {ek ev a : Mv D} {ρ : Ro} {m : Hm} {acc : Kvt} {Q : Rs D → Prop} {I : Kvt → Hm → Prop} {y z x d : D} {vs : List Nat} {it : Mi_} {b : Bool} {n : Nat} {kvs : Kvt} {kvs' : List (Key × D)} {xs ds : List D} {la : Mv (List D)} {QW : Rs Wk → Prop} {i j : Int} {F : Fx} {ks : List Key} {ps : List (Int × Int)}
@[simp] theorem kDe_ : kDe Q acc m = Q (.ok (.ref m.length) (m ++ [.dT acc])) := rfl
@[simp] theorem kDc_ : kDc g t ek ev vs ρ Q w m = wD w g t ek ev (wipeM ρ vs) m [] (kDe Q) := rfl
@[simp] theorem kDv_ : kDv I acc y z m = dpK (dcPut acc y z) I m := rfl
@[simp] theorem kDk_ : kDk ev ρ I acc y m = wE ev ρ m (okK (kDv I acc y) (noK (α := D))) := rfl
@[simp] theorem iteD_t : iteD true ek ev ρ I acc m = wE ek ρ m (okK (kDk ev ρ I acc) (noK (α := D))) := if_pos rfl
@[simp] theorem iteD_f : iteD false ek ev ρ I acc m = I acc m := if_neg Bool.false_ne_true
@[simp] theorem kDi_ : kDi ek ev ρ I acc b m = iteD b ek ev ρ I acc m := rfl
@[simp] theorem kDt_ : kDt t ek ev I acc ρ m = wE t ρ m (okK (kDi ek ev ρ I acc) (noK (α := Bool))) := rfl
@[simp] theorem dpK_ : dpK (some kvs) I m = I kvs m := propext ⟨fun ⟨_, h, q⟩ => by cases h; exact q, fun q => ⟨_, rfl, q⟩⟩
theorem dcPut_ {ds : List D} (h : keyT y = some ks) (hl : acc.length < sizeLine) : dcPut acc y z = some (putKD acc ks z) := by
  unfold dcPut
  rw [h]
  exact if_pos hl
@[simp] theorem wE_dcT : wE (eDcT it g t ek ev vs) ρ m Q = wE it ρ m (okK (kDc g t ek ev vs ρ Q) Q) := w_bnd fun w m1 => by
  constructor
  · rintro ⟨r, h, q⟩
    cases e : dcL w g t ek ev (wipeM ρ vs) w.n 0 m1 [] with
    | none => rw [e] at h; cases h
    | some z => rw [e] at h; cases h; exact ⟨z, e, q⟩
  · rintro ⟨z, e, q⟩; exact ⟨_, by rw [e]; rfl, q⟩
theorem dcL_inv {Q : Kvt → Hm → Prop} (Inv : Nat → Kvt → Hm → Prop)
    (step : ∀ i acc m, i < w.n → Inv i acc m → ∀ I : Kvt → Hm → Prop, (∀ acc m, Inv (i + 1) acc m → I acc m) → ∃ d, w.at_ i m = some d ∧ wG (g d ρ m) (nxK (kDt t ek ev I acc) noS))
    (done : ∀ acc m, Inv w.n acc m → w.fin m = true ∧ Q acc m) : ∀ k i acc m, i + k = w.n → Inv i acc m → ∃ z, dcL w g t ek ev ρ k i m acc = some z ∧ Q z.1 z.2
  | 0, i, acc, m, h, inv => by
    have : i = w.n := by omega
    subst this
    obtain ⟨h1, h2⟩ := done acc m inv
    exact ⟨_, by simp [dcL, h1]; rfl, h2⟩
  | k + 1, i, acc, m, h, inv => by
    obtain ⟨d, h1, ⟨ρ1, m1⟩, h2, r, h3, h4⟩ := step i acc m (by omega) inv _ (fun _ _ z => z)
    simp only at h3
    simp only [dcL, h1, h2, h3]
    cases r with
    | ex x m2 => exact h4.elim
    | ok b m2 =>
      cases b with
      | false =>
        have h4 : Inv (i + 1) acc m2 := by simpa [kDi, iteD] using h4
        exact dcL_inv Inv step done k (i + 1) acc m2 (by omega) h4
      | true =>
        have h4 : wE ek ρ1 m2 (okK (kDk ev ρ1 (Inv (i + 1)) acc) (noK (α := D))) := by simpa [kDi, iteD] using h4
        obtain ⟨r, h5, h6⟩ := h4
        cases r with
        | ex x m3 => exact h6.elim
        | ok y m3 =>
          obtain ⟨r, h7, h8⟩ := h6
          cases r with
          | ex x m4 => exact h8.elim
          | ok z m4 =>
            obtain ⟨a, h9, h10⟩ := h8
            simp only [h5, h7, h9]
            exact dcL_inv Inv step done k (i + 1) _ _ (by omega) h10
theorem wD_inv {Q : Kvt → Hm → Prop} (Inv : Nat → Kvt → Hm → Prop) (h0 : Inv 0 acc m)
    (step : ∀ i acc m, i < w.n → Inv i acc m → ∀ I : Kvt → Hm → Prop, (∀ acc m, Inv (i + 1) acc m → I acc m) → ∃ d, w.at_ i m = some d ∧ wG (g d ρ m) (nxK (kDt t ek ev I acc) noS))
    (done : ∀ acc m, Inv w.n acc m → w.fin m = true ∧ Q acc m) : wD w g t ek ev ρ m acc Q := dcL_inv Inv step done w.n 0 acc m (by simp) h0
/-- over nothing -/
theorem wD_0 {Q : Kvt → Hm → Prop} (hn : w.n = 0) (hf : w.fin m = true) (q : Q acc m) : wD w g t ek ev ρ m acc Q := wD_inv (fun _ a m' => a = acc ∧ m' = m) ⟨rfl, rfl⟩ (fun i _ _ h _ => by omega) (by rintro _ _ ⟨rfl, rfl⟩; exact ⟨hf, q⟩)
theorem wI_0 {s : Ms} {Q : Ou → Prop} (hn : w.n = 0) (hf : w.fin m = true) (q : Q (.nx ρ m)) : wI w g s ρ m Q := wI_inv (fun _ r m' => r = ρ ∧ m' = m) ⟨rfl, rfl⟩ (fun i _ _ h _ => by omega) (by rintro _ _ ⟨rfl, rfl⟩; exact ⟨hf, q⟩)
@[simp] theorem srK_ : srK (some ps) m Q = Q (.ok (.ref m.length) (m ++ [.lst ((srtP ps).map pD)])) := propext ⟨fun ⟨_, h, q⟩ => by cases h; exact q, fun q => ⟨_, rfl, q⟩⟩
@[simp] theorem b_srtP : wO (bSrtP [.ref n] m) Q = srK ((lsO (m[n]?)).bind fun xs => xs.mapM pairOf) m Q := by
  unfold bSrtP
  simp only [lstOf_n]
  refine propext ?_
  cases lsO (m[n]?) with
  | none => simp [wO, srK]
  | some xs =>
    show wO ((xs.mapM pairOf).map _) Q ↔ srK (xs.mapM pairOf) m Q
    exact wO_mp
@[simp] theorem liA_T : liA (some (.dT kvs)) m Q = Q (.ok (.ref m.length) (m ++ [.lst (kvs.map fun kv => .tup (kv.1.map kD))])) := rfl
@[simp] theorem liA_K : liA (some (.dK kvs')) m Q = Q (.ok (.ref m.length) (m ++ [.lst (kvs'.map fun kv => kD kv.1)])) := rfl
@[simp] theorem liA_l : liA (some (.lst xs)) m Q = Q (.ok (.ref m.length) (m ++ [.lst xs])) := rfl
@[simp] theorem lnA_T : lnA (some (.dT kvs)) m Q = Q (.ok (.int kvs.length) m) := rfl
@[simp] theorem lnA_K : lnA (some (.dK kvs')) m Q = Q (.ok (.int kvs'.length) m) := rfl
@[simp] theorem lnA_l : lnA (some (.lst xs)) m Q = Q (.ok (.int xs.length) m) := rfl
@[simp] theorem b_listA : wO (bListA [.ref n] m) Q = liA (m[n]?) m Q := by
  unfold bListA liA
  cases h : m[n]? with
  | none => simp [h, liK, lsO]
  | some o => cases o <;> simp [h, liK, lsO]
@[simp] theorem b_listA_t : wO (bListA [.tup xs] m) Q = Q (.ok (.ref m.length) (m ++ [.lst xs])) := by
  show wO (bList [.tup xs] m) Q = _
  simp
@[simp] theorem b_lenA : wO (bLenA [.ref n] m) Q = lnA (m[n]?) m Q := by
  unfold bLenA lnA
  cases h : m[n]? with
  | none => simp [h, lnK, lsO]
  | some o => cases o <;> simp [h, lnK, lsO]
@[simp] theorem b_lenA_t : wO (bLenA [.tup xs] m) Q = Q (.ok (.int xs.length) m) := by
  show wO (bLen [.tup xs] m) Q = _
  simp
@[simp] theorem rvK_1 : rvK [.int j] m QW = ((-(2 ^ 62) ≤ j ∧ j < 2 ^ 62) ∧ QW (.ok (itRv 0 j.toNat) m)) := rfl
@[simp] theorem rvK_2 : rvK [.int i, .int j] m QW = ((-(2 ^ 62) ≤ i ∧ i < 2 ^ 62 ∧ -(2 ^ 62) ≤ j ∧ j < 2 ^ 62) ∧ QW (.ok (itRv i (j - i).toNat) m)) := rfl
@[simp] theorem kRv_ : kRv QW ds m = rvK ds m QW := rfl
@[simp] theorem wI_rev : wE (iRev la) ρ m QW = wE la ρ m (okK (kRv QW) QW) := w_bnd fun ds m => by
  constructor
  · rintro ⟨r, h, q⟩
    split at h
    · split at h
      · rename_i hj; cases h; exact ⟨hj, q⟩
      · cases h
    · split at h
      · rename_i hj; cases h; exact ⟨hj, q⟩
      · cases h
    · cases h
  · intro h
    show ∃ r, _
    unfold kRv rvK at h
    split at h
    · obtain ⟨h1, h2⟩ := h
      exact ⟨_, by simp only [h1, and_self, if_true], h2⟩
    · obtain ⟨h1, h2⟩ := h
      exact ⟨_, by simp only [h1, and_self, if_true], h2⟩
    · exact h.elim
@[simp] theorem itRv_n {lo : Int} : (itRv lo n).n = n := rfl
@[simp] theorem itRv_at {lo : Int} {k : Nat} : (itRv lo n).at_ k m = some (.int (lo + (n : Int) - 1 - (k : Nat))) := rfl
@[simp] theorem itRv_fin {lo : Int} : (itRv lo n).fin m = true := rfl
@[simp] theorem rvO_ : rvO (some xs) m Q = Q (.ok (.ref m.length) (m ++ [.lst xs.reverse])) := propext ⟨fun ⟨_, h, q⟩ => by cases h; exact q, fun q => ⟨_, rfl, q⟩⟩
@[simp] theorem kRvL_ : kRvL Q (.ref n) m = rvO (lsO (m[n]?)) m Q := propext ⟨fun ⟨_, h, q⟩ => by cases h; exact q, fun q => ⟨_, rfl, q⟩⟩
@[simp] theorem wE_revL : wE (eRevL a) ρ m Q = wE a ρ m (okK (kRvL Q) Q) := w_bnd fun d m1 => by
  constructor
  · rintro ⟨r, h, q⟩
    split at h
    · rename_i n
      rw [lstOf_n] at h
      cases e : lsO (m1[n]?) with
      | none => rw [e] at h; cases h
      | some xs => rw [e] at h; cases h; exact ⟨n, rfl, xs, e, q⟩
    · cases h
  · rintro ⟨n, rfl, xs, e, q⟩
    refine ⟨_, ?_, q⟩
    simp only [lstOf_n, e]
    rfl
@[simp] theorem wF_dfl {dds : List D} {QD : Rs D → Prop} : wF (dflF F dds) ds m QD = wF F (ds ++ dds) m QD := rfl
end
end Mi
namespace Mi
open PySem PySem.Spec PyProof.Rows L2
/-! ## wishes about max and min of a list of ints -/
def inK (o : Option Int) (m : Hm) (Q : Rs D → Prop) : Prop := ∃ k, o = some k ∧ Q (.ok (.int k) m)
section
variable {m : Hm} {n : Nat} {Q : Rs D → Prop} {k : Int}
@[simp] theorem inK_ : inK (some k) m Q = Q (.ok (.int k) m) := propext ⟨fun ⟨_, h, q⟩ => by cases h; exact q, fun q => ⟨_, rfl, q⟩⟩
theorem b_maxL {ns : List Int} (h : m[n]? = some (.lst (ns.map .int))) : wO (bMaxL [.ref n] m) Q = inK ns.max? m Q := by
  unfold bMaxL
  show wO ((((lstOf m n).bind intsOf).bind fun ns => ns.max?).map fun k => (D.int k, m)) Q = _
  rw [lstOf_n, h]
  show wO ((((some (ns.map D.int)).bind intsOf).bind fun ns => ns.max?).map fun k => (D.int k, m)) Q = _
  rw [Option.bind_some, intsOf_map]
  exact propext wO_mp
theorem b_minL {ns : List Int} (h : m[n]? = some (.lst (ns.map .int))) : wO (bMinL [.ref n] m) Q = inK ns.min? m Q := by
  unfold bMinL
  show wO ((((lstOf m n).bind intsOf).bind fun ns => ns.min?).map fun k => (D.int k, m)) Q = _
  rw [lstOf_n, h]
  show wO ((((some (ns.map D.int)).bind intsOf).bind fun ns => ns.min?).map fun k => (D.int k, m)) Q = _
  rw [Option.bind_some, intsOf_map]
  exact propext wO_mp
end
end Mi
namespace Ours
open PySem PySem.Spec PyProof.Rows L2 Mi
/-! ### the mirror of the text -/
def m_law_store : Ms := sRet (eLst (aCons (eLc (iSeq (eVar 0)) (gNm 1) (tYesM) (eB bInt (aCons (eVar 1) (aNil))) [1]) (aCons (eC (.int 0)) (aCons (eC (.int 0)) (aCons (eC (.int 20261119)) (aCons (eC (.int 0)) (aNil)))))))
def f_law_store : Fx := runF 2 m_law_store
def m_law_mix : Ms := sSeq (sAsg (eBin opMod (eB bInt (aCons (eBin opAdd (eBin opMul (eBin opAdd (eVar 0) (eC (.int 1))) (eC (.int 900719925474099267))) (eBin opMul (eBin opAdd (eVar 1) (eC (.int 1))) (eC (.int 611953614877260359)))) (aNil))) (eC (.int 2305843009213693951))) (gNm 2))
    (sRet (eBin opMod (eB bInt (aCons (eBin opAdd (eBin opMul (eBin opAdd (eBin opAdd (eBin opFdiv (eVar 2) (eC (.int 1048576))) (eBin opMul (eVar 2) (eVar 2))) (eC (.int 3))) (eC (.int 715827882863311153))) (eVar 1)) (aNil))) (eC (.int 2305843009213693951))))
def f_law_mix : Fx := runF 3 m_law_mix
def m_law_take : Ms := sSeq (sIf (tBl (eBin opLe (eVar 1) (eC (.int 1)))) (sRet (eC (.int 0))) (sNext))
    (sSeq (sIf (tBl (eBin opGt (eBin opIxA (eVar 0) (eC (.int 2))) (eC (.int 0)))) (sSeq (sAsg (eBin opMod (eB bInt (aCons (eBin opIxA (eVar 0) (eC (.int 2))) (aNil))) (eVar 1)) (gNm 2))
    (sSeq (sAsg (eBin opFdiv (eBin opIxA (eVar 0) (eC (.int 2))) (eVar 1)) (gIx (eVar 0) (eC (.int 2))))
    (sRet (eVar 2)))) (sNext))
    (sSeq (sAsg (eBin opAdd (eBin opIxA (eVar 0) (eC (.int 4))) (eC (.int 1))) (gIx (eVar 0) (eC (.int 4))))
    (sSeq (sAsg (eC (.int 0)) (gNm 3))
    (sSeq (sAsg (eBin opMul (eC (.int 2)) (eBin opIxA (eVar 0) (eC (.int 4)))) (gNm 4))
    (sSeq (sIf (tBl (eBin opLt (eBin opIxA (eVar 0) (eC (.int 1))) (eB bLen (aCons (eBin opIxA (eVar 0) (eC (.int 0))) (aNil))))) (sSeq (sAsg (eBin opIxA (eBin opIxA (eVar 0) (eC (.int 0))) (eBin opIxA (eVar 0) (eC (.int 1)))) (gNm 3))
    (sSeq (sAsg (eBin opAdd (eBin opIxA (eVar 0) (eC (.int 1))) (eC (.int 1))) (gIx (eVar 0) (eC (.int 1))))
    (sAsg (eBin opAdd (eVar 4) (eC (.int 1))) (gNm 4)))) (sNext))
    (sSeq (sAsg (eCall f_law_mix (aCons (eBin opAdd (eBin opIxA (eVar 0) (eC (.int 3))) (eBin opMod (eB bInt (aCons (eVar 3) (aNil))) (eC (.int 2305843009213693951)))) (aCons (eVar 4) (aNil)))) (gIx (eVar 0) (eC (.int 3))))
    (sSeq (sIf (tBl (eBin opGe (eVar 3) (eBin opPow (eC (.int 10)) (eC (.int 18))))) (sSeq (sAsg (eBin opFdiv (eVar 3) (eVar 1)) (gIx (eVar 0) (eC (.int 2))))
    (sRet (eBin opMod (eB bInt (aCons (eVar 3) (aNil))) (eVar 1)))) (sNext))
    (sSeq (sAsg (eCall f_law_mix (aCons (eBin opIxA (eVar 0) (eC (.int 3))) (aCons (eC (.int 5)) (aNil)))) (gNm 5))
    (sSeq (sAsg (eC (.int 2305843009213693951)) (gNm 6))
    (sSeq (sFor (iRange (aCons (eC (.int 60)) (aNil))) (gNm 7) (sSeq (sIf (tBl (eBin opGe (eVar 6) (eBin opMul (eVar 1) (eC (.int 1000000))))) (sBreak) (sNext))
    (sSeq (sAsg (eBin opAdd (eBin opMul (eVar 5) (eC (.int 2305843009213693951))) (eCall f_law_mix (aCons (eBin opIxA (eVar 0) (eC (.int 3))) (aCons (eBin opAdd (eVar 7) (eC (.int 6))) (aNil))))) (gNm 5))
    (sAsg (eBin opMul (eVar 6) (eC (.int 2305843009213693951))) (gNm 6)))))
    (sRet (eBin opMod (eB bInt (aCons (eVar 5) (aNil))) (eVar 1)))))))))))))
def f_law_take : Fx := runF 8 m_law_take
def m_law_pick : Ms := sRet (eBin opIxA (eVar 1) (eCall f_law_take (aCons (eVar 0) (aCons (eB bLen (aCons (eVar 1) (aNil))) (aNil)))))
def f_law_pick : Fx := runF 2 m_law_pick
def m_law_chance : Ms := sRet (eBin opEq (eCall f_law_take (aCons (eVar 0) (aCons (eVar 1) (aNil)))) (eC (.int 0)))
def f_law_chance : Fx := runF 2 m_law_chance
def m_law_best_points : Ms := sSeq (sAsg (eLc (iRange (aCons (eBin opAdd (eVar 0) (eC (.int 1))) (aNil))) (gNm 3) (tYesM) (eLc (iRange (aCons (eBin opAdd (eVar 1) (eC (.int 1))) (aNil))) (gNm 4) (tYesM) (eLst (aCons (eTup (aCons (eC (.int 0)) (aCons (eC (.int 0)) (aNil)))) (aNil))) [4]) [3]) (gNm 2))
    (sSeq (sFor (iRange (aCons (eC (.int 1)) (aCons (eBin opAdd (eVar 0) (eC (.int 1))) (aNil)))) (gNm 3) (sFor (iRange (aCons (eC (.int 1)) (aCons (eBin opAdd (eVar 1) (eC (.int 1))) (aNil)))) (gNm 4) (sSeq (sAsg (eBin opIxA (eBin opIxA (eVar 2) (eBin opSub (eVar 3) (eC (.int 1)))) (eVar 4)) (gNm 5))
    (sSeq (sAsg (eBin opIxA (eBin opIxA (eVar 2) (eVar 3)) (eBin opSub (eVar 4) (eC (.int 1)))) (gNm 6))
    (sSeq (sAsg (eC (.int 0)) (gNm 7))
    (sSeq (sFor (iSeq (eLst (aCons (eVar 5) (aCons (eVar 6) (aNil))))) (gNm 8) (sAsg (eB bMaxL (aCons (eBin opAdd (eLc (iRange (aCons (eBin opSub (eB bLen (aCons (eVar 8) (aNil))) (eC (.int 1))) (aNil))) (gNm 11) (tYesM) (eB bAbs (aCons (eBin opSub (eBin opIxA (eBin opIxA (eVar 8) (eBin opAdd (eVar 11) (eC (.int 1)))) (eC (.int 1))) (eBin opIxA (eBin opIxA (eVar 8) (eVar 11)) (eC (.int 1)))) (aNil))) [11]) (eLst (aCons (eVar 7) (aNil)))) (aNil))) (gNm 7)))
    (sSeq (sAsg (eBin opSub (eBin opAdd (eBin opMul (eVar 7) (eBin opAdd (eB bLen (aCons (eVar 5) (aNil))) (eB bLen (aCons (eVar 6) (aNil))))) (eB bMaxL (aCons (eLc (iSeq (eVar 5)) (gNm 12) (tYesM) (eBin opIxA (eVar 12) (eC (.int 1))) [12]) (aNil)))) (eB bMinL (aCons (eLc (iSeq (eVar 6)) (gNm 12) (tYesM) (eBin opIxA (eVar 12) (eC (.int 1))) [12]) (aNil)))) (gNm 9))
    (sSeq (sAsg (eBin opIxA (eVar 2) (eVar 3)) (gNm 10))
    (sAsg (eBin opAdd (eVar 5) (eLc (iSeq (eVar 6)) (gNm 12) (tYesM) (eTup (aCons (eBin opAdd (eBin opIxA (eVar 12) (eC (.int 0))) (eB bLen (aCons (eVar 5) (aNil)))) (aCons (eBin opAdd (eBin opAdd (eBin opIxA (eVar 12) (eC (.int 1))) (eVar 9)) (eC (.int 1))) (aNil)))) [12])) (gIx (eVar 10) (eVar 4)))))))))))
    (sRet (eBin opIxA (eBin opIxA (eVar 2) (eVar 0)) (eVar 1))))
def f_law_best_points : Fx := runF 13 m_law_best_points
def m_law_between : Ms := sRet (eBin opAdd (eVar 1) (eCall f_law_take (aCons (eVar 0) (aCons (eBin opAdd (eBin opSub (eVar 2) (eVar 1)) (eC (.int 1))) (aNil)))))
def f_law_between : Fx := runF 3 m_law_between
def m_law_full_points : Ms := sSeq (sAsg (eCall f_law_take (aCons (eVar 0) (aCons (eC (.int 4)) (aNil)))) (gNm 2))
    (sSeq (sAsg (eCall f_law_between (aCons (eVar 0) (aCons (eNeg (eC (.int 9))) (aCons (eC (.int 9)) (aNil))))) (gNm 3))
    (sSeq (sAsg (eC (.int 0)) (gNm 4))
    (sSeq (sAsg (eLst (aNil)) (gNm 5))
    (sSeq (sFor (iRange (aCons (eVar 1) (aNil))) (gNm 6) (sSeq (sIf (tBl (eBin opEq (eVar 2) (eC (.int 0)))) (sAsg (eCall f_law_between (aCons (eVar 0) (aCons (eNeg (eC (.int 3))) (aCons (eC (.int 3)) (aNil))))) (gNm 4)) (sIf (tBl (eBin opEq (eVar 2) (eC (.int 1)))) (sAsg (eCall f_law_between (aCons (eVar 0) (aCons (eNeg (eBin opPow (eC (.int 10)) (eC (.int 30)))) (aCons (eBin opPow (eC (.int 10)) (eC (.int 30))) (aNil))))) (gNm 4)) (sIf (tBl (eBin opEq (eVar 2) (eC (.int 2)))) (sAsg (eBin opAdd (eBin opMul (eBin opMul (eVar 3) (eVar 3)) (eBin opSub (eC (.int 1)) (eBin opMul (eC (.int 2)) (eB bInt (aCons (eBin opLt (eBin opMul (eC (.int 2)) (eVar 6)) (eVar 1)) (aNil)))))) (eCall f_law_between (aCons (eVar 0) (aCons (eNeg (eC (.int 4))) (aCons (eC (.int 4)) (aNil)))))) (gNm 4)) (sAsg (eBin opAdd (eVar 4) (eCall f_law_between (aCons (eVar 0) (aCons (eNeg (eC (.int 2))) (aCons (eC (.int 2)) (aNil)))))) (gNm 4)))))
    (sSeq (sExpr (eMt mApp (eVar 5) (aCons (eTup (aCons (eVar 3) (aCons (eVar 4) (aNil)))) (aNil))))
    (sAsg (eBin opAdd (eBin opAdd (eVar 3) (eC (.int 1))) (eBin opFdiv (eCall f_law_take (aCons (eVar 0) (aCons (eC (.int 6)) (aNil)))) (eC (.int 5)))) (gNm 3)))))
    (sRet (eVar 5))))))
def f_law_full_points : Fx := runF 7 m_law_full_points
def m_law_edge : Ms := sSeq (sIf (tBl (eBin opLe (eVar 2) (eVar 1))) (sRet (eVar 1)) (sNext))
    (sSeq (sAsg (eCall f_law_take (aCons (eVar 0) (aCons (eC (.int 6)) (aNil)))) (gNm 3))
    (sSeq (sIf (tBl (eBin opEq (eVar 3) (eC (.int 0)))) (sRet (eVar 1)) (sNext))
    (sSeq (sIf (tBl (eBin opEq (eVar 3) (eC (.int 1)))) (sRet (eVar 2)) (sNext))
    (sRet (eBin opAdd (eVar 1) (eCall f_law_take (aCons (eVar 0) (aCons (eBin opAdd (eBin opSub (eVar 2) (eVar 1)) (eC (.int 1))) (aNil)))))))))
def f_law_edge : Fx := runF 4 m_law_edge
def m_law_choose : Ms := sSeq (sIf (tOrM (tBl (eBin opLt (eVar 1) (eC (.int 0)))) (tBl (eBin opGt (eVar 1) (eVar 0)))) (sRet (eC (.int 0))) (sNext))
    (sSeq (sAsg (eC (.int 1)) (gNm 2))
    (sSeq (sFor (iRange (aCons (eVar 1) (aNil))) (gNm 3) (sAsg (eBin opFdiv (eBin opMul (eVar 2) (eBin opSub (eVar 0) (eVar 3))) (eBin opAdd (eVar 3) (eC (.int 1)))) (gNm 2)))
    (sRet (eVar 2))))
def f_law_choose : Fx := runF 4 m_law_choose
def m_law_case : Ms := sSeq (sIf (tBl (eBin opEq (eVar 1) (eC (.int 0)))) (sSeq (sIf (tTru (eCall f_law_chance (aCons (eVar 0) (aCons (eC (.int 4)) (aNil))))) (sRet (eCall f_law_full_points (aCons (eVar 0) (aCons (eCall f_law_between (aCons (eVar 0) (aCons (eC (.int 24)) (aCons (eC (.int 30)) (aNil))))) (aNil))))) (sNext))
    (sRet (eCall f_law_full_points (aCons (eVar 0) (aCons (eCall f_law_edge (aCons (eVar 0) (aCons (eC (.int 0)) (aCons (eC (.int 12)) (aNil))))) (aNil)))))) (sNext))
    (sSeq (sIf (tBl (eBin opEq (eVar 1) (eC (.int 1)))) (sRet (eCall f_law_full_points (aCons (eVar 0) (aCons (eBin opAdd (eCall f_law_choose (aCons (eBin opAdd (eVar 2) (eVar 3)) (aCons (eVar 2) (aNil)))) (eC (.int 1))) (aNil))))) (sNext))
    (sSeq (sAsg (eCall f_law_best_points (aCons (eVar 2) (aCons (eVar 3) (aNil)))) (gNm 4))
    (sSeq (sAsg (eB bMinL (aCons (eLc (iSeq (eVar 4)) (gNm 8) (tYesM) (eBin opIxA (eVar 8) (eC (.int 1))) [8]) (aNil))) (gNm 5))
    (sSeq (sAsg (eB bMaxL (aCons (eLc (iSeq (eVar 4)) (gNm 8) (tYesM) (eBin opIxA (eVar 8) (eC (.int 1))) [8]) (aNil))) (gNm 6))
    (sSeq (sAsg (eCall f_law_pick (aCons (eVar 0) (aCons (eLst (aCons (eBin opSub (eVar 5) (eC (.int 1))) (aCons (eVar 5) (aCons (eC (.int 0)) (aCons (eVar 6) (aCons (eBin opAdd (eVar 6) (eC (.int 1))) (aCons (eBin opAdd (eBin opMul (eC (.int 9)) (eVar 6)) (eC (.int 7))) (aCons (eCall f_law_between (aCons (eVar 0) (aCons (eVar 5) (aCons (eVar 6) (aNil))))) (aNil))))))))) (aNil)))) (gNm 7))
    (sSeq (sIf (tTru (eCall f_law_chance (aCons (eVar 0) (aCons (eC (.int 2)) (aNil))))) (sRet (eBin opAdd (eVar 4) (eLst (aCons (eTup (aCons (eBin opAdd (eB bLen (aCons (eVar 4) (aNil))) (eCall f_law_take (aCons (eVar 0) (aCons (eC (.int 3)) (aNil))))) (aCons (eVar 7) (aNil)))) (aNil))))) (sNext))
    (sRet (eBin opAdd (eLst (aCons (eTup (aCons (eBin opSub (eNeg (eC (.int 1))) (eCall f_law_take (aCons (eVar 0) (aCons (eC (.int 3)) (aNil))))) (aCons (eVar 7) (aNil)))) (aNil))) (eVar 4)))))))))
def f_law_case : Fx := runF 9 m_law_case
def m_law_form : Ms := sSeq (sIf (tBl (eBin opEq (eCall f_law_take (aCons (eVar 0) (aCons (eC (.int 2)) (aNil)))) (eC (.int 0)))) (sRet (eB bList (aCons (eVar 1) (aNil)))) (sNext))
    (sRet (eB bTuple (aCons (eVar 1) (aNil))))
def f_law_form : Fx := runF 2 m_law_form
def m_law_keep (F : Fx) : Ms := sSeq (sIf (tTru (eIsi [.lst] (eVar 0))) (sRet (eLc (iSeq (eVar 0)) (gNm 3) (tYesM) (eCall F (aCons (eVar 3) (aNil))) [3])) (sNext))
    (sSeq (sIf (tTru (eIsi [.tup] (eVar 0))) (sRet (eB bTuple (aCons (eLc (iSeq (eVar 0)) (gNm 3) (tYesM) (eCall F (aCons (eVar 3) (aNil))) [3]) (aNil)))) (sNext))
    (sSeq (sIf (tTru (eIsi [.dct] (eVar 0))) (sSeq (sAsg (eD0) (gNm 1))
    (sSeq (sForD 0 (gNm 2) (sAsg (eCall F (aCons (eBin opIxA (eVar 0) (eVar 2)) (aNil))) (gIx (eVar 1) (eVar 2))))
    (sRet (eVar 1)))) (sNext))
    (sRet (eVar 0))))
def g_law_keep : Nat → Fx
  | 0 => fun _ _ => none
  | n + 1 => runF 4 (m_law_keep (g_law_keep n))
def f_law_keep : Fx := g_law_keep 20
def m_p_is_sequence : Ms := sRet (eIsi [.lst, .tup] (eVar 0))
def f_p_is_sequence : Fx := runF 1 m_p_is_sequence
def m_p_is_integer : Ms := sRet (eAnd (eIsi [.int] (eVar 0)) (eNot (eIsi [.bl] (eVar 0))))
def f_p_is_integer : Fx := runF 1 m_p_is_integer
def m_p_is_coordinate : Ms := sRet (eAnd (eCall f_p_is_integer (aCons (eVar 0) (aNil))) (eChain opLt opLt (eNeg (eC (.int 100000000000000000000000000000000000000000000000000000000000000000000000000000000000000000000000000000000000000000000000000000000000000000000000000000000000000000000000000000000000000000000000000000000))) (eVar 0) (eC (.int 100000000000000000000000000000000000000000000000000000000000000000000000000000000000000000000000000000000000000000000000000000000000000000000000000000000000000000000000000000000000000000000000000000000))))
def f_p_is_coordinate : Fx := runF 1 m_p_is_coordinate
def m_p_is_point : Ms := sSeq (sIf (tOrM (tNotM (tTru (eCall f_p_is_sequence (aCons (eVar 0) (aNil))))) (tBl (eBin opNe (eB bLen (aCons (eVar 0) (aNil))) (eC (.int 2))))) (sRet (eC (.bl false))) (sNext))
    (sRet (eAnd (eCall f_p_is_coordinate (aCons (eBin opIxA (eVar 0) (eC (.int 0))) (aNil))) (eCall f_p_is_coordinate (aCons (eBin opIxA (eVar 0) (eC (.int 1))) (aNil)))))
def f_p_is_point : Fx := runF 1 m_p_is_point
def m_p_check_points : Ms := sSeq (sIf (tOrM (tNotM (tTru (eCall f_p_is_sequence (aCons (eVar 0) (aNil))))) (tBl (eBin opGt (eB bLen (aCons (eVar 0) (aNil))) (eC (.int 200))))) (sRaise 3 (aCons (eC .non) (aNil))) (sNext))
    (sFor (iEnum' (aCons (eVar 0) (aNil))) (gTp 2 (gsCons (gNm 1) (gsCons (gNm 2) (gsNil)))) (sSeq (sIf (tNotM (tTru (eCall f_p_is_point (aCons (eVar 2) (aNil))))) (sRaise 3 (aCons (eVar 1) (aNil))) (sNext))
    (sIf (tAndM (tBl (eBin opGt (eVar 1) (eC (.int 0)))) (tBl (eBin opLe (eBin opIxA (eVar 2) (eC (.int 0))) (eBin opIxA (eBin opIxA (eVar 0) (eBin opSub (eVar 1) (eC (.int 1)))) (eC (.int 0)))))) (sRaise 3 (aCons (eVar 1) (aNil))) (sNext))))
def f_p_check_points : Fx := runF 3 m_p_check_points
def m_p_turned_area : Ms := sRet (eBin opSub (eBin opMul (eBin opSub (eBin opIxA (eVar 1) (eC (.int 0))) (eBin opIxA (eVar 0) (eC (.int 0)))) (eBin opSub (eBin opIxA (eVar 2) (eC (.int 1))) (eBin opIxA (eVar 0) (eC (.int 1))))) (eBin opMul (eBin opSub (eBin opIxA (eVar 1) (eC (.int 1))) (eBin opIxA (eVar 0) (eC (.int 1)))) (eBin opSub (eBin opIxA (eVar 2) (eC (.int 0))) (eBin opIxA (eVar 0) (eC (.int 0))))))
def f_p_turned_area : Fx := runF 3 m_p_turned_area
def m_p_bends : Ms := sRet (eBin opEq (eBin opGt (eCall f_p_turned_area (aCons (eBin opIxA (eVar 0) (eVar 1)) (aCons (eBin opIxA (eVar 0) (eVar 2)) (aCons (eBin opIxA (eVar 0) (eVar 3)) (aNil))))) (eC (.int 0))) (eVar 4))
def f_p_bends : Fx := runF 5 m_p_bends
def m_p_bent_reach : Ms := sSeq (sAsg (eB bLen (aCons (eVar 0) (aNil))) (gNm 2))
    (sSeq (sAsg (eLc (iRange (aCons (eVar 2) (aNil))) (gNm 8) (tYesM) (eBin opMul (eLst (aCons (eC (.int 2)) (aNil))) (eVar 2)) [8]) (gNm 3))
    (sSeq (sFor (iRev (aCons (eVar 2) (aNil))) (gNm 4) (sFor (iRange (aCons (eBin opAdd (eVar 4) (eC (.int 1))) (aCons (eVar 2) (aNil)))) (gNm 5) (sSeq (sAsg (eC (.int 2)) (gNm 6))
    (sSeq (sFor (iRange (aCons (eBin opAdd (eVar 5) (eC (.int 1))) (aCons (eVar 2) (aNil)))) (gNm 7) (sIf (tAndM (tBl (eBin opGe (eBin opIxA (eBin opIxA (eVar 3) (eVar 5)) (eVar 7)) (eVar 6))) (tTru (eCall f_p_bends (aCons (eVar 0) (aCons (eVar 4) (aCons (eVar 5) (aCons (eVar 7) (aCons (eVar 1) (aNil))))))))) (sAsg (eBin opAdd (eBin opIxA (eBin opIxA (eVar 3) (eVar 5)) (eVar 7)) (eC (.int 1))) (gNm 6)) (sNext)))
    (sAsg (eVar 6) (gIx (eBin opIxA (eVar 3) (eVar 4)) (eVar 5)))))))
    (sRet (eVar 3))))
def f_p_bent_reach : Fx := runF 9 m_p_bent_reach
def m_p_least_start : Ms := sSeq (sAsg (eB bLen (aCons (eVar 0) (aNil))) (gNm 2))
    (sSeq (sFor (iRange (aCons (eVar 2) (aNil))) (gNm 3) (sFor (iRange (aCons (eBin opAdd (eVar 3) (eC (.int 1))) (aCons (eVar 2) (aNil)))) (gNm 4) (sIf (tBl (eBin opGe (eBin opIxA (eBin opIxA (eVar 0) (eVar 3)) (eVar 4)) (eVar 1))) (sRet (eLst (aCons (eVar 3) (aCons (eVar 4) (aNil))))) (sNext))))
    (sRet (eC .non)))
def f_p_least_start : Fx := runF 5 m_p_least_start
def m_p_least_bent : Ms := sSeq (sIf (tBl (eBin opGt (eVar 2) (eB bLen (aCons (eVar 0) (aNil))))) (sRet (eC .non)) (sNext))
    (sSeq (sAsg (eCall f_p_bent_reach (aCons (eVar 0) (aCons (eVar 1) (aNil)))) (gNm 3))
    (sSeq (sAsg (eCall f_p_least_start (aCons (eVar 3) (aCons (eVar 2) (aNil)))) (gNm 4))
    (sSeq (sIf (tBl (eBin opIs (eVar 4) (eC .non))) (sRet (eC .non)) (sNext))
    (sSeq (sFor (iRange (aCons (eBin opAdd (eBin opIxA (eVar 4) (eC (.int 1))) (eC (.int 1))) (aCons (eB bLen (aCons (eVar 0) (aNil))) (aNil)))) (gNm 5) (sSeq (sIf (tBl (eBin opEq (eB bLen (aCons (eVar 4) (aNil))) (eVar 2))) (sBreak) (sNext))
    (sSeq (sAsg (eBin opIxA (eVar 4) (eNeg (eC (.int 1)))) (gNm 6))
    (sIf (tAndM (tBl (eBin opGt (eBin opIxA (eBin opIxA (eVar 3) (eVar 6)) (eVar 5)) (eBin opSub (eVar 2) (eB bLen (aCons (eVar 4) (aNil)))))) (tTru (eCall f_p_bends (aCons (eVar 0) (aCons (eBin opIxA (eVar 4) (eNeg (eC (.int 2)))) (aCons (eVar 6) (aCons (eVar 5) (aCons (eVar 1) (aNil))))))))) (sExpr (eMt mApp (eVar 4) (aCons (eVar 5) (aNil)))) (sNext)))))
    (sRet (eVar 4))))))
def f_p_least_bent : Fx := runF 7 m_p_least_bent
def m_p_is_integer_within : Ms := sRet (eAnd (eCall f_p_is_integer (aCons (eVar 0) (aNil))) (eChain opLe opLe (eVar 1) (eVar 0) (eVar 2)))
def f_p_is_integer_within : Fx := runF 3 m_p_is_integer_within
def m_p_cup_or_cap : Ms := sSeq (sExpr (eCall f_p_check_points (aCons (eVar 0) (aNil))))
    (sSeq (sIf (tNotM (tTru (eCall f_p_is_integer_within (aCons (eVar 1) (aCons (eC (.int 1)) (aCons (eC (.int 200)) (aNil))))))) (sRaise0 1) (sNext))
    (sSeq (sIf (tNotM (tTru (eCall f_p_is_integer_within (aCons (eVar 2) (aCons (eC (.int 1)) (aCons (eC (.int 200)) (aNil))))))) (sRaise0 1) (sNext))
    (sSeq (sIf (tBl (eBin opGt (eB bLen (aCons (eVar 0) (aNil))) (eC (.int 23)))) (sRaise 4 (aCons (eC (.int 2000)) (aNil))) (sNext))
    (sSeq (sAsg (eCall f_p_least_bent (aCons (eVar 0) (aCons (eC (.bl true)) (aCons (eBin opAdd (eVar 1) (eC (.int 2))) (aNil))))) (gNm 3))
    (sSeq (sIf (tBl (eBin opIsNot (eVar 3) (eC .non))) (sRet (eTup (aCons (eC (.int 0)) (aCons (eVar 3) (aNil))))) (sNext))
    (sSeq (sAsg (eCall f_p_least_bent (aCons (eVar 0) (aCons (eC (.bl false)) (aCons (eBin opAdd (eVar 2) (eC (.int 2))) (aNil))))) (gNm 3))
    (sSeq (sIf (tBl (eBin opIsNot (eVar 3) (eC .non))) (sRet (eTup (aCons (eC (.int 1)) (aCons (eVar 3) (aNil))))) (sNext))
    (sRet (eC .non)))))))))
def f_p_cup_or_cap : Fx := runF 4 m_p_cup_or_cap
def m_law_ask : Ms := sTry (sRet (eLst (aCons (eC (.str "told")) (aCons (eCall f_p_cup_or_cap (aCons (eVar 0) (aCons (eVar 1) (aCons (eVar 2) (aNil))))) (aNil))))) [⟨fun n => n == 2, none, fun x => sRet (eLst (aCons (eC (.str "BadThings")) (aNil)))⟩, ⟨fun n => n == 1, none, fun x => sRet (eLst (aCons (eC (.str "BadNumber")) (aNil)))⟩, ⟨fun n => n == 4, some 3, fun x => sSeq (sIf (tTru (eIsH 3 [(.exc fun n => false || n == 3)] x)) (sRet (eLst (aCons (eC (.str "twofold")) (aNil)))) (sNext))
    (sRet (eLst (aCons (eC (.str "TooMany")) (aCons (eHel 3 0 x) (aNil)))))⟩, ⟨fun n => n == 3, some 3, fun x => sRet (eLst (aCons (eC (.str "BadPoints")) (aCons (eHel 3 0 x) (aNil))))⟩, ⟨fun _ => true, none, fun x => sRet (eLst (aCons (eC (.str "other")) (aNil)))⟩]
def f_law_ask : Fx := runF 4 m_law_ask
def m_law_odd : Ms := sSeq (sAsg (eLst (aCons (eC .non) (aCons (eC (.bl true)) (aCons (eC (.bl false)) (aCons (eC (.str "")) (aCons (eC (.str "0")) (aCons (eC (.str "1")) (aCons (eLst (aNil)) (aCons (eTup (aNil)) (aCons (eLst (aCons (eC (.int 0)) (aNil))) (aCons (eTup (aCons (eC (.int 0)) (aNil))) (aCons (eD0) (aCons (eDs [.inr "0"] (aCons (eC (.int 0)) (aNil))) (aCons (eLst (aCons (eC .non) (aNil))) (aCons (eC (.str "web 1")) (aNil)))))))))))))))) (gNm 1))
    (sRet (eBin opIxA (eVar 1) (eCall f_law_take (aCons (eVar 0) (aCons (eB bLen (aCons (eVar 1) (aNil))) (aNil))))))
def f_law_odd : Fx := runF 2 m_law_odd
def m_law_not_sequence : Ms := sSeq (sAsg (eLst (aCons (eC .non) (aCons (eC (.int 0)) (aCons (eC (.int 1)) (aCons (eNeg (eC (.int 1))) (aCons (eC (.bl true)) (aCons (eC (.bl false)) (aCons (eC (.str "")) (aCons (eC (.str "ab")) (aCons (eD0) (aCons (eDs [.inl 0] (aCons (eC (.int 1)) (aNil))) (aCons (eDs [.inr "0"] (aCons (eLst (aCons (eC (.int 0)) (aNil))) (aNil))) (aCons (eC (.str "0 1")) (aNil)))))))))))))) (gNm 1))
    (sRet (eBin opIxA (eVar 1) (eCall f_law_take (aCons (eVar 0) (aCons (eB bLen (aCons (eVar 1) (aNil))) (aNil))))))
def f_law_not_sequence : Fx := runF 2 m_law_not_sequence
def m_law_bent_points : Ms := sSeq (sAsg (eCall f_law_take (aCons (eVar 0) (aCons (eC (.int 7)) (aNil)))) (gNm 2))
    (sSeq (sIf (tBl (eBin opEq (eVar 2) (eC (.int 0)))) (sRet (eLst (aCons (eCall f_law_not_sequence (aCons (eVar 0) (aNil))) (aCons (eC .non) (aNil))))) (sNext))
    (sSeq (sIf (tBl (eBin opEq (eVar 2) (eC (.int 1)))) (sRet (eLst (aCons (eLc (iRange (aCons (eC (.int 201)) (aNil))) (gNm 8) (tYesM) (eTup (aCons (eVar 8) (aCons (eC (.int 0)) (aNil)))) [8]) (aCons (eC .non) (aNil))))) (sNext))
    (sSeq (sAsg (eB bList (aCons (eVar 1) (aNil))) (gNm 3))
    (sSeq (sAsg (eB bMin2 (aCons (eCall f_law_edge (aCons (eVar 0) (aCons (eC (.int 0)) (aCons (eB bLen (aCons (eVar 1) (aNil))) (aNil))))) (aCons (eC (.int 199)) (aNil)))) (gNm 4))
    (sSeq (sAsg (eC (.int 0)) (gNm 5))
    (sSeq (sIf (tBl (eBin opGt (eVar 4) (eC (.int 0)))) (sAsg (eBin opIxA (eBin opIxA (eVar 1) (eBin opSub (eVar 4) (eC (.int 1)))) (eC (.int 0))) (gNm 5)) (sNext))
    (sSeq (sAsg (eCall f_law_odd (aCons (eVar 0) (aNil))) (gNm 6))
    (sSeq (sAsg (eBin opMul (eBin opMul (eBin opMul (eBin opPow (eC (.int 10)) (eC (.int 50))) (eBin opPow (eC (.int 10)) (eC (.int 50)))) (eBin opPow (eC (.int 10)) (eC (.int 50)))) (eBin opPow (eC (.int 10)) (eC (.int 50)))) (gNm 7))
    (sSeq (sIf (tBl (eBin opEq (eVar 2) (eC (.int 2)))) (sAsg (eTup (aCons (eBin opAdd (eVar 5) (eC (.int 1))) (aCons (eC (.int 0)) (aCons (eC (.int 0)) (aNil))))) (gNm 6)) (sIf (tBl (eBin opEq (eVar 2) (eC (.int 3)))) (sAsg (eLst (aCons (eBin opAdd (eVar 5) (eC (.int 1))) (aCons (eCall f_law_odd (aCons (eVar 0) (aNil))) (aNil)))) (gNm 6)) (sIf (tBl (eBin opEq (eVar 2) (eC (.int 4)))) (sAsg (eTup (aCons (eBin opAdd (eVar 5) (eC (.int 1))) (aCons (eBin opMul (eVar 7) (eBin opSub (eC (.int 1)) (eBin opMul (eC (.int 2)) (eCall f_law_take (aCons (eVar 0) (aCons (eC (.int 2)) (aNil))))))) (aNil)))) (gNm 6)) (sIf (tAndM (tBl (eBin opEq (eVar 2) (eC (.int 5)))) (tBl (eBin opGt (eVar 4) (eC (.int 0))))) (sAsg (eTup (aCons (eBin opSub (eVar 5) (eCall f_law_take (aCons (eVar 0) (aCons (eC (.int 2)) (aNil))))) (aCons (eC (.int 0)) (aNil)))) (gNm 6)) (sIf (tBl (eBin opEq (eVar 2) (eC (.int 6)))) (sAsg (eLst (aCons (eVar 7) (aCons (eC (.int 0)) (aNil)))) (gNm 6)) (sNext))))))
    (sSeq (sIf (tBl (eBin opLt (eVar 4) (eB bLen (aCons (eVar 3) (aNil))))) (sAsg (eVar 6) (gIx (eVar 3) (eVar 4))) (sExpr (eMt mApp (eVar 3) (aCons (eVar 6) (aNil)))))
    (sRet (eLst (aCons (eVar 3) (aCons (eVar 4) (aNil)))))))))))))))
def f_law_bent_points : Fx := runF 9 m_law_bent_points
def m_law_far : Ms := sSeq (sAsg (eC (.int 10)) (gNm 1))
    (sSeq (sFor (iRange (aCons (eCall f_law_edge (aCons (eVar 0) (aCons (eC (.int 0)) (aCons (eC (.int 389)) (aNil))))) (aNil))) (gNm 2) (sAsg (eBin opMul (eVar 1) (eC (.int 10))) (gNm 1)))
    (sRet (eCall f_law_take (aCons (eVar 0) (aCons (eVar 1) (aNil))))))
def f_law_far : Fx := runF 3 m_law_far
def m_law_not_number : Ms := sSeq (sAsg (eCall f_law_take (aCons (eVar 0) (aCons (eC (.int 8)) (aNil)))) (gNm 3))
    (sSeq (sIf (tBl (eBin opLt (eVar 3) (eC (.int 2)))) (sRet (eBin opSub (eVar 1) (eC (.int 1)))) (sNext))
    (sSeq (sIf (tBl (eBin opLt (eVar 3) (eC (.int 4)))) (sRet (eBin opAdd (eVar 2) (eC (.int 1)))) (sNext))
    (sSeq (sIf (tBl (eBin opEq (eVar 3) (eC (.int 4)))) (sRet (eBin opAdd (eBin opAdd (eB bMax2 (aCons (eVar 2) (aCons (eVar 1) (aNil)))) (eC (.int 1))) (eCall f_law_take (aCons (eVar 0) (aCons (eC (.int 5)) (aNil)))))) (sNext))
    (sSeq (sIf (tBl (eBin opEq (eVar 3) (eC (.int 5)))) (sSeq (sAsg (eCall f_law_far (aCons (eVar 0) (aNil))) (gNm 4))
    (sSeq (sIf (tBl (eBin opEq (eCall f_law_take (aCons (eVar 0) (aCons (eC (.int 2)) (aNil)))) (eC (.int 0)))) (sRet (eBin opAdd (eBin opAdd (eB bMax2 (aCons (eVar 2) (aCons (eVar 1) (aNil)))) (eC (.int 1))) (eVar 4))) (sNext))
    (sRet (eBin opSub (eBin opSub (eB bMin2 (aCons (eVar 2) (aCons (eVar 1) (aNil)))) (eC (.int 1))) (eVar 4))))) (sNext))
    (sRet (eCall f_law_odd (aCons (eVar 0) (aNil))))))))
def f_law_not_number : Fx := runF 5 m_law_not_number
def m_law_is_integer : Ms := sRet (eAnd (eIsi [.int] (eVar 0)) (eNot (eIsi [.bl] (eVar 0))))
def f_law_is_integer : Fx := runF 1 m_law_is_integer
def m_law_same (F : Fx) : Ms := sSeq (sIf (tBl (eBin opIs (eVar 1) (eC .non))) (sRet (eBin opIs (eVar 0) (eC .non))) (sNext))
    (sSeq (sIf (tTru (eIsi [.bl] (eVar 1))) (sRet (eAnd (eIsi [.bl] (eVar 0)) (eBin opEq (eVar 0) (eVar 1)))) (sNext))
    (sSeq (sIf (tTru (eIsi [.int] (eVar 1))) (sRet (eAnd (eCall f_law_is_integer (aCons (eVar 0) (aNil))) (eBin opEq (eVar 0) (eVar 1)))) (sNext))
    (sSeq (sIf (tTru (eIsi [.str] (eVar 1))) (sRet (eAnd (eIsi [.str] (eVar 0)) (eBin opEq (eVar 0) (eVar 1)))) (sNext))
    (sSeq (sIf (tTru (eIsi [.dct] (eVar 1))) (sSeq (sIf (tOrM (tNotM (tTru (eIsi [.dct] (eVar 0)))) (tNotM (tTru (eCall F (aCons (lsK (fun kvs => kvs.map fun kv => kD kv.1) (eVar 0)) (aCons (lsK (fun kvs => kvs.map fun kv => kD kv.1) (eVar 1)) (aNil))))))) (sRet (eC (.bl false))) (sNext))
    (sRet (eCall F (aCons (lsK (fun kvs => kvs.map fun kv => kv.2) (eVar 0)) (aCons (lsK (fun kvs => kvs.map fun kv => kv.2) (eVar 1)) (aNil)))))) (sNext))
    (sSeq (sIf (tTru (eIsi [.lst] (eVar 1))) (sIf (tOrM (tNotM (tTru (eIsi [.lst] (eVar 0)))) (tBl (eBin opNe (eB bLen (aCons (eVar 0) (aNil))) (eB bLen (aCons (eVar 1) (aNil)))))) (sRet (eC (.bl false))) (sNext)) (sIf (tOrM (tNotM (tTru (eIsi [.tup] (eVar 1)))) (tOrM (tNotM (tTru (eIsi [.tup] (eVar 0)))) (tBl (eBin opNe (eB bLen (aCons (eVar 0) (aNil))) (eB bLen (aCons (eVar 1) (aNil))))))) (sRet (eC (.bl false))) (sNext)))
    (sSeq (sFor (iRange (aCons (eB bLen (aCons (eVar 1) (aNil))) (aNil))) (gNm 2) (sIf (tNotM (tTru (eCall F (aCons (eBin opIxA (eVar 0) (eVar 2)) (aCons (eBin opIxA (eVar 1) (eVar 2)) (aNil)))))) (sRet (eC (.bl false))) (sNext)))
    (sRet (eC (.bl true)))))))))
def g_law_same : Nat → Fx
  | 0 => fun _ _ => none
  | n + 1 => runF 3 (m_law_same (g_law_same n))
def f_law_same : Fx := g_law_same 20
def m_law_refuses : Ms := sSeq (sAsg (eCall f_law_bent_points (aCons (eVar 0) (aCons (eVar 1) (aNil)))) (gNm 4))
    (sSeq (sAsg (eCall f_law_not_number (aCons (eVar 0) (aCons (eC (.int 1)) (aCons (eC (.int 200)) (aNil))))) (gNm 5))
    (sSeq (sIf (tNotM (tTru (eCall f_law_same (aCons (eCall f_law_ask (aCons (eBin opIxA (eVar 4) (eC (.int 0))) (aCons (eVar 2) (aCons (eVar 5) (aNil))))) (aCons (eLst (aCons (eC (.str "BadPoints")) (aCons (eBin opIxA (eVar 4) (eC (.int 1))) (aNil)))) (aNil)))))) (sRet (eC (.bl false))) (sNext))
    (sSeq (sAsg (eBin opAdd (eVar 1) (eLc (iRange (aCons (eC (.int 24)) (aNil))) (gNm 8) (tTru (eVar 1)) (eTup (aCons (eBin opAdd (eBin opAdd (eBin opIxA (eBin opIxA (eVar 1) (eNeg (eC (.int 1)))) (eC (.int 0))) (eC (.int 1))) (eVar 8)) (aCons (eVar 8) (aNil)))) [8])) (gNm 6))
    (sSeq (sAsg (eLst (aCons (eCall f_law_ask (aCons (eVar 6) (aCons (eVar 5) (aCons (eVar 3) (aNil))))) (aCons (eCall f_law_ask (aCons (eVar 1) (aCons (eVar 2) (aCons (eVar 5) (aNil))))) (aNil)))) (gNm 7))
    (sRet (eCall f_law_same (aCons (eVar 7) (aCons (eLst (aCons (eLst (aCons (eC (.str "BadNumber")) (aNil))) (aCons (eLst (aCons (eC (.str "BadNumber")) (aNil))) (aNil)))) (aNil)))))))))
def f_law_refuses : Fx := runF 9 m_law_refuses
def m_law_side : Ms := sSeq (sAsg (eBin opSub (eBin opMul (eBin opSub (eBin opIxA (eVar 1) (eC (.int 0))) (eBin opIxA (eVar 0) (eC (.int 0)))) (eBin opSub (eBin opIxA (eVar 2) (eC (.int 1))) (eBin opIxA (eVar 0) (eC (.int 1))))) (eBin opMul (eBin opSub (eBin opIxA (eVar 1) (eC (.int 1))) (eBin opIxA (eVar 0) (eC (.int 1)))) (eBin opSub (eBin opIxA (eVar 2) (eC (.int 0))) (eBin opIxA (eVar 0) (eC (.int 0)))))) (gNm 3))
    (sRet (eBin opSub (eB bInt (aCons (eBin opGt (eVar 3) (eC (.int 0))) (aNil))) (eB bInt (aCons (eBin opLt (eVar 3) (eC (.int 0))) (aNil)))))
def f_law_side : Fx := runF 4 m_law_side
def m_law_reach : Ms := sSeq (sAsg (eB bLen (aCons (eVar 0) (aNil))) (gNm 2))
    (sSeq (sAsg (eLc (iSeq (eVar 0)) (gNm 8) (tYesM) (eBin opMul (eLst (aCons (eC (.int 2)) (aNil))) (eVar 2)) [8]) (gNm 3))
    (sSeq (sFor (iRange (aCons (eVar 2) (aNil))) (gNm 4) (sSeq (sAsg (eBin opSub (eBin opSub (eVar 2) (eC (.int 1))) (eVar 4)) (gNm 5))
    (sFor (iRange (aCons (eVar 5) (aNil))) (gNm 6) (sFor (iRange (aCons (eBin opAdd (eVar 5) (eC (.int 1))) (aCons (eVar 2) (aNil)))) (gNm 7) (sIf (tAndM (tBl (eBin opGe (eBin opIxA (eBin opIxA (eVar 3) (eVar 5)) (eVar 7)) (eBin opIxA (eBin opIxA (eVar 3) (eVar 6)) (eVar 5)))) (tBl (eBin opEq (eBin opGt (eCall f_law_side (aCons (eBin opIxA (eVar 0) (eVar 6)) (aCons (eBin opIxA (eVar 0) (eVar 5)) (aCons (eBin opIxA (eVar 0) (eVar 7)) (aNil))))) (eC (.int 0))) (eVar 1)))) (sAsg (eBin opAdd (eBin opIxA (eBin opIxA (eVar 3) (eVar 5)) (eVar 7)) (eC (.int 1))) (gIx (eBin opIxA (eVar 3) (eVar 6)) (eVar 5))) (sNext))))))
    (sRet (eVar 3))))
def f_law_reach : Fx := runF 9 m_law_reach
def m_law_least_run : Ms := sSeq (sAsg (eB bLen (aCons (eVar 0) (aNil))) (gNm 3))
    (sSeq (sAsg (eCall f_law_reach (aCons (eVar 0) (aCons (eVar 1) (aNil)))) (gNm 4))
    (sSeq (sFor (iRange (aCons (eVar 3) (aNil))) (gNm 5) (sFor (iRange (aCons (eBin opAdd (eVar 5) (eC (.int 1))) (aCons (eVar 3) (aNil)))) (gNm 6) (sIf (tBl (eBin opGe (eBin opIxA (eBin opIxA (eVar 4) (eVar 5)) (eVar 6)) (eVar 2))) (sSeq (sAsg (eLst (aCons (eVar 5) (aCons (eVar 6) (aNil)))) (gNm 7))
    (sSeq (sFor (iRange (aCons (eBin opSub (eVar 2) (eC (.int 2))) (aNil))) (gNm 8) (sSeq (sAsg (eBin opIxA (eVar 0) (eBin opIxA (eVar 7) (eNeg (eC (.int 2))))) (gNm 9))
    (sSeq (sAsg (eBin opIxA (eVar 0) (eBin opIxA (eVar 7) (eNeg (eC (.int 1))))) (gNm 10))
    (sSeq (sAsg (eLc (iRange (aCons (eBin opAdd (eBin opIxA (eVar 7) (eNeg (eC (.int 1)))) (eC (.int 1))) (aCons (eVar 3) (aNil)))) (gNm 12) (tBl (eBin opGe (eBin opIxA (eBin opIxA (eVar 4) (eBin opIxA (eVar 7) (eNeg (eC (.int 1))))) (eVar 12)) (eBin opSub (eBin opSub (eVar 2) (eC (.int 1))) (eVar 8)))) (eVar 12) [12]) (gNm 11))
    (sExpr (eMt mApp (eVar 7) (aCons (eBin opIxA (eLc (iSeq (eVar 11)) (gNm 12) (tBl (eBin opEq (eBin opGt (eCall f_law_side (aCons (eVar 9) (aCons (eVar 10) (aCons (eBin opIxA (eVar 0) (eVar 12)) (aNil))))) (eC (.int 0))) (eVar 1))) (eVar 12) [12]) (eC (.int 0))) (aNil))))))))
    (sRet (eVar 7)))) (sNext))))
    (sRet (eC .non))))
def f_law_least_run : Fx := runF 13 m_law_least_run
def m_law_due : Ms := sSeq (sAsg (eCall f_law_least_run (aCons (eVar 0) (aCons (eC (.bl true)) (aCons (eBin opAdd (eVar 1) (eC (.int 2))) (aNil))))) (gNm 3))
    (sSeq (sIf (tBl (eBin opIsNot (eVar 3) (eC .non))) (sRet (eTup (aCons (eC (.int 0)) (aCons (eVar 3) (aNil))))) (sNext))
    (sSeq (sAsg (eCall f_law_least_run (aCons (eVar 0) (aCons (eC (.bl false)) (aCons (eBin opAdd (eVar 2) (eC (.int 2))) (aNil))))) (gNm 3))
    (sSeq (sIf (tBl (eBin opIsNot (eVar 3) (eC .non))) (sRet (eTup (aCons (eC (.int 1)) (aCons (eVar 3) (aNil))))) (sNext))
    (sRet (eC .non)))))
def f_law_due : Fx := runF 4 m_law_due
def m_p_are_indices : Ms := sSeq (sIf (tNotM (tTru (eCall f_p_is_sequence (aCons (eVar 0) (aNil))))) (sRet (eC (.bl false))) (sNext))
    (sSeq (sAsg (eNeg (eC (.int 1))) (gNm 2))
    (sSeq (sFor (iSeq (eVar 0)) (gNm 3) (sSeq (sIf (tOrM (tNotM (tTru (eCall f_p_is_integer (aCons (eVar 3) (aNil))))) (tNotM (tBl (eChain opLt opLt (eVar 2) (eVar 3) (eVar 1))))) (sRet (eC (.bl false))) (sNext))
    (sAsg (eVar 3) (gNm 2))))
    (sRet (eC (.bl true)))))
def f_p_are_indices : Fx := runF 4 m_p_are_indices
def m_p_is_bent : Ms := sSeq (sExpr (eCall f_p_check_points (aCons (eVar 0) (aNil))))
    (sSeq (sIf (tNotM (tTru (eCall f_p_are_indices (aCons (eVar 1) (aCons (eB bLen (aCons (eVar 0) (aNil))) (aNil)))))) (sRet (eC (.bl false))) (sNext))
    (sSeq (sFor (iRange (aCons (eBin opSub (eB bLen (aCons (eVar 1) (aNil))) (eC (.int 2))) (aNil))) (gNm 3) (sIf (tNotM (tTru (eCall f_p_bends (aCons (eVar 0) (aCons (eBin opIxA (eVar 1) (eVar 3)) (aCons (eBin opIxA (eVar 1) (eBin opAdd (eVar 3) (eC (.int 1)))) (aCons (eBin opIxA (eVar 1) (eBin opAdd (eVar 3) (eC (.int 2)))) (aCons (eVar 2) (aNil))))))))) (sRet (eC (.bl false))) (sNext)))
    (sRet (eC (.bl true)))))
def f_p_is_bent : Fx := runF 4 m_p_is_bent
def m_p_is_cup : Ms := sRet (eCall f_p_is_bent (aCons (eVar 0) (aCons (eVar 1) (aCons (eC (.bl true)) (aNil)))))
def f_p_is_cup : Fx := runF 2 m_p_is_cup
def m_p_is_cap : Ms := sRet (eCall f_p_is_bent (aCons (eVar 0) (aCons (eVar 1) (aCons (eC (.bl false)) (aNil)))))
def f_p_is_cap : Fx := runF 2 m_p_is_cap
def m_p_law : Ms := sSeq (sAsg (eCall f_law_store (aCons (eVar 0) (aNil))) (gNm 1))
    (sSeq (sAsg (eCall f_law_pick (aCons (eVar 1) (aCons (eLst (aCons (eTup (aCons (eC (.int 1)) (aCons (eC (.int 1)) (aNil)))) (aCons (eTup (aCons (eC (.int 1)) (aCons (eC (.int 2)) (aNil)))) (aCons (eTup (aCons (eC (.int 2)) (aCons (eC (.int 2)) (aNil)))) (aCons (eTup (aCons (eC (.int 1)) (aCons (eC (.int 4)) (aNil)))) (aCons (eTup (aCons (eC (.int 2)) (aCons (eC (.int 3)) (aNil)))) (aCons (eTup (aCons (eC (.int 2)) (aCons (eC (.int 4)) (aNil)))) (aCons (eTup (aCons (eC (.int 3)) (aCons (eC (.int 3)) (aNil)))) (aCons (eTup (aCons (eC (.int 2)) (aCons (eC (.int 5)) (aNil)))) (aCons (eTup (aCons (eC (.int 1)) (aCons (eC (.int 20)) (aNil)))) (aCons (eTup (aCons (eC (.int 1)) (aCons (eC (.int 21)) (aNil)))) (aCons (eTup (aCons (eC (.int 1)) (aCons (eC (.int 3)) (aNil)))) (aNil))))))))))))) (aNil)))) (gNm 2))
    (sSeq (sAsg (eBin opIxA (eVar 2) (eC (.int 0))) (gNm 3))
    (sSeq (sAsg (eBin opIxA (eVar 2) (eC (.int 1))) (gNm 4))
    (sSeq (sIf (tTru (eCall f_law_chance (aCons (eVar 1) (aCons (eC (.int 2)) (aNil))))) (sSeq (sAsg (eBin opIxA (eVar 2) (eC (.int 1))) (gNm 3))
    (sAsg (eBin opIxA (eVar 2) (eC (.int 0))) (gNm 4))) (sNext))
    (sSeq (sAsg (eCall f_law_take (aCons (eVar 1) (aCons (eC (.int 3)) (aNil)))) (gNm 5))
    (sSeq (sIf (tAndM (tBl (eBin opEq (eVar 5) (eC (.int 0)))) (tTru (eCall f_law_chance (aCons (eVar 1) (aCons (eC (.int 2)) (aNil)))))) (sSeq (sAsg (eCall f_law_edge (aCons (eVar 1) (aCons (eC (.int 1)) (aCons (eC (.int 200)) (aNil))))) (gNm 3))
    (sAsg (eCall f_law_pick (aCons (eVar 1) (aCons (eLst (aCons (eC (.int 1)) (aCons (eC (.int 1)) (aCons (eC (.int 2)) (aCons (eC (.int 3)) (aCons (eC (.int 199)) (aCons (eC (.int 200)) (aNil)))))))) (aNil)))) (gNm 4))) (sNext))
    (sSeq (sAsg (eCall f_law_case (aCons (eVar 1) (aCons (eVar 5) (aCons (eVar 3) (aCons (eVar 4) (aNil)))))) (gNm 6))
    (sSeq (sAsg (eCall f_law_form (aCons (eVar 1) (aCons (eLc (iSeq (eVar 6)) (gNm 12) (tYesM) (eCall f_law_form (aCons (eVar 1) (aCons (eVar 12) (aNil)))) [12]) (aNil)))) (gNm 7))
    (sSeq (sAsg (eCall f_law_keep (aCons (eVar 7) (aNil))) (gNm 8))
    (sSeq (sAsg (eLst (aCons (eC (.str "TooMany")) (aCons (eC (.int 2000)) (aNil)))) (gNm 9))
    (sSeq (sIf (tBl (eBin opLt (eB bLen (aCons (eVar 6) (aNil))) (eC (.int 24)))) (sAsg (eLst (aCons (eC (.str "told")) (aCons (eCall f_law_due (aCons (eVar 6) (aCons (eVar 3) (aCons (eVar 4) (aNil))))) (aNil)))) (gNm 9)) (sNext))
    (sSeq (sAsg (eCall f_law_ask (aCons (eVar 7) (aCons (eVar 3) (aCons (eVar 4) (aNil))))) (gNm 10))
    (sSeq (sIf (tOrM (tNotM (tTru (eCall f_law_same (aCons (eVar 10) (aCons (eVar 9) (aNil)))))) (tAndM (tBl (eBin opGt (eVar 5) (eC (.int 0)))) (tBl (eBin opIs (eBin opIxA (eVar 10) (eC (.int 1))) (eC .non))))) (sRet (eC (.bl false))) (sNext))
    (sSeq (sIf (tAndM (tBl (eBin opEq (eBin opIxA (eVar 9) (eC (.int 0))) (eC (.str "told")))) (tBl (eBin opIsNot (eBin opIxA (eVar 9) (eC (.int 1))) (eC .non)))) (sSeq (sAsg (eLst (aCons (eCall f_p_is_cup (aCons (eVar 7) (aCons (eBin opIxA (eBin opIxA (eVar 10) (eC (.int 1))) (eC (.int 1))) (aNil)))) (aCons (eCall f_p_is_cap (aCons (eVar 7) (aCons (eBin opIxA (eBin opIxA (eVar 10) (eC (.int 1))) (eC (.int 1))) (aNil)))) (aNil)))) (gNm 11))
    (sSeq (sIf (tBl (eBin (opIsB true) (eBin opIxA (eVar 11) (eBin opIxA (eBin opIxA (eVar 9) (eC (.int 1))) (eC (.int 0)))) (eC (.bl true)))) (sRet (eC (.bl false))) (sNext))
    (sExpr (eMt mApp (eBin opIxA (eBin opIxA (eVar 10) (eC (.int 1))) (eC (.int 1))) (aCons (eC (.int 0)) (aNil)))))) (sNext))
    (sSeq (sIf (tAndM (tBl (eBin opEq (eBin opIxA (eVar 9) (eC (.int 0))) (eC (.str "told")))) (tNotM (tTru (eCall f_law_same (aCons (eCallK f_p_cup_or_cap [2, 1, 0] aNil (aCons (eVar 4) (aCons (eVar 3) (aCons (eVar 7) (aNil))))) (aCons (eBin opIxA (eVar 9) (eC (.int 1))) (aNil))))))) (sRet (eC (.bl false))) (sNext))
    (sSeq (sIf (tNotM (tTru (eCall f_law_refuses (aCons (eVar 1) (aCons (eVar 6) (aCons (eVar 3) (aCons (eVar 4) (aNil)))))))) (sRet (eC (.bl false))) (sNext))
    (sRet (eAnd (eCall f_law_same (aCons (eCall f_law_ask (aCons (eVar 7) (aCons (eVar 3) (aCons (eVar 4) (aNil))))) (aCons (eVar 9) (aNil)))) (eCall f_law_same (aCons (eVar 7) (aCons (eVar 8) (aNil))))))))))))))))))))))
def f_p_law : Fx := runF 13 m_p_law

end Ours
namespace Ours
open PySem PySem.Spec PyProof.Rows L2 Mi
def top (i : Nat) : Stmt := PySem.Challenge.pw_huewalks_k82_cup_or_cap_found.main.body.getD i (.Pass ⟨0, 0, 0, 0⟩)
def es : List ES := [⟨"HueError", [], true⟩, ⟨"BadNumber", [], false⟩, ⟨"BadThings", ["bad_at"], false⟩, ⟨"BadPoints", ["bad_at"], false⟩, ⟨"TooMany", ["most"], false⟩]
def cs : List CS := []
structure Fr (mg : Str → Option Value) : Prop where
  ValueError : mg "ValueError" = none
  abs : mg "abs" = none
  bool : mg "bool" = none
  dict : mg "dict" = none
  enumerate : mg "enumerate" = none
  int : mg "int" = none
  isinstance : mg "isinstance" = none
  len : mg "len" = none
  list : mg "list" = none
  max : mg "max" = none
  min : mg "min" = none
  range : mg "range" = none
  reversed : mg "reversed" = none
  str : mg "str" = none
  tuple : mg "tuple" = none
structure Co (mg : Str → Option Value) : Prop where
  p_MOST_POINTS : ∃ t, mg "MOST_POINTS" = some (.int 200 t)
  p_MOST_HUED : ∃ t, mg "MOST_HUED" = some (.int 23 t)
  p_SIZE_LIMIT : ∃ t, mg "SIZE_LIMIT" = some (.int 100000000000000000000000000000000000000000000000000000000000000000000000000000000000000000000000000000000000000000000000000000000000000000000000000000000000000000000000000000000000000000000000000000000 t)
structure DefOk (K : PySem.W.Frag) (mg : Str → Option Value) (d : He.DefD) (x : Str) : Prop where
  ex : ∃ f fd, mg x = some (.ref f) ∧ FunD K d.name d.qual d.params d.body d.scope (d.dvs K) (d.kws K) f fd
abbrev si_BadThings : Stmt := clsM (top 3) 0
def di_BadThings : He.DefD := ⟨("BadThings", some "__init__"), "__init__", "BadThings.__init__", defArgs si_BadThings, defBody si_BadThings, defScope si_BadThings, [], []⟩
theorem wi_BadThings {P : Program} {w : World} {K : PySem.W.Frag} {mg : Str → Option Value} {base : Heap} {f : Addr} {fd : FuncData} (F : FunD K di_BadThings.name di_BadThings.qual di_BadThings.params di_BadThings.body di_BadThings.scope (di_BadThings.dvs K) (di_BadThings.kws K) f fd) : Ini P w K mg base di_BadThings f ["self", "bad_at"] (spI1 K "bad_at") :=
  ini1 F rfl ⟨rfl, rfl, rfl, by decide +kernel, rfl, by decide +kernel, by decide +kernel⟩ (fun _ _ _ _ _ _ us hl => match us, hl with | [_, _], _ => rfl) fun cdv A outer s H E => by exact pss_cons (ps_ost (pv 0) (pv 1)) pss_nil
abbrev si_BadPoints : Stmt := clsM (top 4) 0
def di_BadPoints : He.DefD := ⟨("BadPoints", some "__init__"), "__init__", "BadPoints.__init__", defArgs si_BadPoints, defBody si_BadPoints, defScope si_BadPoints, [], []⟩
theorem wi_BadPoints {P : Program} {w : World} {K : PySem.W.Frag} {mg : Str → Option Value} {base : Heap} {f : Addr} {fd : FuncData} (F : FunD K di_BadPoints.name di_BadPoints.qual di_BadPoints.params di_BadPoints.body di_BadPoints.scope (di_BadPoints.dvs K) (di_BadPoints.kws K) f fd) : Ini P w K mg base di_BadPoints f ["self", "bad_at"] (spI1 K "bad_at") :=
  ini1 F rfl ⟨rfl, rfl, rfl, by decide +kernel, rfl, by decide +kernel, by decide +kernel⟩ (fun _ _ _ _ _ _ us hl => match us, hl with | [_, _], _ => rfl) fun cdv A outer s H E => by exact pss_cons (ps_ost (pv 0) (pv 1)) pss_nil
abbrev si_TooMany : Stmt := clsM (top 5) 0
def di_TooMany : He.DefD := ⟨("TooMany", some "__init__"), "__init__", "TooMany.__init__", defArgs si_TooMany, defBody si_TooMany, defScope si_TooMany, [], []⟩
theorem wi_TooMany {P : Program} {w : World} {K : PySem.W.Frag} {mg : Str → Option Value} {base : Heap} {f : Addr} {fd : FuncData} (F : FunD K di_TooMany.name di_TooMany.qual di_TooMany.params di_TooMany.body di_TooMany.scope (di_TooMany.dvs K) (di_TooMany.kws K) f fd) : Ini P w K mg base di_TooMany f ["self", "most"] (spI1 K "most") :=
  ini1 F rfl ⟨rfl, rfl, rfl, by decide +kernel, rfl, by decide +kernel, by decide +kernel⟩ (fun _ _ _ _ _ _ us hl => match us, hl with | [_, _], _ => rfl) fun cdv A outer s H E => by exact pss_cons (ps_ost (pv 0) (pv 1)) pss_nil
structure In_ (P : Program) (w : World) (K : PySem.W.Frag) (mg : Str → Option Value) (base : Heap) : Prop where
  BadThings : Ini P w K mg base di_BadThings (fI K "BadThings") ["self", "bad_at"] (spI1 K "bad_at")
  BadPoints : Ini P w K mg base di_BadPoints (fI K "BadPoints") ["self", "bad_at"] (spI1 K "bad_at")
  TooMany : Ini P w K mg base di_TooMany (fI K "TooMany") ["self", "most"] (spI1 K "most")
structure DefOkA (K : PySem.W.Frag) (d : He.DefD) : Prop where
  ex : ∃ fd, FunD K d.name d.qual d.params d.body d.scope (d.dvs K) (d.kws K) (He.fAd K d.at_) fd
abbrev s_law_store : Stmt := top 29
def d_law_store : He.DefD := ⟨("_law_store", none), "_law_store", "_law_store", defArgs s_law_store, defBody s_law_store, defScope s_law_store, [], []⟩
theorem ba_law_store : BindA d_law_store ["script"] := fun _ _ _ _ _ _ us hl => match us, hl with | [_], _ => rfl
abbrev s_law_mix : Stmt := top 28
def d_law_mix : He.DefD := ⟨("_law_mix", none), "_law_mix", "_law_mix", defArgs s_law_mix, defBody s_law_mix, defScope s_law_mix, [], []⟩
theorem ba_law_mix : BindA d_law_mix ["value", "step"] := fun _ _ _ _ _ _ us hl => match us, hl with | [_, _], _ => rfl
abbrev s_law_take : Stmt := top 30
def d_law_take : He.DefD := ⟨("_law_take", none), "_law_take", "_law_take", defArgs s_law_take, defBody s_law_take, defScope s_law_take, [], []⟩
theorem ba_law_take : BindA d_law_take ["store", "many"] := fun _ _ _ _ _ _ us hl => match us, hl with | [_, _], _ => rfl
abbrev s_law_pick : Stmt := top 34
def d_law_pick : He.DefD := ⟨("_law_pick", none), "_law_pick", "_law_pick", defArgs s_law_pick, defBody s_law_pick, defScope s_law_pick, [], []⟩
theorem ba_law_pick : BindA d_law_pick ["store", "row"] := fun _ _ _ _ _ _ us hl => match us, hl with | [_, _], _ => rfl
abbrev s_law_chance : Stmt := top 33
def d_law_chance : He.DefD := ⟨("_law_chance", none), "_law_chance", "_law_chance", defArgs s_law_chance, defBody s_law_chance, defScope s_law_chance, [], []⟩
theorem ba_law_chance : BindA d_law_chance ["store", "many"] := fun _ _ _ _ _ _ us hl => match us, hl with | [_, _], _ => rfl
abbrev s_law_best_points : Stmt := top 50
def d_law_best_points : He.DefD := ⟨("_law_best_points", none), "_law_best_points", "_law_best_points", defArgs s_law_best_points, defBody s_law_best_points, defScope s_law_best_points, [], []⟩
theorem ba_law_best_points : BindA d_law_best_points ["a", "b"] := fun _ _ _ _ _ _ us hl => match us, hl with | [_, _], _ => rfl
abbrev s_law_between : Stmt := top 31
def d_law_between : He.DefD := ⟨("_law_between", none), "_law_between", "_law_between", defArgs s_law_between, defBody s_law_between, defScope s_law_between, [], []⟩
theorem ba_law_between : BindA d_law_between ["store", "low", "high"] := fun _ _ _ _ _ _ us hl => match us, hl with | [_, _, _], _ => rfl
abbrev s_law_full_points : Stmt := top 47
def d_law_full_points : He.DefD := ⟨("_law_full_points", none), "_law_full_points", "_law_full_points", defArgs s_law_full_points, defBody s_law_full_points, defScope s_law_full_points, [], []⟩
theorem ba_law_full_points : BindA d_law_full_points ["store", "many"] := fun _ _ _ _ _ _ us hl => match us, hl with | [_, _], _ => rfl
abbrev s_law_edge : Stmt := top 32
def d_law_edge : He.DefD := ⟨("_law_edge", none), "_law_edge", "_law_edge", defArgs s_law_edge, defBody s_law_edge, defScope s_law_edge, [], []⟩
theorem ba_law_edge : BindA d_law_edge ["store", "low", "high"] := fun _ _ _ _ _ _ us hl => match us, hl with | [_, _, _], _ => rfl
abbrev s_law_choose : Stmt := top 40
def d_law_choose : He.DefD := ⟨("_law_choose", none), "_law_choose", "_law_choose", defArgs s_law_choose, defBody s_law_choose, defScope s_law_choose, [], []⟩
theorem ba_law_choose : BindA d_law_choose ["whole", "part"] := fun _ _ _ _ _ _ us hl => match us, hl with | [_, _], _ => rfl
abbrev s_law_case : Stmt := top 52
def d_law_case : He.DefD := ⟨("_law_case", none), "_law_case", "_law_case", defArgs s_law_case, defBody s_law_case, defScope s_law_case, [], []⟩
theorem ba_law_case : BindA d_law_case ["store", "kind", "a", "b"] := fun _ _ _ _ _ _ us hl => match us, hl with | [_, _, _, _], _ => rfl
abbrev s_law_form : Stmt := top 35
def d_law_form : He.DefD := ⟨("_law_form", none), "_law_form", "_law_form", defArgs s_law_form, defBody s_law_form, defScope s_law_form, [], []⟩
theorem ba_law_form : BindA d_law_form ["store", "row"] := fun _ _ _ _ _ _ us hl => match us, hl with | [_, _], _ => rfl
abbrev s_law_keep : Stmt := top 45
def d_law_keep : He.DefD := ⟨("_law_keep", none), "_law_keep", "_law_keep", defArgs s_law_keep, defBody s_law_keep, defScope s_law_keep, [], []⟩
theorem ba_law_keep : BindA d_law_keep ["value"] := fun _ _ _ _ _ _ us hl => match us, hl with | [_], _ => rfl
abbrev s_p_is_sequence : Stmt := top 7
def d_p_is_sequence : He.DefD := ⟨("is_sequence", none), "is_sequence", "is_sequence", defArgs s_p_is_sequence, defBody s_p_is_sequence, defScope s_p_is_sequence, [], []⟩
theorem ba_p_is_sequence : BindA d_p_is_sequence ["value"] := fun _ _ _ _ _ _ us hl => match us, hl with | [_], _ => rfl
abbrev s_p_is_integer : Stmt := top 8
def d_p_is_integer : He.DefD := ⟨("is_integer", none), "is_integer", "is_integer", defArgs s_p_is_integer, defBody s_p_is_integer, defScope s_p_is_integer, [], []⟩
theorem ba_p_is_integer : BindA d_p_is_integer ["value"] := fun _ _ _ _ _ _ us hl => match us, hl with | [_], _ => rfl
abbrev s_p_is_coordinate : Stmt := top 15
def d_p_is_coordinate : He.DefD := ⟨("is_coordinate", none), "is_coordinate", "is_coordinate", defArgs s_p_is_coordinate, defBody s_p_is_coordinate, defScope s_p_is_coordinate, [], []⟩
theorem ba_p_is_coordinate : BindA d_p_is_coordinate ["value"] := fun _ _ _ _ _ _ us hl => match us, hl with | [_], _ => rfl
abbrev s_p_is_point : Stmt := top 16
def d_p_is_point : He.DefD := ⟨("is_point", none), "is_point", "is_point", defArgs s_p_is_point, defBody s_p_is_point, defScope s_p_is_point, [], []⟩
theorem ba_p_is_point : BindA d_p_is_point ["value"] := fun _ _ _ _ _ _ us hl => match us, hl with | [_], _ => rfl
abbrev s_p_check_points : Stmt := top 17
def d_p_check_points : He.DefD := ⟨("check_points", none), "check_points", "check_points", defArgs s_p_check_points, defBody s_p_check_points, defScope s_p_check_points, [], []⟩
theorem ba_p_check_points : BindA d_p_check_points ["points"] := fun _ _ _ _ _ _ us hl => match us, hl with | [_], _ => rfl
abbrev s_p_turned_area : Stmt := top 18
def d_p_turned_area : He.DefD := ⟨("turned_area", none), "turned_area", "turned_area", defArgs s_p_turned_area, defBody s_p_turned_area, defScope s_p_turned_area, [], []⟩
theorem ba_p_turned_area : BindA d_p_turned_area ["p", "q", "r"] := fun _ _ _ _ _ _ us hl => match us, hl with | [_, _, _], _ => rfl
abbrev s_p_bends : Stmt := top 19
def d_p_bends : He.DefD := ⟨("bends", none), "bends", "bends", defArgs s_p_bends, defBody s_p_bends, defScope s_p_bends, [], []⟩
theorem ba_p_bends : BindA d_p_bends ["points", "i", "j", "k", "left"] := fun _ _ _ _ _ _ us hl => match us, hl with | [_, _, _, _, _], _ => rfl
abbrev s_p_bent_reach : Stmt := top 23
def d_p_bent_reach : He.DefD := ⟨("bent_reach", none), "bent_reach", "bent_reach", defArgs s_p_bent_reach, defBody s_p_bent_reach, defScope s_p_bent_reach, [], []⟩
theorem ba_p_bent_reach : BindA d_p_bent_reach ["points", "left"] := fun _ _ _ _ _ _ us hl => match us, hl with | [_, _], _ => rfl
abbrev s_p_least_start : Stmt := top 24
def d_p_least_start : He.DefD := ⟨("least_start", none), "least_start", "least_start", defArgs s_p_least_start, defBody s_p_least_start, defScope s_p_least_start, [], []⟩
theorem ba_p_least_start : BindA d_p_least_start ["reach", "many"] := fun _ _ _ _ _ _ us hl => match us, hl with | [_, _], _ => rfl
abbrev s_p_least_bent : Stmt := top 25
def d_p_least_bent : He.DefD := ⟨("least_bent", none), "least_bent", "least_bent", defArgs s_p_least_bent, defBody s_p_least_bent, defScope s_p_least_bent, [], []⟩
theorem ba_p_least_bent : BindA d_p_least_bent ["points", "left", "many"] := fun _ _ _ _ _ _ us hl => match us, hl with | [_, _, _], _ => rfl
abbrev s_p_is_integer_within : Stmt := top 9
def d_p_is_integer_within : He.DefD := ⟨("is_integer_within", none), "is_integer_within", "is_integer_within", defArgs s_p_is_integer_within, defBody s_p_is_integer_within, defScope s_p_is_integer_within, [], []⟩
theorem ba_p_is_integer_within : BindA d_p_is_integer_within ["value", "least", "most"] := fun _ _ _ _ _ _ us hl => match us, hl with | [_, _, _], _ => rfl
abbrev s_p_cup_or_cap : Stmt := top 26
def d_p_cup_or_cap : He.DefD := ⟨("cup_or_cap", none), "cup_or_cap", "cup_or_cap", defArgs s_p_cup_or_cap, defBody s_p_cup_or_cap, defScope s_p_cup_or_cap, [], []⟩
theorem ba_p_cup_or_cap : BindA d_p_cup_or_cap ["points", "cups", "caps"] := fun _ _ _ _ _ _ us hl => match us, hl with | [_, _, _], _ => rfl
abbrev s_law_ask : Stmt := top 51
def d_law_ask : He.DefD := ⟨("_law_ask", none), "_law_ask", "_law_ask", defArgs s_law_ask, defBody s_law_ask, defScope s_law_ask, [], []⟩
theorem ba_law_ask : BindA d_law_ask ["points", "cups", "caps"] := fun _ _ _ _ _ _ us hl => match us, hl with | [_, _, _], _ => rfl
abbrev s_law_odd : Stmt := top 36
def d_law_odd : He.DefD := ⟨("_law_odd", none), "_law_odd", "_law_odd", defArgs s_law_odd, defBody s_law_odd, defScope s_law_odd, [], []⟩
theorem ba_law_odd : BindA d_law_odd ["store"] := fun _ _ _ _ _ _ us hl => match us, hl with | [_], _ => rfl
abbrev s_law_not_sequence : Stmt := top 39
def d_law_not_sequence : He.DefD := ⟨("_law_not_sequence", none), "_law_not_sequence", "_law_not_sequence", defArgs s_law_not_sequence, defBody s_law_not_sequence, defScope s_law_not_sequence, [], []⟩
theorem ba_law_not_sequence : BindA d_law_not_sequence ["store"] := fun _ _ _ _ _ _ us hl => match us, hl with | [_], _ => rfl
abbrev s_law_bent_points : Stmt := top 41
def d_law_bent_points : He.DefD := ⟨("_law_bent_points", none), "_law_bent_points", "_law_bent_points", defArgs s_law_bent_points, defBody s_law_bent_points, defScope s_law_bent_points, [], []⟩
theorem ba_law_bent_points : BindA d_law_bent_points ["store", "points"] := fun _ _ _ _ _ _ us hl => match us, hl with | [_, _], _ => rfl
abbrev s_law_far : Stmt := top 37
def d_law_far : He.DefD := ⟨("_law_far", none), "_law_far", "_law_far", defArgs s_law_far, defBody s_law_far, defScope s_law_far, [], []⟩
theorem ba_law_far : BindA d_law_far ["store"] := fun _ _ _ _ _ _ us hl => match us, hl with | [_], _ => rfl
abbrev s_law_not_number : Stmt := top 38
def d_law_not_number : He.DefD := ⟨("_law_not_number", none), "_law_not_number", "_law_not_number", defArgs s_law_not_number, defBody s_law_not_number, defScope s_law_not_number, [], []⟩
theorem ba_law_not_number : BindA d_law_not_number ["store", "low", "high"] := fun _ _ _ _ _ _ us hl => match us, hl with | [_, _, _], _ => rfl
abbrev s_law_is_integer : Stmt := top 43
def d_law_is_integer : He.DefD := ⟨("_law_is_integer", none), "_law_is_integer", "_law_is_integer", defArgs s_law_is_integer, defBody s_law_is_integer, defScope s_law_is_integer, [], []⟩
theorem ba_law_is_integer : BindA d_law_is_integer ["value"] := fun _ _ _ _ _ _ us hl => match us, hl with | [_], _ => rfl
abbrev s_law_same : Stmt := top 44
def d_law_same : He.DefD := ⟨("_law_same", none), "_law_same", "_law_same", defArgs s_law_same, defBody s_law_same, defScope s_law_same, [], []⟩
theorem ba_law_same : BindA d_law_same ["told", "due"] := fun _ _ _ _ _ _ us hl => match us, hl with | [_, _], _ => rfl
abbrev s_law_refuses : Stmt := top 53
def d_law_refuses : He.DefD := ⟨("_law_refuses", none), "_law_refuses", "_law_refuses", defArgs s_law_refuses, defBody s_law_refuses, defScope s_law_refuses, [], []⟩
theorem ba_law_refuses : BindA d_law_refuses ["store", "points", "a", "b"] := fun _ _ _ _ _ _ us hl => match us, hl with | [_, _, _, _], _ => rfl
abbrev s_law_side : Stmt := top 42
def d_law_side : He.DefD := ⟨("_law_side", none), "_law_side", "_law_side", defArgs s_law_side, defBody s_law_side, defScope s_law_side, [], []⟩
theorem ba_law_side : BindA d_law_side ["p", "q", "r"] := fun _ _ _ _ _ _ us hl => match us, hl with | [_, _, _], _ => rfl
abbrev s_law_reach : Stmt := top 46
def d_law_reach : He.DefD := ⟨("_law_reach", none), "_law_reach", "_law_reach", defArgs s_law_reach, defBody s_law_reach, defScope s_law_reach, [], []⟩
theorem ba_law_reach : BindA d_law_reach ["points", "left"] := fun _ _ _ _ _ _ us hl => match us, hl with | [_, _], _ => rfl
abbrev s_law_least_run : Stmt := top 48
def d_law_least_run : He.DefD := ⟨("_law_least_run", none), "_law_least_run", "_law_least_run", defArgs s_law_least_run, defBody s_law_least_run, defScope s_law_least_run, [], []⟩
theorem ba_law_least_run : BindA d_law_least_run ["points", "left", "size"] := fun _ _ _ _ _ _ us hl => match us, hl with | [_, _, _], _ => rfl
abbrev s_law_due : Stmt := top 49
def d_law_due : He.DefD := ⟨("_law_due", none), "_law_due", "_law_due", defArgs s_law_due, defBody s_law_due, defScope s_law_due, [], []⟩
theorem ba_law_due : BindA d_law_due ["points", "cups", "caps"] := fun _ _ _ _ _ _ us hl => match us, hl with | [_, _, _], _ => rfl
abbrev s_p_are_indices : Stmt := top 10
def d_p_are_indices : He.DefD := ⟨("are_indices", none), "are_indices", "are_indices", defArgs s_p_are_indices, defBody s_p_are_indices, defScope s_p_are_indices, [], []⟩
theorem ba_p_are_indices : BindA d_p_are_indices ["places", "size"] := fun _ _ _ _ _ _ us hl => match us, hl with | [_, _], _ => rfl
abbrev s_p_is_bent : Stmt := top 20
def d_p_is_bent : He.DefD := ⟨("is_bent", none), "is_bent", "is_bent", defArgs s_p_is_bent, defBody s_p_is_bent, defScope s_p_is_bent, [], []⟩
theorem ba_p_is_bent : BindA d_p_is_bent ["points", "places", "left"] := fun _ _ _ _ _ _ us hl => match us, hl with | [_, _, _], _ => rfl
abbrev s_p_is_cup : Stmt := top 21
def d_p_is_cup : He.DefD := ⟨("is_cup", none), "is_cup", "is_cup", defArgs s_p_is_cup, defBody s_p_is_cup, defScope s_p_is_cup, [], []⟩
theorem ba_p_is_cup : BindA d_p_is_cup ["points", "places"] := fun _ _ _ _ _ _ us hl => match us, hl with | [_, _], _ => rfl
abbrev s_p_is_cap : Stmt := top 22
def d_p_is_cap : He.DefD := ⟨("is_cap", none), "is_cap", "is_cap", defArgs s_p_is_cap, defBody s_p_is_cap, defScope s_p_is_cap, [], []⟩
theorem ba_p_is_cap : BindA d_p_is_cap ["points", "places"] := fun _ _ _ _ _ _ us hl => match us, hl with | [_, _], _ => rfl
abbrev s_p_law : Stmt := top 54
def d_p_law : He.DefD := ⟨("law", none), "law", "law", defArgs s_p_law, defBody s_p_law, defScope s_p_law, [], []⟩
theorem ba_p_law : BindA d_p_law ["script"] := fun _ _ _ _ _ _ us hl => match us, hl with | [_], _ => rfl
theorem bk_p_cup_or_cap_0_caps_cups_points : BindK d_p_cup_or_cap ["points", "cups", "caps"] 0 ["caps", "cups", "points"] [2, 1, 0] := fun _ _ _ _ _ _ us ws hl hl2 => match us, ws, hl, hl2 with | [], [_, _, _], _, _ => rfl
section
variable {P : Program} {w : World} {K : PySem.W.Frag} {mg : Str → Option Value} {base : Heap} {g : Lk}
def N_law_store : List Str := ["script", "cell"]
theorem S_law_store : FnScope N_law_store ["script"] d_law_store.scope := ⟨rfl, rfl, rfl, by decide +kernel, rfl, by decide +kernel, by decide +kernel⟩
theorem w_law_store (T : Tx K mg g es cs) (n : Fr mg) (c : Co mg) (I : In_ P w K mg base) (D : DefOk K mg d_law_store "_law_store")  : FnM P w K mg base g 3 d_law_store "_law_store" ["script"] f_law_store := by
  obtain ⟨f, fd, hm, Fd_⟩ := D.ex
  have S := S_law_store
  refine fnM (k := 2) T.held hm Fd_ S fun cdv A outer s H E hr => ?_
  have hK : K = g.K := T.hK
  exact (mss_one (ms_ret (me_lst (ma_cons (me_lc0 (own := [("cell", 1)]) rfl S.nd (mi_seq hK (me_var 0)) (blkB_ok (by kernel_rfl)) (fun s H C cl fp => (mg_nm 1 S.nd)) (fun s H C cl fp => (me_Ty mc_int (by rfl) n.int b_int (ma_cons (me_var 1) ma_nil)))) (ma_cons me_int (ma_cons me_int (ma_cons me_int (ma_cons me_int ma_nil))))))))
def N_law_mix : List Str := ["value", "step", "first"]
theorem S_law_mix : FnScope N_law_mix ["value", "step"] d_law_mix.scope := ⟨rfl, rfl, rfl, by decide +kernel, rfl, by decide +kernel, by decide +kernel⟩
theorem w_law_mix (T : Tx K mg g es cs) (n : Fr mg) (c : Co mg) (I : In_ P w K mg base) (D : DefOk K mg d_law_mix "_law_mix")  : FnM P w K mg base g 3 d_law_mix "_law_mix" ["value", "step"] f_law_mix := by
  obtain ⟨f, fd, hm, Fd_⟩ := D.ex
  have S := S_law_mix
  refine fnM (k := 2) T.held hm Fd_ S fun cdv A outer s H E hr => ?_
  have hK : K = g.K := T.hK
  exact (mss_cons (ms_set 2 S.nd (me_bin mo_mod (me_Ty mc_int (by rfl) n.int b_int (ma_cons (me_bin (mo_add hK) (me_bin mo_mul (me_bin (mo_add hK) (me_var 0) me_int) me_int) (me_bin mo_mul (me_bin (mo_add hK) (me_var 1) me_int) me_int)) ma_nil)) me_int))
    (mss_one (ms_ret (me_bin mo_mod (me_Ty mc_int (by rfl) n.int b_int (ma_cons (me_bin (mo_add hK) (me_bin mo_mul (me_bin (mo_add hK) (me_bin (mo_add hK) (me_bin mo_fdiv (me_var 2) me_int) (me_bin mo_mul (me_var 2) (me_var 2))) me_int) me_int) (me_var 1)) ma_nil)) me_int))))
def N_law_take : List Str := ["store", "many", "told", "cell", "step", "value", "size", "k"]
theorem S_law_take : FnScope N_law_take ["store", "many"] d_law_take.scope := ⟨rfl, rfl, rfl, by decide +kernel, rfl, by decide +kernel, by decide +kernel⟩
theorem w_law_take (T : Tx K mg g es cs) (n : Fr mg) (c : Co mg) (I : In_ P w K mg base) (D : DefOk K mg d_law_take "_law_take") (h_law_mix : FnM P w K mg base g 3 d_law_mix "_law_mix" ["value", "step"] f_law_mix) : FnM P w K mg base g 4 d_law_take "_law_take" ["store", "many"] f_law_take := by
  obtain ⟨f, fd, hm, Fd_⟩ := D.ex
  have S := S_law_take
  refine fnM (k := 3) T.held hm Fd_ S fun cdv A outer s H E hr => ?_
  have hK : K = g.K := T.hK
  exact (mss_cons (ms_if (mt_cmp mo_le (me_var 1) me_int (nomark _)) (mss_one (ms_ret me_int)) mss_nil)
    (mss_cons (ms_if (mt_cmp mo_gt (me_ixA hK (hu_of hr) (me_var 0) me_int) me_int (nomark _)) (mss_cons (ms_set 2 S.nd (me_bin mo_mod (me_Ty mc_int (by rfl) n.int b_int (ma_cons (me_ixA hK (hu_of hr) (me_var 0) me_int) ma_nil)) (me_var 1)))
    (mss_cons (ms_asg (me_bin mo_fdiv (me_ixA hK (hu_of hr) (me_var 0) me_int) (me_var 1)) (mg_ix (W := W0) (hu_of hr) (me_var 0) me_int))
    (mss_one (ms_ret (me_var 2))))) mss_nil)
    (mss_cons (ms_asg (me_bin (mo_add hK) (me_ixA hK (hu_of hr) (me_var 0) me_int) me_int) (mg_ix (W := W0) (hu_of hr) (me_var 0) me_int))
    (mss_cons (ms_set 3 S.nd me_int)
    (mss_cons (ms_set 4 S.nd (me_bin mo_mul me_int (me_ixA hK (hu_of hr) (me_var 0) me_int)))
    (mss_cons (ms_if (mt_cmp mo_lt (me_ixA hK (hu_of hr) (me_var 0) me_int) (me_B (mc_len hK) (by rfl) n.len b_len (ma_cons (me_ixA hK (hu_of hr) (me_var 0) me_int) ma_nil)) (nomark _)) (mss_cons (ms_set 3 S.nd (me_ixA hK (hu_of hr) (me_ixA hK (hu_of hr) (me_var 0) me_int) (me_ixA hK (hu_of hr) (me_var 0) me_int)))
    (mss_cons (ms_asg (me_bin (mo_add hK) (me_ixA hK (hu_of hr) (me_var 0) me_int) me_int) (mg_ix (W := W0) (hu_of hr) (me_var 0) me_int))
    (mss_one (ms_set 4 S.nd (me_bin (mo_add hK) (me_var 4) me_int))))) mss_nil)
    (mss_cons (ms_asg (me_call h_law_mix (hr.mono (by decide)) rfl ba_law_mix (takes_of rfl rfl rfl rfl) (ma_cons (me_bin (mo_add hK) (me_ixA hK (hu_of hr) (me_var 0) me_int) (me_bin mo_mod (me_Ty mc_int (by rfl) n.int b_int (ma_cons (me_var 3) ma_nil)) me_int)) (ma_cons (me_var 4) ma_nil))) (mg_ix (W := W0) (hu_of hr) (me_var 0) me_int))
    (mss_cons (ms_if (mt_cmp mo_ge (me_var 3) (me_bin mo_pow me_int me_int) (nomark _)) (mss_cons (ms_asg (me_bin mo_fdiv (me_var 3) (me_var 1)) (mg_ix (W := W0) (hu_of hr) (me_var 0) me_int))
    (mss_one (ms_ret (me_bin mo_mod (me_Ty mc_int (by rfl) n.int b_int (ma_cons (me_var 3) ma_nil)) (me_var 1))))) mss_nil)
    (mss_cons (ms_set 5 S.nd (me_call h_law_mix (hr.mono (by decide)) rfl ba_law_mix (takes_of rfl rfl rfl rfl) (ma_cons (me_ixA hK (hu_of hr) (me_var 0) me_int) (ma_cons me_int ma_nil))))
    (mss_cons (ms_set 6 S.nd me_int)
    (mss_cons (ms_for (passes_of rfl) rfl (mi_range1 (by rfl) n.range (ma_cons me_int ma_nil)) (mg_nm 7 S.nd) (mss_cons (ms_if (mt_cmp mo_ge (me_var 6) (me_bin mo_mul (me_var 1) me_int) (nomark _)) (mss_one ms_break) mss_nil)
    (mss_cons (ms_set 5 S.nd (me_bin (mo_add hK) (me_bin mo_mul (me_var 5) me_int) (me_call h_law_mix (hr.mono (by decide)) rfl ba_law_mix (takes_of rfl rfl rfl rfl) (ma_cons (me_ixA hK (hu_of hr) (me_var 0) me_int) (ma_cons (me_bin (mo_add hK) (me_var 7) me_int) ma_nil)))))
    (mss_one (ms_set 6 S.nd (me_bin mo_mul (me_var 6) me_int))))))
    (mss_one (ms_ret (me_bin mo_mod (me_Ty mc_int (by rfl) n.int b_int (ma_cons (me_var 5) ma_nil)) (me_var 1)))))))))))))))
def N_law_pick : List Str := ["store", "row"]
theorem S_law_pick : FnScope N_law_pick ["store", "row"] d_law_pick.scope := ⟨rfl, rfl, rfl, by decide +kernel, rfl, by decide +kernel, by decide +kernel⟩
theorem w_law_pick (T : Tx K mg g es cs) (n : Fr mg) (c : Co mg) (I : In_ P w K mg base) (D : DefOk K mg d_law_pick "_law_pick") (h_law_take : FnM P w K mg base g 4 d_law_take "_law_take" ["store", "many"] f_law_take) : FnM P w K mg base g 5 d_law_pick "_law_pick" ["store", "row"] f_law_pick := by
  obtain ⟨f, fd, hm, Fd_⟩ := D.ex
  have S := S_law_pick
  refine fnM (k := 4) T.held hm Fd_ S fun cdv A outer s H E hr => ?_
  have hK : K = g.K := T.hK
  exact (mss_one (ms_ret (me_ixA hK (hu_of hr) (me_var 1) (me_call h_law_take (hr.mono (by decide)) rfl ba_law_take (takes_of rfl rfl rfl rfl) (ma_cons (me_var 0) (ma_cons (me_B (mc_len hK) (by rfl) n.len b_len (ma_cons (me_var 1) ma_nil)) ma_nil))))))
def N_law_chance : List Str := ["store", "many"]
theorem S_law_chance : FnScope N_law_chance ["store", "many"] d_law_chance.scope := ⟨rfl, rfl, rfl, by decide +kernel, rfl, by decide +kernel, by decide +kernel⟩
theorem w_law_chance (T : Tx K mg g es cs) (n : Fr mg) (c : Co mg) (I : In_ P w K mg base) (D : DefOk K mg d_law_chance "_law_chance") (h_law_take : FnM P w K mg base g 4 d_law_take "_law_take" ["store", "many"] f_law_take) : FnM P w K mg base g 5 d_law_chance "_law_chance" ["store", "many"] f_law_chance := by
  obtain ⟨f, fd, hm, Fd_⟩ := D.ex
  have S := S_law_chance
  refine fnM (k := 4) T.held hm Fd_ S fun cdv A outer s H E hr => ?_
  have hK : K = g.K := T.hK
  exact (mss_one (ms_ret (me_cmp (mo_eq hK hr.units) (me_call h_law_take (hr.mono (by decide)) rfl ba_law_take (takes_of rfl rfl rfl rfl) (ma_cons (me_var 0) (ma_cons (me_var 1) ma_nil))) me_int (nomark _))))
def N_law_best_points : List Str := ["a", "b", "table", "i", "j", "left", "right", "steep", "part", "up_by", "row", "k", "one"]
theorem S_law_best_points : FnScope N_law_best_points ["a", "b"] d_law_best_points.scope := ⟨rfl, rfl, rfl, by decide +kernel, rfl, by decide +kernel, by decide +kernel⟩
theorem w_law_best_points (T : Tx K mg g es cs) (n : Fr mg) (c : Co mg) (I : In_ P w K mg base) (D : DefOk K mg d_law_best_points "_law_best_points")  : FnM P w K mg base g 3 d_law_best_points "_law_best_points" ["a", "b"] f_law_best_points := by
  obtain ⟨f, fd, hm, Fd_⟩ := D.ex
  have S := S_law_best_points
  refine fnM (k := 2) T.held hm Fd_ S fun cdv A outer s H E hr => ?_
  have hK : K = g.K := T.hK
  exact (mss_cons (ms_lc0 2 (own := [("i", 3)]) rfl S.nd (mi_range1 (by rfl) n.range (ma_cons (me_bin (mo_add hK) (me_var 0) me_int) ma_nil)) (blkB_ok (by kernel_rfl)) (fun s H C cl fp => (mg_nm 3 S.nd)) (fun s H C cl fp => (me_lc0 (own := [("j", 4)]) rfl S.nd (mi_range1 (by rfl) n.range (ma_cons (me_bin (mo_add hK) (me_var 1) me_int) ma_nil)) (blkB_ok (by kernel_rfl)) (fun s H C cl fp => (mg_nm 4 S.nd)) (fun s H C cl fp => (me_lst (ma_cons (me_tup (ma_cons me_int (ma_cons me_int ma_nil))) ma_nil))))) (sw_true rfl rfl rfl rfl))
    (mss_cons (ms_for (passes_of rfl) rfl (mi_range2 (by rfl) n.range (ma_cons me_int (ma_cons (me_bin (mo_add hK) (me_var 0) me_int) ma_nil))) (mg_nm 3 S.nd) (mss_one (ms_for (passes_of rfl) rfl (mi_range2 (by rfl) n.range (ma_cons me_int (ma_cons (me_bin (mo_add hK) (me_var 1) me_int) ma_nil))) (mg_nm 4 S.nd) (mss_cons (ms_set 5 S.nd (me_ixA hK (hu_of hr) (me_ixA hK (hu_of hr) (me_var 2) (me_bin mo_sub (me_var 3) me_int)) (me_var 4)))
    (mss_cons (ms_set 6 S.nd (me_ixA hK (hu_of hr) (me_ixA hK (hu_of hr) (me_var 2) (me_var 3)) (me_bin mo_sub (me_var 4) me_int)))
    (mss_cons (ms_set 7 S.nd me_int)
    (mss_cons (ms_for (passes_of rfl) rfl (mi_seq hK (me_lst (ma_cons (me_var 5) (ma_cons (me_var 6) ma_nil)))) (mg_nm 8 S.nd) (mss_one (ms_set 7 S.nd (me_B (mc_maxL hK rfl) (by rfl) n.max b_max (ma_cons (me_bin (mo_add hK) (me_lc0 (own := [("k", 11)]) rfl S.nd (mi_range1 (by rfl) n.range (ma_cons (me_bin mo_sub (me_B (mc_len hK) (by rfl) n.len b_len (ma_cons (me_var 8) ma_nil)) me_int) ma_nil)) (blkB_ok (by kernel_rfl)) (fun s H C cl fp => (mg_nm 11 S.nd)) (fun s H C cl fp => (me_B mc_abs (by rfl) n.abs b_abs (ma_cons (me_bin mo_sub (me_ixA hK (hu_of hr) (me_ixA hK (hu_of hr) (me_var 8) (me_bin (mo_add hK) (me_var 11) me_int)) me_int) (me_ixA hK (hu_of hr) (me_ixA hK (hu_of hr) (me_var 8) (me_var 11)) me_int)) ma_nil)))) (me_lst (ma_cons (me_var 7) ma_nil))) ma_nil)))))
    (mss_cons (ms_set 9 S.nd (me_bin mo_sub (me_bin (mo_add hK) (me_bin mo_mul (me_var 7) (me_bin (mo_add hK) (me_B (mc_len hK) (by rfl) n.len b_len (ma_cons (me_var 5) ma_nil)) (me_B (mc_len hK) (by rfl) n.len b_len (ma_cons (me_var 6) ma_nil)))) (me_B (mc_maxL hK rfl) (by rfl) n.max b_max (ma_cons (me_lc0 (own := [("one", 12)]) rfl S.nd (mi_seq hK (me_var 5)) (blkB_ok (by kernel_rfl)) (fun s H C cl fp => (mg_nm 12 S.nd)) (fun s H C cl fp => (me_ixA hK (hu_of hr) (me_var 12) me_int))) ma_nil))) (me_B (mc_minL hK rfl) (by rfl) n.min b_min (ma_cons (me_lc0 (own := [("one", 12)]) rfl S.nd (mi_seq hK (me_var 6)) (blkB_ok (by kernel_rfl)) (fun s H C cl fp => (mg_nm 12 S.nd)) (fun s H C cl fp => (me_ixA hK (hu_of hr) (me_var 12) me_int))) ma_nil))))
    (mss_cons (ms_set 10 S.nd (me_ixA hK (hu_of hr) (me_var 2) (me_var 3)))
    (mss_one (ms_asg (me_bin (mo_add hK) (me_var 5) (me_lc0 (own := [("one", 12)]) rfl S.nd (mi_seq hK (me_var 6)) (blkB_ok (by kernel_rfl)) (fun s H C cl fp => (mg_nm 12 S.nd)) (fun s H C cl fp => (me_tup (ma_cons (me_bin (mo_add hK) (me_ixA hK (hu_of hr) (me_var 12) me_int) (me_B (mc_len hK) (by rfl) n.len b_len (ma_cons (me_var 5) ma_nil))) (ma_cons (me_bin (mo_add hK) (me_bin (mo_add hK) (me_ixA hK (hu_of hr) (me_var 12) me_int) (me_var 9)) me_int) ma_nil)))))) (mg_ix (W := W0) (hu_of hr) (me_var 10) (me_var 4)))))))))))))
    (mss_one (ms_ret (me_ixA hK (hu_of hr) (me_ixA hK (hu_of hr) (me_var 2) (me_var 0)) (me_var 1))))))
def N_law_between : List Str := ["store", "low", "high"]
theorem S_law_between : FnScope N_law_between ["store", "low", "high"] d_law_between.scope := ⟨rfl, rfl, rfl, by decide +kernel, rfl, by decide +kernel, by decide +kernel⟩
theorem w_law_between (T : Tx K mg g es cs) (n : Fr mg) (c : Co mg) (I : In_ P w K mg base) (D : DefOk K mg d_law_between "_law_between") (h_law_take : FnM P w K mg base g 4 d_law_take "_law_take" ["store", "many"] f_law_take) : FnM P w K mg base g 5 d_law_between "_law_between" ["store", "low", "high"] f_law_between := by
  obtain ⟨f, fd, hm, Fd_⟩ := D.ex
  have S := S_law_between
  refine fnM (k := 4) T.held hm Fd_ S fun cdv A outer s H E hr => ?_
  have hK : K = g.K := T.hK
  exact (mss_one (ms_ret (me_bin (mo_add hK) (me_var 1) (me_call h_law_take (hr.mono (by decide)) rfl ba_law_take (takes_of rfl rfl rfl rfl) (ma_cons (me_var 0) (ma_cons (me_bin (mo_add hK) (me_bin mo_sub (me_var 2) (me_var 1)) me_int) ma_nil))))))
def N_law_full_points : List Str := ["store", "many", "kind", "x", "y", "points", "k"]
theorem S_law_full_points : FnScope N_law_full_points ["store", "many"] d_law_full_points.scope := ⟨rfl, rfl, rfl, by decide +kernel, rfl, by decide +kernel, by decide +kernel⟩
theorem w_law_full_points (T : Tx K mg g es cs) (n : Fr mg) (c : Co mg) (I : In_ P w K mg base) (D : DefOk K mg d_law_full_points "_law_full_points") (h_law_take : FnM P w K mg base g 4 d_law_take "_law_take" ["store", "many"] f_law_take) (h_law_between : FnM P w K mg base g 5 d_law_between "_law_between" ["store", "low", "high"] f_law_between) : FnM P w K mg base g 6 d_law_full_points "_law_full_points" ["store", "many"] f_law_full_points := by
  obtain ⟨f, fd, hm, Fd_⟩ := D.ex
  have S := S_law_full_points
  refine fnM (k := 5) T.held hm Fd_ S fun cdv A outer s H E hr => ?_
  have hK : K = g.K := T.hK
  exact (mss_cons (ms_set 2 S.nd (me_call h_law_take (hr.mono (by decide)) rfl ba_law_take (takes_of rfl rfl rfl rfl) (ma_cons (me_var 0) (ma_cons me_int ma_nil))))
    (mss_cons (ms_set 3 S.nd (me_call h_law_between (hr.mono (by decide)) rfl ba_law_between (takes_of rfl rfl rfl rfl) (ma_cons (me_var 0) (ma_cons (me_neg me_int) (ma_cons me_int ma_nil)))))
    (mss_cons (ms_set 4 S.nd me_int)
    (mss_cons (ms_set 5 S.nd (me_lst ma_nil))
    (mss_cons (ms_for (passes_of rfl) rfl (mi_range1 (by rfl) n.range (ma_cons (me_var 1) ma_nil)) (mg_nm 6 S.nd) (mss_cons (ms_if (mt_cmp (mo_eq hK hr.units) (me_var 2) me_int (nomark _)) (mss_one (ms_set 4 S.nd (me_call h_law_between (hr.mono (by decide)) rfl ba_law_between (takes_of rfl rfl rfl rfl) (ma_cons (me_var 0) (ma_cons (me_neg me_int) (ma_cons me_int ma_nil)))))) (mss_one (ms_if (mt_cmp (mo_eq hK hr.units) (me_var 2) me_int (nomark _)) (mss_one (ms_set 4 S.nd (me_call h_law_between (hr.mono (by decide)) rfl ba_law_between (takes_of rfl rfl rfl rfl) (ma_cons (me_var 0) (ma_cons (me_neg (me_bin mo_pow me_int me_int)) (ma_cons (me_bin mo_pow me_int me_int) ma_nil)))))) (mss_one (ms_if (mt_cmp (mo_eq hK hr.units) (me_var 2) me_int (nomark _)) (mss_one (ms_set 4 S.nd (me_bin (mo_add hK) (me_bin mo_mul (me_bin mo_mul (me_var 3) (me_var 3)) (me_bin mo_sub me_int (me_bin mo_mul me_int (me_Ty mc_int (by rfl) n.int b_int (ma_cons (me_cmp mo_lt (me_bin mo_mul me_int (me_var 6)) (me_var 1) (nomark _)) ma_nil))))) (me_call h_law_between (hr.mono (by decide)) rfl ba_law_between (takes_of rfl rfl rfl rfl) (ma_cons (me_var 0) (ma_cons (me_neg me_int) (ma_cons me_int ma_nil))))))) (mss_one (ms_set 4 S.nd (me_bin (mo_add hK) (me_var 4) (me_call h_law_between (hr.mono (by decide)) rfl ba_law_between (takes_of rfl rfl rfl rfl) (ma_cons (me_var 0) (ma_cons (me_neg me_int) (ma_cons me_int ma_nil))))))))))))
    (mss_cons (ms_expr (me_mt hK F.slot_list_append F.type_list_append mtR_app (me_var 5) (ma_cons (me_tup (ma_cons (me_var 3) (ma_cons (me_var 4) ma_nil))) ma_nil)))
    (mss_one (ms_set 3 S.nd (me_bin (mo_add hK) (me_bin (mo_add hK) (me_var 3) me_int) (me_bin mo_fdiv (me_call h_law_take (hr.mono (by decide)) rfl ba_law_take (takes_of rfl rfl rfl rfl) (ma_cons (me_var 0) (ma_cons me_int ma_nil))) me_int)))))))
    (mss_one (ms_ret (me_var 5))))))))
def N_law_edge : List Str := ["store", "low", "high", "kind"]
theorem S_law_edge : FnScope N_law_edge ["store", "low", "high"] d_law_edge.scope := ⟨rfl, rfl, rfl, by decide +kernel, rfl, by decide +kernel, by decide +kernel⟩
theorem w_law_edge (T : Tx K mg g es cs) (n : Fr mg) (c : Co mg) (I : In_ P w K mg base) (D : DefOk K mg d_law_edge "_law_edge") (h_law_take : FnM P w K mg base g 4 d_law_take "_law_take" ["store", "many"] f_law_take) : FnM P w K mg base g 5 d_law_edge "_law_edge" ["store", "low", "high"] f_law_edge := by
  obtain ⟨f, fd, hm, Fd_⟩ := D.ex
  have S := S_law_edge
  refine fnM (k := 4) T.held hm Fd_ S fun cdv A outer s H E hr => ?_
  have hK : K = g.K := T.hK
  exact (mss_cons (ms_if (mt_cmp mo_le (me_var 2) (me_var 1) (nomark _)) (mss_one (ms_ret (me_var 1))) mss_nil)
    (mss_cons (ms_set 3 S.nd (me_call h_law_take (hr.mono (by decide)) rfl ba_law_take (takes_of rfl rfl rfl rfl) (ma_cons (me_var 0) (ma_cons me_int ma_nil))))
    (mss_cons (ms_if (mt_cmp (mo_eq hK hr.units) (me_var 3) me_int (nomark _)) (mss_one (ms_ret (me_var 1))) mss_nil)
    (mss_cons (ms_if (mt_cmp (mo_eq hK hr.units) (me_var 3) me_int (nomark _)) (mss_one (ms_ret (me_var 2))) mss_nil)
    (mss_one (ms_ret (me_bin (mo_add hK) (me_var 1) (me_call h_law_take (hr.mono (by decide)) rfl ba_law_take (takes_of rfl rfl rfl rfl) (ma_cons (me_var 0) (ma_cons (me_bin (mo_add hK) (me_bin mo_sub (me_var 2) (me_var 1)) me_int) ma_nil))))))))))
def N_law_choose : List Str := ["whole", "part", "many", "k"]
theorem S_law_choose : FnScope N_law_choose ["whole", "part"] d_law_choose.scope := ⟨rfl, rfl, rfl, by decide +kernel, rfl, by decide +kernel, by decide +kernel⟩
theorem w_law_choose (T : Tx K mg g es cs) (n : Fr mg) (c : Co mg) (I : In_ P w K mg base) (D : DefOk K mg d_law_choose "_law_choose")  : FnM P w K mg base g 3 d_law_choose "_law_choose" ["whole", "part"] f_law_choose := by
  obtain ⟨f, fd, hm, Fd_⟩ := D.ex
  have S := S_law_choose
  refine fnM (k := 2) T.held hm Fd_ S fun cdv A outer s H E hr => ?_
  have hK : K = g.K := T.hK
  exact (mss_cons (ms_if (mw_or (mt_cmp mo_lt (me_var 1) me_int (nomark _)) (mw_or1 (mt_cmp mo_gt (me_var 1) (me_var 0) (nomark _)))).pt (mss_one (ms_ret me_int)) mss_nil)
    (mss_cons (ms_set 2 S.nd me_int)
    (mss_cons (ms_for (passes_of rfl) rfl (mi_range1 (by rfl) n.range (ma_cons (me_var 1) ma_nil)) (mg_nm 3 S.nd) (mss_one (ms_set 2 S.nd (me_bin mo_fdiv (me_bin mo_mul (me_var 2) (me_bin mo_sub (me_var 0) (me_var 3))) (me_bin (mo_add hK) (me_var 3) me_int)))))
    (mss_one (ms_ret (me_var 2))))))
def N_law_case : List Str := ["store", "kind", "a", "b", "points", "low", "high", "y", "one"]
theorem S_law_case : FnScope N_law_case ["store", "kind", "a", "b"] d_law_case.scope := ⟨rfl, rfl, rfl, by decide +kernel, rfl, by decide +kernel, by decide +kernel⟩
theorem w_law_case (T : Tx K mg g es cs) (n : Fr mg) (c : Co mg) (I : In_ P w K mg base) (D : DefOk K mg d_law_case "_law_case") (h_law_chance : FnM P w K mg base g 5 d_law_chance "_law_chance" ["store", "many"] f_law_chance) (h_law_full_points : FnM P w K mg base g 6 d_law_full_points "_law_full_points" ["store", "many"] f_law_full_points) (h_law_between : FnM P w K mg base g 5 d_law_between "_law_between" ["store", "low", "high"] f_law_between) (h_law_edge : FnM P w K mg base g 5 d_law_edge "_law_edge" ["store", "low", "high"] f_law_edge) (h_law_choose : FnM P w K mg base g 3 d_law_choose "_law_choose" ["whole", "part"] f_law_choose) (h_law_best_points : FnM P w K mg base g 3 d_law_best_points "_law_best_points" ["a", "b"] f_law_best_points) (h_law_pick : FnM P w K mg base g 5 d_law_pick "_law_pick" ["store", "row"] f_law_pick) (h_law_take : FnM P w K mg base g 4 d_law_take "_law_take" ["store", "many"] f_law_take) : FnM P w K mg base g 7 d_law_case "_law_case" ["store", "kind", "a", "b"] f_law_case := by
  obtain ⟨f, fd, hm, Fd_⟩ := D.ex
  have S := S_law_case
  refine fnM (k := 6) T.held hm Fd_ S fun cdv A outer s H E hr => ?_
  have hK : K = g.K := T.hK
  exact (mss_cons (ms_if (mt_cmp (mo_eq hK hr.units) (me_var 1) me_int (nomark _)) (mss_cons (ms_if (mt_tru hK (me_call h_law_chance (hr.mono (by decide)) rfl ba_law_chance (takes_of rfl rfl rfl rfl) (ma_cons (me_var 0) (ma_cons me_int ma_nil)))) (mss_one (ms_ret (me_call h_law_full_points (hr.mono (by decide)) rfl ba_law_full_points (takes_of rfl rfl rfl rfl) (ma_cons (me_var 0) (ma_cons (me_call h_law_between (hr.mono (by decide)) rfl ba_law_between (takes_of rfl rfl rfl rfl) (ma_cons (me_var 0) (ma_cons me_int (ma_cons me_int ma_nil)))) ma_nil))))) mss_nil)
    (mss_one (ms_ret (me_call h_law_full_points (hr.mono (by decide)) rfl ba_law_full_points (takes_of rfl rfl rfl rfl) (ma_cons (me_var 0) (ma_cons (me_call h_law_edge (hr.mono (by decide)) rfl ba_law_edge (takes_of rfl rfl rfl rfl) (ma_cons (me_var 0) (ma_cons me_int (ma_cons me_int ma_nil)))) ma_nil)))))) mss_nil)
    (mss_cons (ms_if (mt_cmp (mo_eq hK hr.units) (me_var 1) me_int (nomark _)) (mss_one (ms_ret (me_call h_law_full_points (hr.mono (by decide)) rfl ba_law_full_points (takes_of rfl rfl rfl rfl) (ma_cons (me_var 0) (ma_cons (me_bin (mo_add hK) (me_call h_law_choose (hr.mono (by decide)) rfl ba_law_choose (takes_of rfl rfl rfl rfl) (ma_cons (me_bin (mo_add hK) (me_var 2) (me_var 3)) (ma_cons (me_var 2) ma_nil))) me_int) ma_nil))))) mss_nil)
    (mss_cons (ms_set 4 S.nd (me_call h_law_best_points (hr.mono (by decide)) rfl ba_law_best_points (takes_of rfl rfl rfl rfl) (ma_cons (me_var 2) (ma_cons (me_var 3) ma_nil))))
    (mss_cons (ms_set 5 S.nd (me_B (mc_minL hK rfl) (by rfl) n.min b_min (ma_cons (me_lc0 (own := [("one", 8)]) rfl S.nd (mi_seq hK (me_var 4)) (blkB_ok (by kernel_rfl)) (fun s H C cl fp => (mg_nm 8 S.nd)) (fun s H C cl fp => (me_ixA hK (hu_of hr) (me_var 8) me_int))) ma_nil)))
    (mss_cons (ms_set 6 S.nd (me_B (mc_maxL hK rfl) (by rfl) n.max b_max (ma_cons (me_lc0 (own := [("one", 8)]) rfl S.nd (mi_seq hK (me_var 4)) (blkB_ok (by kernel_rfl)) (fun s H C cl fp => (mg_nm 8 S.nd)) (fun s H C cl fp => (me_ixA hK (hu_of hr) (me_var 8) me_int))) ma_nil)))
    (mss_cons (ms_set 7 S.nd (me_call h_law_pick (hr.mono (by decide)) rfl ba_law_pick (takes_of rfl rfl rfl rfl) (ma_cons (me_var 0) (ma_cons (me_lst (ma_cons (me_bin mo_sub (me_var 5) me_int) (ma_cons (me_var 5) (ma_cons me_int (ma_cons (me_var 6) (ma_cons (me_bin (mo_add hK) (me_var 6) me_int) (ma_cons (me_bin (mo_add hK) (me_bin mo_mul me_int (me_var 6)) me_int) (ma_cons (me_call h_law_between (hr.mono (by decide)) rfl ba_law_between (takes_of rfl rfl rfl rfl) (ma_cons (me_var 0) (ma_cons (me_var 5) (ma_cons (me_var 6) ma_nil)))) ma_nil)))))))) ma_nil))))
    (mss_cons (ms_if (mt_tru hK (me_call h_law_chance (hr.mono (by decide)) rfl ba_law_chance (takes_of rfl rfl rfl rfl) (ma_cons (me_var 0) (ma_cons me_int ma_nil)))) (mss_one (ms_ret (me_bin (mo_add hK) (me_var 4) (me_lst (ma_cons (me_tup (ma_cons (me_bin (mo_add hK) (me_B (mc_len hK) (by rfl) n.len b_len (ma_cons (me_var 4) ma_nil)) (me_call h_law_take (hr.mono (by decide)) rfl ba_law_take (takes_of rfl rfl rfl rfl) (ma_cons (me_var 0) (ma_cons me_int ma_nil)))) (ma_cons (me_var 7) ma_nil))) ma_nil))))) mss_nil)
    (mss_one (ms_ret (me_bin (mo_add hK) (me_lst (ma_cons (me_tup (ma_cons (me_bin mo_sub (me_neg me_int) (me_call h_law_take (hr.mono (by decide)) rfl ba_law_take (takes_of rfl rfl rfl rfl) (ma_cons (me_var 0) (ma_cons me_int ma_nil)))) (ma_cons (me_var 7) ma_nil))) ma_nil)) (me_var 4)))))))))))
def N_law_form : List Str := ["store", "row"]
theorem S_law_form : FnScope N_law_form ["store", "row"] d_law_form.scope := ⟨rfl, rfl, rfl, by decide +kernel, rfl, by decide +kernel, by decide +kernel⟩
theorem w_law_form (T : Tx K mg g es cs) (n : Fr mg) (c : Co mg) (I : In_ P w K mg base) (D : DefOk K mg d_law_form "_law_form") (h_law_take : FnM P w K mg base g 4 d_law_take "_law_take" ["store", "many"] f_law_take) : FnM P w K mg base g 5 d_law_form "_law_form" ["store", "row"] f_law_form := by
  obtain ⟨f, fd, hm, Fd_⟩ := D.ex
  have S := S_law_form
  refine fnM (k := 4) T.held hm Fd_ S fun cdv A outer s H E hr => ?_
  have hK : K = g.K := T.hK
  exact (mss_cons (ms_if (mt_cmp (mo_eq hK hr.units) (me_call h_law_take (hr.mono (by decide)) rfl ba_law_take (takes_of rfl rfl rfl rfl) (ma_cons (me_var 0) (ma_cons me_int ma_nil))) me_int (nomark _)) (mss_one (ms_ret (me_Ty (mc_list hK) (by rfl) n.list b_list (ma_cons (me_var 1) ma_nil)))) mss_nil)
    (mss_one (ms_ret (me_Ty (mc_tuple hK) (by rfl) n.tuple b_tuple (ma_cons (me_var 1) ma_nil)))))
def N_law_keep : List Str := ["value", "kept", "key", "one"]
theorem S_law_keep : FnScope N_law_keep ["value"] d_law_keep.scope := ⟨rfl, rfl, rfl, by decide +kernel, rfl, by decide +kernel, by decide +kernel⟩
theorem w_law_keep_n (T : Tx K mg g es cs) (n : Fr mg) (c : Co mg) (I : In_ P w K mg base) (D : DefOk K mg d_law_keep "_law_keep")  : ∀ k : Nat, FnM P w K mg base g (3 + k) d_law_keep "_law_keep" ["value"] (g_law_keep k)
  | 0 => by
    obtain ⟨f, fd, hm, Fd_⟩ := D.ex
    exact fnM0 hm Fd_
  | k + 1 => by
    have ih := w_law_keep_n T n c I D  k
    obtain ⟨f, fd, hm, Fd_⟩ := D.ex
    have S := S_law_keep
    refine fnM (k := 3 + k) T.held hm Fd_ S fun cdv A outer s H E hr => ?_
    have hK : K = g.K := T.hK
    exact (mss_cons (ms_if (mt_tru hK (me_isi hK T.own n.isinstance (me_var 0) (cte_ty .lst T.ownN (by rfl) n.list b_list))) (mss_one (ms_ret (me_lc0 (own := [("one", 3)]) rfl S.nd (mi_seq hK (me_var 0)) (blkB_ok (by kernel_rfl)) (fun s H C cl fp => (mg_nm 3 S.nd)) (fun s H C cl fp => (me_call ih (hr.mono (by omega)) rfl ba_law_keep takes0 (ma_cons (me_var 3) ma_nil)))))) mss_nil)
    (mss_cons (ms_if (mt_tru hK (me_isi hK T.own n.isinstance (me_var 0) (cte_ty .tup T.ownN (by rfl) n.tuple b_tuple))) (mss_one (ms_ret (me_Ty (mc_tuple hK) (by rfl) n.tuple b_tuple (ma_cons (me_lc0 (own := [("one", 3)]) rfl S.nd (mi_seq hK (me_var 0)) (blkB_ok (by kernel_rfl)) (fun s H C cl fp => (mg_nm 3 S.nd)) (fun s H C cl fp => (me_call ih (hr.mono (by omega)) rfl ba_law_keep takes0 (ma_cons (me_var 3) ma_nil)))) ma_nil)))) mss_nil)
    (mss_cons (ms_if (mt_tru hK (me_isi hK T.own n.isinstance (me_var 0) (cte_ty .dct T.ownN (by rfl) n.dict b_dict))) (mss_cons (ms_set 1 S.nd me_d0)
    (mss_cons (ms_forD 0 (passes_of rfl) rfl (mg_nm 2 S.nd) (mss_one (ms_asg (me_call ih (hr.mono (by omega)) rfl ba_law_keep (takes_of rfl rfl rfl rfl) (ma_cons (me_ixA hK (hu_of hr) (me_var 0) (me_var 2)) ma_nil)) (mg_ix (W := W0) (hu_of hr) (me_var 1) (me_var 2)))))
    (mss_one (ms_ret (me_var 1))))) mss_nil)
    (mss_one (ms_ret (me_var 0))))))
theorem w_law_keep (T : Tx K mg g es cs) (n : Fr mg) (c : Co mg) (I : In_ P w K mg base) (D : DefOk K mg d_law_keep "_law_keep")  : FnM P w K mg base g 23 d_law_keep "_law_keep" ["value"] f_law_keep := w_law_keep_n T n c I D  20
def N_p_is_sequence : List Str := ["value"]
theorem S_p_is_sequence : FnScope N_p_is_sequence ["value"] d_p_is_sequence.scope := ⟨rfl, rfl, rfl, by decide +kernel, rfl, by decide +kernel, by decide +kernel⟩
theorem w_p_is_sequence (T : Tx K mg g es cs) (n : Fr mg) (c : Co mg) (I : In_ P w K mg base) (D : DefOk K mg d_p_is_sequence "is_sequence")  : FnM P w K mg base g 3 d_p_is_sequence "is_sequence" ["value"] f_p_is_sequence := by
  obtain ⟨f, fd, hm, Fd_⟩ := D.ex
  have S := S_p_is_sequence
  refine fnM (k := 2) T.held hm Fd_ S fun cdv A outer s H E hr => ?_
  have hK : K = g.K := T.hK
  exact (mss_one (ms_ret (me_isiT hK T.own n.isinstance (me_var 0) (.cons (cte_ty .lst T.ownN (by rfl) n.list b_list) (.cons (cte_ty .tup T.ownN (by rfl) n.tuple b_tuple) .nil rfl) rfl))))
def N_p_is_integer : List Str := ["value"]
theorem S_p_is_integer : FnScope N_p_is_integer ["value"] d_p_is_integer.scope := ⟨rfl, rfl, rfl, by decide +kernel, rfl, by decide +kernel, by decide +kernel⟩
theorem w_p_is_integer (T : Tx K mg g es cs) (n : Fr mg) (c : Co mg) (I : In_ P w K mg base) (D : DefOk K mg d_p_is_integer "is_integer")  : FnM P w K mg base g 3 d_p_is_integer "is_integer" ["value"] f_p_is_integer := by
  obtain ⟨f, fd, hm, Fd_⟩ := D.ex
  have S := S_p_is_integer
  refine fnM (k := 2) T.held hm Fd_ S fun cdv A outer s H E hr => ?_
  have hK : K = g.K := T.hK
  exact (mss_one (ms_ret (me_and hK (me_isi hK T.own n.isinstance (me_var 0) (cte_ty .int T.ownN (by rfl) n.int b_int)) (me_one (me_not hK (me_isi hK T.own n.isinstance (me_var 0) (cte_ty .bl T.ownN (by rfl) n.bool b_bool)))))))
def N_p_is_coordinate : List Str := ["value"]
theorem S_p_is_coordinate : FnScope N_p_is_coordinate ["value"] d_p_is_coordinate.scope := ⟨rfl, rfl, rfl, by decide +kernel, rfl, by decide +kernel, by decide +kernel⟩
theorem w_p_is_coordinate (T : Tx K mg g es cs) (n : Fr mg) (c : Co mg) (I : In_ P w K mg base) (D : DefOk K mg d_p_is_coordinate "is_coordinate") (h_p_is_integer : FnM P w K mg base g 3 d_p_is_integer "is_integer" ["value"] f_p_is_integer) : FnM P w K mg base g 4 d_p_is_coordinate "is_coordinate" ["value"] f_p_is_coordinate := by
  obtain ⟨f, fd, hm, Fd_⟩ := D.ex
  have S := S_p_is_coordinate
  refine fnM (k := 3) T.held hm Fd_ S fun cdv A outer s H E hr => ?_
  have hK : K = g.K := T.hK
  exact (mss_one (ms_ret (me_and hK (me_call h_p_is_integer (hr.mono (by decide)) rfl ba_p_is_integer (takes_of rfl rfl rfl rfl) (ma_cons (me_var 0) ma_nil)) (me_one (me_chain mo_lt mo_lt (me_neg (me_gint c.p_SIZE_LIMIT)) (me_var 0) (me_gint c.p_SIZE_LIMIT))))))
def N_p_is_point : List Str := ["value"]
theorem S_p_is_point : FnScope N_p_is_point ["value"] d_p_is_point.scope := ⟨rfl, rfl, rfl, by decide +kernel, rfl, by decide +kernel, by decide +kernel⟩
theorem w_p_is_point (T : Tx K mg g es cs) (n : Fr mg) (c : Co mg) (I : In_ P w K mg base) (D : DefOk K mg d_p_is_point "is_point") (h_p_is_sequence : FnM P w K mg base g 3 d_p_is_sequence "is_sequence" ["value"] f_p_is_sequence) (h_p_is_coordinate : FnM P w K mg base g 4 d_p_is_coordinate "is_coordinate" ["value"] f_p_is_coordinate) : FnM P w K mg base g 5 d_p_is_point "is_point" ["value"] f_p_is_point := by
  obtain ⟨f, fd, hm, Fd_⟩ := D.ex
  have S := S_p_is_point
  refine fnM (k := 4) T.held hm Fd_ S fun cdv A outer s H E hr => ?_
  have hK : K = g.K := T.hK
  exact (mss_cons (ms_if (mw_or (mt_not (mt_tru hK (me_call h_p_is_sequence (hr.mono (by decide)) rfl ba_p_is_sequence (takes_of rfl rfl rfl rfl) (ma_cons (me_var 0) ma_nil)))) (mw_or1 (mt_cmp (mo_ne hK hr.units) (me_B (mc_len hK) (by rfl) n.len b_len (ma_cons (me_var 0) ma_nil)) me_int (nomark _)))).pt (mss_one (ms_ret me_bl)) mss_nil)
    (mss_one (ms_ret (me_and hK (me_call h_p_is_coordinate (hr.mono (by decide)) rfl ba_p_is_coordinate (takes_of rfl rfl rfl rfl) (ma_cons (me_ixA hK (hu_of hr) (me_var 0) me_int) ma_nil)) (me_one (me_call h_p_is_coordinate (hr.mono (by decide)) rfl ba_p_is_coordinate (takes_of rfl rfl rfl rfl) (ma_cons (me_ixA hK (hu_of hr) (me_var 0) me_int) ma_nil)))))))
def N_p_check_points : List Str := ["points", "index", "point"]
theorem S_p_check_points : FnScope N_p_check_points ["points"] d_p_check_points.scope := ⟨rfl, rfl, rfl, by decide +kernel, rfl, by decide +kernel, by decide +kernel⟩
theorem w_p_check_points (T : Tx K mg g es cs) (n : Fr mg) (c : Co mg) (I : In_ P w K mg base) (D : DefOk K mg d_p_check_points "check_points") (h_p_is_sequence : FnM P w K mg base g 3 d_p_is_sequence "is_sequence" ["value"] f_p_is_sequence) (h_p_is_point : FnM P w K mg base g 5 d_p_is_point "is_point" ["value"] f_p_is_point) : FnM P w K mg base g 6 d_p_check_points "check_points" ["points"] f_p_check_points := by
  obtain ⟨f, fd, hm, Fd_⟩ := D.ex
  have S := S_p_check_points
  refine fnM (k := 5) T.held hm Fd_ S fun cdv A outer s H E hr => ?_
  have hK : K = g.K := T.hK
  exact (mss_cons (ms_if (mw_or (mt_not (mt_tru hK (me_call h_p_is_sequence (hr.mono (by decide)) rfl ba_p_is_sequence (takes_of rfl rfl rfl rfl) (ma_cons (me_var 0) ma_nil)))) (mw_or1 (mt_cmp mo_gt (me_B (mc_len hK) (by rfl) n.len b_len (ma_cons (me_var 0) ma_nil)) (me_gint c.p_MOST_POINTS) (nomark _)))).pt (mss_one (ms_raise1 rfl (takes_of rfl rfl rfl rfl) hr (by omega) (T.nm (i := 3) rfl) (T.e1 (i := 3) rfl rfl) I.BadPoints (T.exc (i := 3) rfl) (ma_cons me_non ma_nil))) mss_nil)
    (mss_one (ms_for (passes_of rfl) rfl (mi_enum hK (by rfl) n.enumerate (ma_cons (me_var 0) ma_nil)) (mg_tup hK rfl (mgs_cons (mg_nm 1 S.nd) (mgs_cons (mg_nm 2 S.nd) mgs_nil))) (mss_cons (ms_if (mt_not (mt_tru hK (me_call h_p_is_point (hr.mono (by decide)) rfl ba_p_is_point (takes_of rfl rfl rfl rfl) (ma_cons (me_var 2) ma_nil)))) (mss_one (ms_raise1 rfl (takes_of rfl rfl rfl rfl) hr (by omega) (T.nm (i := 3) rfl) (T.e1 (i := 3) rfl rfl) I.BadPoints (T.exc (i := 3) rfl) (ma_cons (me_var 1) ma_nil))) mss_nil)
    (mss_one (ms_if (mw_and (mt_cmp mo_gt (me_var 1) me_int (nomark _)) (mw_and1 (mt_cmp mo_le (me_ixA hK (hu_of hr) (me_var 2) me_int) (me_ixA hK (hu_of hr) (me_ixA hK (hu_of hr) (me_var 0) (me_bin mo_sub (me_var 1) me_int)) me_int) (nomark _)))).pt (mss_one (ms_raise1 rfl (takes_of rfl rfl rfl rfl) hr (by omega) (T.nm (i := 3) rfl) (T.e1 (i := 3) rfl rfl) I.BadPoints (T.exc (i := 3) rfl) (ma_cons (me_var 1) ma_nil))) mss_nil))))))
def N_p_turned_area : List Str := ["p", "q", "r"]
theorem S_p_turned_area : FnScope N_p_turned_area ["p", "q", "r"] d_p_turned_area.scope := ⟨rfl, rfl, rfl, by decide +kernel, rfl, by decide +kernel, by decide +kernel⟩
theorem w_p_turned_area (T : Tx K mg g es cs) (n : Fr mg) (c : Co mg) (I : In_ P w K mg base) (D : DefOk K mg d_p_turned_area "turned_area")  : FnM P w K mg base g 3 d_p_turned_area "turned_area" ["p", "q", "r"] f_p_turned_area := by
  obtain ⟨f, fd, hm, Fd_⟩ := D.ex
  have S := S_p_turned_area
  refine fnM (k := 2) T.held hm Fd_ S fun cdv A outer s H E hr => ?_
  have hK : K = g.K := T.hK
  exact (mss_one (ms_ret (me_bin mo_sub (me_bin mo_mul (me_bin mo_sub (me_ixA hK (hu_of hr) (me_var 1) me_int) (me_ixA hK (hu_of hr) (me_var 0) me_int)) (me_bin mo_sub (me_ixA hK (hu_of hr) (me_var 2) me_int) (me_ixA hK (hu_of hr) (me_var 0) me_int))) (me_bin mo_mul (me_bin mo_sub (me_ixA hK (hu_of hr) (me_var 1) me_int) (me_ixA hK (hu_of hr) (me_var 0) me_int)) (me_bin mo_sub (me_ixA hK (hu_of hr) (me_var 2) me_int) (me_ixA hK (hu_of hr) (me_var 0) me_int))))))
def N_p_bends : List Str := ["points", "i", "j", "k", "left"]
theorem S_p_bends : FnScope N_p_bends ["points", "i", "j", "k", "left"] d_p_bends.scope := ⟨rfl, rfl, rfl, by decide +kernel, rfl, by decide +kernel, by decide +kernel⟩
theorem w_p_bends (T : Tx K mg g es cs) (n : Fr mg) (c : Co mg) (I : In_ P w K mg base) (D : DefOk K mg d_p_bends "bends") (h_p_turned_area : FnM P w K mg base g 3 d_p_turned_area "turned_area" ["p", "q", "r"] f_p_turned_area) : FnM P w K mg base g 4 d_p_bends "bends" ["points", "i", "j", "k", "left"] f_p_bends := by
  obtain ⟨f, fd, hm, Fd_⟩ := D.ex
  have S := S_p_bends
  refine fnM (k := 3) T.held hm Fd_ S fun cdv A outer s H E hr => ?_
  have hK : K = g.K := T.hK
  exact (mss_one (ms_ret (me_cmp (mo_eq hK hr.units) (me_cmp mo_gt (me_call h_p_turned_area (hr.mono (by decide)) rfl ba_p_turned_area (takes_of rfl rfl rfl rfl) (ma_cons (me_ixA hK (hu_of hr) (me_var 0) (me_var 1)) (ma_cons (me_ixA hK (hu_of hr) (me_var 0) (me_var 2)) (ma_cons (me_ixA hK (hu_of hr) (me_var 0) (me_var 3)) ma_nil)))) me_int (nomark _)) (me_var 4) (nomark _))))
def N_p_bent_reach : List Str := ["points", "left", "size", "reach", "i", "j", "best", "k", "spare"]
theorem S_p_bent_reach : FnScope N_p_bent_reach ["points", "left"] d_p_bent_reach.scope := ⟨rfl, rfl, rfl, by decide +kernel, rfl, by decide +kernel, by decide +kernel⟩
theorem w_p_bent_reach (T : Tx K mg g es cs) (n : Fr mg) (c : Co mg) (I : In_ P w K mg base) (D : DefOk K mg d_p_bent_reach "bent_reach") (h_p_bends : FnM P w K mg base g 4 d_p_bends "bends" ["points", "i", "j", "k", "left"] f_p_bends) : FnM P w K mg base g 5 d_p_bent_reach "bent_reach" ["points", "left"] f_p_bent_reach := by
  obtain ⟨f, fd, hm, Fd_⟩ := D.ex
  have S := S_p_bent_reach
  refine fnM (k := 4) T.held hm Fd_ S fun cdv A outer s H E hr => ?_
  have hK : K = g.K := T.hK
  exact (mss_cons (ms_set 2 S.nd (me_B (mc_len hK) (by rfl) n.len b_len (ma_cons (me_var 0) ma_nil)))
    (mss_cons (ms_lc0 3 (own := [("spare", 8)]) rfl S.nd (mi_range1 (by rfl) n.range (ma_cons (me_var 2) ma_nil)) (blkB_ok (by kernel_rfl)) (fun s H C cl fp => (mg_nm 8 S.nd)) (fun s H C cl fp => (me_bin mo_mul (me_lst (ma_cons me_int ma_nil)) (me_var 2))) (sw_true rfl rfl rfl rfl))
    (mss_cons (ms_for (passes_of rfl) rfl (mi_rev1 n.reversed n.range (me_var 2)) (mg_nm 4 S.nd) (mss_one (ms_for (passes_of rfl) rfl (mi_range2 (by rfl) n.range (ma_cons (me_bin (mo_add hK) (me_var 4) me_int) (ma_cons (me_var 2) ma_nil))) (mg_nm 5 S.nd) (mss_cons (ms_set 6 S.nd me_int)
    (mss_cons (ms_for (passes_of rfl) rfl (mi_range2 (by rfl) n.range (ma_cons (me_bin (mo_add hK) (me_var 5) me_int) (ma_cons (me_var 2) ma_nil))) (mg_nm 7 S.nd) (mss_one (ms_if (mw_and (mt_cmp mo_ge (me_ixA hK (hu_of hr) (me_ixA hK (hu_of hr) (me_var 3) (me_var 5)) (me_var 7)) (me_var 6) (nomark _)) (mw_and1 (mt_tru hK (me_call h_p_bends (hr.mono (by decide)) rfl ba_p_bends (takes_of rfl rfl rfl rfl) (ma_cons (me_var 0) (ma_cons (me_var 4) (ma_cons (me_var 5) (ma_cons (me_var 7) (ma_cons (me_var 1) ma_nil))))))))).pt (mss_one (ms_set 6 S.nd (me_bin (mo_add hK) (me_ixA hK (hu_of hr) (me_ixA hK (hu_of hr) (me_var 3) (me_var 5)) (me_var 7)) me_int))) mss_nil)))
    (mss_one (ms_asg (me_var 6) (mg_ix (W := W0) (hu_of hr) (me_ixA hK (hu_of hr) (me_var 3) (me_var 4)) (me_var 5)))))))))
    (mss_one (ms_ret (me_var 3))))))
def N_p_least_start : List Str := ["reach", "many", "size", "i", "j"]
theorem S_p_least_start : FnScope N_p_least_start ["reach", "many"] d_p_least_start.scope := ⟨rfl, rfl, rfl, by decide +kernel, rfl, by decide +kernel, by decide +kernel⟩
theorem w_p_least_start (T : Tx K mg g es cs) (n : Fr mg) (c : Co mg) (I : In_ P w K mg base) (D : DefOk K mg d_p_least_start "least_start")  : FnM P w K mg base g 3 d_p_least_start "least_start" ["reach", "many"] f_p_least_start := by
  obtain ⟨f, fd, hm, Fd_⟩ := D.ex
  have S := S_p_least_start
  refine fnM (k := 2) T.held hm Fd_ S fun cdv A outer s H E hr => ?_
  have hK : K = g.K := T.hK
  exact (mss_cons (ms_set 2 S.nd (me_B (mc_len hK) (by rfl) n.len b_len (ma_cons (me_var 0) ma_nil)))
    (mss_cons (ms_for (passes_of rfl) rfl (mi_range1 (by rfl) n.range (ma_cons (me_var 2) ma_nil)) (mg_nm 3 S.nd) (mss_one (ms_for (passes_of rfl) rfl (mi_range2 (by rfl) n.range (ma_cons (me_bin (mo_add hK) (me_var 3) me_int) (ma_cons (me_var 2) ma_nil))) (mg_nm 4 S.nd) (mss_one (ms_if (mt_cmp mo_ge (me_ixA hK (hu_of hr) (me_ixA hK (hu_of hr) (me_var 0) (me_var 3)) (me_var 4)) (me_var 1) (nomark _)) (mss_one (ms_ret (me_lst (ma_cons (me_var 3) (ma_cons (me_var 4) ma_nil))))) mss_nil)))))
    (mss_one (ms_ret me_non))))
def N_p_least_bent : List Str := ["points", "left", "many", "reach", "chosen", "k", "last"]
theorem S_p_least_bent : FnScope N_p_least_bent ["points", "left", "many"] d_p_least_bent.scope := ⟨rfl, rfl, rfl, by decide +kernel, rfl, by decide +kernel, by decide +kernel⟩
theorem w_p_least_bent (T : Tx K mg g es cs) (n : Fr mg) (c : Co mg) (I : In_ P w K mg base) (D : DefOk K mg d_p_least_bent "least_bent") (h_p_bent_reach : FnM P w K mg base g 5 d_p_bent_reach "bent_reach" ["points", "left"] f_p_bent_reach) (h_p_least_start : FnM P w K mg base g 3 d_p_least_start "least_start" ["reach", "many"] f_p_least_start) (h_p_bends : FnM P w K mg base g 4 d_p_bends "bends" ["points", "i", "j", "k", "left"] f_p_bends) : FnM P w K mg base g 6 d_p_least_bent "least_bent" ["points", "left", "many"] f_p_least_bent := by
  obtain ⟨f, fd, hm, Fd_⟩ := D.ex
  have S := S_p_least_bent
  refine fnM (k := 5) T.held hm Fd_ S fun cdv A outer s H E hr => ?_
  have hK : K = g.K := T.hK
  exact (mss_cons (ms_if (mt_cmp mo_gt (me_var 2) (me_B (mc_len hK) (by rfl) n.len b_len (ma_cons (me_var 0) ma_nil)) (nomark _)) (mss_one (ms_ret me_non)) mss_nil)
    (mss_cons (ms_set 3 S.nd (me_call h_p_bent_reach (hr.mono (by decide)) rfl ba_p_bent_reach (takes_of rfl rfl rfl rfl) (ma_cons (me_var 0) (ma_cons (me_var 1) ma_nil))))
    (mss_cons (ms_set 4 S.nd (me_call h_p_least_start (hr.mono (by decide)) rfl ba_p_least_start (takes_of rfl rfl rfl rfl) (ma_cons (me_var 3) (ma_cons (me_var 2) ma_nil))))
    (mss_cons (ms_if (mt_cmp mo_is (me_var 4) me_non (nomark _)) (mss_one (ms_ret me_non)) mss_nil)
    (mss_cons (ms_for (passes_of rfl) rfl (mi_range2 (by rfl) n.range (ma_cons (me_bin (mo_add hK) (me_ixA hK (hu_of hr) (me_var 4) me_int) me_int) (ma_cons (me_B (mc_len hK) (by rfl) n.len b_len (ma_cons (me_var 0) ma_nil)) ma_nil))) (mg_nm 5 S.nd) (mss_cons (ms_if (mt_cmp (mo_eq hK hr.units) (me_B (mc_len hK) (by rfl) n.len b_len (ma_cons (me_var 4) ma_nil)) (me_var 2) (nomark _)) (mss_one ms_break) mss_nil)
    (mss_cons (ms_set 6 S.nd (me_ixA hK (hu_of hr) (me_var 4) (me_neg me_int)))
    (mss_one (ms_if (mw_and (mt_cmp mo_gt (me_ixA hK (hu_of hr) (me_ixA hK (hu_of hr) (me_var 3) (me_var 6)) (me_var 5)) (me_bin mo_sub (me_var 2) (me_B (mc_len hK) (by rfl) n.len b_len (ma_cons (me_var 4) ma_nil))) (nomark _)) (mw_and1 (mt_tru hK (me_call h_p_bends (hr.mono (by decide)) rfl ba_p_bends (takes_of rfl rfl rfl rfl) (ma_cons (me_var 0) (ma_cons (me_ixA hK (hu_of hr) (me_var 4) (me_neg me_int)) (ma_cons (me_var 6) (ma_cons (me_var 5) (ma_cons (me_var 1) ma_nil))))))))).pt (mss_one (ms_expr (me_mt hK F.slot_list_append F.type_list_append mtR_app (me_var 4) (ma_cons (me_var 5) ma_nil)))) mss_nil)))))
    (mss_one (ms_ret (me_var 4))))))))
def N_p_is_integer_within : List Str := ["value", "least", "most"]
theorem S_p_is_integer_within : FnScope N_p_is_integer_within ["value", "least", "most"] d_p_is_integer_within.scope := ⟨rfl, rfl, rfl, by decide +kernel, rfl, by decide +kernel, by decide +kernel⟩
theorem w_p_is_integer_within (T : Tx K mg g es cs) (n : Fr mg) (c : Co mg) (I : In_ P w K mg base) (D : DefOk K mg d_p_is_integer_within "is_integer_within") (h_p_is_integer : FnM P w K mg base g 3 d_p_is_integer "is_integer" ["value"] f_p_is_integer) : FnM P w K mg base g 4 d_p_is_integer_within "is_integer_within" ["value", "least", "most"] f_p_is_integer_within := by
  obtain ⟨f, fd, hm, Fd_⟩ := D.ex
  have S := S_p_is_integer_within
  refine fnM (k := 3) T.held hm Fd_ S fun cdv A outer s H E hr => ?_
  have hK : K = g.K := T.hK
  exact (mss_one (ms_ret (me_and hK (me_call h_p_is_integer (hr.mono (by decide)) rfl ba_p_is_integer (takes_of rfl rfl rfl rfl) (ma_cons (me_var 0) ma_nil)) (me_one (me_chain mo_le mo_le (me_var 1) (me_var 0) (me_var 2))))))
def N_p_cup_or_cap : List Str := ["points", "cups", "caps", "places"]
theorem S_p_cup_or_cap : FnScope N_p_cup_or_cap ["points", "cups", "caps"] d_p_cup_or_cap.scope := ⟨rfl, rfl, rfl, by decide +kernel, rfl, by decide +kernel, by decide +kernel⟩
theorem w_p_cup_or_cap (T : Tx K mg g es cs) (n : Fr mg) (c : Co mg) (I : In_ P w K mg base) (D : DefOk K mg d_p_cup_or_cap "cup_or_cap") (h_p_check_points : FnM P w K mg base g 6 d_p_check_points "check_points" ["points"] f_p_check_points) (h_p_is_integer_within : FnM P w K mg base g 4 d_p_is_integer_within "is_integer_within" ["value", "least", "most"] f_p_is_integer_within) (h_p_least_bent : FnM P w K mg base g 6 d_p_least_bent "least_bent" ["points", "left", "many"] f_p_least_bent) : FnM P w K mg base g 7 d_p_cup_or_cap "cup_or_cap" ["points", "cups", "caps"] f_p_cup_or_cap := by
  obtain ⟨f, fd, hm, Fd_⟩ := D.ex
  have S := S_p_cup_or_cap
  refine fnM (k := 6) T.held hm Fd_ S fun cdv A outer s H E hr => ?_
  have hK : K = g.K := T.hK
  exact (mss_cons (ms_expr (me_call h_p_check_points (hr.mono (by decide)) rfl ba_p_check_points (takes_of rfl rfl rfl rfl) (ma_cons (me_var 0) ma_nil)))
    (mss_cons (ms_if (mt_not (mt_tru hK (me_call h_p_is_integer_within (hr.mono (by decide)) rfl ba_p_is_integer_within (takes_of rfl rfl rfl rfl) (ma_cons (me_var 1) (ma_cons me_int (ma_cons me_int ma_nil)))))) (mss_one (ms_raise0 rfl (takes_of rfl rfl rfl rfl) (T.nm (i := 1) rfl) (T.e0 (i := 1) rfl rfl) (T.exc (i := 1) rfl))) mss_nil)
    (mss_cons (ms_if (mt_not (mt_tru hK (me_call h_p_is_integer_within (hr.mono (by decide)) rfl ba_p_is_integer_within (takes_of rfl rfl rfl rfl) (ma_cons (me_var 2) (ma_cons me_int (ma_cons me_int ma_nil)))))) (mss_one (ms_raise0 rfl (takes_of rfl rfl rfl rfl) (T.nm (i := 1) rfl) (T.e0 (i := 1) rfl rfl) (T.exc (i := 1) rfl))) mss_nil)
    (mss_cons (ms_if (mt_cmp mo_gt (me_B (mc_len hK) (by rfl) n.len b_len (ma_cons (me_var 0) ma_nil)) (me_gint c.p_MOST_HUED) (nomark _)) (mss_one (ms_raise1 rfl (takes_of rfl rfl rfl rfl) hr (by omega) (T.nm (i := 4) rfl) (T.e1 (i := 4) rfl rfl) I.TooMany (T.exc (i := 4) rfl) (ma_cons me_int ma_nil))) mss_nil)
    (mss_cons (ms_set 3 S.nd (me_call h_p_least_bent (hr.mono (by decide)) rfl ba_p_least_bent (takes_of rfl rfl rfl rfl) (ma_cons (me_var 0) (ma_cons me_bl (ma_cons (me_bin (mo_add hK) (me_var 1) me_int) ma_nil)))))
    (mss_cons (ms_if (mt_cmp mo_isNot (me_var 3) me_non (nomark _)) (mss_one (ms_ret (me_tup (ma_cons me_int (ma_cons (me_var 3) ma_nil))))) mss_nil)
    (mss_cons (ms_set 3 S.nd (me_call h_p_least_bent (hr.mono (by decide)) rfl ba_p_least_bent (takes_of rfl rfl rfl rfl) (ma_cons (me_var 0) (ma_cons me_bl (ma_cons (me_bin (mo_add hK) (me_var 2) me_int) ma_nil)))))
    (mss_cons (ms_if (mt_cmp mo_isNot (me_var 3) me_non (nomark _)) (mss_one (ms_ret (me_tup (ma_cons me_int (ma_cons (me_var 3) ma_nil))))) mss_nil)
    (mss_one (ms_ret me_non))))))))))
def N_law_ask : List Str := ["points", "cups", "caps", "e"]
theorem S_law_ask : FnScope N_law_ask ["points", "cups", "caps"] d_law_ask.scope := ⟨rfl, rfl, rfl, by decide +kernel, rfl, by decide +kernel, by decide +kernel⟩
theorem w_law_ask (T : Tx K mg g es cs) (n : Fr mg) (c : Co mg) (I : In_ P w K mg base) (D : DefOk K mg d_law_ask "_law_ask") (h_p_cup_or_cap : FnM P w K mg base g 7 d_p_cup_or_cap "cup_or_cap" ["points", "cups", "caps"] f_p_cup_or_cap) : FnM P w K mg base g 8 d_law_ask "_law_ask" ["points", "cups", "caps"] f_law_ask := by
  obtain ⟨f, fd, hm, Fd_⟩ := D.ex
  have S := S_law_ask
  refine fnM (k := 7) T.held hm Fd_ S fun cdv A outer s H E hr => ?_
  have hK : K = g.K := T.hK
  exact (mss_one (ms_try T.held S.nd (takes_of rfl rfl rfl rfl) (fun W pn xe tk po => (mss_one (ms_ret (me_lst (ma_cons me_str (ma_cons (me_call h_p_cup_or_cap (hr.mono (by decide)) rfl ba_p_cup_or_cap tk (ma_cons (me_var 0) (ma_cons (me_var 1) (ma_cons (me_var 2) ma_nil)))) ma_nil)))))) (.cons ⟨rfl, by decide, .inl (T.nm (i := 2) rfl)⟩ (T.cat (j := 2) rfl) (fun a oe cls d pn x hx hz hf => (mss_one (ms_ret (me_lst (ma_cons me_str ma_nil))))) (.cons ⟨rfl, by decide, .inl (T.nm (i := 1) rfl)⟩ (T.cat (j := 1) rfl) (fun a oe cls d pn x hx hz hf => (mss_one (ms_ret (me_lst (ma_cons me_str ma_nil))))) (.cas ⟨rfl, by decide, .inl (T.nm (i := 4) rfl)⟩ rfl rfl (T.cat (j := 4) rfl) (fun a oe cls d pn x hx hz hf => (mss_cons (ms_if (mt_tru hK (me_isH 3 T.own n.isinstance (cte_cls (.exc fun n => false || n == 3) (T.nm (i := 3) rfl) (fun t tv r => (T.kE (j := 3) rfl) t tv r.ofH)) hz hf)) (mss_one (ms_ret (me_lst (ma_cons me_str ma_nil)))) mss_nil)
    (mss_one (ms_ret (me_lst (ma_cons me_str (ma_cons (me_hel 3 0 (exc_at hx (T.exc (i := 4) rfl)) rfl (T.e1 (i := 4) rfl rfl).xf ((T.e1 (i := 4) rfl rfl).no _ (by decide)) hz hf) ma_nil))))))) (.cas ⟨rfl, by decide, .inl (T.nm (i := 3) rfl)⟩ rfl rfl (T.cat (j := 3) rfl) (fun a oe cls d pn x hx hz hf => (mss_one (ms_ret (me_lst (ma_cons me_str (ma_cons (me_hel 3 0 (exc_at hx (T.exc (i := 3) rfl)) rfl (T.e1 (i := 3) rfl rfl).xf ((T.e1 (i := 3) rfl rfl).no _ (by decide)) hz hf) ma_nil)))))) (.cons ⟨rfl, by decide, .inl (T.nm (i := 0) rfl)⟩ (T.cat (j := 0) rfl) (fun a oe cls d pn x hx hz hf => (mss_one (ms_ret (me_lst (ma_cons me_str ma_nil))))) .nil)))))))
def N_law_odd : List Str := ["store", "row"]
theorem S_law_odd : FnScope N_law_odd ["store"] d_law_odd.scope := ⟨rfl, rfl, rfl, by decide +kernel, rfl, by decide +kernel, by decide +kernel⟩
theorem w_law_odd (T : Tx K mg g es cs) (n : Fr mg) (c : Co mg) (I : In_ P w K mg base) (D : DefOk K mg d_law_odd "_law_odd") (h_law_take : FnM P w K mg base g 4 d_law_take "_law_take" ["store", "many"] f_law_take) : FnM P w K mg base g 5 d_law_odd "_law_odd" ["store"] f_law_odd := by
  obtain ⟨f, fd, hm, Fd_⟩ := D.ex
  have S := S_law_odd
  refine fnM (k := 4) T.held hm Fd_ S fun cdv A outer s H E hr => ?_
  have hK : K = g.K := T.hK
  exact (mss_cons (ms_set 1 S.nd (me_lst (ma_cons me_non (ma_cons me_bl (ma_cons me_bl (ma_cons me_str (ma_cons me_str (ma_cons me_str (ma_cons (me_lst ma_nil) (ma_cons (me_tup ma_nil) (ma_cons (me_lst (ma_cons me_int ma_nil)) (ma_cons (me_tup (ma_cons me_int ma_nil)) (ma_cons me_d0 (ma_cons (me_ds (mps_cons pk_str me_int mps_nil)) (ma_cons (me_lst (ma_cons me_non ma_nil)) (ma_cons me_str ma_nil))))))))))))))))
    (mss_one (ms_ret (me_ixA hK (hu_of hr) (me_var 1) (me_call h_law_take (hr.mono (by decide)) rfl ba_law_take (takes_of rfl rfl rfl rfl) (ma_cons (me_var 0) (ma_cons (me_B (mc_len hK) (by rfl) n.len b_len (ma_cons (me_var 1) ma_nil)) ma_nil)))))))
def N_law_not_sequence : List Str := ["store", "row"]
theorem S_law_not_sequence : FnScope N_law_not_sequence ["store"] d_law_not_sequence.scope := ⟨rfl, rfl, rfl, by decide +kernel, rfl, by decide +kernel, by decide +kernel⟩
theorem w_law_not_sequence (T : Tx K mg g es cs) (n : Fr mg) (c : Co mg) (I : In_ P w K mg base) (D : DefOk K mg d_law_not_sequence "_law_not_sequence") (h_law_take : FnM P w K mg base g 4 d_law_take "_law_take" ["store", "many"] f_law_take) : FnM P w K mg base g 5 d_law_not_sequence "_law_not_sequence" ["store"] f_law_not_sequence := by
  obtain ⟨f, fd, hm, Fd_⟩ := D.ex
  have S := S_law_not_sequence
  refine fnM (k := 4) T.held hm Fd_ S fun cdv A outer s H E hr => ?_
  have hK : K = g.K := T.hK
  exact (mss_cons (ms_set 1 S.nd (me_lst (ma_cons me_non (ma_cons me_int (ma_cons me_int (ma_cons (me_neg me_int) (ma_cons me_bl (ma_cons me_bl (ma_cons me_str (ma_cons me_str (ma_cons me_d0 (ma_cons (me_ds (mps_cons pk_int me_int mps_nil)) (ma_cons (me_ds (mps_cons pk_str (me_lst (ma_cons me_int ma_nil)) mps_nil)) (ma_cons me_str ma_nil))))))))))))))
    (mss_one (ms_ret (me_ixA hK (hu_of hr) (me_var 1) (me_call h_law_take (hr.mono (by decide)) rfl ba_law_take (takes_of rfl rfl rfl rfl) (ma_cons (me_var 0) (ma_cons (me_B (mc_len hK) (by rfl) n.len b_len (ma_cons (me_var 1) ma_nil)) ma_nil)))))))
def N_law_bent_points : List Str := ["store", "points", "kind", "value", "at", "x", "wrong", "far", "k"]
theorem S_law_bent_points : FnScope N_law_bent_points ["store", "points"] d_law_bent_points.scope := ⟨rfl, rfl, rfl, by decide +kernel, rfl, by decide +kernel, by decide +kernel⟩
theorem w_law_bent_points (T : Tx K mg g es cs) (n : Fr mg) (c : Co mg) (I : In_ P w K mg base) (D : DefOk K mg d_law_bent_points "_law_bent_points") (h_law_take : FnM P w K mg base g 4 d_law_take "_law_take" ["store", "many"] f_law_take) (h_law_not_sequence : FnM P w K mg base g 5 d_law_not_sequence "_law_not_sequence" ["store"] f_law_not_sequence) (h_law_edge : FnM P w K mg base g 5 d_law_edge "_law_edge" ["store", "low", "high"] f_law_edge) (h_law_odd : FnM P w K mg base g 5 d_law_odd "_law_odd" ["store"] f_law_odd) : FnM P w K mg base g 6 d_law_bent_points "_law_bent_points" ["store", "points"] f_law_bent_points := by
  obtain ⟨f, fd, hm, Fd_⟩ := D.ex
  have S := S_law_bent_points
  refine fnM (k := 5) T.held hm Fd_ S fun cdv A outer s H E hr => ?_
  have hK : K = g.K := T.hK
  exact (mss_cons (ms_set 2 S.nd (me_call h_law_take (hr.mono (by decide)) rfl ba_law_take (takes_of rfl rfl rfl rfl) (ma_cons (me_var 0) (ma_cons me_int ma_nil))))
    (mss_cons (ms_if (mt_cmp (mo_eq hK hr.units) (me_var 2) me_int (nomark _)) (mss_one (ms_ret (me_lst (ma_cons (me_call h_law_not_sequence (hr.mono (by decide)) rfl ba_law_not_sequence (takes_of rfl rfl rfl rfl) (ma_cons (me_var 0) ma_nil)) (ma_cons me_non ma_nil))))) mss_nil)
    (mss_cons (ms_if (mt_cmp (mo_eq hK hr.units) (me_var 2) me_int (nomark _)) (mss_one (ms_ret (me_lst (ma_cons (me_lc0 (own := [("k", 8)]) rfl S.nd (mi_range1 (by rfl) n.range (ma_cons me_int ma_nil)) (blkB_ok (by kernel_rfl)) (fun s H C cl fp => (mg_nm 8 S.nd)) (fun s H C cl fp => (me_tup (ma_cons (me_var 8) (ma_cons me_int ma_nil))))) (ma_cons me_non ma_nil))))) mss_nil)
    (mss_cons (ms_set 3 S.nd (me_Ty (mc_list hK) (by rfl) n.list b_list (ma_cons (me_var 1) ma_nil)))
    (mss_cons (ms_set 4 S.nd (me_B (mc_min2 rfl) (by rfl) n.min b_min (ma_cons (me_call h_law_edge (hr.mono (by decide)) rfl ba_law_edge (takes_of rfl rfl rfl rfl) (ma_cons (me_var 0) (ma_cons me_int (ma_cons (me_B (mc_len hK) (by rfl) n.len b_len (ma_cons (me_var 1) ma_nil)) ma_nil)))) (ma_cons me_int ma_nil))))
    (mss_cons (ms_set 5 S.nd me_int)
    (mss_cons (ms_if (mt_cmp mo_gt (me_var 4) me_int (nomark _)) (mss_one (ms_set 5 S.nd (me_ixA hK (hu_of hr) (me_ixA hK (hu_of hr) (me_var 1) (me_bin mo_sub (me_var 4) me_int)) me_int))) mss_nil)
    (mss_cons (ms_set 6 S.nd (me_call h_law_odd (hr.mono (by decide)) rfl ba_law_odd (takes_of rfl rfl rfl rfl) (ma_cons (me_var 0) ma_nil)))
    (mss_cons (ms_set 7 S.nd (me_bin mo_mul (me_bin mo_mul (me_bin mo_mul (me_bin mo_pow me_int me_int) (me_bin mo_pow me_int me_int)) (me_bin mo_pow me_int me_int)) (me_bin mo_pow me_int me_int)))
    (mss_cons (ms_if (mt_cmp (mo_eq hK hr.units) (me_var 2) me_int (nomark _)) (mss_one (ms_set 6 S.nd (me_tup (ma_cons (me_bin (mo_add hK) (me_var 5) me_int) (ma_cons me_int (ma_cons me_int ma_nil)))))) (mss_one (ms_if (mt_cmp (mo_eq hK hr.units) (me_var 2) me_int (nomark _)) (mss_one (ms_set 6 S.nd (me_lst (ma_cons (me_bin (mo_add hK) (me_var 5) me_int) (ma_cons (me_call h_law_odd (hr.mono (by decide)) rfl ba_law_odd (takes_of rfl rfl rfl rfl) (ma_cons (me_var 0) ma_nil)) ma_nil))))) (mss_one (ms_if (mt_cmp (mo_eq hK hr.units) (me_var 2) me_int (nomark _)) (mss_one (ms_set 6 S.nd (me_tup (ma_cons (me_bin (mo_add hK) (me_var 5) me_int) (ma_cons (me_bin mo_mul (me_var 7) (me_bin mo_sub me_int (me_bin mo_mul me_int (me_call h_law_take (hr.mono (by decide)) rfl ba_law_take (takes_of rfl rfl rfl rfl) (ma_cons (me_var 0) (ma_cons me_int ma_nil)))))) ma_nil))))) (mss_one (ms_if (mw_and (mt_cmp (mo_eq hK hr.units) (me_var 2) me_int (nomark _)) (mw_and1 (mt_cmp mo_gt (me_var 4) me_int (nomark _)))).pt (mss_one (ms_set 6 S.nd (me_tup (ma_cons (me_bin mo_sub (me_var 5) (me_call h_law_take (hr.mono (by decide)) rfl ba_law_take (takes_of rfl rfl rfl rfl) (ma_cons (me_var 0) (ma_cons me_int ma_nil)))) (ma_cons me_int ma_nil))))) (mss_one (ms_if (mt_cmp (mo_eq hK hr.units) (me_var 2) me_int (nomark _)) (mss_one (ms_set 6 S.nd (me_lst (ma_cons (me_var 7) (ma_cons me_int ma_nil))))) mss_nil)))))))))
    (mss_cons (ms_if (mt_cmp mo_lt (me_var 4) (me_B (mc_len hK) (by rfl) n.len b_len (ma_cons (me_var 3) ma_nil)) (nomark _)) (mss_one (ms_asg (me_var 6) (mg_ix (W := W0) (hu_of hr) (me_var 3) (me_var 4)))) (mss_one (ms_expr (me_mt hK F.slot_list_append F.type_list_append mtR_app (me_var 3) (ma_cons (me_var 6) ma_nil)))))
    (mss_one (ms_ret (me_lst (ma_cons (me_var 3) (ma_cons (me_var 4) ma_nil))))))))))))))))
def N_law_far : List Str := ["store", "power", "k"]
theorem S_law_far : FnScope N_law_far ["store"] d_law_far.scope := ⟨rfl, rfl, rfl, by decide +kernel, rfl, by decide +kernel, by decide +kernel⟩
theorem w_law_far (T : Tx K mg g es cs) (n : Fr mg) (c : Co mg) (I : In_ P w K mg base) (D : DefOk K mg d_law_far "_law_far") (h_law_edge : FnM P w K mg base g 5 d_law_edge "_law_edge" ["store", "low", "high"] f_law_edge) (h_law_take : FnM P w K mg base g 4 d_law_take "_law_take" ["store", "many"] f_law_take) : FnM P w K mg base g 6 d_law_far "_law_far" ["store"] f_law_far := by
  obtain ⟨f, fd, hm, Fd_⟩ := D.ex
  have S := S_law_far
  refine fnM (k := 5) T.held hm Fd_ S fun cdv A outer s H E hr => ?_
  have hK : K = g.K := T.hK
  exact (mss_cons (ms_set 1 S.nd me_int)
    (mss_cons (ms_for (passes_of rfl) rfl (mi_range1 (by rfl) n.range (ma_cons (me_call h_law_edge (hr.mono (by decide)) rfl ba_law_edge (takes_of rfl rfl rfl rfl) (ma_cons (me_var 0) (ma_cons me_int (ma_cons me_int ma_nil)))) ma_nil)) (mg_nm 2 S.nd) (mss_one (ms_set 1 S.nd (me_bin mo_mul (me_var 1) me_int))))
    (mss_one (ms_ret (me_call h_law_take (hr.mono (by decide)) rfl ba_law_take (takes_of rfl rfl rfl rfl) (ma_cons (me_var 0) (ma_cons (me_var 1) ma_nil)))))))
def N_law_not_number : List Str := ["store", "low", "high", "kind", "far"]
theorem S_law_not_number : FnScope N_law_not_number ["store", "low", "high"] d_law_not_number.scope := ⟨rfl, rfl, rfl, by decide +kernel, rfl, by decide +kernel, by decide +kernel⟩
theorem w_law_not_number (T : Tx K mg g es cs) (n : Fr mg) (c : Co mg) (I : In_ P w K mg base) (D : DefOk K mg d_law_not_number "_law_not_number") (h_law_take : FnM P w K mg base g 4 d_law_take "_law_take" ["store", "many"] f_law_take) (h_law_far : FnM P w K mg base g 6 d_law_far "_law_far" ["store"] f_law_far) (h_law_odd : FnM P w K mg base g 5 d_law_odd "_law_odd" ["store"] f_law_odd) : FnM P w K mg base g 7 d_law_not_number "_law_not_number" ["store", "low", "high"] f_law_not_number := by
  obtain ⟨f, fd, hm, Fd_⟩ := D.ex
  have S := S_law_not_number
  refine fnM (k := 6) T.held hm Fd_ S fun cdv A outer s H E hr => ?_
  have hK : K = g.K := T.hK
  exact (mss_cons (ms_set 3 S.nd (me_call h_law_take (hr.mono (by decide)) rfl ba_law_take (takes_of rfl rfl rfl rfl) (ma_cons (me_var 0) (ma_cons me_int ma_nil))))
    (mss_cons (ms_if (mt_cmp mo_lt (me_var 3) me_int (nomark _)) (mss_one (ms_ret (me_bin mo_sub (me_var 1) me_int))) mss_nil)
    (mss_cons (ms_if (mt_cmp mo_lt (me_var 3) me_int (nomark _)) (mss_one (ms_ret (me_bin (mo_add hK) (me_var 2) me_int))) mss_nil)
    (mss_cons (ms_if (mt_cmp (mo_eq hK hr.units) (me_var 3) me_int (nomark _)) (mss_one (ms_ret (me_bin (mo_add hK) (me_bin (mo_add hK) (me_B (mc_max2 rfl) (by rfl) n.max b_max (ma_cons (me_var 2) (ma_cons (me_var 1) ma_nil))) me_int) (me_call h_law_take (hr.mono (by decide)) rfl ba_law_take (takes_of rfl rfl rfl rfl) (ma_cons (me_var 0) (ma_cons me_int ma_nil)))))) mss_nil)
    (mss_cons (ms_if (mt_cmp (mo_eq hK hr.units) (me_var 3) me_int (nomark _)) (mss_cons (ms_set 4 S.nd (me_call h_law_far (hr.mono (by decide)) rfl ba_law_far (takes_of rfl rfl rfl rfl) (ma_cons (me_var 0) ma_nil)))
    (mss_cons (ms_if (mt_cmp (mo_eq hK hr.units) (me_call h_law_take (hr.mono (by decide)) rfl ba_law_take (takes_of rfl rfl rfl rfl) (ma_cons (me_var 0) (ma_cons me_int ma_nil))) me_int (nomark _)) (mss_one (ms_ret (me_bin (mo_add hK) (me_bin (mo_add hK) (me_B (mc_max2 rfl) (by rfl) n.max b_max (ma_cons (me_var 2) (ma_cons (me_var 1) ma_nil))) me_int) (me_var 4)))) mss_nil)
    (mss_one (ms_ret (me_bin mo_sub (me_bin mo_sub (me_B (mc_min2 rfl) (by rfl) n.min b_min (ma_cons (me_var 2) (ma_cons (me_var 1) ma_nil))) me_int) (me_var 4)))))) mss_nil)
    (mss_one (ms_ret (me_call h_law_odd (hr.mono (by decide)) rfl ba_law_odd (takes_of rfl rfl rfl rfl) (ma_cons (me_var 0) ma_nil)))))))))
def N_law_is_integer : List Str := ["value"]
theorem S_law_is_integer : FnScope N_law_is_integer ["value"] d_law_is_integer.scope := ⟨rfl, rfl, rfl, by decide +kernel, rfl, by decide +kernel, by decide +kernel⟩
theorem w_law_is_integer (T : Tx K mg g es cs) (n : Fr mg) (c : Co mg) (I : In_ P w K mg base) (D : DefOk K mg d_law_is_integer "_law_is_integer")  : FnM P w K mg base g 3 d_law_is_integer "_law_is_integer" ["value"] f_law_is_integer := by
  obtain ⟨f, fd, hm, Fd_⟩ := D.ex
  have S := S_law_is_integer
  refine fnM (k := 2) T.held hm Fd_ S fun cdv A outer s H E hr => ?_
  have hK : K = g.K := T.hK
  exact (mss_one (ms_ret (me_and hK (me_isi hK T.own n.isinstance (me_var 0) (cte_ty .int T.ownN (by rfl) n.int b_int)) (me_one (me_not hK (me_isi hK T.own n.isinstance (me_var 0) (cte_ty .bl T.ownN (by rfl) n.bool b_bool)))))))
def N_law_same : List Str := ["told", "due", "k"]
theorem S_law_same : FnScope N_law_same ["told", "due"] d_law_same.scope := ⟨rfl, rfl, rfl, by decide +kernel, rfl, by decide +kernel, by decide +kernel⟩
theorem w_law_same_n (T : Tx K mg g es cs) (n : Fr mg) (c : Co mg) (I : In_ P w K mg base) (D : DefOk K mg d_law_same "_law_same") (h_law_is_integer : FnM P w K mg base g 3 d_law_is_integer "_law_is_integer" ["value"] f_law_is_integer) : ∀ k : Nat, FnM P w K mg base g (4 + k) d_law_same "_law_same" ["told", "due"] (g_law_same k)
  | 0 => by
    obtain ⟨f, fd, hm, Fd_⟩ := D.ex
    exact fnM0 hm Fd_
  | k + 1 => by
    have ih := w_law_same_n T n c I D h_law_is_integer k
    obtain ⟨f, fd, hm, Fd_⟩ := D.ex
    have S := S_law_same
    refine fnM (k := 4 + k) T.held hm Fd_ S fun cdv A outer s H E hr => ?_
    have hK : K = g.K := T.hK
    exact (mss_cons (ms_if (mt_cmp mo_is (me_var 1) me_non (nomark _)) (mss_one (ms_ret (me_cmp mo_is (me_var 0) me_non (nomark _)))) mss_nil)
    (mss_cons (ms_if (mt_tru hK (me_isi hK T.own n.isinstance (me_var 1) (cte_ty .bl T.ownN (by rfl) n.bool b_bool))) (mss_one (ms_ret (me_and hK (me_isi hK T.own n.isinstance (me_var 0) (cte_ty .bl T.ownN (by rfl) n.bool b_bool)) (me_one (me_cmp (mo_eq hK hr.units) (me_var 0) (me_var 1) (nomark _)))))) mss_nil)
    (mss_cons (ms_if (mt_tru hK (me_isi hK T.own n.isinstance (me_var 1) (cte_ty .int T.ownN (by rfl) n.int b_int))) (mss_one (ms_ret (me_and hK (me_call h_law_is_integer (hr.mono (by omega)) rfl ba_law_is_integer (takes_of rfl rfl rfl rfl) (ma_cons (me_var 0) ma_nil)) (me_one (me_cmp (mo_eq hK hr.units) (me_var 0) (me_var 1) (nomark _)))))) mss_nil)
    (mss_cons (ms_if (mt_tru hK (me_isi hK T.own n.isinstance (me_var 1) (cte_ty .str T.ownN (by rfl) n.str b_str))) (mss_one (ms_ret (me_and hK (me_isi hK T.own n.isinstance (me_var 0) (cte_ty .str T.ownN (by rfl) n.str b_str)) (me_one (me_cmp (mo_eq hK hr.units) (me_var 0) (me_var 1) (nomark _)))))) mss_nil)
    (mss_cons (ms_if (mt_tru hK (me_isi hK T.own n.isinstance (me_var 1) (cte_ty .dct T.ownN (by rfl) n.dict b_dict))) (mss_cons (ms_if (mw_or (mt_not (mt_tru hK (me_isi hK T.own n.isinstance (me_var 0) (cte_ty .dct T.ownN (by rfl) n.dict b_dict)))) (mw_or1 (mt_not (mt_tru hK (me_call ih (hr.mono (by omega)) rfl ba_law_same (takes_of rfl rfl rfl rfl) (ma_cons (me_lsKeys rfl n.list (me_var 0)) (ma_cons (me_lsKeys rfl n.list (me_var 1)) ma_nil))))))).pt (mss_one (ms_ret me_bl)) mss_nil)
    (mss_one (ms_ret (me_call ih (hr.mono (by omega)) rfl ba_law_same (takes_of rfl rfl rfl rfl) (ma_cons (me_lsVals rfl n.list (me_var 0)) (ma_cons (me_lsVals rfl n.list (me_var 1)) ma_nil)))))) mss_nil)
    (mss_cons (ms_if (mt_tru hK (me_isi hK T.own n.isinstance (me_var 1) (cte_ty .lst T.ownN (by rfl) n.list b_list))) (mss_one (ms_if (mw_or (mt_not (mt_tru hK (me_isi hK T.own n.isinstance (me_var 0) (cte_ty .lst T.ownN (by rfl) n.list b_list)))) (mw_or1 (mt_cmp (mo_ne hK hr.units) (me_B (mc_len hK) (by rfl) n.len b_len (ma_cons (me_var 0) ma_nil)) (me_B (mc_len hK) (by rfl) n.len b_len (ma_cons (me_var 1) ma_nil)) (nomark _)))).pt (mss_one (ms_ret me_bl)) mss_nil)) (mss_one (ms_if (mw_or (mt_not (mt_tru hK (me_isi hK T.own n.isinstance (me_var 1) (cte_ty .tup T.ownN (by rfl) n.tuple b_tuple)))) (mw_or (mt_not (mt_tru hK (me_isi hK T.own n.isinstance (me_var 0) (cte_ty .tup T.ownN (by rfl) n.tuple b_tuple)))) (mw_or1 (mt_cmp (mo_ne hK hr.units) (me_B (mc_len hK) (by rfl) n.len b_len (ma_cons (me_var 0) ma_nil)) (me_B (mc_len hK) (by rfl) n.len b_len (ma_cons (me_var 1) ma_nil)) (nomark _))))).pt (mss_one (ms_ret me_bl)) mss_nil)))
    (mss_cons (ms_for (passes_of rfl) rfl (mi_range1 (by rfl) n.range (ma_cons (me_B (mc_len hK) (by rfl) n.len b_len (ma_cons (me_var 1) ma_nil)) ma_nil)) (mg_nm 2 S.nd) (mss_one (ms_if (mt_not (mt_tru hK (me_call ih (hr.mono (by omega)) rfl ba_law_same (takes_of rfl rfl rfl rfl) (ma_cons (me_ixA hK (hu_of hr) (me_var 0) (me_var 2)) (ma_cons (me_ixA hK (hu_of hr) (me_var 1) (me_var 2)) ma_nil))))) (mss_one (ms_ret me_bl)) mss_nil)))
    (mss_one (ms_ret me_bl)))))))))
theorem w_law_same (T : Tx K mg g es cs) (n : Fr mg) (c : Co mg) (I : In_ P w K mg base) (D : DefOk K mg d_law_same "_law_same") (h_law_is_integer : FnM P w K mg base g 3 d_law_is_integer "_law_is_integer" ["value"] f_law_is_integer) : FnM P w K mg base g 24 d_law_same "_law_same" ["told", "due"] f_law_same := w_law_same_n T n c I D h_law_is_integer 20
def N_law_refuses : List Str := ["store", "points", "a", "b", "bent", "wrong", "handed", "told", "k"]
theorem S_law_refuses : FnScope N_law_refuses ["store", "points", "a", "b"] d_law_refuses.scope := ⟨rfl, rfl, rfl, by decide +kernel, rfl, by decide +kernel, by decide +kernel⟩
theorem w_law_refuses (T : Tx K mg g es cs) (n : Fr mg) (c : Co mg) (I : In_ P w K mg base) (D : DefOk K mg d_law_refuses "_law_refuses") (h_law_bent_points : FnM P w K mg base g 6 d_law_bent_points "_law_bent_points" ["store", "points"] f_law_bent_points) (h_law_not_number : FnM P w K mg base g 7 d_law_not_number "_law_not_number" ["store", "low", "high"] f_law_not_number) (h_law_same : FnM P w K mg base g 24 d_law_same "_law_same" ["told", "due"] f_law_same) (h_law_ask : FnM P w K mg base g 8 d_law_ask "_law_ask" ["points", "cups", "caps"] f_law_ask) : FnM P w K mg base g 25 d_law_refuses "_law_refuses" ["store", "points", "a", "b"] f_law_refuses := by
  obtain ⟨f, fd, hm, Fd_⟩ := D.ex
  have S := S_law_refuses
  refine fnM (k := 24) T.held hm Fd_ S fun cdv A outer s H E hr => ?_
  have hK : K = g.K := T.hK
  exact (mss_cons (ms_set 4 S.nd (me_call h_law_bent_points (hr.mono (by decide)) rfl ba_law_bent_points (takes_of rfl rfl rfl rfl) (ma_cons (me_var 0) (ma_cons (me_var 1) ma_nil))))
    (mss_cons (ms_set 5 S.nd (me_call h_law_not_number (hr.mono (by decide)) rfl ba_law_not_number (takes_of rfl rfl rfl rfl) (ma_cons (me_var 0) (ma_cons me_int (ma_cons me_int ma_nil)))))
    (mss_cons (ms_if (mt_not (mt_tru hK (me_call h_law_same (hr.mono (by decide)) rfl ba_law_same (takes_of rfl rfl rfl rfl) (ma_cons (me_call h_law_ask (hr.mono (by decide)) rfl ba_law_ask (takes_of rfl rfl rfl rfl) (ma_cons (me_ixA hK (hu_of hr) (me_var 4) me_int) (ma_cons (me_var 2) (ma_cons (me_var 5) ma_nil)))) (ma_cons (me_lst (ma_cons me_str (ma_cons (me_ixA hK (hu_of hr) (me_var 4) me_int) ma_nil))) ma_nil))))) (mss_one (ms_ret me_bl)) mss_nil)
    (mss_cons (ms_set 6 S.nd (me_bin (mo_add hK) (me_var 1) (me_lc1 (own := [("k", 8)]) rfl S.nd (mi_range1 (by rfl) n.range (ma_cons me_int ma_nil)) (blkB_ok (by kernel_rfl)) (fun s H C cl fp => (mg_nm 8 S.nd)) (fun s H C cl fp => (mt_tru hK (me_var 1))) (fun s H C cl fp => (me_tup (ma_cons (me_bin (mo_add hK) (me_bin (mo_add hK) (me_ixA hK (hu_of hr) (me_ixA hK (hu_of hr) (me_var 1) (me_neg me_int)) me_int) me_int) (me_var 8)) (ma_cons (me_var 8) ma_nil)))))))
    (mss_cons (ms_set 7 S.nd (me_lst (ma_cons (me_call h_law_ask (hr.mono (by decide)) rfl ba_law_ask (takes_of rfl rfl rfl rfl) (ma_cons (me_var 6) (ma_cons (me_var 5) (ma_cons (me_var 3) ma_nil)))) (ma_cons (me_call h_law_ask (hr.mono (by decide)) rfl ba_law_ask (takes_of rfl rfl rfl rfl) (ma_cons (me_var 1) (ma_cons (me_var 2) (ma_cons (me_var 5) ma_nil)))) ma_nil))))
    (mss_one (ms_ret (me_call h_law_same (hr.mono (by decide)) rfl ba_law_same (takes_of rfl rfl rfl rfl) (ma_cons (me_var 7) (ma_cons (me_lst (ma_cons (me_lst (ma_cons me_str ma_nil)) (ma_cons (me_lst (ma_cons me_str ma_nil)) ma_nil))) ma_nil))))))))))
def N_law_side : List Str := ["p", "q", "r", "area"]
theorem S_law_side : FnScope N_law_side ["p", "q", "r"] d_law_side.scope := ⟨rfl, rfl, rfl, by decide +kernel, rfl, by decide +kernel, by decide +kernel⟩
theorem w_law_side (T : Tx K mg g es cs) (n : Fr mg) (c : Co mg) (I : In_ P w K mg base) (D : DefOk K mg d_law_side "_law_side")  : FnM P w K mg base g 3 d_law_side "_law_side" ["p", "q", "r"] f_law_side := by
  obtain ⟨f, fd, hm, Fd_⟩ := D.ex
  have S := S_law_side
  refine fnM (k := 2) T.held hm Fd_ S fun cdv A outer s H E hr => ?_
  have hK : K = g.K := T.hK
  exact (mss_cons (ms_set 3 S.nd (me_bin mo_sub (me_bin mo_mul (me_bin mo_sub (me_ixA hK (hu_of hr) (me_var 1) me_int) (me_ixA hK (hu_of hr) (me_var 0) me_int)) (me_bin mo_sub (me_ixA hK (hu_of hr) (me_var 2) me_int) (me_ixA hK (hu_of hr) (me_var 0) me_int))) (me_bin mo_mul (me_bin mo_sub (me_ixA hK (hu_of hr) (me_var 1) me_int) (me_ixA hK (hu_of hr) (me_var 0) me_int)) (me_bin mo_sub (me_ixA hK (hu_of hr) (me_var 2) me_int) (me_ixA hK (hu_of hr) (me_var 0) me_int)))))
    (mss_one (ms_ret (me_bin mo_sub (me_Ty mc_int (by rfl) n.int b_int (ma_cons (me_cmp mo_gt (me_var 3) me_int (nomark _)) ma_nil)) (me_Ty mc_int (by rfl) n.int b_int (ma_cons (me_cmp mo_lt (me_var 3) me_int (nomark _)) ma_nil))))))
def N_law_reach : List Str := ["points", "left", "n", "reach", "k", "j", "i", "m", "one"]
theorem S_law_reach : FnScope N_law_reach ["points", "left"] d_law_reach.scope := ⟨rfl, rfl, rfl, by decide +kernel, rfl, by decide +kernel, by decide +kernel⟩
theorem w_law_reach (T : Tx K mg g es cs) (n : Fr mg) (c : Co mg) (I : In_ P w K mg base) (D : DefOk K mg d_law_reach "_law_reach") (h_law_side : FnM P w K mg base g 3 d_law_side "_law_side" ["p", "q", "r"] f_law_side) : FnM P w K mg base g 4 d_law_reach "_law_reach" ["points", "left"] f_law_reach := by
  obtain ⟨f, fd, hm, Fd_⟩ := D.ex
  have S := S_law_reach
  refine fnM (k := 3) T.held hm Fd_ S fun cdv A outer s H E hr => ?_
  have hK : K = g.K := T.hK
  exact (mss_cons (ms_set 2 S.nd (me_B (mc_len hK) (by rfl) n.len b_len (ma_cons (me_var 0) ma_nil)))
    (mss_cons (ms_lc0 3 (own := [("one", 8)]) rfl S.nd (mi_seq hK (me_var 0)) (blkB_ok (by kernel_rfl)) (fun s H C cl fp => (mg_nm 8 S.nd)) (fun s H C cl fp => (me_bin mo_mul (me_lst (ma_cons me_int ma_nil)) (me_var 2))) (sw_true rfl rfl rfl rfl))
    (mss_cons (ms_for (passes_of rfl) rfl (mi_range1 (by rfl) n.range (ma_cons (me_var 2) ma_nil)) (mg_nm 4 S.nd) (mss_cons (ms_set 5 S.nd (me_bin mo_sub (me_bin mo_sub (me_var 2) me_int) (me_var 4)))
    (mss_one (ms_for (passes_of rfl) rfl (mi_range1 (by rfl) n.range (ma_cons (me_var 5) ma_nil)) (mg_nm 6 S.nd) (mss_one (ms_for (passes_of rfl) rfl (mi_range2 (by rfl) n.range (ma_cons (me_bin (mo_add hK) (me_var 5) me_int) (ma_cons (me_var 2) ma_nil))) (mg_nm 7 S.nd) (mss_one (ms_if (mw_and (mt_cmp mo_ge (me_ixA hK (hu_of hr) (me_ixA hK (hu_of hr) (me_var 3) (me_var 5)) (me_var 7)) (me_ixA hK (hu_of hr) (me_ixA hK (hu_of hr) (me_var 3) (me_var 6)) (me_var 5)) (nomark _)) (mw_and1 (mt_cmp (mo_eq hK hr.units) (me_cmp mo_gt (me_call h_law_side (hr.mono (by decide)) rfl ba_law_side (takes_of rfl rfl rfl rfl) (ma_cons (me_ixA hK (hu_of hr) (me_var 0) (me_var 6)) (ma_cons (me_ixA hK (hu_of hr) (me_var 0) (me_var 5)) (ma_cons (me_ixA hK (hu_of hr) (me_var 0) (me_var 7)) ma_nil)))) me_int (nomark _)) (me_var 1) (nomark _)))).pt (mss_one (ms_asg (me_bin (mo_add hK) (me_ixA hK (hu_of hr) (me_ixA hK (hu_of hr) (me_var 3) (me_var 5)) (me_var 7)) me_int) (mg_ix (W := W0) (hu_of hr) (me_ixA hK (hu_of hr) (me_var 3) (me_var 6)) (me_var 5)))) mss_nil))))))))
    (mss_one (ms_ret (me_var 3))))))
def N_law_least_run : List Str := ["points", "left", "size", "n", "reach", "i", "j", "row", "k", "p", "q", "good", "m"]
theorem S_law_least_run : FnScope N_law_least_run ["points", "left", "size"] d_law_least_run.scope := ⟨rfl, rfl, rfl, by decide +kernel, rfl, by decide +kernel, by decide +kernel⟩
theorem w_law_least_run (T : Tx K mg g es cs) (n : Fr mg) (c : Co mg) (I : In_ P w K mg base) (D : DefOk K mg d_law_least_run "_law_least_run") (h_law_reach : FnM P w K mg base g 4 d_law_reach "_law_reach" ["points", "left"] f_law_reach) (h_law_side : FnM P w K mg base g 3 d_law_side "_law_side" ["p", "q", "r"] f_law_side) : FnM P w K mg base g 5 d_law_least_run "_law_least_run" ["points", "left", "size"] f_law_least_run := by
  obtain ⟨f, fd, hm, Fd_⟩ := D.ex
  have S := S_law_least_run
  refine fnM (k := 4) T.held hm Fd_ S fun cdv A outer s H E hr => ?_
  have hK : K = g.K := T.hK
  exact (mss_cons (ms_set 3 S.nd (me_B (mc_len hK) (by rfl) n.len b_len (ma_cons (me_var 0) ma_nil)))
    (mss_cons (ms_set 4 S.nd (me_call h_law_reach (hr.mono (by decide)) rfl ba_law_reach (takes_of rfl rfl rfl rfl) (ma_cons (me_var 0) (ma_cons (me_var 1) ma_nil))))
    (mss_cons (ms_for (passes_of rfl) rfl (mi_range1 (by rfl) n.range (ma_cons (me_var 3) ma_nil)) (mg_nm 5 S.nd) (mss_one (ms_for (passes_of rfl) rfl (mi_range2 (by rfl) n.range (ma_cons (me_bin (mo_add hK) (me_var 5) me_int) (ma_cons (me_var 3) ma_nil))) (mg_nm 6 S.nd) (mss_one (ms_if (mt_cmp mo_ge (me_ixA hK (hu_of hr) (me_ixA hK (hu_of hr) (me_var 4) (me_var 5)) (me_var 6)) (me_var 2) (nomark _)) (mss_cons (ms_set 7 S.nd (me_lst (ma_cons (me_var 5) (ma_cons (me_var 6) ma_nil))))
    (mss_cons (ms_for (passes_of rfl) rfl (mi_range1 (by rfl) n.range (ma_cons (me_bin mo_sub (me_var 2) me_int) ma_nil)) (mg_nm 8 S.nd) (mss_cons (ms_set 9 S.nd (me_ixA hK (hu_of hr) (me_var 0) (me_ixA hK (hu_of hr) (me_var 7) (me_neg me_int))))
    (mss_cons (ms_set 10 S.nd (me_ixA hK (hu_of hr) (me_var 0) (me_ixA hK (hu_of hr) (me_var 7) (me_neg me_int))))
    (mss_cons (ms_lc1 11 (own := [("m", 12)]) rfl S.nd (mi_range2 (by rfl) n.range (ma_cons (me_bin (mo_add hK) (me_ixA hK (hu_of hr) (me_var 7) (me_neg me_int)) me_int) (ma_cons (me_var 3) ma_nil))) (blkB_ok (by kernel_rfl)) (fun s H C cl fp => (mg_nm 12 S.nd)) (fun s H C cl fp => (mt_cmp mo_ge (me_ixA hK (hu_of hr) (me_ixA hK (hu_of hr) (me_var 4) (me_ixA hK (hu_of hr) (me_var 7) (me_neg me_int))) (me_var 12)) (me_bin mo_sub (me_bin mo_sub (me_var 2) me_int) (me_var 8)) (nomark _))) (fun s H C cl fp => (me_var 12)) (sw_true rfl rfl rfl rfl))
    (mss_one (ms_expr (me_mt hK F.slot_list_append F.type_list_append mtR_app (me_var 7) (ma_cons (me_ixA hK (hu_of hr) (me_lc1 (own := [("m", 12)]) rfl S.nd (mi_seq hK (me_var 11)) (blkB_ok (by kernel_rfl)) (fun s H C cl fp => (mg_nm 12 S.nd)) (fun s H C cl fp => (mt_cmp (mo_eq hK hr.units) (me_cmp mo_gt (me_call h_law_side (hr.mono (by decide)) rfl ba_law_side takes0 (ma_cons (me_var 9) (ma_cons (me_var 10) (ma_cons (me_ixA hK (hu_of hr) (me_var 0) (me_var 12)) ma_nil)))) me_int (nomark _)) (me_var 1) (nomark _))) (fun s H C cl fp => (me_var 12))) me_int) ma_nil))))))))
    (mss_one (ms_ret (me_var 7))))) mss_nil)))))
    (mss_one (ms_ret me_non)))))
def N_law_due : List Str := ["points", "cups", "caps", "row"]
theorem S_law_due : FnScope N_law_due ["points", "cups", "caps"] d_law_due.scope := ⟨rfl, rfl, rfl, by decide +kernel, rfl, by decide +kernel, by decide +kernel⟩
theorem w_law_due (T : Tx K mg g es cs) (n : Fr mg) (c : Co mg) (I : In_ P w K mg base) (D : DefOk K mg d_law_due "_law_due") (h_law_least_run : FnM P w K mg base g 5 d_law_least_run "_law_least_run" ["points", "left", "size"] f_law_least_run) : FnM P w K mg base g 6 d_law_due "_law_due" ["points", "cups", "caps"] f_law_due := by
  obtain ⟨f, fd, hm, Fd_⟩ := D.ex
  have S := S_law_due
  refine fnM (k := 5) T.held hm Fd_ S fun cdv A outer s H E hr => ?_
  have hK : K = g.K := T.hK
  exact (mss_cons (ms_set 3 S.nd (me_call h_law_least_run (hr.mono (by decide)) rfl ba_law_least_run (takes_of rfl rfl rfl rfl) (ma_cons (me_var 0) (ma_cons me_bl (ma_cons (me_bin (mo_add hK) (me_var 1) me_int) ma_nil)))))
    (mss_cons (ms_if (mt_cmp mo_isNot (me_var 3) me_non (nomark _)) (mss_one (ms_ret (me_tup (ma_cons me_int (ma_cons (me_var 3) ma_nil))))) mss_nil)
    (mss_cons (ms_set 3 S.nd (me_call h_law_least_run (hr.mono (by decide)) rfl ba_law_least_run (takes_of rfl rfl rfl rfl) (ma_cons (me_var 0) (ma_cons me_bl (ma_cons (me_bin (mo_add hK) (me_var 2) me_int) ma_nil)))))
    (mss_cons (ms_if (mt_cmp mo_isNot (me_var 3) me_non (nomark _)) (mss_one (ms_ret (me_tup (ma_cons me_int (ma_cons (me_var 3) ma_nil))))) mss_nil)
    (mss_one (ms_ret me_non))))))
def N_p_are_indices : List Str := ["places", "size", "last", "place"]
theorem S_p_are_indices : FnScope N_p_are_indices ["places", "size"] d_p_are_indices.scope := ⟨rfl, rfl, rfl, by decide +kernel, rfl, by decide +kernel, by decide +kernel⟩
theorem w_p_are_indices (T : Tx K mg g es cs) (n : Fr mg) (c : Co mg) (I : In_ P w K mg base) (D : DefOk K mg d_p_are_indices "are_indices") (h_p_is_sequence : FnM P w K mg base g 3 d_p_is_sequence "is_sequence" ["value"] f_p_is_sequence) (h_p_is_integer : FnM P w K mg base g 3 d_p_is_integer "is_integer" ["value"] f_p_is_integer) : FnM P w K mg base g 4 d_p_are_indices "are_indices" ["places", "size"] f_p_are_indices := by
  obtain ⟨f, fd, hm, Fd_⟩ := D.ex
  have S := S_p_are_indices
  refine fnM (k := 3) T.held hm Fd_ S fun cdv A outer s H E hr => ?_
  have hK : K = g.K := T.hK
  exact (mss_cons (ms_if (mt_not (mt_tru hK (me_call h_p_is_sequence (hr.mono (by decide)) rfl ba_p_is_sequence (takes_of rfl rfl rfl rfl) (ma_cons (me_var 0) ma_nil)))) (mss_one (ms_ret me_bl)) mss_nil)
    (mss_cons (ms_set 2 S.nd (me_neg me_int))
    (mss_cons (ms_for (passes_of rfl) rfl (mi_seq hK (me_var 0)) (mg_nm 3 S.nd) (mss_cons (ms_if (mw_or (mt_not (mt_tru hK (me_call h_p_is_integer (hr.mono (by decide)) rfl ba_p_is_integer (takes_of rfl rfl rfl rfl) (ma_cons (me_var 3) ma_nil)))) (mw_or1 (mt_not (mt_chain mo_lt mo_lt (me_var 2) (me_var 3) (me_var 1))))).pt (mss_one (ms_ret me_bl)) mss_nil)
    (mss_one (ms_set 2 S.nd (me_var 3)))))
    (mss_one (ms_ret me_bl)))))
def N_p_is_bent : List Str := ["points", "places", "left", "at"]
theorem S_p_is_bent : FnScope N_p_is_bent ["points", "places", "left"] d_p_is_bent.scope := ⟨rfl, rfl, rfl, by decide +kernel, rfl, by decide +kernel, by decide +kernel⟩
theorem w_p_is_bent (T : Tx K mg g es cs) (n : Fr mg) (c : Co mg) (I : In_ P w K mg base) (D : DefOk K mg d_p_is_bent "is_bent") (h_p_check_points : FnM P w K mg base g 6 d_p_check_points "check_points" ["points"] f_p_check_points) (h_p_are_indices : FnM P w K mg base g 4 d_p_are_indices "are_indices" ["places", "size"] f_p_are_indices) (h_p_bends : FnM P w K mg base g 4 d_p_bends "bends" ["points", "i", "j", "k", "left"] f_p_bends) : FnM P w K mg base g 7 d_p_is_bent "is_bent" ["points", "places", "left"] f_p_is_bent := by
  obtain ⟨f, fd, hm, Fd_⟩ := D.ex
  have S := S_p_is_bent
  refine fnM (k := 6) T.held hm Fd_ S fun cdv A outer s H E hr => ?_
  have hK : K = g.K := T.hK
  exact (mss_cons (ms_expr (me_call h_p_check_points (hr.mono (by decide)) rfl ba_p_check_points (takes_of rfl rfl rfl rfl) (ma_cons (me_var 0) ma_nil)))
    (mss_cons (ms_if (mt_not (mt_tru hK (me_call h_p_are_indices (hr.mono (by decide)) rfl ba_p_are_indices (takes_of rfl rfl rfl rfl) (ma_cons (me_var 1) (ma_cons (me_B (mc_len hK) (by rfl) n.len b_len (ma_cons (me_var 0) ma_nil)) ma_nil))))) (mss_one (ms_ret me_bl)) mss_nil)
    (mss_cons (ms_for (passes_of rfl) rfl (mi_range1 (by rfl) n.range (ma_cons (me_bin mo_sub (me_B (mc_len hK) (by rfl) n.len b_len (ma_cons (me_var 1) ma_nil)) me_int) ma_nil)) (mg_nm 3 S.nd) (mss_one (ms_if (mt_not (mt_tru hK (me_call h_p_bends (hr.mono (by decide)) rfl ba_p_bends (takes_of rfl rfl rfl rfl) (ma_cons (me_var 0) (ma_cons (me_ixA hK (hu_of hr) (me_var 1) (me_var 3)) (ma_cons (me_ixA hK (hu_of hr) (me_var 1) (me_bin (mo_add hK) (me_var 3) me_int)) (ma_cons (me_ixA hK (hu_of hr) (me_var 1) (me_bin (mo_add hK) (me_var 3) me_int)) (ma_cons (me_var 2) ma_nil)))))))) (mss_one (ms_ret me_bl)) mss_nil)))
    (mss_one (ms_ret me_bl)))))
def N_p_is_cup : List Str := ["points", "places"]
theorem S_p_is_cup : FnScope N_p_is_cup ["points", "places"] d_p_is_cup.scope := ⟨rfl, rfl, rfl, by decide +kernel, rfl, by decide +kernel, by decide +kernel⟩
theorem w_p_is_cup (T : Tx K mg g es cs) (n : Fr mg) (c : Co mg) (I : In_ P w K mg base) (D : DefOk K mg d_p_is_cup "is_cup") (h_p_is_bent : FnM P w K mg base g 7 d_p_is_bent "is_bent" ["points", "places", "left"] f_p_is_bent) : FnM P w K mg base g 8 d_p_is_cup "is_cup" ["points", "places"] f_p_is_cup := by
  obtain ⟨f, fd, hm, Fd_⟩ := D.ex
  have S := S_p_is_cup
  refine fnM (k := 7) T.held hm Fd_ S fun cdv A outer s H E hr => ?_
  have hK : K = g.K := T.hK
  exact (mss_one (ms_ret (me_call h_p_is_bent (hr.mono (by decide)) rfl ba_p_is_bent (takes_of rfl rfl rfl rfl) (ma_cons (me_var 0) (ma_cons (me_var 1) (ma_cons me_bl ma_nil))))))
def N_p_is_cap : List Str := ["points", "places"]
theorem S_p_is_cap : FnScope N_p_is_cap ["points", "places"] d_p_is_cap.scope := ⟨rfl, rfl, rfl, by decide +kernel, rfl, by decide +kernel, by decide +kernel⟩
theorem w_p_is_cap (T : Tx K mg g es cs) (n : Fr mg) (c : Co mg) (I : In_ P w K mg base) (D : DefOk K mg d_p_is_cap "is_cap") (h_p_is_bent : FnM P w K mg base g 7 d_p_is_bent "is_bent" ["points", "places", "left"] f_p_is_bent) : FnM P w K mg base g 8 d_p_is_cap "is_cap" ["points", "places"] f_p_is_cap := by
  obtain ⟨f, fd, hm, Fd_⟩ := D.ex
  have S := S_p_is_cap
  refine fnM (k := 7) T.held hm Fd_ S fun cdv A outer s H E hr => ?_
  have hK : K = g.K := T.hK
  exact (mss_one (ms_ret (me_call h_p_is_bent (hr.mono (by decide)) rfl ba_p_is_bent (takes_of rfl rfl rfl rfl) (ma_cons (me_var 0) (ma_cons (me_var 1) (ma_cons me_bl ma_nil))))))
def N_p_law : List Str := ["script", "store", "pair", "a", "b", "kind", "points", "handed", "kept", "due", "told", "judges", "one"]
theorem S_p_law : FnScope N_p_law ["script"] d_p_law.scope := ⟨rfl, rfl, rfl, by decide +kernel, rfl, by decide +kernel, by decide +kernel⟩
theorem w_p_law (T : Tx K mg g es cs) (n : Fr mg) (c : Co mg) (I : In_ P w K mg base) (D : DefOk K mg d_p_law "law") (h_law_store : FnM P w K mg base g 3 d_law_store "_law_store" ["script"] f_law_store) (h_law_pick : FnM P w K mg base g 5 d_law_pick "_law_pick" ["store", "row"] f_law_pick) (h_law_chance : FnM P w K mg base g 5 d_law_chance "_law_chance" ["store", "many"] f_law_chance) (h_law_take : FnM P w K mg base g 4 d_law_take "_law_take" ["store", "many"] f_law_take) (h_law_edge : FnM P w K mg base g 5 d_law_edge "_law_edge" ["store", "low", "high"] f_law_edge) (h_law_case : FnM P w K mg base g 7 d_law_case "_law_case" ["store", "kind", "a", "b"] f_law_case) (h_law_form : FnM P w K mg base g 5 d_law_form "_law_form" ["store", "row"] f_law_form) (h_law_keep : FnM P w K mg base g 23 d_law_keep "_law_keep" ["value"] f_law_keep) (h_law_due : FnM P w K mg base g 6 d_law_due "_law_due" ["points", "cups", "caps"] f_law_due) (h_law_ask : FnM P w K mg base g 8 d_law_ask "_law_ask" ["points", "cups", "caps"] f_law_ask) (h_law_same : FnM P w K mg base g 24 d_law_same "_law_same" ["told", "due"] f_law_same) (h_p_is_cap : FnM P w K mg base g 8 d_p_is_cap "is_cap" ["points", "places"] f_p_is_cap) (h_p_is_cup : FnM P w K mg base g 8 d_p_is_cup "is_cup" ["points", "places"] f_p_is_cup) (h_p_cup_or_cap : FnM P w K mg base g 7 d_p_cup_or_cap "cup_or_cap" ["points", "cups", "caps"] f_p_cup_or_cap) (h_law_refuses : FnM P w K mg base g 25 d_law_refuses "_law_refuses" ["store", "points", "a", "b"] f_law_refuses) : FnM P w K mg base g 26 d_p_law "law" ["script"] f_p_law := by
  obtain ⟨f, fd, hm, Fd_⟩ := D.ex
  have S := S_p_law
  refine fnM (k := 25) T.held hm Fd_ S fun cdv A outer s H E hr => ?_
  have hK : K = g.K := T.hK
  exact (mss_cons (ms_set 1 S.nd (me_call h_law_store (hr.mono (by decide)) rfl ba_law_store (takes_of rfl rfl rfl rfl) (ma_cons (me_var 0) ma_nil)))
    (mss_cons (ms_set 2 S.nd (me_call h_law_pick (hr.mono (by decide)) rfl ba_law_pick (takes_of rfl rfl rfl rfl) (ma_cons (me_var 1) (ma_cons (me_lst (ma_cons (me_tup (ma_cons me_int (ma_cons me_int ma_nil))) (ma_cons (me_tup (ma_cons me_int (ma_cons me_int ma_nil))) (ma_cons (me_tup (ma_cons me_int (ma_cons me_int ma_nil))) (ma_cons (me_tup (ma_cons me_int (ma_cons me_int ma_nil))) (ma_cons (me_tup (ma_cons me_int (ma_cons me_int ma_nil))) (ma_cons (me_tup (ma_cons me_int (ma_cons me_int ma_nil))) (ma_cons (me_tup (ma_cons me_int (ma_cons me_int ma_nil))) (ma_cons (me_tup (ma_cons me_int (ma_cons me_int ma_nil))) (ma_cons (me_tup (ma_cons me_int (ma_cons me_int ma_nil))) (ma_cons (me_tup (ma_cons me_int (ma_cons me_int ma_nil))) (ma_cons (me_tup (ma_cons me_int (ma_cons me_int ma_nil))) ma_nil)))))))))))) ma_nil))))
    (mss_cons (ms_set 3 S.nd (me_ixA hK (hu_of hr) (me_var 2) me_int))
    (mss_cons (ms_set 4 S.nd (me_ixA hK (hu_of hr) (me_var 2) me_int))
    (mss_cons (ms_if (mt_tru hK (me_call h_law_chance (hr.mono (by decide)) rfl ba_law_chance (takes_of rfl rfl rfl rfl) (ma_cons (me_var 1) (ma_cons me_int ma_nil)))) (mss_cons (ms_set 3 S.nd (me_ixA hK (hu_of hr) (me_var 2) me_int))
    (mss_one (ms_set 4 S.nd (me_ixA hK (hu_of hr) (me_var 2) me_int)))) mss_nil)
    (mss_cons (ms_set 5 S.nd (me_call h_law_take (hr.mono (by decide)) rfl ba_law_take (takes_of rfl rfl rfl rfl) (ma_cons (me_var 1) (ma_cons me_int ma_nil))))
    (mss_cons (ms_if (mw_and (mt_cmp (mo_eq hK hr.units) (me_var 5) me_int (nomark _)) (mw_and1 (mt_tru hK (me_call h_law_chance (hr.mono (by decide)) rfl ba_law_chance (takes_of rfl rfl rfl rfl) (ma_cons (me_var 1) (ma_cons me_int ma_nil)))))).pt (mss_cons (ms_set 3 S.nd (me_call h_law_edge (hr.mono (by decide)) rfl ba_law_edge (takes_of rfl rfl rfl rfl) (ma_cons (me_var 1) (ma_cons me_int (ma_cons me_int ma_nil)))))
    (mss_one (ms_set 4 S.nd (me_call h_law_pick (hr.mono (by decide)) rfl ba_law_pick (takes_of rfl rfl rfl rfl) (ma_cons (me_var 1) (ma_cons (me_lst (ma_cons me_int (ma_cons me_int (ma_cons me_int (ma_cons me_int (ma_cons me_int (ma_cons me_int ma_nil))))))) ma_nil)))))) mss_nil)
    (mss_cons (ms_set 6 S.nd (me_call h_law_case (hr.mono (by decide)) rfl ba_law_case (takes_of rfl rfl rfl rfl) (ma_cons (me_var 1) (ma_cons (me_var 5) (ma_cons (me_var 3) (ma_cons (me_var 4) ma_nil))))))
    (mss_cons (ms_set 7 S.nd (me_call h_law_form (hr.mono (by decide)) rfl ba_law_form (takes_of rfl rfl rfl rfl) (ma_cons (me_var 1) (ma_cons (me_lc0 (own := [("one", 12)]) rfl S.nd (mi_seq hK (me_var 6)) (blkB_ok (by kernel_rfl)) (fun s H C cl fp => (mg_nm 12 S.nd)) (fun s H C cl fp => (me_call h_law_form (hr.mono (by decide)) rfl ba_law_form takes0 (ma_cons (me_var 1) (ma_cons (me_var 12) ma_nil))))) ma_nil))))
    (mss_cons (ms_set 8 S.nd (me_call h_law_keep (hr.mono (by decide)) rfl ba_law_keep (takes_of rfl rfl rfl rfl) (ma_cons (me_var 7) ma_nil)))
    (mss_cons (ms_set 9 S.nd (me_lst (ma_cons me_str (ma_cons me_int ma_nil))))
    (mss_cons (ms_if (mt_cmp mo_lt (me_B (mc_len hK) (by rfl) n.len b_len (ma_cons (me_var 6) ma_nil)) me_int (nomark _)) (mss_one (ms_set 9 S.nd (me_lst (ma_cons me_str (ma_cons (me_call h_law_due (hr.mono (by decide)) rfl ba_law_due (takes_of rfl rfl rfl rfl) (ma_cons (me_var 6) (ma_cons (me_var 3) (ma_cons (me_var 4) ma_nil)))) ma_nil))))) mss_nil)
    (mss_cons (ms_set 10 S.nd (me_call h_law_ask (hr.mono (by decide)) rfl ba_law_ask (takes_of rfl rfl rfl rfl) (ma_cons (me_var 7) (ma_cons (me_var 3) (ma_cons (me_var 4) ma_nil)))))
    (mss_cons (ms_if (mw_or (mt_not (mt_tru hK (me_call h_law_same (hr.mono (by decide)) rfl ba_law_same (takes_of rfl rfl rfl rfl) (ma_cons (me_var 10) (ma_cons (me_var 9) ma_nil))))) (mw_or1 (mw_and (mt_cmp mo_gt (me_var 5) me_int (nomark _)) (mw_and1 (mt_cmp mo_is (me_ixA hK (hu_of hr) (me_var 10) me_int) me_non (nomark _)))).pt)).pt (mss_one (ms_ret me_bl)) mss_nil)
    (mss_cons (ms_if (mw_and (mt_cmp (mo_eq hK hr.units) (me_ixA hK (hu_of hr) (me_var 9) me_int) me_str (nomark _)) (mw_and1 (mt_cmp mo_isNot (me_ixA hK (hu_of hr) (me_var 9) me_int) me_non (nomark _)))).pt (mss_cons (ms_set 11 S.nd (me_lst (ma_cons (me_call h_p_is_cup (hr.mono (by decide)) rfl ba_p_is_cup (takes_of rfl rfl rfl rfl) (ma_cons (me_var 7) (ma_cons (me_ixA hK (hu_of hr) (me_ixA hK (hu_of hr) (me_var 10) me_int) me_int) ma_nil))) (ma_cons (me_call h_p_is_cap (hr.mono (by decide)) rfl ba_p_is_cap (takes_of rfl rfl rfl rfl) (ma_cons (me_var 7) (ma_cons (me_ixA hK (hu_of hr) (me_ixA hK (hu_of hr) (me_var 10) me_int) me_int) ma_nil))) ma_nil))))
    (mss_cons (ms_if (mt_cmp mo_isNotB (me_ixA hK (hu_of hr) (me_var 11) (me_ixA hK (hu_of hr) (me_ixA hK (hu_of hr) (me_var 9) me_int) me_int)) me_bl (nomark _)) (mss_one (ms_ret me_bl)) mss_nil)
    (mss_one (ms_expr (me_mt hK F.slot_list_append F.type_list_append mtR_app (me_ixA hK (hu_of hr) (me_ixA hK (hu_of hr) (me_var 10) me_int) me_int) (ma_cons me_int ma_nil)))))) mss_nil)
    (mss_cons (ms_if (mw_and (mt_cmp (mo_eq hK hr.units) (me_ixA hK (hu_of hr) (me_var 9) me_int) me_str (nomark _)) (mw_and1 (mt_not (mt_tru hK (me_call h_law_same (hr.mono (by decide)) rfl ba_law_same (takes_of rfl rfl rfl rfl) (ma_cons (me_callK0 h_p_cup_or_cap (hr.mono (by decide)) rfl bk_p_cup_or_cap_0_caps_cups_points (takes_of rfl rfl rfl rfl) (mk_cons (me_var 4) (mk_cons (me_var 3) (mk_cons (me_var 7) mk_nil)))) (ma_cons (me_ixA hK (hu_of hr) (me_var 9) me_int) ma_nil))))))).pt (mss_one (ms_ret me_bl)) mss_nil)
    (mss_cons (ms_if (mt_not (mt_tru hK (me_call h_law_refuses (hr.mono (by decide)) rfl ba_law_refuses (takes_of rfl rfl rfl rfl) (ma_cons (me_var 1) (ma_cons (me_var 6) (ma_cons (me_var 3) (ma_cons (me_var 4) ma_nil))))))) (mss_one (ms_ret me_bl)) mss_nil)
    (mss_one (ms_ret (me_and hK (me_call h_law_same (hr.mono (by decide)) rfl ba_law_same (takes_of rfl rfl rfl rfl) (ma_cons (me_call h_law_ask (hr.mono (by decide)) rfl ba_law_ask (takes_of rfl rfl rfl rfl) (ma_cons (me_var 7) (ma_cons (me_var 3) (ma_cons (me_var 4) ma_nil)))) (ma_cons (me_var 9) ma_nil))) (me_one (me_call h_law_same (hr.mono (by decide)) rfl ba_law_same (takes_of rfl rfl rfl rfl) (ma_cons (me_var 7) (ma_cons (me_var 8) ma_nil))))))))))))))))))))))))
end

end Ours
namespace Ours
open PySem PySem.Spec PyProof.Rows L2 Mi
open Builtin.Int
theorem mix_w {v st : Int} {m : Hm} {Q : Rs Mi.D → Prop} (hv : intBits v ≤ 2000) (hs : intBits st ≤ 2000) (q : ∀ r : Int, 0 ≤ r → r < MM → Q (.ok (.int r) m)) : wF f_law_mix [.int v, .int st] m Q := by
  unfold f_law_mix m_law_mix
  rw [wF_run]
  simp [slots]
  have e1 : intBits (1 : Int) ≤ 1 := bits_of (by decide)
  have hv1 := intBits_add_le hv e1
  have hs1 := intBits_add_le hs e1
  have c1 : intBits 900719925474099267 ≤ 64 := bits_of (by decide)
  have c2 : intBits 611953614877260359 ≤ 64 := bits_of (by decide)
  have c3 : intBits 715827882863311153 ≤ 64 := bits_of (by decide)
  generalize hf : ((v + 1) * 900719925474099267 + (st + 1) * 611953614877260359).fmod 2305843009213693951 = fst
  have hb := fmod_bd ((v + 1) * 900719925474099267 + (st + 1) * 611953614877260359) (b := 2305843009213693951) (by decide)
  rw [hf] at hb
  have hfb : intBits fst ≤ 61 := bits_mm hb.1 hb.2
  have hq := intBits_add_le (intBits_add_le (intBits_fdiv_le (y := 1048576) hfb) (intBits_mul_le hfb hfb)) (show intBits 3 ≤ 2 from bits_of (by decide))
  have e2 : fst / 1048576 = fst.fdiv 1048576 := (Int.fdiv_eq_ediv_of_nonneg fst (by decide)).symm
  rw [e2]
  refine ⟨by omega, by omega, ?_, by omega, by omega, ?_⟩
  · have : Nat.log2 1048576 = 20 := by decide
    omega
  · exact q _ (fmod_bd _ (by decide)).1 (fmod_bd _ (by decide)).2
theorem take_w {s c L : Nat} {many : Int} {m : Hm} {Q : Rs Mi.D → Prop} (S : St s c L m) (hL : L ≤ 2 ^ 200) (hm : intBits many ≤ 2000)
    (q : ∀ (k : Int) m', 0 ≤ k → (1 ≤ many → k < many) → (many ≤ 1 → k = 0) → St s c (L + 1) m' → Frs s m m' → m'.length = m.length → Q (.ok (.int k) m')) : wF f_law_take [.ref s, .int many] m Q := by
  obtain ⟨cells, i1, i2, i3, i4, h1, h2, h3, h4, h5, h6, h7, h8, h9, h10⟩ := S.ex
  have hs := get_lt h1
  unfold f_law_take m_law_take
  rw [wF_run]
  simp [slots]
  by_cases a1 : many ≤ 1
  · simp [a1]
    exact q 0 m (Int.le_refl _) (fun h => by omega) (fun _ => rfl) (S.up (by omega)) (Frs.refl _ _) rfl
  have g1 := get_set h1
  have g2 := get_set_ne h3 (m := m)
  simp [a1, h1]
  by_cases a2 : 0 < i2
  · simp [a2, h1, g1]
    refine ⟨by omega, ⟨by omega, log2_of hm (by decide)⟩, ?_⟩
    refine q _ _ (fmod_bd _ (by omega)).1 (fun _ => (fmod_bd _ (by omega)).2) (fun h => by omega) ?_ Frs.set (by simp)
    refine ⟨cells, i1, i2 / many, i3, i4, g1 _, by rw [g2]; exact h2, h3, h4, Int.ediv_nonneg h5 (by omega), ?_, h7, h8, h9, by omega⟩
    exact intBits_le_of_natAbs (by
      have := Int.ediv_le_self many h5
      have := Int.ediv_nonneg h5 (show 0 ≤ many by omega)
      omega) h6
  simp [a2, h1, g1, g2, h2]
  have bb : intBits (i4 + 1) ≤ 201 := bits_of (by omega)
  refine ⟨by have : intBits 2 ≤ 2 := bits_of (by decide); omega, ?_⟩
  refine ite_join (fun ρ m1 => ∃ (cell step : Int) (j : Nat), ρ = [.is (.ref s), .is (.int many), .un, .is (.int cell), .is (.int step), .un, .un, .un] ∧ m1 = m.set s (.lst [.ref c, .int j, .int i2, .int i3, .int (i4 + 1)]) ∧ intBits cell ≤ 1048576 ∧ intBits step ≤ 300) ?_ ?_ ?_
  · intro P' hP hk
    have hk : i1 < cells.length := by simpa using hk
    obtain ⟨cell, hc⟩ : ∃ cell, cells[i1]? = some cell := ⟨_, List.getElem?_eq_getElem hk⟩
    simp [h1, g1, g2, h2, hc]
    exact hP _ _ ⟨cell, 2 * (i4 + 1) + 1, i1 + 1, rfl, rfl, h4 _ (List.mem_of_getElem? hc), bits_of (by omega)⟩
  · intro P' hP hk
    simp
    exact hP _ _ ⟨0, 2 * (i4 + 1), i1, rfl, rfl, bits_mono (bits_of (n := 1) (by decide)) (by decide), bits_of (by omega)⟩
  · rintro ρ m1 ⟨cell, step, j, rfl, rfl, hcb, hsb⟩
    simp [g1]
    have hcm := fmod_bd cell (b := 2305843009213693951) (by decide)
    refine mix_w (bits_of (by unfold MM at h8; omega)) (bits_mono hsb (by decide)) fun r hr0 hr1 => ?_
    simp [g1]
    by_cases a4 : 1000000000000000000 ≤ cell
    · simp [a4, g1]
      refine ⟨⟨by omega, log2_of hm (by decide)⟩, by omega, ?_⟩
      refine q _ _ (fmod_bd _ (by omega)).1 (fun _ => (fmod_bd _ (by omega)).2) (fun h => by omega) ?_ Frs.set (by simp)
      refine ⟨cells, j, cell / many, r, i4 + 1, g1 _, by rw [g2]; exact h2, h3, h4, Int.ediv_nonneg (by omega) (by omega), ?_, hr0, hr1, by omega, by omega⟩
      exact intBits_le_of_natAbs (by
        have := Int.ediv_le_self many (show 0 ≤ cell by omega)
        have := Int.ediv_nonneg (show 0 ≤ cell by omega) (show 0 ≤ many by omega)
        omega) hcb
    · simp [a4, g1]
      refine mix_w (bits_mono (bits_mm hr0 hr1) (by decide)) (bits_mono (bits_of (n := 4) (by decide)) (by decide)) fun v hv0 hv1 => ?_
      simp [g1]
      refine wI_inv (fun i ρ m1 => ∃ (v size : Int) (z : Sl), ρ = [.is (.ref s), .is (.int many), .un, .is (.int cell), .is (.int step), .is (.int v), .is (.int size), z] ∧ m1 = m.set s (.lst [.ref c, .int j, .int i2, .int r, .int (i4 + 1)]) ∧ intBits v ≤ 70 * (i + 1) ∧ intBits size ≤ 70 * (i + 1)) ⟨v, 2305843009213693951, .un, rfl, rfl, bits_mono (bits_mm hv0 hv1) (by omega), bits_of (by decide)⟩ ?_ ?_
      · rintro i ρ m1 hi ⟨v, size, z, rfl, rfl, hvb, hsz⟩ I hI
        have hi : i < 60 := hi
        refine ⟨_, rfl, ?_⟩
        simp
        have c1 : intBits 1000000 ≤ 20 := bits_of (by decide)
        have c2 : intBits 2305843009213693951 ≤ 61 := bits_of (by decide)
        refine ⟨by omega, ?_⟩
        have fin : ∀ v size : Int, Q (.ok (.int (v.fmod many)) (m.set s (.lst [.ref c, .int j, .int i2, .int r, .int (i4 + 1)]))) := fun v size =>
          q _ _ (fmod_bd _ (by omega)).1 (fun _ => (fmod_bd _ (by omega)).2) (fun h => by omega) ⟨cells, j, i2, r, i4 + 1, g1 _, by rw [g2]; exact h2, h3, h4, h5, h6, hr0, hr1, by omega, by omega⟩ Frs.set (by simp)
        by_cases a5 : many * 1000000 ≤ size
        · simp [a5]
          exact ⟨by omega, fin v size⟩
        · simp [a5, g1]
          refine ⟨by omega, ?_⟩
          refine mix_w (bits_of (by unfold MM at hr1; omega)) (bits_of (by omega)) fun v2 hw0 hw1 => ?_
          simp [g1]
          refine ⟨by omega, hI _ _ ⟨_, _, _, rfl, rfl, ?_, ?_⟩⟩
          · have := intBits_add_le (intBits_mul_le hvb c2) (bits_mm hw0 hw1)
            omega
          · have := intBits_mul_le hsz c2
            omega
      · rintro ρ m1 ⟨v, size, z, rfl, rfl, hvb, hsz⟩
        refine ⟨rfl, ?_⟩
        simp
        exact ⟨by omega, q _ _ (fmod_bd _ (by omega)).1 (fun _ => (fmod_bd _ (by omega)).2) (fun h => by omega) ⟨cells, j, i2, r, i4 + 1, g1 _, by rw [g2]; exact h2, h3, h4, h5, h6, hr0, hr1, by omega, by omega⟩ Frs.set (by simp)⟩
theorem keep_list {k : Nat} {w : Wk} {m : Hm} {ds : List Mi.D} {ps : List Pd} {A : Nat → Prop} {ρ : Ro} {Q : List Mi.D → Hm → Prop} (hρ : ρ.length = 4)
    (ih : ∀ {p : Pd} {d : Mi.D} {m : Hm} {A : Nat → Prop} {Q : Rs Mi.D → Prop}, dle k p → okd k p → Rep A m d p → (∀ d' m', Gx m m' → Rep (New m) m' d' p → Q (.ok d' m')) → wF (g_law_keep k) [d] m Q)
    (hl : ps.length ≤ 10000000) (hd : ∀ p ∈ ps, dle k p) (ho : ∀ p ∈ ps, okd k p) (t : Reps A m ds ps) (hn : w.n = ds.length) (hw : ∀ m', Gx m m' → ∀ i, w.at_ i m' = ds[i]?) (hf : ∀ m', Gx m m' → w.fin m' = true)
    (q : ∀ acc m', Gx m m' → Reps (New m) m' acc ps → Q acc m') :
    wL w (gNm 3) tYesM (eCall (g_law_keep k) (aCons (eVar 3) aNil)) ρ m [] Q := by
  obtain ⟨a, b, c, e, rfl⟩ : ∃ a b c e, ρ = [a, b, c, e] := by
    match ρ, hρ with
    | [a, b, c, e], _ => exact ⟨a, b, c, e, rfl⟩
  have lt := t.length
  refine wL_inv (fun i acc m' => Gx m m' ∧ Reps (New m) m' acc (ps.take i)) ⟨Gx.refl m, by simp; exact .nil⟩ ?_ ?_
  · rintro i acc m' hi ⟨g, r⟩ I hI
    have hi : i < ps.length := by omega
    obtain ⟨p, hp⟩ : ∃ p, ps[i]? = some p := ⟨_, List.getElem?_eq_getElem hi⟩
    obtain ⟨d, hd1, r1⟩ := t.get hp
    refine ⟨d, by rw [hw m' g, hd1], ?_⟩
    have hm := List.mem_of_getElem? hp
    simp
    refine ih (hd p hm) (ho p hm) (r1.gx g) fun d' m2 g2 r2 => ?_
    simp
    have hlen := r.length
    rw [List.length_take] at hlen
    refine ⟨by rw [sizeLine_eq]; omega, hI _ _ ⟨g.trans g2, ?_⟩⟩
    have e1 : ps.take (i + 1) = ps.take i ++ [p] := by
      rw [List.take_add_one, hp]; rfl
    rw [e1]
    exact (r.gx g2).append (.cons (New.wk g r2) .nil)
  · rintro acc m' ⟨g, r⟩
    refine ⟨hf m' g, q acc m' g ?_⟩
    rw [hn, lt, List.take_length] at r
    exact r
theorem keep_w : ∀ (k : Nat) {p : Pd} {d : Mi.D} {m : Hm} {A : Nat → Prop} {Q : Rs Mi.D → Prop}, dle k p → okd k p → Rep A m d p → (∀ d' m', Gx m m' → Rep (New m) m' d' p → Q (.ok d' m')) → wF (g_law_keep k) [d] m Q
  | 0, p, _, _, _, _, h, _, _, _ => (dle_0 h).elim
  | k + 1, p, d, m, A, Q, h, ho, r, q => by
    have ih := @keep_w k
    show wF (runF 4 (m_law_keep (g_law_keep k))) [d] m Q
    unfold m_law_keep
    rw [wF_run]
    have q0 := fun d' => q d' m (Gx.refl m)
    cases r with
    | non => simp [slots, isa]; exact q0 _ .non
    | bl b => simp [slots, isa]; exact q0 _ (.bl b)
    | int b => simp [slots, isa]; exact q0 _ (.int b)
    | str b => simp [slots, isa]; exact q0 _ (.str b)
    | @tup ds ps t =>
      simp [slots, isa]
      refine keep_list rfl ih h.1 h.2 ho t rfl (fun m' g i => by simp) (fun m' g => rfl) fun acc m' g r => ?_
      simp
      exact q _ _ (g.trans Gx.app) (.tup (r.gx Gx.app))
    | @lst n ds ps a e t =>
      simp [slots, isa, e]
      refine keep_list rfl ih h.1 h.2 ho t rfl (fun m' g i => by rw [itLst_at (g.get _ _ e) rfl]; simp) (fun m' g => itLst_fin (g.get _ _ e) rfl) fun acc m' g r => ?_
      simp
      exact q _ _ (g.trans Gx.app) (.lst g.len (by simp) (r.gx Gx.app))
    | @dct n kvs qs a e t =>
      simp [slots, isa, e]
      obtain ⟨j, rfl⟩ : ∃ j, k = j + 1 := by
        cases k with
        | zero => exact (show False from h).elim
        | succ j => exact ⟨j, rfl⟩
      obtain ⟨h1, h2, h3⟩ := h
      obtain ⟨hnd, hok⟩ := ho
      have hnl := get_lt e
      have tl := t.length
      have tk := t.ks
      have ta : RepK (fun x => A x ∧ x ≠ n) m kvs qs := RepK.avoid (t := .dct qs) (.dct a e t) (by simp) t
      refine wS_forD (n := n) (kvs := kvs) rfl (get_app e) ?_
      refine wI_inv (fun i ρ m' => ∃ z acc, ρ = [.is (.ref n), .is (.ref m.length), z, .un] ∧ m'[n]? = some (.lK kvs) ∧ m'[m.length]? = some (.dK acc) ∧ RepK (fun x => m.length < x) m' acc (qs.take i) ∧ m.length ≤ m'.length ∧ ∀ (x : Nat) o, x ≠ n → m[x]? = some o → m'[x]? = some o) ?_ ?_ ?_
      · refine ⟨_, [], rfl, get_set (get_app e) _, ?_, .nil, by simp, fun x o hx ho => ?_⟩
        · rw [List.getElem?_set_ne (by omega)]; simp
        · rw [List.getElem?_set_ne (Ne.symm hx)]; exact get_app ho
      · rintro i ρ m' hi ⟨z, acc, rfl, g1, g2, ra, gl, gx⟩ I hI
        have hi : i < kvs.length := by simpa [itFix] using hi
        obtain ⟨⟨key, p⟩, hp⟩ : ∃ q, qs[i]? = some q := ⟨_, List.getElem?_eq_getElem (by omega)⟩
        obtain ⟨d, hd1, r1⟩ := ta.get hp
        have hm := List.mem_of_getElem? hp
        refine ⟨kD key, by simp [hd1], ?_⟩
        have hnk : (kvs.map (·.1)).Nodup := by rw [tk]; exact hnd
        simp [ixA_kD g1, getKD_at hnk hd1]
        have r2 : Rep (fun x => A x ∧ x ≠ n) m' d p := r1.to fun x o hx ho => ⟨hx, gx x o hx.2 ho⟩
        refine ih (dle_mono (h3 _ hm) (by omega)) (hok _ hm) r2 fun d' m2 g r3 => ?_
        have g3 := g.get _ _ g2
        have al := ra.length
        rw [List.length_take] at al
        have hacc : acc.length < sizeLine := by rw [sizeLine_eq]; omega
        simp [setD_kD g3 hacc]
        have hne : key ∉ acc.map (·.1) := by
          rw [ra.ks]
          intro hmem
          have hnd' : (qs.map (·.1)).Nodup := hnd
          obtain ⟨q', hq', e'⟩ := List.mem_map.mp hmem
          obtain ⟨i', hi', e''⟩ := List.mem_iff_getElem.mp hq'
          rw [List.length_take] at hi'
          rw [List.getElem_take] at e''
          have e3 : (qs.map (·.1))[i']? = some key := by rw [List.getElem?_map, List.getElem?_eq_getElem (by omega), e'']; simp [e']
          have e4 : (qs.map (·.1))[i]? = some key := by rw [List.getElem?_map, hp]; rfl
          have := (List.getElem?_inj (i := i') (j := i) (by rw [List.length_map]; omega) hnd').mp (e3.trans e4.symm)
          omega
        have e1 : qs.take (i + 1) = qs.take i ++ [(key, p)] := by
          rw [List.take_add_one, hp]; rfl
        have hmlen : m.length < m'.length := get_lt g2
        refine hI _ _ ⟨_, _, rfl, ?_, get_set g3 _, ?_, ?_, fun x o hx ho => ?_⟩
        · rw [List.getElem?_set_ne (by omega)]; exact g.get _ _ g1
        · rw [putKD_new hne, e1]
          refine (((ra.gx g).set fun x hx => by omega)).append (.cons ?_ .nil)
          exact (r3.wk fun x hx _ => Nat.lt_of_lt_of_le hmlen hx).set fun x hx => by omega
        · rw [List.length_set]; exact Nat.le_trans gl g.len
        · have := get_lt ho
          rw [List.getElem?_set_ne (by omega)]
          exact g.get _ _ (gx x o hx ho)
      · rintro ρ m' ⟨z, acc, rfl, g1, g2, ra, gl, gx⟩
        refine ⟨rfl, ?_⟩
        simp
        have ra : RepK (fun x => m.length < x) m' acc qs := by
          have : (itFix (kvs.map fun kv => kD kv.1) fun _ x => x).n = qs.length := by simp [tl]
          rw [this, List.take_length] at ra
          exact ra
        refine q _ _ ⟨by simpa using gl, fun x o hx => ?_⟩ (.dct (Nat.le_refl _) (by rw [List.getElem?_set_ne (by omega)]; exact g2) (RepK.to (fun x o hx ho => ⟨Nat.le_of_lt hx, by rw [List.getElem?_set_ne (by omega)]; exact ho⟩) ra))
        by_cases hxn : x = n
        · subst hxn
          rw [e] at hx; cases hx
          exact get_set g1 _
        · rw [List.getElem?_set_ne (Ne.symm hxn)]; exact gx x o hxn hx
theorem is_integer_i {i : Int} {m : Hm} {Q : Rs Mi.D → Prop} : wF f_law_is_integer [.int i] m Q = Q (.ok (.bl true) m) := by
  unfold f_law_is_integer m_law_is_integer
  rw [wF_run]
  simp [slots, isa]
/-- the loop at the end of same -/
theorem same_loop {k : Nat} {m : Hm} {x y : Mi.D} {ds es : List Mi.D} {ps : List Pd} {A B : Nat → Prop} {Q : Ou → Prop}
    (ih : ∀ {p : Pd} {d e : Mi.D} {m : Hm} {A B : Nat → Prop} {Q : Rs Mi.D → Prop}, dle k p → Rep A m d p → Rep B m e p → (∀ m', Gx m m' → Q (.ok (.bl true) m')) → wF (g_law_same k) [d, e] m Q)
    (hd : ∀ p ∈ ps, dle k p) (t1 : Reps A m ds ps) (t2 : Reps B m es ps) (hx : ∀ m', Gx m m' → ∀ i : Nat, ixA m' x (.int i) = ds[i]?) (hy : ∀ m', Gx m m' → ∀ i : Nat, ixA m' y (.int i) = es[i]?)
    (q : ∀ m' z, Gx m m' → Q (.nx [.is x, .is y, z] m')) :
    wI (itRg 0 ps.length) (gNm 2) (sIf (tNotM (tTru (eCall (g_law_same k) (aCons (eBin opIxA (eVar 0) (eVar 2)) (aCons (eBin opIxA (eVar 1) (eVar 2)) aNil))))) (sRet (eC (.bl false))) sNext) [.is x, .is y, .un] m Q := by
  refine wI_inv (fun i ρ m' => Gx m m' ∧ ∃ z, ρ = [.is x, .is y, z]) ⟨Gx.refl m, _, rfl⟩ ?_ ?_
  · rintro i ρ m' hi ⟨g, z, rfl⟩ I hI
    have hi : i < ps.length := hi
    obtain ⟨p, hp⟩ : ∃ p, ps[i]? = some p := ⟨_, List.getElem?_eq_getElem hi⟩
    obtain ⟨d, hd1, r1⟩ := t1.get hp
    obtain ⟨e, he1, r2⟩ := t2.get hp
    refine ⟨_, rfl, ?_⟩
    have e1 := hx m' g i
    have e2 := hy m' g i
    simp [e1, e2, hd1, he1]
    refine ih (hd p (List.mem_of_getElem? hp)) (r1.gx g) (r2.gx g) fun m2 g2 => ?_
    simp
    exact hI _ _ ⟨g.trans g2, _, rfl⟩
  · rintro ρ m' ⟨g, z, rfl⟩
    exact ⟨rfl, q m' z g⟩
theorem same_w : ∀ (k : Nat) {p : Pd} {d e : Mi.D} {m : Hm} {A B : Nat → Prop} {Q : Rs Mi.D → Prop}, dle k p → Rep A m d p → Rep B m e p → (∀ m', Gx m m' → Q (.ok (.bl true) m')) → wF (g_law_same k) [d, e] m Q
  | 0, p, _, _, _, _, _, _, h, _, _, _ => (dle_0 h).elim
  | k + 1, p, d, e, m, A, B, Q, h, r1, r2, q => by
    have ih := @same_w k
    show wF (runF 3 (m_law_same (g_law_same k))) [d, e] m Q
    unfold m_law_same
    rw [wF_run]
    have q0 := q m (Gx.refl m)
    cases r1 with
    | non => cases r2; simp [slots, isa]; exact q0
    | bl b => cases r2; simp [slots, isa]; exact q0
    | int b => cases r2; simp [slots, isa, is_integer_i]; exact q0
    | str b => cases r2; simp [slots, isa]; exact q0
    | @tup ds ps t1 =>
      cases r2 with | @tup es _ t2 =>
      have l1 := t1.length
      have l2 := t2.length
      simp [slots, isa, l1, l2]
      have h1 : ps.length ≤ 10000000 := h.1
      refine ⟨by omega, same_loop ih h.2 t1 t2 (fun m' g i => by simp) (fun m' g i => by simp) fun m' z g => ?_⟩
      simp
      exact q m' g
    | @lst n ds ps a1 e1 t1 =>
      cases r2 with | @lst n2 es _ a2 e2 t2 =>
      have l1 := t1.length
      have l2 := t2.length
      simp [slots, isa, l1, l2, e1, e2]
      have h1 : ps.length ≤ 10000000 := h.1
      refine ⟨by omega, same_loop ih h.2 t1 t2 (fun m' g i => by simp [g.get _ _ e1]) (fun m' g i => by simp [g.get _ _ e2]) fun m' z g => ?_⟩
      simp
      exact q m' g
    | @dct n kvs qs a1 e1 t1 =>
      cases r2 with | @dct n' kvs2 _ a2 e2 t2 =>
      simp [slots, isa, e1, e2]
      obtain ⟨j, rfl⟩ : ∃ j, k = j + 1 := by
        cases k with
        | zero => exact (show False from h).elim
        | succ j => exact ⟨j, rfl⟩
      obtain ⟨h1, h2, h3⟩ := h
      have f1 : ∀ t, (m ++ t)[n]? = some (.dK kvs) := fun t => get_app e1
      have f2 : ∀ t, (m ++ t)[n']? = some (.dK kvs2) := fun t => get_app e2
      simp [f2]
      have dk : dle (j + 1) (.lst (qs.map fun kv => kP kv.1)) := by
        refine ⟨by simpa using h1, fun x hx => ?_⟩
        obtain ⟨kv, _, rfl⟩ := List.mem_map.mp hx
        obtain ⟨i, rfl⟩ : ∃ i, j = i + 1 := ⟨j - 1, by omega⟩
        cases kv.1 <;> trivial
      have dv : dle (j + 1) (.lst (qs.map fun kv => kv.2)) := by
        refine ⟨by simpa using h1, fun x hx => ?_⟩
        obtain ⟨kv, hk, rfl⟩ := List.mem_map.mp hx
        exact h3 kv hk
      refine ih (A := fun _ => True) (B := fun _ => True) dk (.lst trivial (by simp) ((t1.gx Gx.app).keys.wk fun _ _ _ => trivial)) (.lst trivial (by simp) ((t2.gx Gx.app).keys.wk fun _ _ _ => trivial)) fun m1 g1 => ?_
      have g0 : Gx m m1 := Gx.app.trans g1
      have k1 := g0.get _ _ e1
      have k2 := g0.get _ _ e2
      have f1 : ∀ t, (m1 ++ t)[n]? = some (.dK kvs) := fun t => get_app k1
      have f2 : ∀ t, (m1 ++ t)[n']? = some (.dK kvs2) := fun t => get_app k2
      simp [k1, f2]
      refine ih (A := fun _ => True) (B := fun _ => True) dv (.lst trivial (by simp) (((t1.gx g0).gx Gx.app).vals.wk fun _ _ _ => trivial)) (.lst trivial (by simp) (((t2.gx g0).gx Gx.app).vals.wk fun _ _ _ => trivial)) fun m2 g2 => ?_
      simp
      exact q m2 (g0.trans (Gx.app.trans g2))
theorem store_w {is : List Int} {Q : Rs Mi.D → Prop} (hl : is.length ≤ 63) (hb : ∀ z ∈ is, intBits z ≤ 1048576) (q : ∀ m, St 1 0 0 m → m.length = 2 → Q (.ok (.ref 1) m)) : wF f_law_store [.frl (is.map .int)] [] Q := by
  unfold f_law_store m_law_store
  rw [wF_run]
  simp [slots]
  refine wL_inv (fun i acc m' => m' = [] ∧ acc = (is.take i).map .int) ⟨rfl, by simp⟩ ?_ ?_
  · rintro i acc m' hi ⟨rfl, rfl⟩ I hI
    have hi : i < is.length := by simpa using hi
    obtain ⟨z, hz⟩ : ∃ z, is[i]? = some z := ⟨_, List.getElem?_eq_getElem hi⟩
    refine ⟨.int z, by simp [hz], ?_⟩
    simp [wipeM]
    refine ⟨by rw [sizeLine_eq]; omega, hI _ _ ⟨rfl, ?_⟩⟩
    rw [List.take_add_one, hz]; simp
  · rintro acc m' ⟨rfl, rfl⟩
    refine ⟨rfl, ?_⟩
    have e1 : (itFix (is.map Mi.D.int) fun _ x => x).n = is.length := by simp
    rw [e1, List.take_length]
    simp
    exact q _ ⟨is, 0, 0, 20261119, 0, rfl, rfl, by decide, hb, Int.le_refl _, bits_mono (bits_of (n := 1) (by decide)) (by decide), by decide, by decide, by decide, by decide⟩ rfl
section
variable {s c L : Nat} {m : Hm} {Q : Rs Mi.D → Prop}
theorem chance_w {many : Int} (S : St s c L m) (hL : L ≤ 2 ^ 200) (hm : intBits many ≤ 2000) (q : ∀ b m', St s c (L + 1) m' → Frs s m m' → m'.length = m.length → Q (.ok (.bl b) m')) : wF f_law_chance [.ref s, .int many] m Q := by
  unfold f_law_chance m_law_chance
  rw [wF_run]
  simp [slots]
  refine take_w S hL hm fun k m' _ _ _ S' F l => ?_
  simp
  exact q _ m' S' F l
end
section
variable {s c L : Nat} {m : Hm} {Q : Rs Mi.D → Prop}
theorem between_w {lo hi : Int} (S : St s c L m) (hL : L ≤ 2 ^ 200) (hm : intBits (hi - lo + 1) ≤ 2000) (h : lo ≤ hi) (q : ∀ k m', lo ≤ k → k ≤ hi → St s c (L + 1) m' → Frs s m m' → m'.length = m.length → Q (.ok (.int k) m')) : wF f_law_between [.ref s, .int lo, .int hi] m Q := by
  unfold f_law_between m_law_between
  rw [wF_run]
  simp [slots]
  refine take_w S hL hm fun k m' h0 h1 _ S' F l => ?_
  simp
  exact q _ m' (by omega) (by have := h1 (by omega); omega) S' F l
end
section
variable {s c L : Nat} {m : Hm} {Q : Rs Mi.D → Prop}
theorem edge_w {lo hi : Int} (S : St s c L m) (hL : L + 2 ≤ 2 ^ 200) (hm : intBits (hi - lo + 1) ≤ 2000) (h : lo ≤ hi) (q : ∀ k m', lo ≤ k → k ≤ hi → St s c (L + 2) m' → Frs s m m' → m'.length = m.length → Q (.ok (.int k) m')) : wF f_law_edge [.ref s, .int lo, .int hi] m Q := by
  unfold f_law_edge m_law_edge
  rw [wF_run]
  simp [slots]
  by_cases c1 : hi ≤ lo
  · simp [c1]
    exact q lo m (by omega) h (S.up (by omega)) (Frs.refl _ _) rfl
  · simp [c1]
    refine take_w S (by omega) (bits_mono (bits_of (n := 3) (by decide)) (by decide)) fun k m' h0 h1 _ S' F l => ?_
    simp
    by_cases c2 : k = 0
    · simp [c2]
      exact q lo m' (by omega) h (S'.up (by omega)) F l
    · simp [c2]
      by_cases c3 : k = 1
      · simp [c3]
        exact q hi m' h (by omega) (S'.up (by omega)) F l
      · simp [c3]
        refine take_w S' (by omega) hm fun k m2 h0 h1 _ S2 F2 l2 => ?_
        simp
        exact q _ m2 (by omega) (by have := h1 (by omega); omega) S2 (F.trans F2) (l2.trans l)
end
section
variable {s c L : Nat} {m : Hm} {Q : Rs Mi.D → Prop}
theorem far_w (S : St s c L m) (hL : L + 3 ≤ 2 ^ 200) (q : ∀ k m', 0 ≤ k → intBits k ≤ 1600 → St s c (L + 3) m' → Frs s m m' → m'.length = m.length → Q (.ok (.int k) m')) : wF f_law_far [.ref s] m Q := by
  unfold f_law_far m_law_far
  rw [wF_run]
  simp [slots]
  refine edge_w S (by omega) (bits_mono (bits_of (n := 9) (by decide)) (by decide)) (by decide) fun k m1 h0 h1 S1 F l => ?_
  simp
  refine ⟨by omega, ?_⟩
  refine wI_inv (fun i ρ m' => m' = m1 ∧ ∃ (w : Int) (z : Sl), ρ = [.is (.ref s), .is (.int w), z] ∧ 1 ≤ w ∧ intBits w ≤ 4 * (i + 1)) ⟨rfl, 10, _, rfl, by decide, bits_of (by decide)⟩ ?_ ?_
  · rintro i ρ m' hi ⟨rfl, w, z, rfl, hw, hb⟩ I hI
    have hi : i < 389 := by
      have : i < k.toNat := by simpa using hi
      omega
    refine ⟨_, rfl, ?_⟩
    have b10 : intBits 10 ≤ 4 := bits_of (by decide)
    simp
    refine ⟨by omega, hI _ _ ⟨rfl, _, _, rfl, by omega, ?_⟩⟩
    have := intBits_mul_le hb b10
    omega
  · rintro ρ m' ⟨rfl, w, z, rfl, hw, hb⟩
    refine ⟨rfl, ?_⟩
    have hk : (itRg 0 k.toNat).n ≤ 389 := by simp; omega
    simp
    refine take_w S1 (by omega) (by omega) fun k2 m2 h2 h3 _ S2 F2 l2 => ?_
    simp
    have := h3 hw
    refine q _ m2 h2 (bits_mono (intBits_le_of_natAbs (y := w) (by omega) hb) (by omega)) (S2.up (by omega)) (F.trans F2) (l2.trans l)
end
section
variable {s c L : Nat} {m : Hm} {Q : Rs Mi.D → Prop}
theorem pick_w {d : Mi.D} {ds : List Mi.D} (S : St s c L m) (hL : L ≤ 2 ^ 200) (h : SqA (Ns s) m d ds) (h1 : 1 ≤ ds.length) (h2 : ds.length ≤ 10000000) (q : ∀ (k : Nat) x m', ds[k]? = some x → St s c (L + 1) m' → Frs s m m' → m'.length = m.length → Q (.ok x m')) : wF f_law_pick [.ref s, d] m Q := by
  unfold f_law_pick m_law_pick
  rw [wF_run]
  simp [slots, h.sq.len]
  refine take_w S hL (bits_of (by omega)) fun k m' h0 h1 _ S' F l => ?_
  obtain ⟨j, rfl⟩ : ∃ j : Nat, k = j := ⟨k.toNat, by omega⟩
  have hj : j < ds.length := by have := h1 (by omega); omega
  obtain ⟨x, hx⟩ : ∃ x, ds[j]? = some x := ⟨_, List.getElem?_eq_getElem hj⟩
  simp [(h.fr F).sq.ix, hx]
  exact q j x m' hx S' F l
end
section
variable {s c L : Nat} {m : Hm} {Q : Rs Mi.D → Prop}
theorem form_wA {A : Nat → Prop} {d : Mi.D} {p : Pd} {ps : List Pd} (S : St s c L m) (hL : L ≤ 2 ^ 200) (r : Rep A m d p) (e : seqP p = some ps) (hA : ∀ n, A n → n ≠ s) (hN : ∀ n, m.length ≤ n → A n) (q : ∀ v p' m', (p' = .lst ps ∨ p' = .tup ps) → Rep A m' v p' → St s c (L + 1) m' → Frs s m m' → Q (.ok v m')) : wF f_law_form [.ref s, d] m Q := by
  unfold f_law_form m_law_form
  rw [wF_run]
  simp [slots]
  refine take_w S hL (bits_mono (bits_of (n := 2) (by decide)) (by decide)) fun k m' h0 h1 _ S' F l => ?_
  have r' := r.fr F hA
  obtain ⟨ds, A', t⟩ := Rep.sqA r' e
  have sq := A'.sq
  by_cases c1 : k = 0
  · simp [c1, sq.seq]
    exact q _ (.lst ps) _ (.inl rfl) (.lst (hN _ (by omega)) (by simp) (t.gx Gx.app)) S'.app (F.trans Gx.app.fr)
  · simp [c1, sq.seq]
    exact q _ (.tup ps) _ (.inr rfl) (.tup t) S' F
theorem form_w {d : Mi.D} {p : Pd} {ps : List Pd} (S : St s c L m) (hL : L ≤ 2 ^ 200) (r : Rep (Ns s) m d p) (e : seqP p = some ps) (q : ∀ v p' m', (p' = .lst ps ∨ p' = .tup ps) → Rep (Ns s) m' v p' → St s c (L + 1) m' → Frs s m m' → Q (.ok v m')) : wF f_law_form [.ref s, d] m Q :=
  form_wA S hL r e (fun _ h => h) (fun n h => by have := S.lt; show n ≠ s; omega) q
end
/-- a member of a fresh row, drawn -/
theorem drawn_w {s c L t : Nat} {A : Nat → Prop} {m : Hm} {Q : Rs Mi.D → Prop} {ds : List Mi.D} {ps : List Pd} {n : Int} (S : St s c L m) (hL : L ≤ 2 ^ 200) (ht : t ≠ s) (h : m[t]? = some (.lst ds)) (r : Reps A m ds ps) (hA : ∀ x, A x → x ≠ s) (hn : n = ds.length) (h1 : 1 ≤ ds.length) (h2 : ds.length ≤ 1000)
    (q : ∀ v p m', p ∈ ps → Rep A m' v p → St s c (L + 1) m' → Frs s m m' → Q (.ok v m')) : wF f_law_take [.ref s, .int n] m (okK (kB2 opIxA (.ref t) Q) Q) := by
  subst hn
  refine take_w S hL (bits_of (by omega)) fun k m' h0 h1 _ S' F l => ?_
  obtain ⟨j, rfl⟩ : ∃ j : Nat, k = j := ⟨k.toNat, by omega⟩
  have hj : j < ds.length := by have := h1 (by omega); omega
  obtain ⟨x, hx⟩ : ∃ x, ds[j]? = some x := ⟨_, List.getElem?_eq_getElem hj⟩
  have e := F.get _ _ ht h
  simp [e, hx]
  obtain ⟨p, hp, rp⟩ := (r.fr F hA).get' hx
  exact q x p m' (List.mem_of_getElem? hp) rp S' F
def nseqL : List Pd := [.non, .int 0, .int 1, .int (-1), .bl true, .bl false, .str "", .str "ab", .dct [], .dct [(.inl 0, .int 1)], .dct [(.inr "0", .lst [.int 0])], .str "0 1"]
section
variable {s c L : Nat} {m : Hm} {Q : Rs Mi.D → Prop}
theorem not_sequence_w (S : St s c L m) (hL : L ≤ 2 ^ 200) (q : ∀ v p m', p ∈ nseqL → Rep (New m) m' v p → St s c (L + 1) m' → Frs s m m' → Q (.ok v m')) : wF f_law_not_sequence [.ref s] m Q := by
  unfold f_law_not_sequence m_law_not_sequence
  rw [wF_run]
  have hs := S.lt
  simp [slots, dkOf]
  refine drawn_w S.app hL (by omega) (by simp <;> rfl) (A := New m) (ps := nseqL) ?_ (fun x h => by simp [New] at h; omega) (by rfl) (by simp) (by simp) fun v p m' hp r S' F => ?_
  · exact .cons .non <| .cons (.int _) <| .cons (.int _) <| .cons (.int _) <| .cons (.bl _) <| .cons (.bl _) <| .cons (.str _) <| .cons (.str _) <| .cons (.dct (by simp [New] <;> omega) (by simp <;> rfl) .nil) <| .cons (.dct (by simp [New] <;> omega) (by simp <;> rfl) (.cons (.int _) .nil)) <| .cons (.dct (by simp [New] <;> omega) (by simp <;> rfl) (.cons (.lst (by simp [New] <;> omega) (by simp <;> rfl) (.cons (.int _) .nil)) .nil)) <| .cons (.str _) .nil
  · simp
    exact q v p m' hp r S' (Gx.app.fr.trans F)
end
theorem nseq_ok {p : Pd} (h : p ∈ nseqL) : seqP p = none ∧ dle 4 p ∧ okd 6 p := by
  simp only [nseqL, List.mem_cons, List.not_mem_nil, or_false] at h
  rcases h with rfl | rfl | rfl | rfl | rfl | rfl | rfl | rfl | rfl | rfl | rfl | rfl <;> simp [seqP, dle, okd, nodupK]
def oddL : List Pd := [.non, .bl true, .bl false, .str "", .str "0", .str "1", .lst [], .tup [], .lst [.int 0], .tup [.int 0], .dct [], .dct [(.inr "0", .int 0)], .lst [.non], .str "web 1"]
section
variable {s c L : Nat} {m : Hm} {Q : Rs Mi.D → Prop}
theorem odd_w (S : St s c L m) (hL : L ≤ 2 ^ 200) (q : ∀ v p m', p ∈ oddL → Rep (New m) m' v p → St s c (L + 1) m' → Frs s m m' → Q (.ok v m')) : wF f_law_odd [.ref s] m Q := by
  unfold f_law_odd m_law_odd
  rw [wF_run]
  have hs := S.lt
  simp [slots, dkOf]
  refine drawn_w S.app hL (by omega) (by simp <;> rfl) (A := New m) (ps := oddL) ?_ (fun x h => by simp [New] at h; omega) (by rfl) (by simp) (by simp) fun v p m' hp r S' F => ?_
  · exact .cons .non <| .cons (.bl _) <| .cons (.bl _) <| .cons (.str _) <| .cons (.str _) <| .cons (.str _) <| .cons (.lst (by simp [New] <;> omega) (by simp <;> rfl) .nil) <| .cons (.tup .nil) <| .cons (.lst (by simp [New] <;> omega) (by simp <;> rfl) (.cons (.int _) .nil)) <| .cons (.tup (.cons (.int _) .nil)) <| .cons (.dct (by simp [New] <;> omega) (by simp <;> rfl) .nil) <| .cons (.dct (by simp [New] <;> omega) (by simp <;> rfl) (.cons (.int _) .nil)) <| .cons (.lst (by simp [New] <;> omega) (by simp <;> rfl) (.cons .non .nil)) <| .cons (.str _) .nil
  · simp
    exact q v p m' hp r S' (Gx.app.fr.trans F)
end
theorem odd_ok {p : Pd} (h : p ∈ oddL) : isI p = false ∧ dle 4 p ∧ okd 6 p := by
  simp only [oddL, List.mem_cons, List.not_mem_nil, or_false] at h
  rcases h with rfl | rfl | rfl | rfl | rfl | rfl | rfl | rfl | rfl | rfl | rfl | rfl | rfl | rfl <;> simp [isI, dle, okd, nodupK]
/-! ### binomials -/
def ch : Nat → Nat → Nat
  | _, 0 => 1
  | 0, _ + 1 => 0
  | n + 1, k + 1 => ch n k + ch n (k + 1)
theorem ch_0 (n : Nat) : ch n 0 = 1 := by cases n <;> rfl
theorem ch_s (n k : Nat) : ch (n + 1) (k + 1) = ch n k + ch n (k + 1) := rfl
theorem ch_gt : ∀ {n k : Nat}, n < k → ch n k = 0
  | 0, k + 1, _ => rfl
  | n + 1, k + 1, h => by rw [ch_s, ch_gt (by omega), ch_gt (by omega)]
theorem ch_self : ∀ n : Nat, ch n n = 1
  | 0 => rfl
  | n + 1 => by rw [ch_s, ch_self n, ch_gt (by omega)]
theorem ch_abs : ∀ n k : Nat, ch (n + 1) (k + 1) * (k + 1) = (n + 1) * ch n k
  | 0, 0 => rfl
  | 0, k + 1 => by
    rw [ch_gt (by omega), ch_gt (n := 0) (by omega)]; simp
  | n + 1, 0 => by
    have ih := ch_abs n 0
    rw [ch_s, ch_0]
    rw [ch_0] at ih
    simp at ih ⊢
    omega
  | n + 1, k + 1 => by
    have i1 := ch_abs n k
    have i2 := ch_abs n (k + 1)
    rw [ch_s (n + 1) (k + 1)]
    have e1 := ch_s n k
    have e2 : (ch (n + 1) (k + 1) + ch (n + 1) (k + 1 + 1)) * (k + 1 + 1) = ch (n + 1) (k + 1) * (k + 1) + ch (n + 1) (k + 1) + ch (n + 1) (k + 1 + 1) * (k + 1 + 1) := by
      rw [Nat.add_mul]
      have : ch (n + 1) (k + 1) * (k + 1 + 1) = ch (n + 1) (k + 1) * (k + 1) + ch (n + 1) (k + 1) := Nat.mul_succ _ _
      omega
    rw [e2, i1, i2]
    have e3 : (n + 1 + 1) * ch (n + 1) (k + 1) = (n + 1) * ch (n + 1) (k + 1) + ch (n + 1) (k + 1) := Nat.succ_mul _ _
    rw [e3, e1, Nat.mul_add]
    omega
theorem ch_next {n k : Nat} (h : k ≤ n) : ch n (k + 1) * (k + 1) = ch n k * (n - k) := by
  have h1 := ch_abs n k
  rw [ch_s, Nat.add_mul] at h1
  have h2 : ch n k * (n - k) + ch n k * (k + 1) = (n + 1) * ch n k := by
    rw [← Nat.mul_add, Nat.mul_comm]
    congr 1
    omega
  omega
theorem ch_sym : ∀ {n k : Nat}, k ≤ n → ch n (n - k) = ch n k
  | n, 0, _ => by rw [ch_0, Nat.sub_zero, ch_self]
  | 0, k + 1, h => by omega
  | n + 1, k + 1, h => by
    have h : k ≤ n := by omega
    by_cases e : k = n
    · subst e
      rw [Nat.sub_self, ch_0, ch_self]
    · have e1 : n + 1 - (k + 1) = (n - (k + 1)) + 1 := by omega
      rw [e1, ch_s, ch_s, ch_sym (n := n) (k := k + 1) (by omega)]
      have e2 : n - (k + 1) + 1 = n - k := by omega
      rw [e2, ch_sym h]
      omega
theorem ch_le : ∀ n k : Nat, ch n k ≤ 2 ^ n
  | n, 0 => by rw [ch_0]; exact Nat.one_le_two_pow
  | 0, k + 1 => by rw [ch_gt (by omega)]; omega
  | n + 1, k + 1 => by
    have := ch_le n k
    have := ch_le n (k + 1)
    rw [ch_s, Nat.pow_succ]
    omega
theorem ch_bits {n k : Nat} (h : n ≤ 401) : intBits (ch n k : Int) ≤ 402 := bits_of (by
  have h1 := ch_le n k
  have h2 : 2 ^ n ≤ 2 ^ 401 := Nat.pow_le_pow_right (by decide) h
  have h3 : (2 : Nat) ^ 401 < 2 ^ 402 := by decide +kernel
  have : ((ch n k : Nat) : Int).natAbs = ch n k := by simp
  omega)
/-- one turn of the loop -/
theorem ch_turn {n k : Nat} (h : k ≤ n) : (ch n k : Int) * ((n : Int) - (k : Int)) / ((k : Int) + 1) = (ch n (k + 1) : Int) := by
  have e := ch_next h
  have e1 : (ch n k : Int) * ((n : Int) - (k : Int)) = (ch n (k + 1) : Int) * ((k : Int) + 1) := by
    have := congrArg (fun x : Nat => (x : Int)) e
    simp only [Int.natCast_mul, Int.natCast_sub h, Int.natCast_add, Int.cast_ofNat_Int] at this
    exact this.symm
  rw [e1, Int.mul_ediv_cancel _ (by omega)]
section
variable {m : Hm} {Q : Rs Mi.D → Prop} {n k : Nat}
theorem loop_w {ρ1 : Mi.D} {t : Nat} {z : Sl} {QS : Ou → Prop} (hn : n ≤ 401) (ht : t ≤ n) (q : ∀ z, QS (.nx [.is (.int n), .is ρ1, .is (.int (ch n t)), z] m)) :
    wI (itRg 0 t) (gNm 3) (sAsg (eBin opFdiv (eBin opMul (eVar 2) (eBin opSub (eVar 0) (eVar 3))) (eBin opAdd (eVar 3) (eC (.int 1)))) (gNm 2)) [.is (.int n), .is ρ1, .is (.int 1), z] m QS := by
  refine wI_inv (fun i ρ m' => m' = m ∧ ∃ z, ρ = [.is (.int n), .is ρ1, .is (.int (ch n i)), z]) ⟨rfl, _, by rw [ch_0]; rfl⟩ ?_ ?_
  · rintro i ρ m' hi ⟨rfl, z, rfl⟩ I hI
    have hi : i < t := hi
    refine ⟨_, rfl, ?_⟩
    have b1 := ch_bits (n := n) (k := i) hn
    have b2 := bits_of (x := (n : Int) - (i : Int)) (n := 10) (by omega)
    simp
    exact ⟨by omega, log2_of (n := 20) (bits_of (by omega)) (by decide), hI _ _ ⟨rfl, _, by rw [ch_turn (by omega)]⟩⟩
  · rintro ρ m' ⟨rfl, z, rfl⟩
    exact ⟨rfl, q z⟩
theorem choose_w (hn : n ≤ 401) (q : Q (.ok (.int (ch n k)) m)) : wF f_law_choose [.int n, .int k] m Q := by
  unfold f_law_choose m_law_choose
  rw [wF_run]
  have c0 : ¬ ((k : Int) < 0) := by omega
  simp [slots, c0]
  by_cases c1 : n < k
  · rw [ch_gt c1] at q
    simp [c1]
    exact q
  · simp [c1]
    refine ⟨by omega, ?_⟩
    refine loop_w hn (by omega) fun z => ?_
    simp
    exact q
end
section
variable {m : Hm} {A : Nat → Prop} {d : Mi.D} {p : Pd} {ps : List Pd} {Q : Rs Mi.D → Prop}
theorem is_seq_w (r : Rep A m d p) : wF f_p_is_sequence [d] m Q = Q (.ok (.bl (seqP p).isSome) m) := by
  unfold f_p_is_sequence m_p_is_sequence
  rw [wF_run]
  cases r <;> simp [slots, isa, seqP, *]
theorem is_int_w (r : Rep A m d p) : wF f_p_is_integer [d] m Q = Q (.ok (.bl (isI p)) m) := by
  unfold f_p_is_integer m_p_is_integer
  rw [wF_run]
  cases r <;> simp [slots, isa, isI, *]
end
abbrev LIM : Int := 10 ^ 200
theorem lim_eq : (100000000000000000000000000000000000000000000000000000000000000000000000000000000000000000000000000000000000000000000000000000000000000000000000000000000000000000000000000000000000000000000000000000000 : Int) = LIM := by decide +kernel
def isCo : Pd → Bool
  | .int x => decide (-LIM < x) && decide (x < LIM)
  | _ => false
def isPt (p : Pd) : Bool := match seqP p with
  | some [a, b] => isCo a && isCo b
  | _ => false
section
variable {m : Hm} {A B C : Nat → Prop} {d d1 d2 d3 : Mi.D} {p p1 p2 p3 : Pd} {Q : Rs Mi.D → Prop}
theorem co_w (r : Rep A m d p) : wF f_p_is_coordinate [d] m Q = Q (.ok (.bl (isCo p)) m) := by
  unfold f_p_is_coordinate m_p_is_coordinate
  rw [wF_run, lim_eq]
  generalize hL : LIM = L
  simp [slots]
  rw [is_int_w r]
  cases r <;> simp [isI, isCo]
  rename_i x
  by_cases c1 : -LIM < x
  · subst hL
    simp [c1]
  · subst hL
    simp [c1]
theorem pt_w (r : Rep A m d p) (hl : ∀ ps, seqP p = some ps → ps.length ≤ 10000000) : wF f_p_is_point [d] m Q = Q (.ok (.bl (isPt p)) m) := by
  unfold f_p_is_point m_p_is_point
  rw [wF_run]
  simp [slots]
  rw [is_seq_w r]
  cases hs : seqP p with
  | none =>
    have : isPt p = false := by unfold isPt; rw [hs]
    simp [this]
  | some ps =>
    obtain ⟨ds, S, t⟩ := Rep.sq r hs
    have hlen := t.length
    simp [S.len]
    match ds, ps, hlen, t, hs, S with
    | [x, y], [a, b], _, .cons r1 (.cons r2 .nil), hs, S =>
      have : isPt p = (isCo a && isCo b) := by unfold isPt; rw [hs]
      simp [S.ix]
      rw [co_w r1]
      cases ha : isCo a with
      | false => simp [this, ha]
      | true =>
        simp [S.ix]
        rw [co_w r2]
        simp [this, ha]
    | [], ps, hlen, t, hs, S =>
      have : isPt p = false := by
        unfold isPt; rw [hs]
        match ps, hlen with
        | [], _ => rfl
      simp [this]
    | [x], ps, hlen, t, hs, S =>
      have : isPt p = false := by
        unfold isPt; rw [hs]
        match ps, hlen with
        | [_], _ => rfl
      simp [this]
    | x :: y :: z :: ds, ps, hlen, t, hs, S =>
      have : isPt p = false := by
        unfold isPt; rw [hs]
        match ps, hlen with
        | _ :: _ :: _ :: _, _ => rfl
      have h2 : ¬ ((ds.length : Int) + 1 + 1 + 1 = 2) := by omega
      simp [this, h2]
end
def area (p q r : Int × Int) : Int := (q.1 - p.1) * (r.2 - p.2) - (q.2 - p.2) * (r.1 - p.1)
def sgn (a : Int) : Int := if 0 < a then 1 else if a < 0 then -1 else 0
abbrev dPt (p : Int × Int) : List Mi.D := [.int p.1, .int p.2]
abbrev pPt (p : Int × Int) : List Pd := [.int p.1, .int p.2]
def InL (L : Int) (p : Int × Int) : Prop := -L < p.1 ∧ p.1 < L ∧ -L < p.2 ∧ p.2 < L
theorem isPt_of {p : Pd} (h : isPt p = true) : ∃ z : Int × Int, seqP p = some (pPt z) ∧ InL LIM z := by
  unfold isPt at h
  split at h
  · rename_i a b hs
    rw [Bool.and_eq_true] at h
    cases a <;> first | (simp [isCo] at h; done) | skip
    cases b <;> first | (simp [isCo] at h; done) | skip
    rename_i x y
    obtain ⟨h1, h2⟩ := h
    simp only [isCo, Bool.and_eq_true, decide_eq_true_eq] at h1 h2
    exact ⟨(x, y), hs, h1.1, h1.2, h2.1, h2.2⟩
  · cases h
theorem isPt_mk {p : Pd} {z : Int × Int} (hs : seqP p = some (pPt z)) (h : InL LIM z) : isPt p = true := by
  obtain ⟨h1, h2, h3, h4⟩ := h
  unfold isPt
  rw [hs]
  simp [isCo, h1, h2, h3, h4]
theorem bits_co {x : Int} (h1 : -(4 * LIM) < x) (h2 : x < 4 * LIM) : intBits x ≤ 1000 := bits_of (n := 1000) (by
  have : (2 : Int) ^ 1000 > 4 * LIM := by decide +kernel
  omega)
section
variable {m : Hm} {A B C : Nat → Prop} {d1 d2 d3 : Mi.D} {p q r : Int × Int} {p1 p2 p3 : Pd} {Q : Rs Mi.D → Prop}
theorem bits_df {a b : Int} (h1 : -(2 * LIM) < a) (h2 : a < 2 * LIM) (h3 : -(2 * LIM) < b) (h4 : b < 2 * LIM) : intBits (a - b) ≤ 1000 := bits_co (by omega) (by omega)
theorem tarea_w (s1 : Sq m d1 (dPt p)) (s2 : Sq m d2 (dPt q)) (s3 : Sq m d3 (dPt r)) (h1 : InL LIM p) (h2 : InL LIM q) (h3 : InL LIM r) : wF f_p_turned_area [d1, d2, d3] m Q = Q (.ok (.int (area p q r)) m) := by
  obtain ⟨a1, a2, a3, a4⟩ := h1
  obtain ⟨b1, b2, b3, b4⟩ := h2
  obtain ⟨c1, c2, c3, c4⟩ := h3
  unfold f_p_turned_area m_p_turned_area
  rw [wF_run]
  have k1 := bits_df (a := q.1) (b := p.1) (by omega) (by omega) (by omega) (by omega)
  have k2 := bits_df (a := r.2) (b := p.2) (by omega) (by omega) (by omega) (by omega)
  have k3 := bits_df (a := q.2) (b := p.2) (by omega) (by omega) (by omega) (by omega)
  have k4 := bits_df (a := r.1) (b := p.1) (by omega) (by omega) (by omega) (by omega)
  have z1 : intBits (q.1 - p.1) + intBits (r.2 - p.2) ≤ 134217728 := by omega
  have z2 : intBits (q.2 - p.2) + intBits (r.1 - p.1) ≤ 134217728 := by omega
  simp [slots, s1.ix, s2.ix, s3.ix, z1, z2, area]
end
end Ours
namespace Ours
open PySem PySem.Spec PyProof.Rows L2 Mi
open Builtin.Int
/-! ### runs of triples of one kind -/
/-- a table of how far the runs reach that begin with a pair -/
structure RS (T : Nat → Nat → Nat → Bool) (n : Nat) (R : Nat → Nat → Nat) : Prop where
  two : ∀ i j, i < j → j < n → 2 ≤ R i j
  up : ∀ i j k, i < j → j < k → k < n → T i j k = true → R j k + 1 ≤ R i j
  ex : ∀ i j, i < j → j < n → 2 < R i j → ∃ k, j < k ∧ k < n ∧ T i j k = true ∧ R i j = R j k + 1
theorem RS.uniq {T : Nat → Nat → Nat → Bool} {n : Nat} {R R' : Nat → Nat → Nat} (h : RS T n R) (h' : RS T n R') : ∀ (d i j : Nat), n - j ≤ d → i < j → j < n → R i j = R' i j
  | 0, i, j, hd, hi, hj => by omega
  | d + 1, i, j, hd, hi, hj => by
    have ih := RS.uniq h h' d
    have le : ∀ {R R' : Nat → Nat → Nat}, RS T n R → RS T n R' → (∀ i j, n - j ≤ d → i < j → j < n → R i j = R' i j) → R i j ≤ R' i j := fun {R R'} h h' ih => by
      by_cases c : 2 < R i j
      · obtain ⟨k, h1, h2, h3, h4⟩ := h.ex i j hi hj c
        have e := ih j k (by omega) h1 h2
        have := h'.up i j k hi h1 h2 h3
        omega
      · have := h'.two i j hi hj
        omega
    have a := le h h' ih
    have b := le h' h fun i j h1 h2 h3 => (ih i j h1 h2 h3).symm
    omega
theorem RS.bd {T : Nat → Nat → Nat → Bool} {n : Nat} {R : Nat → Nat → Nat} (h : RS T n R) : ∀ (d i j : Nat), n - j ≤ d → i < j → j < n → R i j ≤ n - j + 1
  | 0, i, j, hd, hi, hj => by omega
  | d + 1, i, j, hd, hi, hj => by
    by_cases c : 2 < R i j
    · obtain ⟨k, h1, h2, h3, h4⟩ := h.ex i j hi hj c
      have := RS.bd h d j k (by omega) h1 h2
      omega
    · omega
/-- consecutive triples all of the kind -/
def Tri (T : Nat → Nat → Nat → Bool) : List Nat → Prop
  | a :: b :: c :: l => T a b c = true ∧ Tri T (b :: c :: l)
  | _ => True
theorem Tri.snoc {T : Nat → Nat → Nat → Bool} : ∀ {l : List Nat} {u e w : Nat}, Tri T (l ++ [u, e]) → T u e w = true → Tri T (l ++ [u, e, w])
  | [], u, e, w, _, h => ⟨h, trivial⟩
  | [a], u, e, w, h1, h => ⟨h1.1, h, trivial⟩
  | a :: b :: l, u, e, w, h1, h => by
    cases l with
    | nil => exact ⟨h1.1, Tri.snoc (l := [b]) h1.2 h⟩
    | cons c l => exact ⟨h1.1, Tri.snoc (l := b :: c :: l) h1.2 h⟩
theorem RS.len {T : Nat → Nat → Nat → Bool} {n : Nat} {R : Nat → Nat → Nat} (h : RS T n R) : ∀ (l : List Nat) (i j : Nat), (i :: j :: l).Pairwise (· < ·) → (∀ x ∈ i :: j :: l, x < n) → Tri T (i :: j :: l) → l.length + 2 ≤ R i j
  | [], i, j, hp, hn, _ => h.two i j (by simp at hp; exact hp) (hn j (by simp))
  | k :: l, i, j, hp, hn, ht => by
    have hp2 := List.pairwise_cons.mp hp
    have hp3 := List.pairwise_cons.mp hp2.2
    have := RS.len h l j k hp2.2 (fun x hx => hn x (List.mem_cons_of_mem _ hx)) ht.2
    have := h.up i j k (hp2.1 j (by simp)) (hp3.1 k (by simp)) (hn k (by simp)) ht.1
    simp
    omega
/-! ### the theorem of cups and caps, for triples of two kinds -/
/-- a run in a list of places -/
def Run (T : Nat → Nat → Nat → Bool) (V : List Nat) (l : List Nat) : Prop := l.Pairwise (· < ·) ∧ (∀ x ∈ l, x ∈ V) ∧ Tri T l
theorem Run.sub {T : Nat → Nat → Nat → Bool} {V W l : List Nat} (h : Run T V l) (hs : ∀ x ∈ V, x ∈ W) : Run T W l := ⟨h.1, fun x hx => hs x (h.2.1 x hx), h.2.2⟩
theorem filter_two (p : Nat → Bool) : ∀ V : List Nat, (V.filter p).length + (V.filter fun x => !p x).length = V.length
  | [] => rfl
  | x :: V => by
    have := filter_two p V
    cases h : p x <;> simp [h] <;> omega
open Classical in
theorem cups_caps (T : Nat → Nat → Nat → Bool) : ∀ (s a b : Nat) (V : List Nat), a + b ≤ s → V.Pairwise (· < ·) → ch (a + b) a < V.length →
    (∃ l, Run T V l ∧ l.length = a + 2) ∨ ∃ l, Run (fun i j k => !T i j k) V l ∧ l.length = b + 2
  | s, 0, b, V, hs, hp, hl => by
    rw [Nat.zero_add, ch_0] at hl
    match V, hl, hp with
    | x :: y :: V, _, hp =>
      have hp2 := List.pairwise_cons.mp hp
      exact .inl ⟨[x, y], ⟨by simp; exact hp2.1 y (by simp), fun z hz => by simp at hz ⊢; rcases hz with h | h <;> simp [h], trivial⟩, rfl⟩
  | s, a + 1, 0, V, hs, hp, hl => by
    rw [Nat.add_zero, ch_self] at hl
    match V, hl, hp with
    | x :: y :: V, _, hp =>
      have hp2 := List.pairwise_cons.mp hp
      exact .inr ⟨[x, y], ⟨by simp; exact hp2.1 y (by simp), fun z hz => by simp at hz ⊢; rcases hz with h | h <;> simp [h], trivial⟩, rfl⟩
  | 0, a + 1, b + 1, V, hs, hp, hl => by omega
  | s + 1, a + 1, b + 1, V, hs, hp, hl => by
    let E : Nat → Prop := fun e => ∃ l u, Run T V (l ++ [u, e]) ∧ (l ++ [u, e]).length = a + 2
    have hch : ch (a + 1 + (b + 1)) (a + 1) = ch (a + (b + 1)) a + ch (a + 1 + b) (a + 1) := by
      rw [show a + 1 + (b + 1) = (a + (b + 1)) + 1 by omega, ch_s, show a + (b + 1) = a + 1 + b by omega]
    have hsum : (V.filter fun e => decide (E e)).length + (V.filter fun e => decide (¬ E e)).length = V.length := by
      have := filter_two (fun e => decide (E e)) V
      simp only [decide_not]
      exact this
    by_cases c : ch (a + (b + 1)) a < (V.filter fun e => decide (¬ E e)).length
    · rcases cups_caps T s a (b + 1) (V.filter fun e => decide (¬ E e)) (by omega) (hp.filter _) c with ⟨l, hr, hll⟩ | ⟨l, hr, hll⟩
      · exfalso
        have hr2 : Run T V l := hr.sub fun x hx => (List.mem_filter.mp hx).1
        obtain ⟨l', u, e, rfl⟩ : ∃ l' u e, l = l' ++ [u, e] := by
          rcases List.eq_nil_or_concat l with rfl | ⟨l1, e, rfl⟩
          · simp at hll
          · rcases List.eq_nil_or_concat l1 with rfl | ⟨l2, u, rfl⟩
            · simp at hll
            · exact ⟨l2, u, e, by simp⟩
        have := (List.mem_filter.mp (hr.2.1 e (by simp))).2
        simp only [decide_eq_true_eq] at this
        exact this ⟨l', u, hr2, hll⟩
      · exact .inr ⟨l, hr.sub fun x hx => (List.mem_filter.mp hx).1, hll⟩
    · have c2 : ch (a + 1 + b) (a + 1) < (V.filter fun e => decide (E e)).length := by omega
      rcases cups_caps T s (a + 1) b (V.filter fun e => decide (E e)) (by omega) (hp.filter _) c2 with ⟨l, hr, hll⟩ | ⟨l, hr, hll⟩
      · exact .inl ⟨l, hr.sub fun x hx => (List.mem_filter.mp hx).1, hll⟩
      · have hr2 : Run (fun i j k => !T i j k) V l := hr.sub fun x hx => (List.mem_filter.mp hx).1
        match l, hr, hr2, hll with
        | e1 :: e2 :: r, hr, hr2, hll =>
          have he := (List.mem_filter.mp (hr.2.1 e1 (by simp))).2
          simp only [decide_eq_true_eq] at he
          obtain ⟨l', u, ru, hu⟩ := he
          have hp1 := List.pairwise_cons.mp hr2.1
          have h12 : e1 < e2 := hp1.1 e2 (by simp)
          have hpu := List.pairwise_append.mp ru.1
          have hue : u < e1 := by have := hpu.2.1; simp at this; exact this
          cases ht : T u e1 e2 with
          | true =>
            refine .inl ⟨l' ++ [u, e1, e2], ⟨?_, ?_, Tri.snoc ru.2.2 ht⟩, by simp at hu ⊢; omega⟩
            · have : l' ++ [u, e1, e2] = (l' ++ [u, e1]) ++ [e2] := by simp
              rw [this, List.pairwise_append]
              refine ⟨ru.1, by simp, fun x hx y hy => ?_⟩
              simp at hy
              subst hy
              rcases List.mem_append.mp hx with hx | hx
              · have := hpu.2.2 x hx e1 (by simp); omega
              · simp at hx; rcases hx with rfl | rfl <;> omega
            · intro x hx
              have : l' ++ [u, e1, e2] = (l' ++ [u, e1]) ++ [e2] := by simp
              rw [this] at hx
              rcases List.mem_append.mp hx with hx | hx
              · exact ru.2.1 x hx
              · simp at hx; subst hx; exact hr2.2.1 x (by simp)
          | false =>
            refine .inr ⟨u :: e1 :: e2 :: r, ⟨?_, ?_, ⟨by simp [ht], hr2.2.2⟩⟩, by simp at hll ⊢; omega⟩
            · refine List.pairwise_cons.mpr ⟨fun x hx => ?_, hr2.1⟩
              rcases List.mem_cons.mp hx with rfl | hx
              · exact hue
              · have := hp1.1 x hx; omega
            · intro x hx
              rcases List.mem_cons.mp hx with rfl | hx
              · exact ru.2.1 x (by simp)
              · exact hr2.2.1 x hx
end Ours
namespace Ours
open PySem PySem.Spec PyProof.Rows L2 Mi
open Builtin.Int
/-! ### a table under way -/
/-- what is asked at one pair -/
structure At (T : Nat → Nat → Nat → Bool) (n : Nat) (R : Nat → Nat → Nat) (i j v : Nat) (hi : Nat) : Prop where
  two : 2 ≤ v
  up : ∀ k, j < k → k < hi → T i j k = true → R j k + 1 ≤ v
  ex : 2 < v → ∃ k, j < k ∧ k < n ∧ T i j k = true ∧ v = R j k + 1
def RSd (T : Nat → Nat → Nat → Bool) (n : Nat) (R : Nat → Nat → Nat) (D : Nat → Nat → Prop) : Prop := ∀ i j, D i j → i < j → j < n → At T n R i j (R i j) n
def updR (R : Nat → Nat → Nat) (i j v : Nat) : Nat → Nat → Nat := fun a b => if a = i ∧ b = j then v else R a b
theorem updR_at (R : Nat → Nat → Nat) (i j v : Nat) : updR R i j v i j = v := by simp [updR]
theorem updR_ne {R : Nat → Nat → Nat} {i j v a b : Nat} (h : ¬ (a = i ∧ b = j)) : updR R i j v a b = R a b := by simp [updR, h]
theorem RSd.set {T : Nat → Nat → Nat → Bool} {n : Nat} {R : Nat → Nat → Nat} {D : Nat → Nat → Prop} (h : RSd T n R D) {i j v : Nat} (hij : i < j) (hD : ∀ a b, D a b → a < b → ¬ (a = i ∧ b = j) ∧ b ≠ i) (hv : At T n R i j v n) {D' : Nat → Nat → Prop} (hD' : ∀ a b, a < b → D' a b → D a b ∨ (a = i ∧ b = j)) : RSd T n (updR R i j v) D' := by
  intro a b hab h1 h2
  rcases hD' a b h1 hab with hd | ⟨rfl, rfl⟩
  · obtain ⟨e1, e2⟩ := hD a b hd h1
    have := h a b hd h1 h2
    rw [updR_ne e1]
    refine ⟨this.two, fun k k1 k2 k3 => ?_, fun k1 => ?_⟩
    · rw [updR_ne (fun z => e2 z.1)]; exact this.up k k1 k2 k3
    · obtain ⟨k, q1, q2, q3, q4⟩ := this.ex k1
      exact ⟨k, q1, q2, q3, by rw [updR_ne (fun z => e2 z.1)]; exact q4⟩
  · rw [updR_at]
    refine ⟨hv.two, fun k k1 k2 k3 => ?_, fun k1 => ?_⟩
    · rw [updR_ne (fun z => by omega)]; exact hv.up k k1 k2 k3
    · obtain ⟨k, q1, q2, q3, q4⟩ := hv.ex k1
      exact ⟨k, q1, q2, q3, by rw [updR_ne (fun z => by omega)]; exact q4⟩
theorem RSd.rs {T : Nat → Nat → Nat → Bool} {n : Nat} {R : Nat → Nat → Nat} {D : Nat → Nat → Prop} (h : RSd T n R D) (hD : ∀ i j, i < j → j < n → D i j) : RS T n R :=
  ⟨fun i j h1 h2 => (h i j (hD i j h1 h2) h1 h2).two, fun i j k h1 h2 h3 h4 => (h i j (hD i j h1 (by omega)) h1 (by omega)).up k h2 h3 h4, fun i j h1 h2 h3 => (h i j (hD i j h1 h2) h1 h2).ex h3⟩
theorem At.zero {T : Nat → Nat → Nat → Bool} {n : Nat} {R : Nat → Nat → Nat} {i j : Nat} : At T n R i j 2 (j + 1) := ⟨Nat.le_refl _, fun k h1 h2 => by omega, fun h => by omega⟩
/-- one turn of the innermost loop -/
theorem At.step {T : Nat → Nat → Nat → Bool} {n : Nat} {R : Nat → Nat → Nat} {i j v k : Nat} (h : At T n R i j v k) (hj : j < k) (hk : k < n) : At T n R i j (if v ≤ R j k ∧ T i j k = true then R j k + 1 else v) (k + 1) := by
  split
  · rename_i c
    refine ⟨by have := h.two; omega, fun x h1 h2 h3 => ?_, fun _ => ⟨k, hj, hk, c.2, rfl⟩⟩
    by_cases e : x = k
    · subst e; omega
    · have := h.up x h1 (by omega) h3; omega
  · rename_i c
    refine ⟨h.two, fun x h1 h2 h3 => ?_, h.ex⟩
    by_cases e : x = k
    · subst e
      have : ¬ v ≤ R j x := fun z => c ⟨z, h3⟩
      omega
    · exact h.up x h1 (by omega) h3
/-! ### the least start and the least run -/
def IsSt (R : Nat → Nat → Nat) (n many : Nat) : Option (Nat × Nat) → Prop
  | none => ∀ i j, i < j → j < n → R i j < many
  | some (i, j) => i < j ∧ j < n ∧ many ≤ R i j ∧ ∀ a b, a < b → b < n → a < i ∨ (a = i ∧ b < j) → R a b < many
theorem IsSt.uniq {R : Nat → Nat → Nat} {n many : Nat} {o o' : Option (Nat × Nat)} (h : IsSt R n many o) (h' : IsSt R n many o') : o = o' := by
  cases o with
  | none =>
    cases o' with
    | none => rfl
    | some p =>
      obtain ⟨i, j⟩ := p
      obtain ⟨h1, h2, h3, _⟩ := h'
      have := h i j h1 h2
      omega
  | some p =>
    obtain ⟨i, j⟩ := p
    obtain ⟨h1, h2, h3, h4⟩ := h
    cases o' with
    | none => have := h' i j h1 h2; omega
    | some p =>
      obtain ⟨i', j'⟩ := p
      obtain ⟨h1', h2', h3', h4'⟩ := h'
      have a1 : ¬ (i < i' ∨ (i = i' ∧ j < j')) := fun z => by have := h4' i j h1 h2 z; omega
      have a2 : ¬ (i' < i ∨ (i' = i ∧ j' < j)) := fun z => by have := h4 i' j' h1' h2' z; omega
      have e1 : i = i' := by omega
      have e2 : j = j' := by omega
      subst e1; subst e2; rfl
theorem IsSt.congr {R R' : Nat → Nat → Nat} {n many : Nat} (e : ∀ i j, i < j → j < n → R i j = R' i j) {o : Option (Nat × Nat)} (h : IsSt R n many o) : IsSt R' n many o := by
  cases o with
  | none => exact fun i j h1 h2 => by rw [← e i j h1 h2]; exact h i j h1 h2
  | some p =>
    obtain ⟨i, j⟩ := p
    obtain ⟨h1, h2, h3, h4⟩ := h
    exact ⟨h1, h2, by rw [← e i j h1 h2]; exact h3, fun a b q1 q2 q3 => by rw [← e a b q1 q2]; exact h4 a b q1 q2 q3⟩
/-- how a run goes on behind a pair -/
def IsX (T : Nat → Nat → Nat → Bool) (R : Nat → Nat → Nat) (n : Nat) : Nat → Nat → Nat → List Nat → Prop
  | _, _, _, [] => True
  | need, a, b, m :: l => b < m ∧ m < n ∧ T a b m = true ∧ need ≤ R b m ∧ (∀ x, b < x → x < m → ¬ (need ≤ R b x ∧ T a b x = true)) ∧ IsX T R n (need - 1) b m l
theorem IsX.uniq {T : Nat → Nat → Nat → Bool} {R : Nat → Nat → Nat} {n : Nat} : ∀ {l l' : List Nat} {need a b : Nat}, IsX T R n need a b l → IsX T R n need a b l' → l.length = l'.length → l = l'
  | [], [], _, _, _, _, _, _ => rfl
  | [], _ :: _, _, _, _, _, _, h => by simp at h
  | _ :: _, [], _, _, _, _, _, h => by simp at h
  | m :: l, m' :: l', need, a, b, h, h', hl => by
    obtain ⟨h1, h2, h3, h4, h5, h6⟩ := h
    obtain ⟨h1', h2', h3', h4', h5', h6'⟩ := h'
    have a1 : ¬ m < m' := fun z => h5' m h1 z ⟨h4, h3⟩
    have a2 : ¬ m' < m := fun z => h5 m' h1' z ⟨h4', h3'⟩
    have e : m = m' := by omega
    subst e
    rw [IsX.uniq h6 h6' (by simpa using hl)]
theorem IsX.congr {T : Nat → Nat → Nat → Bool} {R R' : Nat → Nat → Nat} {n : Nat} (e : ∀ i j, i < j → j < n → R i j = R' i j) : ∀ {l : List Nat} {need a b : Nat}, b < n → IsX T R n need a b l → IsX T R' n need a b l
  | [], _, _, _, _, _ => trivial
  | m :: l, need, a, b, hb, ⟨h1, h2, h3, h4, h5, h6⟩ => ⟨h1, h2, h3, by rw [← e b m h1 h2]; exact h4, fun x q1 q2 q3 => h5 x q1 q2 (by rw [e b x q1 (by omega)]; exact q3), IsX.congr e h2 h6⟩
theorem IsX.tri {T : Nat → Nat → Nat → Bool} {R : Nat → Nat → Nat} {n : Nat} : ∀ {l : List Nat} {need a b : Nat}, IsX T R n need a b l → Tri T (a :: b :: l)
  | [], _, _, _, _ => trivial
  | m :: l, need, a, b, ⟨h1, h2, h3, h4, h5, h6⟩ => ⟨h3, IsX.tri h6⟩
theorem IsX.up {T : Nat → Nat → Nat → Bool} {R : Nat → Nat → Nat} {n : Nat} : ∀ {l : List Nat} {need a b : Nat}, IsX T R n need a b l → (∀ x ∈ l, b < x ∧ x < n) ∧ l.Pairwise (· < ·)
  | [], _, _, _, _ => ⟨fun x h => by simp at h, .nil⟩
  | m :: l, need, a, b, ⟨h1, h2, h3, h4, h5, h6⟩ => by
    obtain ⟨q1, q2⟩ := IsX.up h6
    refine ⟨fun x hx => ?_, List.pairwise_cons.mpr ⟨fun x hx => (q1 x hx).1, q2⟩⟩
    rcases List.mem_cons.mp hx with rfl | hx
    · exact ⟨h1, h2⟩
    · have := q1 x hx; omega
/-- the answer -/
def IsAn (T : Nat → Nat → Nat → Bool) (R : Nat → Nat → Nat) (n many : Nat) : Option (List Nat) → Prop
  | none => ∀ i j, i < j → j < n → R i j < many
  | some l => ∃ i j r, l = i :: j :: r ∧ IsSt R n many (some (i, j)) ∧ IsX T R n (many - 1) i j r ∧ r.length + 2 = many
theorem IsAn.uniq {T : Nat → Nat → Nat → Bool} {R R' : Nat → Nat → Nat} {n many : Nat} {o o' : Option (List Nat)} (hR : RS T n R) (hR' : RS T n R') (h : IsAn T R n many o) (h' : IsAn T R' n many o') : o = o' := by
  have e : ∀ i j, i < j → j < n → R' i j = R i j := fun i j h1 h2 => RS.uniq hR' hR (n - j) i j (Nat.le_refl _) h1 h2
  cases o with
  | none =>
    cases o' with
    | none => rfl
    | some l =>
      obtain ⟨i, j, r, _, ⟨h1, h2, h3, _⟩, _⟩ := h'
      have := h i j h1 h2
      rw [e i j h1 h2] at h3
      omega
  | some l =>
    obtain ⟨i, j, r, rfl, s1, x1, l1⟩ := h
    cases o' with
    | none =>
      have := h' i j s1.1 s1.2.1
      rw [e i j s1.1 s1.2.1] at this
      have := s1.2.2.1
      omega
    | some l =>
      obtain ⟨i', j', r', rfl, s2, x2, l2⟩ := h'
      have := IsSt.uniq s1 (IsSt.congr e s2)
      cases this
      rw [IsX.uniq x1 (IsX.congr e s1.2.1 x2) (by omega)]
/-- what cups and caps tell about the tables -/
theorem an_some (T : Nat → Nat → Nat → Bool) {n a b : Nat} {R R' : Nat → Nat → Nat} (h : RS T n R) (h' : RS (fun i j k => !T i j k) n R') (hn : ch (a + b) a < n) : ¬ (IsAn T R n (a + 2) none ∧ IsAn (fun i j k => !T i j k) R' n (b + 2) none) := by
  rintro ⟨h1, h2⟩
  have key : ∀ {T : Nat → Nat → Nat → Bool} {R : Nat → Nat → Nat} {l : List Nat} {k : Nat}, RS T n R → Run T (List.range n) l → l.length = k + 2 → ∃ i j, i < j ∧ j < n ∧ k + 2 ≤ R i j := fun {T R l k} h hr hl => by
    match l, hr, hl with
    | i :: j :: l, ⟨r1, r2, r3⟩, hl =>
      have hm : ∀ x ∈ i :: j :: l, x < n := fun x hx => List.mem_range.mp (r2 x hx)
      have := RS.len h l i j r1 hm r3
      exact ⟨i, j, (List.pairwise_cons.mp r1).1 j (by simp), hm j (by simp), by simp at hl; omega⟩
  rcases cups_caps T (a + b) a b (List.range n) (Nat.le_refl _) List.pairwise_lt_range (by simpa using hn) with ⟨l, hr, hl⟩ | ⟨l, hr, hl⟩
  · obtain ⟨i, j, q1, q2, q3⟩ := key h hr hl
    have := h1 i j q1 q2
    omega
  · obtain ⟨i, j, q1, q2, q3⟩ := key h' hr hl
    have := h2 i j q1 q2
    omega
end Ours
namespace Ours
open PySem PySem.Spec PyProof.Rows L2 Mi
open Builtin.Int
/-- good points -/
structure Gp (ps : List Pd) (pts : List (Int × Int)) : Prop where
  len : ps.length = pts.length
  pt : ∀ (i : Nat) (z : Int × Int), pts[i]? = some z → ∃ x, ps[i]? = some x ∧ seqP x = some (pPt z) ∧ InL LIM z
  inc : ∀ (i : Nat) (z w : Int × Int), pts[i]? = some z → pts[i + 1]? = some w → z.1 < w.1
/-- good up to k -/
structure Gk (ps : List Pd) (pts : List (Int × Int)) (k : Nat) : Prop where
  pt : ∀ (i : Nat), i < k → ∃ z x, pts[i]? = some z ∧ ps[i]? = some x ∧ seqP x = some (pPt z) ∧ InL LIM z
  inc : ∀ (i : Nat) (z w : Int × Int), i + 1 < k → pts[i]? = some z → pts[i + 1]? = some w → z.1 < w.1
theorem Gp.gk {ps : List Pd} {pts : List (Int × Int)} (h : Gp ps pts) : Gk ps pts ps.length := by
  refine ⟨fun i hi => ?_, fun i z w _ h1 h2 => h.inc i z w h1 h2⟩
  rw [h.len] at hi
  obtain ⟨z, hz⟩ : ∃ z, pts[i]? = some z := ⟨_, List.getElem?_eq_getElem hi⟩
  obtain ⟨x, h1, h2, h3⟩ := h.pt i z hz
  exact ⟨z, x, hz, h1, h2, h3⟩
section
variable {m : Hm} {Q : Rs Mi.D → Prop} {A : Nat → Prop} {d : Mi.D} {p : Pd} {ps : List Pd} {pts : List (Int × Int)} {kd : Nat}
abbrev ckB : Ms := (sSeq (sIf (tNotM (tTru (eCall f_p_is_point (aCons (eVar 2) (aNil))))) (sRaise 3 (aCons (eVar 1) (aNil))) (sNext))
    (sIf (tAndM (tBl (eBin opGt (eVar 1) (eC (.int 0)))) (tBl (eBin opLe (eBin opIxA (eVar 2) (eC (.int 0))) (eBin opIxA (eBin opIxA (eVar 0) (eBin opSub (eVar 1) (eC (.int 1)))) (eC (.int 0)))))) (sRaise 3 (aCons (eVar 1) (aNil))) (sNext)))
theorem dle_len {k : Nat} {x : Pd} (h : dle k x) : ∀ ps, seqP x = some ps → ps.length ≤ 10000000 := by
  intro ps e
  cases k with
  | zero => exact (dle_0 h).elim
  | succ k => exact ((dle_seq e).mp h).1
theorem pt_sq {A : Nat → Prop} {m : Hm} {x : Mi.D} {px : Pd} {z : Int × Int} (r : Rep A m x px) (e : seqP px = some (pPt z)) : Sq m x (dPt z) := by
  obtain ⟨xs, S, t⟩ := Rep.sq r e
  have := reps_int (a := [z.1, z.2]) t
  rw [this] at S
  exact S
/-- a turn over a good point -/
theorem ck_turn {ds : List Mi.D} {i : Nat} {QS : Ou → Prop} {z : Int × Int} {x : Mi.D} {px : Pd} (S : Sq m d ds) (t : Reps A m ds ps) (hx : ds[i]? = some x) (rx : Rep A m x px) (sx : seqP px = some (pPt z)) (hz : InL LIM z)
    (hp : ∀ j, i = j + 1 → ∃ (z' : Int × Int) (y : Mi.D), ds[j]? = some y ∧ Sq m y (dPt z') ∧ z'.1 < z.1) (q : QS (.nx [.is d, .is (.int i), .is x] m)) :
    wS ckB [.is d, .is (.int i), .is x] m QS := by
  have Sx := pt_sq rx sx
  have hpt : isPt px = true := isPt_mk sx hz
  simp
  rw [pt_w rx (fun ps' e => by rw [sx] at e; cases e; simp), hpt]
  cases i with
  | zero => simp; simpa using q
  | succ j =>
    obtain ⟨z', y, hy, Sy, hlt⟩ := hp j rfl
    have e1 : ((j + 1 : Nat) : Int) - 1 = (j : Nat) := by omega
    have e2 : (j : Int) + 1 - 1 = (j : Nat) := by omega
    have e3 : (0 : Int) < (j : Int) + 1 := by omega
    have e4 : ¬ z.1 ≤ z'.1 := by omega
    simp [Sx.ix, S.ix, e1, e2, e3, hy, Sy.ix, e4]
    simpa using q
/-- a bad point -/
def BadAt (pts : List (Int × Int)) (k : Nat) (px : Pd) : Prop := isPt px = false ∨ ∃ (z z' : Int × Int) (j : Nat), seqP px = some (pPt z) ∧ InL LIM z ∧ k = j + 1 ∧ pts[j]? = some z' ∧ z.1 ≤ z'.1
theorem ck_bad {ds : List Mi.D} {i : Nat} {QS : Ou → Prop} {x : Mi.D} {px : Pd} (S : Sq m d ds) (t : Reps A m ds ps) (hx : ds[i]? = some x) (rx : Rep A m x px) (hd : dle kd px) (g : Gk ps pts i) (hb : BadAt pts i px) (q : ∀ ρ, QS (.ex ⟨3, [.int i]⟩ ρ m)) :
    wS ckB [.is d, .is (.int i), .is x] m QS := by
  simp
  rw [pt_w rx (dle_len hd)]
  rcases hb with hb | ⟨z, z', j, sx, hz, rfl, hzj, hle⟩
  · rw [hb]
    simp
    exact q _
  · have Sx := pt_sq rx sx
    rw [isPt_mk sx hz]
    obtain ⟨z2, py, h1, h2, sy, _⟩ := g.pt j (by omega)
    rw [hzj] at h1; cases h1
    obtain ⟨y, hy, ry⟩ := t.get h2
    have Sy := pt_sq ry sy
    have e1 : ((j + 1 : Nat) : Int) - 1 = (j : Nat) := by omega
    have e2 : (j : Int) + 1 - 1 = (j : Nat) := by omega
    have e3 : (0 : Int) < (j : Int) + 1 := by omega
    simp [Sx.ix, S.ix, e1, e2, e3, hy, Sy.ix, hle]
    simpa using q _
/-- the loop up to k -/
theorem ck_loop {ds : List Mi.D} {k : Nat} {QS : Ou → Prop} {w : Wk} {z1 z2 : Sl} (S : Sq m d ds) (t : Reps A m ds ps) (hn : w.n = ds.length) (ha : ∀ i, w.at_ i m = ds[i]?) (hf : w.fin m = true) (g : Gk ps pts k) (hk : k ≤ ds.length)
    (h : (k = ds.length ∧ ∀ z1 z2, QS (.nx [.is d, z1, z2] m)) ∨ ∃ px, ps[k]? = some px ∧ dle kd px ∧ BadAt pts k px ∧ ∀ ρ, QS (.ex ⟨3, [.int k]⟩ ρ m)) :
    wI (wkEnum w) (gTp 2 (gsCons (gNm 1) (gsCons (gNm 2) (gsNil)))) ckB [.is d, z1, z2] m QS := by
  refine wI_inv (fun i ρ m' => i ≤ k ∧ m' = m ∧ ∃ z1 z2, ρ = [.is d, z1, z2]) ⟨by omega, rfl, _, _, rfl⟩ ?_ ?_
  · rintro i ρ m' hi ⟨hik, rfl, z1, z2, rfl⟩ I hI
    have hi : i < ds.length := by rw [← hn]; exact hi
    obtain ⟨x, hx⟩ : ∃ x, ds[i]? = some x := ⟨_, List.getElem?_eq_getElem hi⟩
    refine ⟨.tup [.int i, x], by simp [ha, hx], ?_⟩
    refine ⟨([.is d, .is (.int i), .is x], m'), rfl, ?_⟩
    show wS ckB [.is d, .is (.int i), .is x] m' (lpK I QS)
    by_cases c : i < k
    · obtain ⟨z, px, hz, hpx, sx, hL⟩ := g.pt i c
      obtain ⟨x', hx', rx⟩ := t.get hpx
      rw [hx] at hx'; cases hx'
      exact ck_turn S t hx rx sx hL (fun j hj => by
        obtain ⟨z', py, h1, h2, sy, _⟩ := g.pt j (by omega)
        obtain ⟨y, hy, ry⟩ := t.get h2
        subst hj
        exact ⟨z', y, hy, pt_sq ry sy, g.inc j z' z c h1 hz⟩) (hI _ _ ⟨by omega, rfl, _, _, rfl⟩)
    · have c : i = k := by omega
      subst c
      rcases h with ⟨h, _⟩ | ⟨px, hpx, hd, hb, q⟩
      · omega
      · obtain ⟨x', hx', rx⟩ := t.get hpx
        rw [hx] at hx'; cases hx'
        exact ck_bad S t hx rx hd g hb fun ρ => q ρ
  · rintro ρ m' ⟨hik, rfl, z1, z2, rfl⟩
    refine ⟨hf, ?_⟩
    have hik : w.n ≤ k := hik
    rcases h with ⟨h, q⟩ | ⟨px, hpx, hd, hb, q⟩
    · exact q _ _
    · have := (List.getElem?_eq_some_iff.mp hpx).1
      rw [← t.length] at this
      omega
theorem check_ok (r : Rep A m d p) (sp : seqP p = some ps) (g : Gp ps pts) (hl : ps.length ≤ 200) (q : Q (.ok .non m)) : wF f_p_check_points [d] m Q := by
  unfold f_p_check_points m_p_check_points
  rw [wF_run]
  simp [slots]
  rw [is_seq_w r]
  obtain ⟨ds, S, t⟩ := Rep.sq r sp
  have hlen := t.length
  simp [sp, S.len]
  have c1 : ¬ (200 : Int) < (ds.length : Int) := by omega
  simp [c1]
  obtain ⟨w, hw, hn, ha, hf⟩ := Sq.wk S
  simp [hw]
  refine ck_loop (kd := 0) (pts := pts) (k := ds.length) S t hn (ha m (Gx.refl _)) (hf m (Gx.refl _)) (by rw [hlen]; exact g.gk) (Nat.le_refl _) (.inl ⟨rfl, fun z1 z2 => ?_⟩)
  simp
  exact q
/-- a wrong point at k -/
theorem check_bad {k : Nat} {px : Pd} (r : Rep A m d p) (sp : seqP p = some ps) (g : Gk ps pts k) (hl : ps.length ≤ 200) (hx : ps[k]? = some px) (hd : dle kd px) (hb : BadAt pts k px) (q : Q (.ex ⟨3, [.int k]⟩ m)) : wF f_p_check_points [d] m Q := by
  unfold f_p_check_points m_p_check_points
  rw [wF_run]
  simp [slots]
  rw [is_seq_w r]
  obtain ⟨ds, S, t⟩ := Rep.sq r sp
  have hlen := t.length
  have hk := (List.getElem?_eq_some_iff.mp hx).1
  simp [sp, S.len]
  have c1 : ¬ (200 : Int) < (ds.length : Int) := by omega
  simp [c1]
  obtain ⟨w, hw, hn, ha, hf⟩ := Sq.wk S
  simp [hw]
  refine ck_loop (kd := kd) (pts := pts) (k := k) S t hn (ha m (Gx.refl _)) (hf m (Gx.refl _)) g (by omega) (.inr ⟨px, hx, hd, hb, fun ρ => ?_⟩)
  simp
  exact q
/-- no sequence, or too long -/
theorem check_none (r : Rep A m d p) (h : seqP p = none ∨ ∃ ps, seqP p = some ps ∧ 200 < ps.length) (q : Q (.ex ⟨3, [.non]⟩ m)) : wF f_p_check_points [d] m Q := by
  unfold f_p_check_points m_p_check_points
  rw [wF_run]
  simp [slots]
  rw [is_seq_w r]
  rcases h with h | ⟨ps, sp, hl⟩
  · simp [h]
    exact q
  · obtain ⟨ds, S, t⟩ := Rep.sq r sp
    have hlen := t.length
    have c1 : (200 : Int) < (ds.length : Int) := by omega
    simp [sp, S.len, c1]
    exact q
/-! ### bends -/
/-- a sequence of points -/
structure Pts (m : Hm) (d : Mi.D) (pts : List (Int × Int)) : Prop where
  ex : ∃ ds, Sq m d ds ∧ ds.length = pts.length ∧ ∀ (i : Nat) (z : Int × Int), pts[i]? = some z → ∃ x, ds[i]? = some x ∧ Sq m x (dPt z) ∧ InL LIM z
theorem Pts.gx {m m' : Hm} {d : Mi.D} {pts : List (Int × Int)} (h : Pts m d pts) (g : Gx m m') : Pts m' d pts := by
  obtain ⟨ds, h1, h2, h3⟩ := h.ex
  exact ⟨ds, h1.gx g, h2, fun i z hz => by obtain ⟨x, q1, q2, q3⟩ := h3 i z hz; exact ⟨x, q1, q2.gx g, q3⟩⟩
theorem gp_pts (r : Rep A m d p) (sp : seqP p = some ps) (g : Gp ps pts) : Pts m d pts := by
  obtain ⟨ds, S, t⟩ := Rep.sq r sp
  refine ⟨ds, S, by rw [t.length, g.len], fun i z hz => ?_⟩
  obtain ⟨px, hpx, sx, hL⟩ := g.pt i z hz
  obtain ⟨x, hx, rx⟩ := t.get hpx
  exact ⟨x, hx, pt_sq rx sx, hL⟩
/-- the kind of a triple of points -/
def cup (pts : List (Int × Int)) (i j k : Nat) : Bool := match pts[i]?, pts[j]?, pts[k]? with
  | some p, some q, some r => decide (0 < area p q r)
  | _, _, _ => false
def tri (pts : List (Int × Int)) (left : Bool) (i j k : Nat) : Bool := cup pts i j k == left
theorem bends_w {i j k : Nat} {left : Bool} (P : Pts m d pts) (hi : i < pts.length) (hj : j < pts.length) (hk : k < pts.length) : wF f_p_bends [d, .int i, .int j, .int k, .bl left] m Q = Q (.ok (.bl (tri pts left i j k)) m) := by
  obtain ⟨ds, S, hl, h⟩ := P.ex
  obtain ⟨p, hp⟩ : ∃ z, pts[i]? = some z := ⟨_, List.getElem?_eq_getElem hi⟩
  obtain ⟨q, hq⟩ : ∃ z, pts[j]? = some z := ⟨_, List.getElem?_eq_getElem hj⟩
  obtain ⟨r, hr⟩ : ∃ z, pts[k]? = some z := ⟨_, List.getElem?_eq_getElem hk⟩
  obtain ⟨x1, a1, s1, l1⟩ := h i p hp
  obtain ⟨x2, a2, s2, l2⟩ := h j q hq
  obtain ⟨x3, a3, s3, l3⟩ := h k r hr
  unfold f_p_bends m_p_bends
  rw [wF_run]
  simp [slots, S.ix, a1, a2, a3]
  rw [tarea_w s1 s2 s3 l1 l2 l3]
  simp [tri, cup, hp, hq, hr]
end
end Ours
namespace Ours
open PySem PySem.Spec PyProof.Rows L2 Mi
open Builtin.Int
/-! ### tables -/
def rowD (n : Nat) (R : Nat → Nat → Nat) (i : Nat) : List Mi.D := (List.range n).map fun j => .int (R i j)
structure Tbl (m : Hm) (r n lo : Nat) (ra : Nat → Nat) (R : Nat → Nat → Nat) : Prop where
  e : m[r]? = some (.lst ((List.range n).map fun i => .ref (ra i)))
  inj : ∀ i j, i < j → j < n → ra i < ra j
  lt : ∀ i, i < n → ra i < r ∧ lo ≤ ra i
  row : ∀ i, i < n → m[ra i]? = some (.lst (rowD n R i))
theorem Tbl.gx {m m' : Hm} {r n lo : Nat} {ra : Nat → Nat} {R : Nat → Nat → Nat} (h : Tbl m r n lo ra R) (g : Gx m m') : Tbl m' r n lo ra R := ⟨g.get _ _ h.e, h.inj, h.lt, fun i hi => g.get _ _ (h.row i hi)⟩
theorem Tbl.at_ {m : Hm} {r n lo : Nat} {ra : Nat → Nat} {R : Nat → Nat → Nat} (h : Tbl m r n lo ra R) {i : Nat} (hi : i < n) : ((List.range n).map fun i => Mi.D.ref (ra i))[i]? = some (.ref (ra i)) := by
  rw [List.getElem?_map, List.getElem?_range hi]; rfl
theorem rowD_at {n : Nat} {R : Nat → Nat → Nat} {i j : Nat} (hj : j < n) : (rowD n R i)[j]? = some (.int (R i j)) := by
  unfold rowD
  rw [List.getElem?_map, List.getElem?_range hj]; rfl
theorem rowD_len {n : Nat} {R : Nat → Nat → Nat} {i : Nat} : (rowD n R i).length = n := by simp [rowD]
theorem rowD_set {n : Nat} {R : Nat → Nat → Nat} {i j v : Nat} (hj : j < n) : (rowD n R i).set j (.int v) = rowD n (updR R i j v) i := by
  apply List.ext_getElem?
  intro k
  by_cases hk : k < n
  · rw [rowD_at hk]
    by_cases e : j = k
    · subst e
      rw [List.getElem?_set_self (by rw [rowD_len]; exact hk), updR_at]
    · rw [List.getElem?_set_ne e, rowD_at hk, updR_ne (by omega)]
  · rw [List.getElem?_eq_none (by simp [rowD_len]; omega), List.getElem?_eq_none (by simp [rowD_len]; omega)]
theorem Tbl.set {m : Hm} {r n lo : Nat} {ra : Nat → Nat} {R : Nat → Nat → Nat} (h : Tbl m r n lo ra R) {i j v : Nat} (hi : i < n) (hj : j < n) : Tbl (m.set (ra i) (.lst ((rowD n R i).set j (.int v)))) r n lo ra (updR R i j v) := by
  refine ⟨by rw [get_set_ne (by have := h.lt i hi; omega)]; exact h.e, h.inj, h.lt, fun k hk => ?_⟩
  by_cases e : k = i
  · subst e
    rw [get_set (h.row k hk), rowD_set hj]
  · have hne : ra i ≠ ra k := by
      rcases Nat.lt_or_gt_of_ne e with h1 | h1
      · have := h.inj k i h1 hi; omega
      · have := h.inj i k h1 hk; omega
    rw [get_set_ne hne, h.row k hk]
    congr 2
    unfold rowD
    apply List.map_congr_left
    intro x _
    rw [updR_ne (by omega)]
theorem gx_setN {m m' : Hm} {r : Nat} {o : O} (g : Gx m m') (h : m.length ≤ r) : Gx m (m'.set r o) :=
  ⟨by rw [List.length_set]; exact g.len, fun n x hx => by rw [List.getElem?_set_ne (by have := get_lt hx; omega)]; exact g.get n x hx⟩
/-- rows of twos -/
theorem twos_comp {w : Wk} {j k n : Nat} {ρ : Ro} {m : Hm} {Q : List Mi.D → Hm → Prop} (hw : w.n = n) (hn : n ≤ 1000) (ha : ∀ i m', i < n → Gx m m' → ∃ d, w.at_ i m' = some d) (hf : ∀ m', Gx m m' → w.fin m' = true) (hk : k ≠ j) (hj : j < ρ.length) (hρ : ρ[k]? = some (.is (.int n)))
    (q : ∀ (ra : Nat → Nat) m', (∀ i l, i < l → l < n → ra i < ra l) → (∀ i, i < n → ra i < m'.length ∧ m.length ≤ ra i) → (∀ i, i < n → m'[ra i]? = some (.lst (rowD n (fun _ _ => 2) i))) → Gx m m' → Q ((List.range n).map fun i => .ref (ra i)) m') :
    wL w (gNm j) tYesM (eBin opMul (eLst (aCons (eC (.int 2)) (aNil))) (eVar k)) ρ m [] Q := by
  have hfl : ∀ i, List.replicate n (Mi.D.int 2) = rowD n (fun _ _ => 2) i := by
    intro i
    unfold rowD
    rw [List.map_const']
    simp
  refine wL_inv (fun i acc m' => m'.length = m.length + 2 * i ∧ acc = (List.range i).map (fun i => .ref (m.length + 2 * i + 1)) ∧ (∀ l, l < i → m'[m.length + 2 * l + 1]? = some (.lst (rowD n (fun _ _ => 2) l))) ∧ Gx m m') ?_ ?_ ?_
  · exact ⟨by simp, rfl, fun l h => by omega, Gx.refl _⟩
  · rintro i acc m' hi ⟨hl, rfl, hr, g⟩ I hI
    have hi : i < n := by omega
    obtain ⟨d, hd⟩ := ha i m' hi g
    refine ⟨d, hd, ?_⟩
    have hρ' : (ρ.set j (.is d))[k]? = some (.is (.int n)) := by rw [List.getElem?_set_ne (Ne.symm hk)]; exact hρ
    simp [hρ', sizeLine_eq, hj]
    refine ⟨⟨by omega, by omega⟩, by omega, hI _ _ ⟨by simp; omega, ?_, fun l hl2 => ?_, g.trans Gx.app⟩⟩
    · rw [List.range_succ, List.map_append, hl]; rfl
    · by_cases e : l = i
      · subst e
        rw [← hl, ← hfl l, List.getElem?_append_right (by omega)]
        simp
      · exact get_app (hr l (by omega))
  · rintro acc m' ⟨hl, rfl, hr, g⟩
    rw [hw] at hl hr ⊢
    exact ⟨hf m' g, q _ m' (fun i l h1 h2 => by omega) (fun i hi => ⟨by omega, by omega⟩) hr g⟩
section
variable {m : Hm} {Q : Rs Mi.D → Prop} {d : Mi.D} {pts : List (Int × Int)} {left : Bool}
theorem reach_w (P : Pts m d pts) (hl : pts.length ≤ 100) (q : ∀ r ra R m', Tbl m' r pts.length m.length ra R → RS (tri pts left) pts.length R → Gx m m' → r < m'.length → Q (.ok (.ref r) m')) : wF f_p_bent_reach [d, .bl left] m Q := by
  unfold f_p_bent_reach m_p_bent_reach
  rw [wF_run]
  obtain ⟨ds, S, hds, _⟩ := P.ex
  generalize hn : pts.length = n at *
  simp [slots, S.len, hds, wipeM]
  refine ⟨by omega, ?_⟩
  refine twos_comp (n := n) rfl (by omega) (fun i m' _ _ => ⟨_, rfl⟩) (fun m' _ => rfl) (by omega) (by simp) rfl fun ra m1 h1 h2 h3 g1 => ?_
  have T0 : Tbl (m1 ++ [.lst ((List.range n).map fun i => .ref (ra i))]) m1.length n m.length ra (fun _ _ => 2) := ⟨by simp, h1, h2, fun i hi => get_app (h3 i hi)⟩
  simp
  refine ⟨by omega, ?_⟩
  generalize hX : m1 ++ [O.lst ((List.range n).map fun i => Mi.D.ref (ra i))] = X at *
  have gX : Gx m X := by rw [← hX]; exact g1.trans Gx.app
  have hXl : X.length = m1.length + 1 := by rw [← hX]; simp
  refine wI_inv (fun t ρ m' => ∃ z4 z5 z6 z7 R, ρ = [.is d, .is (.bl left), .is (.int n), .is (.ref m1.length), z4, z5, z6, z7, .un] ∧ Tbl m' m1.length n m.length ra R ∧ RSd (tri pts left) n R (fun i j => n ≤ i + t) ∧ Gx m m' ∧ m'.length = X.length) ?_ ?_ ?_
  · exact ⟨_, _, _, _, _, rfl, T0, fun i j h1 h2 h3 => by omega, gX, rfl⟩
  · rintro t ρ m2 ht ⟨z4, z5, z6, z7, R, rfl, T2, r2, g2, l2⟩ I hI
    have ht : t < n := ht
    obtain ⟨i, hi, hit⟩ : ∃ i : Nat, i < n ∧ (0 : Int) + (n : Int) - 1 - (t : Nat) = (i : Int) := ⟨n - 1 - t, by omega, by omega⟩
    have hit2 : i + t + 1 = n := by omega
    refine ⟨.int i, by rw [itRv_at, hit], ?_⟩
    simp
    refine ⟨by omega, ?_⟩
    refine wI_inv (fun u ρ m' => ∃ z5 z6 z7 R, ρ = [.is d, .is (.bl left), .is (.int n), .is (.ref m1.length), .is (.int i), z5, z6, z7, .un] ∧ Tbl m' m1.length n m.length ra R ∧ RSd (tri pts left) n R (fun a b => n ≤ a + t ∨ (a = i ∧ b < i + 1 + u)) ∧ Gx m m' ∧ m'.length = X.length) ?_ ?_ ?_
    · refine ⟨_, _, _, _, rfl, T2, fun a b h1 h2 h3 => ?_, g2, l2⟩
      rcases h1 with h1 | ⟨h1, h4⟩
      · exact r2 a b h1 h2 h3
      · omega
    · rintro u ρ m3 hu ⟨z5, z6, z7, R, rfl, T3, r3, g3, l3⟩ I2 hI2
      have hu : u < ((n : Int) - ((i : Int) + 1)).toNat := hu
      obtain ⟨j, hj, hju⟩ : ∃ j : Nat, j < n ∧ i + 1 + u = j := ⟨i + 1 + u, by omega, rfl⟩
      have hju2 : (i : Int) + 1 + (u : Int) = (j : Int) := by omega
      refine ⟨.int j, by simp [itRg, hju2], ?_⟩
      simp
      refine ⟨by omega, ?_⟩
      refine wI_inv (fun v ρ m' => ∃ z7, ∃ best : Nat, ρ = [.is d, .is (.bl left), .is (.int n), .is (.ref m1.length), .is (.int i), .is (.int j), .is (.int best), z7, .un] ∧ m' = m3 ∧ At (tri pts left) n R i j best (j + 1 + v)) ?_ ?_ ?_
      · exact ⟨_, 2, rfl, rfl, At.zero⟩
      · rintro v ρ m4 hv ⟨z7, best, rfl, rfl, ab⟩ I3 hI3
        have hv : v < ((n : Int) - ((j : Int) + 1)).toNat := hv
        obtain ⟨k, hk, hkv⟩ : ∃ k : Nat, k < n ∧ j + 1 + v = k := ⟨j + 1 + v, by omega, rfl⟩
        have hkv2 : (j : Int) + 1 + (v : Int) = (k : Int) := by omega
        refine ⟨.int k, by simp [itRg, hkv2], ?_⟩
        have ab : At (tri pts left) n R i j best k := hkv ▸ ab
        have s4 := ab.step (by omega) hk
        have e1 : j + 1 + (v + 1) = k + 1 := by omega
        rw [e1] at hI3
        simp [T3.e, hj, T3.row j hj, rowD_at hk]
        by_cases c1 : best ≤ R j k
        · simp [c1]
          rw [bends_w (P.gx g3) (by omega) (by omega) (by omega)]
          cases c2 : tri pts left i j k with
          | true =>
            simp [T3.e, hj, T3.row j hj, rowD_at hk]
            simp [c1, c2] at s4
            exact hI3 _ _ ⟨_, R j k + 1, rfl, rfl, s4⟩
          | false =>
            simp
            simp [c1, c2] at s4
            exact hI3 _ _ ⟨_, best, rfl, rfl, s4⟩
        · simp [c1]
          simp [c1] at s4
          exact hI3 _ _ ⟨_, best, rfl, rfl, s4⟩
      · rintro ρ m4 ⟨z7, best, rfl, rfl, ab⟩
        refine ⟨rfl, ?_⟩
        have ab : At (tri pts left) n R i j best n := by
          have e : j + 1 + (itRg ((j : Int) + 1) ((n : Int) - ((j : Int) + 1)).toNat).n = n := by
            show j + 1 + ((n : Int) - ((j : Int) + 1)).toNat = n
            omega
          rwa [e] at ab
        simp [T3.e, hi, T3.row i hi, rowD_len, hj, ixN_cast]
        refine hI2 _ _ ⟨_, _, _, _, rfl, T3.set hi hj, RSd.set r3 (by omega) (fun a b h1 h2 => ⟨by omega, by omega⟩) ab (fun a b h1 h2 => by omega), gx_setN g3 (T3.lt i hi).2, by rw [List.length_set]; exact l3⟩
    · rintro ρ m3 ⟨z5, z6, z7, R, rfl, T3, r3, g3, l3⟩
      refine ⟨rfl, hI _ _ ⟨_, _, _, _, _, rfl, T3, fun a b h1 h2 h3 => r3 a b ?_ h2 h3, g3, l3⟩⟩
      by_cases e : a = i
      · refine .inr ⟨e, ?_⟩
        show b < i + 1 + ((n : Int) - ((i : Int) + 1)).toNat
        omega
      · exact .inl (by omega)
  · rintro ρ m2 ⟨z4, z5, z6, z7, R, rfl, T2, r2, g2, l2⟩
    refine ⟨rfl, ?_⟩
    simp
    exact q _ ra R m2 T2 (r2.rs fun i j h1 h2 => by show n ≤ i + n; omega) g2 (by omega)
end
end Ours
namespace Ours
open PySem PySem.Spec PyProof.Rows L2 Mi
open Builtin.Int
theorem IsAn.congr {T : Nat → Nat → Nat → Bool} {R R' : Nat → Nat → Nat} {n many : Nat} (e : ∀ i j, i < j → j < n → R i j = R' i j) {o : Option (List Nat)} (h : IsAn T R n many o) : IsAn T R' n many o := by
  cases o with
  | none => exact fun i j h1 h2 => by rw [← e i j h1 h2]; exact h i j h1 h2
  | some l =>
    obtain ⟨i, j, r, rfl, s, x, hl⟩ := h
    exact ⟨i, j, r, rfl, IsSt.congr e s, IsX.congr e s.2.1 x, hl⟩
/-- the answer, whatever the table -/
def An (T : Nat → Nat → Nat → Bool) (n many : Nat) (o : Option (List Nat)) : Prop := ∀ R, RS T n R → IsAn T R n many o
theorem An.of {T : Nat → Nat → Nat → Bool} {n many : Nat} {R : Nat → Nat → Nat} {o : Option (List Nat)} (hR : RS T n R) (h : IsAn T R n many o) : An T n many o := fun R' hR' => h.congr fun i j h1 h2 => RS.uniq hR hR' (n - j) i j (Nat.le_refl _) h1 h2
theorem An.big {T : Nat → Nat → Nat → Bool} {n many : Nat} (h : n < many) : An T n many none := fun R hR i j h1 h2 => by
  have := hR.bd (n - j) i j (Nat.le_refl _) h1 h2
  omega
abbrev dNs (l : List Nat) : List Mi.D := l.map fun (x : Nat) => .int (x : Int)
theorem atI_m1 {xs : List Mi.D} {y : Mi.D} : atI (xs ++ [y]) (-1) = some y := by
  unfold atI ixN
  have h1 : (1 : Int) ≤ (xs.length : Int) + 1 := by omega
  have h2 : (-1 + ((xs.length : Int) + 1)).toNat = xs.length := by omega
  simp [h1, h2]
theorem atI_m2 {xs : List Mi.D} {x y : Mi.D} : atI (xs ++ [x, y]) (-2) = some x := by
  unfold atI ixN
  have h1 : (2 : Int) ≤ (xs.length : Int) + 2 := by omega
  have h2 : (-2 + ((xs.length : Int) + 2)).toNat = xs.length := by omega
  simp [h1, h2]
section
variable {m : Hm} {Q : Rs Mi.D → Prop} {d : Mi.D} {pts : List (Int × Int)} {left : Bool} {r n lo many : Nat} {ra : Nat → Nat} {R : Nat → Nat → Nat}
theorem start_w (T : Tbl m r n lo ra R) (hn : n ≤ 100) (q1 : IsSt R n many none → Q (.ok .non m)) (q2 : ∀ i j : Nat, IsSt R n many (some (i, j)) → Q (.ok (.ref m.length) (m ++ [.lst [.int i, .int j]]))) : wF f_p_least_start [.ref r, .int many] m Q := by
  unfold f_p_least_start m_p_least_start
  rw [wF_run]
  simp [slots, T.e]
  refine ⟨by omega, ?_⟩
  refine wI_inv (fun i ρ m' => m' = m ∧ (∃ z3 z4, ρ = [.is (.ref r), .is (.int many), .is (.int n), z3, z4]) ∧ ∀ a b, a < i → a < b → b < n → R a b < many) ⟨rfl, ⟨_, _, rfl⟩, fun a b h => by omega⟩ ?_ ?_
  · rintro i ρ m' hi ⟨rfl, ⟨z3, z4, rfl⟩, hlt⟩ I hI
    have hi : i < n := hi
    refine ⟨_, rfl, ?_⟩
    simp
    refine ⟨by omega, ?_⟩
    refine wI_inv (fun u ρ m2 => m2 = m' ∧ (∃ z4, ρ = [.is (.ref r), .is (.int many), .is (.int n), .is (.int i), z4]) ∧ ∀ b, i < b → b < i + 1 + u → b < n → R i b < many) ⟨rfl, ⟨_, rfl⟩, fun b h1 h2 => by omega⟩ ?_ ?_
    · rintro u ρ m2 hu ⟨rfl, ⟨z4, rfl⟩, hlt2⟩ I2 hI2
      have hu : u < ((n : Int) - ((i : Int) + 1)).toNat := hu
      obtain ⟨j, hj, hju⟩ : ∃ j : Nat, j < n ∧ i + 1 + u = j := ⟨i + 1 + u, by omega, rfl⟩
      have hju2 : (i : Int) + 1 + (u : Int) = (j : Int) := by omega
      refine ⟨.int j, by simp [itRg, hju2], ?_⟩
      simp [T.e, hi, T.row i hi, rowD_at hj]
      by_cases c : many ≤ R i j
      · simp [c]
        refine q2 i j ⟨by omega, hj, c, fun a b h1 h2 h3 => ?_⟩
        rcases h3 with h3 | ⟨rfl, h3⟩
        · exact hlt a b h3 h1 h2
        · exact hlt2 b h1 (by omega) h2
      · simp [c]
        refine hI2 _ _ ⟨rfl, ⟨_, rfl⟩, fun b h1 h2 h3 => ?_⟩
        by_cases e : b = j
        · subst e; omega
        · exact hlt2 b h1 (by omega) h3
    · rintro ρ m2 ⟨rfl, ⟨z4, rfl⟩, hlt2⟩
      refine ⟨rfl, hI _ _ ⟨rfl, ⟨_, _, rfl⟩, fun a b h1 h2 h3 => ?_⟩⟩
      by_cases e : a = i
      · subst e
        refine hlt2 b h2 ?_ h3
        show b < a + 1 + ((n : Int) - ((a : Int) + 1)).toNat
        omega
      · exact hlt a b (by omega) h2 h3
  · rintro ρ m' ⟨rfl, ⟨z3, z4, rfl⟩, hlt⟩
    refine ⟨rfl, ?_⟩
    simp
    exact q1 fun a b h1 h2 => hlt a b (by show a < n; omega) h1 h2
/-- a run under way -/
structure Ud (T : Nat → Nat → Nat → Bool) (R : Nat → Nat → Nat) (n many i0 j0 k : Nat) (l pre : List Nat) (a b : Nat) : Prop where
  l0 : i0 :: j0 :: l = pre ++ [a, b]
  le : l.length + 2 ≤ many
  bk : b < k
  ab : a < b
  bn : b < n
  cont : ∀ l1, IsX T R n (many - 1 - l.length) a b l1 → IsX T R n (many - 1) i0 j0 (l ++ l1)
  big : many ≤ R a b + l.length
  no : ∀ x, b < x → x < k → ¬ (many - 1 - l.length ≤ R b x ∧ T a b x = true)
theorem Ud.go {T : Nat → Nat → Nat → Bool} {R : Nat → Nat → Nat} {n many i0 j0 k : Nat} {l pre : List Nat} {a b : Nat} (h : Ud T R n many i0 j0 k l pre a b) (hk : k < n) (hl : l.length + 2 < many) (h1 : many - 1 - l.length ≤ R b k) (h2 : T a b k = true) : Ud T R n many i0 j0 (k + 1) (l ++ [k]) (pre ++ [a]) b k := by
  refine ⟨?_, by simp; omega, by omega, h.bk, hk, fun l1 hx => ?_, ?_, fun x q1 q2 => by omega⟩
  · have := h.l0
    have e : i0 :: j0 :: (l ++ [k]) = (i0 :: j0 :: l) ++ [k] := rfl
    rw [e, this]; simp
  · have := h.cont (k :: l1) ⟨h.bk, hk, h2, h1, h.no, ?_⟩
    · rw [List.append_assoc]; exact this
    · have e : many - 1 - l.length - 1 = many - 1 - (l ++ [k]).length := by simp; omega
      rw [e]; exact hx
  · simp; omega
theorem Ud.skip {T : Nat → Nat → Nat → Bool} {R : Nat → Nat → Nat} {n many i0 j0 k : Nat} {l pre : List Nat} {a b : Nat} (h : Ud T R n many i0 j0 k l pre a b) (h1 : ¬ (many - 1 - l.length ≤ R b k ∧ T a b k = true)) : Ud T R n many i0 j0 (k + 1) l pre a b :=
  ⟨h.l0, h.le, by have := h.bk; omega, h.ab, h.bn, h.cont, h.big, fun x q1 q2 => by
    by_cases e : x = k
    · subst e; exact h1
    · exact h.no x q1 (by omega)⟩
theorem Ud.done {T : Nat → Nat → Nat → Bool} {R : Nat → Nat → Nat} {n many i0 j0 : Nat} {l pre : List Nat} {a b : Nat} (hR : RS T n R) (h : Ud T R n many i0 j0 n l pre a b) : l.length + 2 = many := by
  have := h.le
  by_cases c : l.length + 2 = many
  · exact c
  · exfalso
    obtain ⟨k, h1, h2, h3, h4⟩ := hR.ex a b h.ab h.bn (by have := h.big; omega)
    exact h.no k h1 h2 ⟨by have := h.big; omega, h3⟩
/-- what least_bent tells -/
def AnD (m0 m : Hm) (v : Mi.D) : Option (List Nat) → Prop
  | none => v = .non
  | some l => ∃ a : Nat, v = .ref a ∧ m[a]? = some (.lst (dNs l)) ∧ m0.length ≤ a
theorem least_w (P : Pts m d pts) (hl : pts.length ≤ 100) (h3 : 3 ≤ many) (hm : many ≤ 1000) (q : ∀ v m' o, AnD m m' v o → An (tri pts left) pts.length many o → Gx m m' → Q (.ok v m')) : wF f_p_least_bent [d, .bl left, .int many] m Q := by
  unfold f_p_least_bent m_p_least_bent
  rw [wF_run]
  obtain ⟨ds, S, hds, _⟩ := P.ex
  generalize hn : pts.length = n at *
  simp [slots, S.len, hds]
  by_cases c1 : n < many
  · simp [c1]
    exact q _ m none rfl (An.big c1) (Gx.refl m)
  simp [c1]
  refine reach_w P (by omega) fun r ra R m1 T1 hR g1 hr => ?_
  rw [hn] at T1 hR
  simp
  refine start_w T1 (by omega) (fun hs => ?_) fun i j hs => ?_
  · simp
    exact q _ m1 none rfl (An.of hR hs) g1
  · simp [((S.gx g1).gx Gx.app).len, hds]
    obtain ⟨s1, s2, s3, s4⟩ := hs
    refine ⟨by omega, ?_⟩
    have g1' : Gx m (m1 ++ [O.lst [.int i, .int j]]) := g1.trans Gx.app
    have T1' := T1.gx (Gx.app (t := [O.lst [.int i, .int j]]))
    have hm1 := g1.len
    have fin : ∀ (m' : Hm) (k : Nat) (l pre : List Nat) (a b : Nat), m'[m1.length]? = some (.lst (dNs (pre ++ [a, b]))) → Ud (tri pts left) R n many i j k l pre a b → l.length + 2 = many → Gx m m' → Q (.ok (.ref m1.length) m') := fun m' k l pre a b e2 u hlm g => by
      refine q _ m' (some (i :: j :: l)) ⟨m1.length, rfl, by rw [u.l0]; exact e2, hm1⟩ (An.of hR ⟨i, j, l, rfl, ⟨s1, s2, s3, s4⟩, ?_, hlm⟩) g
      have := u.cont [] trivial
      simpa using this
    refine wI_inv (fun t ρ m' => ∃ l pre a b z5 z6, ρ = [.is d, .is (.bl left), .is (.int many), .is (.ref r), .is (.ref m1.length), z5, z6] ∧ m'[m1.length]? = some (.lst (dNs (pre ++ [a, b]))) ∧ Ud (tri pts left) R n many i j (j + 1 + t) l pre a b ∧ Tbl m' r n m.length ra R ∧ Gx m m') ?_ ?_ ?_
    · refine ⟨[], [], i, j, _, _, rfl, by simp, ⟨rfl, by simp; omega, by omega, s1, s2, fun l1 hx => by simpa using hx, by simpa using s3, fun x q1 q2 => by omega⟩, T1', g1'⟩
    · rintro t ρ m2 ht ⟨l, pre, a, b, z5, z6, rfl, e2, u2, T2, g2⟩ I hI
      have ht : t < ((n : Int) - ((j : Int) + 1)).toNat := ht
      obtain ⟨k, hk, hkt⟩ : ∃ k : Nat, k < n ∧ j + 1 + t = k := ⟨j + 1 + t, by omega, rfl⟩
      have hkt2 : (j : Int) + 1 + (t : Int) = (k : Int) := by omega
      have e1 : j + 1 + (t + 1) = k + 1 := by omega
      rw [e1] at hI
      rw [hkt] at u2
      have hlen : pre.length = l.length := by
        have := congrArg List.length u2.l0
        simp at this
        omega
      refine ⟨.int k, by simp [itRg, hkt2], ?_⟩
      simp [e2]
      by_cases c2 : l.length + 2 = many
      · have c3 : (pre.length : Int) + 2 = (many : Int) := by omega
        simp [c3]
        exact fin m2 k l pre a b e2 u2 c2 g2
      · have c3 : ¬ (pre.length : Int) + 2 = (many : Int) := by omega
        have hle := u2.le
        have x1 : atI (dNs (pre ++ [a, b])) (-1) = some (.int b) := by
          have : dNs (pre ++ [a, b]) = dNs (pre ++ [a]) ++ [.int b] := by simp
          rw [this]; exact atI_m1
        have x2 : atI (dNs (pre ++ [a, b])) (-2) = some (.int a) := by
          have : dNs (pre ++ [a, b]) = dNs pre ++ [.int a, .int b] := by simp
          rw [this]; exact atI_m2
        have hb := u2.bn
        have hab := u2.ab
        generalize hW : dNs (pre ++ [a, b]) = W at *
        have hWl : W.length = pre.length + 2 := by rw [← hW]; simp
        simp [c3, e2, x1, T2.e, hb, T2.row b hb, rowD_at hk, hWl]
        by_cases c4 : many - 1 - l.length ≤ R b k
        · have c5 : (many : Int) - ((pre.length : Int) + 2) < (R b k : Int) := by omega
          simp [c5, e2, x2]
          rw [bends_w (P.gx g2) (by omega) (by omega) (by omega)]
          cases c6 : tri pts left a b k with
          | true =>
            simp [e2, sizeLine_eq, hWl]
            refine ⟨by omega, hI _ _ ⟨l ++ [k], pre ++ [a], b, k, _, _, rfl, ?_, u2.go hk (by omega) c4 c6, ?_, gx_setN g2 hm1⟩⟩
            · rw [get_set e2, ← hW]; simp
            · refine ⟨by rw [get_set_ne (by omega)]; exact T2.e, T2.inj, T2.lt, fun x hx => ?_⟩
              rw [get_set_ne (by have := T2.lt x hx; omega)]
              exact T2.row x hx
          | false =>
            simp
            refine hI _ _ ⟨l, pre, a, b, _, _, rfl, by rw [hW]; exact e2, u2.skip (by simp [c6]), T2, g2⟩
        · have c5 : ¬ (many : Int) - ((pre.length : Int) + 2) < (R b k : Int) := by omega
          simp [c5]
          refine hI _ _ ⟨l, pre, a, b, _, _, rfl, by rw [hW]; exact e2, u2.skip (fun z => c4 z.1), T2, g2⟩
    · rintro ρ m2 ⟨l, pre, a, b, z5, z6, rfl, e2, u2, T2, g2⟩
      refine ⟨rfl, ?_⟩
      have e : j + 1 + (itRg ((j : Int) + 1) ((n : Int) - ((j : Int) + 1)).toNat).n = n := by
        show j + 1 + ((n : Int) - ((j : Int) + 1)).toNat = n
        omega
      rw [e] at u2
      simp
      exact fin m2 n l pre a b e2 u2 (u2.done hR) g2
end
end Ours
namespace Ours
open PySem PySem.Spec PyProof.Rows L2 Mi
open Builtin.Int
abbrev pNs (l : List Nat) : List Pd := l.map fun (x : Nat) => .int (x : Int)
theorem reps_ns {A : Nat → Prop} {m : Hm} : ∀ l : List Nat, Reps A m (dNs l) (pNs l)
  | [] => .nil
  | x :: l => .cons (.int _) (reps_ns l)
def isW : Pd → Bool
  | .int x => decide (1 ≤ x) && decide (x ≤ 200)
  | _ => false
/-- what cup_or_cap tells -/
def CC (pts : List (Int × Int)) (a b : Nat) : Option (Nat × List Nat) → Prop
  | some (0, l) => An (tri pts true) pts.length (a + 2) (some l)
  | some (1, l) => An (tri pts true) pts.length (a + 2) none ∧ An (tri pts false) pts.length (b + 2) (some l)
  | some _ => False
  | none => An (tri pts true) pts.length (a + 2) none ∧ An (tri pts false) pts.length (b + 2) none
def CD (m0 m : Hm) (v : Mi.D) : Option (Nat × List Nat) → Prop
  | none => v = .non
  | some (h, l) => ∃ a : Nat, v = .tup [.int h, .ref a] ∧ m[a]? = some (.lst (dNs l)) ∧ m0.length ≤ a
section
variable {m : Hm} {Q : Rs Mi.D → Prop} {A B C : Nat → Prop} {d e f : Mi.D} {p pa pb : Pd} {ps : List Pd} {pts : List (Int × Int)} {a b : Nat} {kd : Nat}
theorem within_w (r : Rep A m d p) : wF f_p_is_integer_within [d, .int 1, .int 200] m Q = Q (.ok (.bl (isW p)) m) := by
  unfold f_p_is_integer_within m_p_is_integer_within
  rw [wF_run]
  simp [slots]
  rw [is_int_w r]
  cases r <;> simp [isI, isW]
  rename_i x
  by_cases c : 1 ≤ x <;> simp [c]
theorem isW_nat (h1 : 1 ≤ a) (h2 : a ≤ 200) : isW (.int a) = true := by simp [isW]; omega
theorem cc_ok (r : Rep A m d p) (sp : seqP p = some ps) (g : Gp ps pts) (hl : pts.length ≤ 23) (a1 : 1 ≤ a) (a2 : a ≤ 200) (b1 : 1 ≤ b) (b2 : b ≤ 200) (q : ∀ v m' o, CD m m' v o → CC pts a b o → Gx m m' → Q (.ok v m')) : wF f_p_cup_or_cap [d, .int a, .int b] m Q := by
  unfold f_p_cup_or_cap m_p_cup_or_cap
  rw [wF_run]
  have hps := g.len
  have P := gp_pts r sp g
  simp [slots]
  refine check_ok r sp g (by omega) ?_
  simp
  rw [within_w (A := fun _ => True) (.int (a : Int)), isW_nat a1 a2]
  simp
  rw [within_w (A := fun _ => True) (.int (b : Int)), isW_nat b1 b2]
  obtain ⟨ds, S, hds, _⟩ := P.ex
  have c1 : ¬ (23 : Int) < (ds.length : Int) := by omega
  simp [S.len, c1]
  have ea : (a : Int) + 2 = ((a + 2 : Nat) : Int) := by omega
  have eb : (b : Int) + 2 = ((b + 2 : Nat) : Int) := by omega
  rw [ea]
  refine least_w P (by omega) (by omega) (by omega) fun v m1 o hv ho g1 => ?_
  cases o with
  | some l =>
    obtain ⟨x, rfl, ex, hx⟩ := hv
    simp [Mi.isNon]
    exact q _ m1 (some (0, l)) ⟨x, rfl, ex, hx⟩ ho g1
  | none =>
    have hv : v = .non := hv
    subst hv
    simp [Mi.isNon]
    rw [eb]
    refine least_w (P.gx g1) (by omega) (by omega) (by omega) fun v m2 o hv ho2 g2 => ?_
    cases o with
    | some l =>
      obtain ⟨x, rfl, ex, hx⟩ := hv
      simp [Mi.isNon]
      exact q _ m2 (some (1, l)) ⟨x, rfl, ex, by have := g1.len; omega⟩ ⟨ho, ho2⟩ (g1.trans g2)
    | none =>
      have hv : v = .non := hv
      subst hv
      simp [Mi.isNon]
      exact q _ m2 none rfl ⟨ho, ho2⟩ (g1.trans g2)
theorem cc_many (r : Rep A m d p) (sp : seqP p = some ps) (g : Gp ps pts) (hl : 23 < pts.length) (hl2 : pts.length ≤ 200) (a1 : 1 ≤ a) (a2 : a ≤ 200) (b1 : 1 ≤ b) (b2 : b ≤ 200) (q : Q (.ex ⟨4, [.int 2000]⟩ m)) : wF f_p_cup_or_cap [d, .int a, .int b] m Q := by
  unfold f_p_cup_or_cap m_p_cup_or_cap
  rw [wF_run]
  have hps := g.len
  have P := gp_pts r sp g
  simp [slots]
  refine check_ok r sp g (by omega) ?_
  simp
  rw [within_w (A := fun _ => True) (.int (a : Int)), isW_nat a1 a2]
  simp
  rw [within_w (A := fun _ => True) (.int (b : Int)), isW_nat b1 b2]
  obtain ⟨ds, S, hds, _⟩ := P.ex
  have c1 : (23 : Int) < (ds.length : Int) := by omega
  simp [S.len, c1]
  exact q
theorem cc_num (r : Rep A m d p) (sp : seqP p = some ps) (g : Gp ps pts) (hl2 : pts.length ≤ 200) (ra : Rep B m e pa) (rb : Rep C m f pb) (h : isW pa = false ∨ isW pb = false) (q : Q (.ex ⟨1, []⟩ m)) : wF f_p_cup_or_cap [d, e, f] m Q := by
  unfold f_p_cup_or_cap m_p_cup_or_cap
  rw [wF_run]
  have hps := g.len
  simp [slots]
  refine check_ok r sp g (by omega) ?_
  simp
  rw [within_w ra]
  cases c1 : isW pa with
  | false => simp; exact q
  | true =>
    simp
    rw [within_w rb]
    cases c2 : isW pb with
    | false => simp; exact q
    | true => simp [c1, c2] at h
theorem cc_bad {k : Nat} {px : Pd} (r : Rep A m d p) (sp : seqP p = some ps) (g : Gk ps pts k) (hl : ps.length ≤ 200) (hx : ps[k]? = some px) (hd : dle kd px) (hb : BadAt pts k px) (q : Q (.ex ⟨3, [.int k]⟩ m)) : wF f_p_cup_or_cap [d, e, f] m Q := by
  unfold f_p_cup_or_cap m_p_cup_or_cap
  rw [wF_run]
  simp [slots]
  refine check_bad r sp g hl hx hd hb ?_
  simp
  exact q
theorem cc_none (r : Rep A m d p) (h : seqP p = none ∨ ∃ ps, seqP p = some ps ∧ 200 < ps.length) (q : Q (.ex ⟨3, [.non]⟩ m)) : wF f_p_cup_or_cap [d, e, f] m Q := by
  unfold f_p_cup_or_cap m_p_cup_or_cap
  rw [wF_run]
  simp [slots]
  refine check_none r h ?_
  simp
  exact q
/-! ### ask -/
theorem ask_ok (hw : ∀ Q' : Rs Mi.D → Prop, (∀ v m' o, CD m m' v o → CC pts a b o → Gx m m' → Q' (.ok v m')) → wF f_p_cup_or_cap [d, e, f] m Q') (q : ∀ v m' o x, CD m m' v o → CC pts a b o → Gx m m' → m'[x]? = some (.lst [.str "told", v]) → m.length ≤ x → Q (.ok (.ref x) m')) : wF f_law_ask [d, e, f] m Q := by
  unfold f_law_ask m_law_ask
  rw [wF_run]
  simp [slots]
  refine hw _ fun v m1 o hv ho g1 => ?_
  simp
  refine q v _ o m1.length ?_ ho (g1.trans Gx.app) (by simp) g1.len
  cases o with
  | none => exact hv
  | some p =>
    obtain ⟨x, h1, h2, h3⟩ := hv
    exact ⟨x, h1, get_app h2, h3⟩
theorem ask_num (hw : ∀ Q' : Rs Mi.D → Prop, Q' (.ex ⟨1, []⟩ m) → wF f_p_cup_or_cap [d, e, f] m Q') (q : Q (.ok (.ref m.length) (m ++ [.lst [.str "BadNumber"]]))) : wF f_law_ask [d, e, f] m Q := by
  unfold f_law_ask m_law_ask
  rw [wF_run]
  simp [slots]
  refine hw _ ?_
  simp
  rw [hnK_miss (by rfl), hnK_hit (by rfl)]
  simp [enter]
  exact q
theorem ask_many (hw : ∀ Q' : Rs Mi.D → Prop, Q' (.ex ⟨4, [.int 2000]⟩ m) → wF f_p_cup_or_cap [d, e, f] m Q') (q : Q (.ok (.ref m.length) (m ++ [.lst [.str "TooMany", .int 2000]]))) : wF f_law_ask [d, e, f] m Q := by
  unfold f_law_ask m_law_ask
  rw [wF_run]
  have ti : ∀ (c : Nat) (p : Nat → Bool), isa (.exc c) (.exc p) = p c := fun _ _ => rfl
  simp [slots]
  refine hw _ ?_
  simp
  rw [hnK_miss (by rfl), hnK_miss (by rfl), hnK_hit (by rfl)]
  simp [enter, ti]
  exact q
theorem ask_bad (hw : ∀ Q' : Rs Mi.D → Prop, Q' (.ex ⟨3, [f]⟩ m) → wF f_p_cup_or_cap [d, e, b'] m Q') (q : Q (.ok (.ref m.length) (m ++ [.lst [.str "BadPoints", f]]))) : wF f_law_ask [d, e, b'] m Q := by
  unfold f_law_ask m_law_ask
  rw [wF_run]
  have ti : ∀ (c : Nat) (p : Nat → Bool), isa (.exc c) (.exc p) = p c := fun _ _ => rfl
  simp [slots]
  refine hw _ ?_
  simp
  rw [hnK_miss (by rfl), hnK_miss (by rfl), hnK_miss (by rfl), hnK_hit (by rfl)]
  simp [enter, ti]
  exact q
/-! ### the judges -/
theorem ind_w {l : List Nat} {n t : Nat} (e : m[t]? = some (.lst (dNs l))) (hp : l.Pairwise (· < ·)) (hn : ∀ x ∈ l, x < n) (q : Q (.ok (.bl true) m)) : wF f_p_are_indices [.ref t, .int n] m Q := by
  unfold f_p_are_indices m_p_are_indices
  rw [wF_run]
  simp [slots]
  rw [is_seq_w (A := fun _ => True) (p := .lst (pNs l)) (.lst trivial e (reps_ns l))]
  · simp [seqP, e]
    refine wI_inv (fun i ρ m' => m' = m ∧ ∃ z3, ∃ last : Int, ρ = [.is (.ref t), .is (.int n), .is (.int last), z3] ∧ ∀ x y, i ≤ x → l[x]? = some y → last < y) ⟨rfl, _, -1, rfl, fun x y _ _ => by omega⟩ ?_ ?_
    · rintro i ρ m' hi ⟨rfl, z3, last, rfl, hlt⟩ I hI
      have hi : i < l.length := hi
      obtain ⟨y, hy⟩ : ∃ y, l[i]? = some y := ⟨_, List.getElem?_eq_getElem hi⟩
      refine ⟨.int y, by rw [itLst_at e (by simp)]; simp [hy], ?_⟩
      have hyn := hn y (List.mem_of_getElem? hy)
      have hly := hlt i y (Nat.le_refl _) hy
      simp
      rw [is_int_w (A := fun _ => True) (.int (y : Int))]
      have c1 : (y : Int) < (n : Int) := by omega
      simp [isI, hly, c1, hyn]
      refine hI _ _ ⟨rfl, _, _, rfl, fun x z hx hz => ?_⟩
      have hxl := (List.getElem?_eq_some_iff.mp hz)
      obtain ⟨hx1, hx2⟩ := hxl
      have hil := List.getElem?_eq_some_iff.mp hy
      obtain ⟨hi1, hi2⟩ := hil
      have := List.pairwise_iff_getElem.mp hp i x hi1 hx1 (by omega)
      rw [hi2, hx2] at this
      omega
    · rintro ρ m' ⟨rfl, z3, last, rfl, _⟩
      refine ⟨itLst_fin e (by simp), ?_⟩
      simp
      exact q
theorem Tri.get {T : Nat → Nat → Nat → Bool} : ∀ {l : List Nat} {i x y z : Nat}, Tri T l → l[i]? = some x → l[i + 1]? = some y → l[i + 2]? = some z → T x y z = true
  | a :: b :: c :: l, 0, x, y, z, h, h1, h2, h3 => by
    simp at h1 h2 h3
    subst h1; subst h2; subst h3
    exact h.1
  | a :: b :: c :: l, i + 1, x, y, z, h, h1, h2, h3 => Tri.get h.2 (by simpa using h1) (by simpa using h2) (by simpa using h3)
  | [], i, x, y, z, h, h1, h2, h3 => by simp at h1
  | [a], i, x, y, z, h, h1, h2, h3 => by simp at h2
  | [a, b], i, x, y, z, h, h1, h2, h3 => by simp at h3
theorem bent_w {l : List Nat} {t : Nat} {left : Bool} (r : Rep A m d p) (sp : seqP p = some ps) (g : Gp ps pts) (hl : pts.length ≤ 200) (e : m[t]? = some (.lst (dNs l))) (hp : l.Pairwise (· < ·)) (hn : ∀ x ∈ l, x < pts.length)
    (q : ∀ k : Bool, (Tri (tri pts left) l → k = true) → Q (.ok (.bl k) m)) : wF f_p_is_bent [d, .ref t, .bl left] m Q := by
  unfold f_p_is_bent m_p_is_bent
  rw [wF_run]
  have hps := g.len
  have P := gp_pts r sp g
  obtain ⟨ds, S, hds, _⟩ := P.ex
  simp [slots]
  refine check_ok r sp g (by omega) ?_
  simp [S.len, hds]
  refine ind_w e hp hn ?_
  simp [e]
  have hll : l.length ≤ 200 := by
    have key : ∀ (l : List Nat) (lo : Nat), l.Pairwise (· < ·) → (∀ x ∈ l, lo ≤ x ∧ x < pts.length) → l.length + lo ≤ pts.length ∨ l = [] := by
      intro l
      induction l with
      | nil => intro lo _ _; exact .inr rfl
      | cons x l ih =>
        intro lo hp hn
        have hp2 := List.pairwise_cons.mp hp
        have hx := hn x (by simp)
        rcases ih (x + 1) hp2.2 (fun y hy => ⟨hp2.1 y hy, (hn y (by simp [hy])).2⟩) with h | h
        · left; simp; omega
        · left; subst h; simp; omega
    rcases key l 0 hp (fun x hx => ⟨by omega, hn x hx⟩) with h | h
    · omega
    · subst h; simp
  refine ⟨by omega, ?_⟩
  refine wI_inv (fun i ρ m' => m' = m ∧ ∃ z3, ρ = [.is d, .is (.ref t), .is (.bl left), z3]) ⟨rfl, _, rfl⟩ ?_ ?_
  · rintro i ρ m' hi ⟨rfl, z3, rfl⟩ I hI
    have hi : i < ((l.length : Int) - 2).toNat := hi
    have hi2 : i + 2 < l.length := by omega
    obtain ⟨x, hx⟩ : ∃ y, l[i]? = some y := ⟨_, List.getElem?_eq_getElem (by omega)⟩
    obtain ⟨y, hy⟩ : ∃ y, l[i + 1]? = some y := ⟨_, List.getElem?_eq_getElem (by omega)⟩
    obtain ⟨z, hz⟩ : ∃ y, l[i + 2]? = some y := ⟨_, List.getElem?_eq_getElem hi2⟩
    refine ⟨_, rfl, ?_⟩
    have a1 : atI (dNs l) ((i : Int) + 1) = some (.int y) := by
      have := atI_cast (xs := dNs l) (k := i + 1)
      simpa [hy] using this
    have a2 : atI (dNs l) ((i : Int) + 2) = some (.int z) := by
      have := atI_cast (xs := dNs l) (k := i + 2)
      simpa [hz] using this
    have a0 : (dNs l)[i]? = some (.int x) := by simp [hx]
    generalize dNs l = W at *
    simp [e, a0, a1, a2]
    rw [bends_w P (hn x (List.mem_of_getElem? hx)) (hn y (List.mem_of_getElem? hy)) (hn z (List.mem_of_getElem? hz))]
    cases c : tri pts left x y z with
    | true => simp; exact hI _ _ ⟨rfl, _, rfl⟩
    | false =>
      simp
      refine q false fun ht => ?_
      have := ht.get hx hy hz
      rw [c] at this
      exact this
  · rintro ρ m' ⟨rfl, z3, rfl⟩
    refine ⟨rfl, ?_⟩
    simp
    exact q true fun _ => rfl
end
end Ours
namespace Ours
open PySem PySem.Spec PyProof.Rows L2 Mi
open Builtin.Int
theorem RSd.keep {T : Nat → Nat → Nat → Bool} {n : Nat} {R : Nat → Nat → Nat} {D : Nat → Nat → Prop} (h : RSd T n R D) {i j v : Nat} (hD : ∀ a b, D a b → a < b → ¬ (a = i ∧ b = j) ∧ b ≠ i) : RSd T n (updR R i j v) D := by
  intro a b hab h1 h2
  obtain ⟨e1, e2⟩ := hD a b hab h1
  have := h a b hab h1 h2
  rw [updR_ne e1]
  refine ⟨this.two, fun k k1 k2 k3 => ?_, fun k1 => ?_⟩
  · rw [updR_ne (fun z => e2 z.1)]; exact this.up k k1 k2 k3
  · obtain ⟨k, q1, q2, q3, q4⟩ := this.ex k1
    exact ⟨k, q1, q2, q3, by rw [updR_ne (fun z => e2 z.1)]; exact q4⟩
theorem RSd.add {T : Nat → Nat → Nat → Bool} {n : Nat} {R : Nat → Nat → Nat} {D D' : Nat → Nat → Prop} (h : RSd T n R D) {i j : Nat} (ha : At T n R i j (R i j) n) (hD : ∀ a b, a < b → D' a b → D a b ∨ (a = i ∧ b = j)) : RSd T n R D' := by
  intro a b hab h1 h2
  rcases hD a b h1 hab with h3 | ⟨rfl, rfl⟩
  · exact h a b h3 h1 h2
  · exact ha
theorem At.upd {T : Nat → Nat → Nat → Bool} {n : Nat} {R : Nat → Nat → Nat} {i j v w hi : Nat} (h : At T n R i j v hi) (hij : i < j) : At T n (updR R i j w) i j v hi := by
  refine ⟨h.two, fun k k1 k2 k3 => ?_, fun k1 => ?_⟩
  · rw [updR_ne (by omega)]; exact h.up k k1 k2 k3
  · obtain ⟨k, q1, q2, q3, q4⟩ := h.ex k1
    exact ⟨k, q1, q2, q3, by rw [updR_ne (by omega)]; exact q4⟩
abbrev ptD (pts : List (Int × Int)) : List Mi.D := pts.map fun z => .tup (dPt z)
def InLs (pts : List (Int × Int)) : Prop := ∀ z ∈ pts, InL LIM z
theorem ptD_at {pts : List (Int × Int)} {i : Nat} {z : Int × Int} (h : pts[i]? = some z) : (ptD pts)[i]? = some (.tup (dPt z)) := by simp [h]
section
variable {m : Hm} {Q : Rs Mi.D → Prop} {d d1 d2 d3 : Mi.D} {p q r : Int × Int} {pts : List (Int × Int)} {left : Bool} {t n : Nat}
theorem side_w (s1 : Sq m d1 (dPt p)) (s2 : Sq m d2 (dPt q)) (s3 : Sq m d3 (dPt r)) (h1 : InL LIM p) (h2 : InL LIM q) (h3 : InL LIM r) : wF f_law_side [d1, d2, d3] m Q = Q (.ok (.int ((if 0 < area p q r then 1 else 0) - (if area p q r < 0 then 1 else 0))) m) := by
  obtain ⟨a1, a2, a3, a4⟩ := h1
  obtain ⟨b1, b2, b3, b4⟩ := h2
  obtain ⟨c1, c2, c3, c4⟩ := h3
  unfold f_law_side m_law_side
  rw [wF_run]
  have k1 := bits_df (a := q.1) (b := p.1) (by omega) (by omega) (by omega) (by omega)
  have k2 := bits_df (a := r.2) (b := p.2) (by omega) (by omega) (by omega) (by omega)
  have k3 := bits_df (a := q.2) (b := p.2) (by omega) (by omega) (by omega) (by omega)
  have k4 := bits_df (a := r.1) (b := p.1) (by omega) (by omega) (by omega) (by omega)
  have z1 : intBits (q.1 - p.1) + intBits (r.2 - p.2) ≤ 134217728 := by omega
  have z2 : intBits (q.2 - p.2) + intBits (r.1 - p.1) ≤ 134217728 := by omega
  have ea : (q.1 - p.1) * (r.2 - p.2) - (q.2 - p.2) * (r.1 - p.1) = area p q r := rfl
  simp [slots, s1.ix, s2.ix, s3.ix, z1, z2, ea]
theorem side_pos (a : Int) : ((if a < 0 then (1 : Int) else 0) < (if 0 < a then 1 else 0)) = (0 < a) := by
  refine propext ?_
  by_cases h : 0 < a
  · have : ¬ a < 0 := by omega
    simp [h, this]
  · by_cases h2 : a < 0 <;> simp [h, h2]
/-- the side of three of the points, as the law asks for it -/
theorem side3_w {i j k : Nat} {p q r : Int × Int} (hL : InLs pts) (hp : pts[i]? = some p) (hq : pts[j]? = some q) (hr : pts[k]? = some r) :
    wF f_law_side [.tup (dPt p), .tup (dPt q), .tup (dPt r)] m Q = Q (.ok (.int ((if 0 < area p q r then 1 else 0) - (if area p q r < 0 then 1 else 0))) m) :=
  side_w ⟨.inl rfl⟩ ⟨.inl rfl⟩ ⟨.inl rfl⟩ (hL p (List.mem_of_getElem? hp)) (hL q (List.mem_of_getElem? hq)) (hL r (List.mem_of_getElem? hr))
theorem tri_side {i j k : Nat} {p q r : Int × Int} (hp : pts[i]? = some p) (hq : pts[j]? = some q) (hr : pts[k]? = some r) : tri pts left i j k = (decide (0 < area p q r) == left) := by
  simp [tri, cup, hp, hq, hr]
theorem lreach_w (e : m[t]? = some (.lst (ptD pts))) (hL : InLs pts) (hl : pts.length ≤ 100) (q : ∀ r ra R m', Tbl m' r pts.length m.length ra R → RS (tri pts left) pts.length R → Gx m m' → r < m'.length → Q (.ok (.ref r) m')) : wF f_law_reach [.ref t, .bl left] m Q := by
  unfold f_law_reach m_law_reach
  rw [wF_run]
  generalize hn : pts.length = n at *
  simp [slots, e, hn, wipeM]
  refine twos_comp (n := n) (by simp) (by omega) (fun i m' hi g => ?_) (fun m' g => itLst_fin (g.get _ _ e) (by simp [hn])) (by omega) (by simp) rfl fun ra m1 h1 h2 h3 g1 => ?_
  · obtain ⟨z, hz⟩ : ∃ z, pts[i]? = some z := ⟨_, List.getElem?_eq_getElem (by omega)⟩
    exact ⟨.tup (dPt z), by rw [itLst_at (g.get _ _ e) (by simp [hn])]; simp [hz]⟩
  have T0 : Tbl (m1 ++ [.lst ((List.range n).map fun i => .ref (ra i))]) m1.length n m.length ra (fun _ _ => 2) := ⟨by simp, h1, h2, fun i hi => get_app (h3 i hi)⟩
  simp
  refine ⟨by omega, ?_⟩
  generalize hX : m1 ++ [O.lst ((List.range n).map fun i => Mi.D.ref (ra i))] = X at *
  have gX : Gx m X := by rw [← hX]; exact g1.trans Gx.app
  have hXl : X.length = m1.length + 1 := by rw [← hX]; simp
  refine wI_inv (fun t' ρ m' => ∃ z4 z5 z6 z7 R, ρ = [.is (.ref t), .is (.bl left), .is (.int n), .is (.ref m1.length), z4, z5, z6, z7, .un] ∧ Tbl m' m1.length n m.length ra R ∧ RSd (tri pts left) n R (fun a b => n ≤ b + t') ∧ (∀ a b, b + t' < n → R a b = 2) ∧ Gx m m' ∧ m'.length = X.length) ?_ ?_ ?_
  · exact ⟨_, _, _, _, _, rfl, T0, fun i j h1 h2 h3 => by omega, fun _ _ _ => rfl, gX, rfl⟩
  · rintro t' ρ m2 ht ⟨z4, z5, z6, z7, R, rfl, T2, r2, d2, g2, l2⟩ I hI
    have ht : t' < n := ht
    obtain ⟨j, hj, hjt⟩ : ∃ j : Nat, j < n ∧ (n : Int) - 1 - (t' : Int) = (j : Int) := ⟨n - 1 - t', by omega, by omega⟩
    have hjt2 : j + t' + 1 = n := by omega
    refine ⟨_, rfl, ?_⟩
    simp [hjt]
    refine ⟨by omega, ?_⟩
    refine wI_inv (fun i ρ m' => ∃ z6 z7 R, ρ = [.is (.ref t), .is (.bl left), .is (.int n), .is (.ref m1.length), .is (.int t'), .is (.int j), z6, z7, .un] ∧ Tbl m' m1.length n m.length ra R ∧ RSd (tri pts left) n R (fun a b => n ≤ b + t' ∨ (b = j ∧ a < i)) ∧ (∀ a b, (b + t' < n ∧ ¬ (b = j ∧ a < i)) → R a b = 2) ∧ Gx m m' ∧ m'.length = X.length) ?_ ?_ ?_
    · refine ⟨_, _, _, rfl, T2, fun a b h1 h2 h3 => ?_, fun a b h1 => d2 a b h1.1, g2, l2⟩
      rcases h1 with h1 | ⟨h1, h4⟩
      · exact r2 a b h1 h2 h3
      · omega
    · rintro i ρ m3 hi ⟨z6, z7, R, rfl, T3, r3, d3, g3, l3⟩ I2 hI2
      have hi : i < j := by
        have : i < (j : Int).toNat := hi
        omega
      refine ⟨_, rfl, ?_⟩
      simp
      refine ⟨by omega, ?_⟩
      refine wI_inv (fun v ρ m' => ∃ z7 R, ρ = [.is (.ref t), .is (.bl left), .is (.int n), .is (.ref m1.length), .is (.int t'), .is (.int j), .is (.int i), z7, .un] ∧ Tbl m' m1.length n m.length ra R ∧ RSd (tri pts left) n R (fun a b => n ≤ b + t' ∨ (b = j ∧ a < i)) ∧ (∀ a b, (b + t' < n ∧ ¬ (b = j ∧ a < i + 1)) → R a b = 2) ∧ At (tri pts left) n R i j (R i j) (j + 1 + v) ∧ Gx m m' ∧ m'.length = X.length) ?_ ?_ ?_
      · refine ⟨_, _, rfl, T3, r3, fun a b h => d3 a b (by omega), ?_, g3, l3⟩
        rw [d3 i j (by omega)]
        exact At.zero
      · rintro v ρ m4 hv ⟨z7, R, rfl, T4, r4, d4, ab, g4, l4⟩ I3 hI3
        have hv : v < ((n : Int) - ((j : Int) + 1)).toNat := hv
        obtain ⟨k, hk, hkv⟩ : ∃ k : Nat, k < n ∧ j + 1 + v = k := ⟨j + 1 + v, by omega, rfl⟩
        have hkv2 : (j : Int) + 1 + (v : Int) = (k : Int) := by omega
        refine ⟨.int k, by simp [itRg, hkv2], ?_⟩
        have ab : At (tri pts left) n R i j (R i j) k := hkv ▸ ab
        have s4 := ab.step (by omega) hk
        have e1 : j + 1 + (v + 1) = k + 1 := by omega
        rw [e1] at hI3
        have et := g4.get _ _ e
        obtain ⟨p, hp⟩ : ∃ z, pts[i]? = some z := ⟨_, List.getElem?_eq_getElem (by omega)⟩
        obtain ⟨q', hq⟩ : ∃ z, pts[j]? = some z := ⟨_, List.getElem?_eq_getElem (by omega)⟩
        obtain ⟨r, hr⟩ : ∃ z, pts[k]? = some z := ⟨_, List.getElem?_eq_getElem (by omega)⟩
        have hin : i < n := by omega
        simp [T4.e, hj, hin, T4.row j hj, T4.row i hin, rowD_at hk, rowD_at hj]
        by_cases c1 : R i j ≤ R j k
        · simp [c1, et, hp, hq, hr]
          rw [side3_w hL hp hq hr]
          have hts := tri_side (left := left) hp hq hr
          simp [side_pos]
          rw [← hts]
          cases c2 : tri pts left i j k with
          | true =>
            simp [T4.e, hj, hin, T4.row j hj, T4.row i hin, rowD_at hk, rowD_len, ixN_cast]
            simp [c1, c2] at s4
            have e2 : Mi.D.int ((R j k : Int) + 1) = .int ((R j k + 1 : Nat) : Int) := rfl
            rw [e2]
            refine hI3 _ _ ⟨_, updR R i j (R j k + 1), rfl, T4.set hin hj, r4.keep (fun a b h1 h2 => ⟨by omega, by omega⟩), fun a b h => ?_, ?_, gx_setN g4 (T4.lt i hin).2, by rw [List.length_set]; exact l4⟩
            · rw [updR_ne (by omega)]; exact d4 a b h
            · rw [updR_at]; exact s4.upd hi
          | false =>
            simp
            simp [c1, c2] at s4
            exact hI3 _ _ ⟨_, R, rfl, T4, r4, d4, s4, g4, l4⟩
        · simp [c1]
          simp [c1] at s4
          exact hI3 _ _ ⟨_, R, rfl, T4, r4, d4, s4, g4, l4⟩
      · rintro ρ m4 ⟨z7, R, rfl, T4, r4, d4, ab, g4, l4⟩
        refine ⟨rfl, hI2 _ _ ⟨_, _, R, rfl, T4, RSd.add (i := i) (j := j) r4 ?_ (fun a b h1 h2 => by omega), fun a b h => d4 a b h, g4, l4⟩⟩
        have e : j + 1 + (itRg ((j : Int) + 1) ((n : Int) - ((j : Int) + 1)).toNat).n = n := by
          show j + 1 + ((n : Int) - ((j : Int) + 1)).toNat = n
          omega
        rwa [e] at ab
    · rintro ρ m3 ⟨z6, z7, R, rfl, T3, r3, d3, g3, l3⟩
      have e : (itRg 0 j).n = j := rfl
      rw [e] at r3 d3
      exact ⟨rfl, hI _ _ ⟨_, _, _, _, R, rfl, T3, fun a b h1 h2 h3 => r3 a b (by have h1 : n ≤ b + (t' + 1) := h1; omega) h2 h3, fun a b h => d3 a b ⟨by omega, by omega⟩, g3, l3⟩⟩
  · rintro ρ m2 ⟨z4, z5, z6, z7, R, rfl, T2, r2, d2, g2, l2⟩
    refine ⟨rfl, ?_⟩
    simp
    exact q _ ra R m2 T2 (r2.rs fun i j h1 h2 => by show n ≤ j + n; omega) g2 (by omega)
end
end Ours
namespace Ours
open PySem PySem.Spec PyProof.Rows L2 Mi
open Builtin.Int
theorem pick_first {xs : List Nat} {p : Nat → Bool} (hp : xs.Pairwise (· < ·)) {m : Nat} {rest : List Nat} (h : xs.filter p = m :: rest) : m ∈ xs ∧ p m = true ∧ ∀ x ∈ xs, x < m → p x = false := by
  have hm : m ∈ xs.filter p := by rw [h]; simp
  refine ⟨(List.mem_filter.mp hm).1, (List.mem_filter.mp hm).2, fun x hx hlt => ?_⟩
  cases hpx : p x with
  | false => rfl
  | true =>
    have : x ∈ xs.filter p := List.mem_filter.mpr ⟨hx, hpx⟩
    have hs := hp.filter p
    rw [h] at this hs
    rcases List.mem_cons.mp this with rfl | h2
    · omega
    · have := (List.pairwise_cons.mp hs).1 x h2
      omega
/-- a comprehension that leaves some of them out -/
theorem filtC {w : Wk} {t : Mv Bool} {ρ : Ro} {j : Nat} {m : Hm} {xs : List Nat} {Q : List Mi.D → Hm → Prop} (f : Nat → Bool) (hj : j < ρ.length) (hn : w.n = xs.length) (hl : xs.length ≤ 1000000) (hw : ∀ (i x : Nat), xs[i]? = some x → w.at_ i m = some (.int x) ∧ ∀ Q' : Rs Bool → Prop, Q' (.ok (f x) m) → wE t (ρ.set j (.is (.int x))) m Q')
    (hf : w.fin m = true) (q : Q (dNs (xs.filter f)) m) : wL w (gNm j) t (eVar j) ρ m [] Q := by
  refine wL_inv (fun i acc m' => m' = m ∧ acc = dNs ((xs.take i).filter f)) ⟨rfl, by simp⟩ ?_ ?_
  · rintro i acc m' hi ⟨rfl, rfl⟩ I hI
    have hi : i < xs.length := by omega
    obtain ⟨x, hx⟩ : ∃ x, xs[i]? = some x := ⟨_, List.getElem?_eq_getElem hi⟩
    obtain ⟨h1, h2⟩ := hw i x hx
    refine ⟨.int x, h1, ?_⟩
    have e1 : xs.take (i + 1) = xs.take i ++ [x] := by rw [List.take_add_one, hx]; rfl
    rw [e1] at hI
    have hle : (List.filter f (List.take i xs)).length ≤ 1000000 := Nat.le_trans (List.length_filter_le _ _) (by rw [List.length_take]; omega)
    have gj : ∀ v, (ρ.set j v)[j]? = some v := fun v => List.getElem?_set_self hj
    simp
    refine h2 _ ?_
    cases hfx : f x with
    | true =>
      simp [gj, sizeLine_eq]
      refine ⟨by omega, hI _ _ ⟨rfl, by simp [hfx]⟩⟩
    | false =>
      simp
      exact hI _ _ ⟨rfl, by simp [hfx]⟩
  · rintro acc m' ⟨rfl, rfl⟩
    rw [hn, List.take_length]
    exact ⟨hf, q⟩
section
variable {m : Hm} {Q : Rs Mi.D → Prop} {pts : List (Int × Int)} {left : Bool} {t many : Nat}
theorem lrun_w (e : m[t]? = some (.lst (ptD pts))) (hL : InLs pts) (hl : pts.length ≤ 100) (h3 : 3 ≤ many) (hm : many ≤ 1000) (q : ∀ v m' o R, AnD m m' v o → RS (tri pts left) pts.length R → IsAn (tri pts left) R pts.length many o → Gx m m' → Q (.ok v m')) : wF f_law_least_run [.ref t, .bl left, .int many] m Q := by
  unfold f_law_least_run m_law_least_run
  rw [wF_run]
  generalize hn : pts.length = n at *
  simp [slots, e, hn]
  refine lreach_w e hL (by omega) fun r ra R m1 T1 hR g1 hr => ?_
  rw [hn] at T1 hR
  have e1 := g1.get _ _ e
  simp
  refine ⟨by omega, ?_⟩
  refine wI_inv (fun i ρ m' => m' = m1 ∧ (∃ z5 z6, ρ = [.is (.ref t), .is (.bl left), .is (.int many), .is (.int n), .is (.ref r), z5, z6, .un, .un, .un, .un, .un, .un]) ∧ ∀ a b, a < i → a < b → b < n → R a b < many) ⟨rfl, ⟨_, _, rfl⟩, fun a b h => by omega⟩ ?_ ?_
  · rintro i ρ m' hi ⟨rfl, ⟨z5, z6, rfl⟩, hlt⟩ I hI
    have hi : i < n := hi
    refine ⟨_, rfl, ?_⟩
    simp
    refine ⟨by omega, ?_⟩
    refine wI_inv (fun u ρ m2 => m2 = m' ∧ (∃ z6, ρ = [.is (.ref t), .is (.bl left), .is (.int many), .is (.int n), .is (.ref r), .is (.int i), z6, .un, .un, .un, .un, .un, .un]) ∧ ∀ b, i < b → b < i + 1 + u → b < n → R i b < many) ⟨rfl, ⟨_, rfl⟩, fun b h1 h2 => by omega⟩ ?_ ?_
    · rintro u ρ m2 hu ⟨rfl, ⟨z6, rfl⟩, hlt2⟩ I2 hI2
      have hu : u < ((n : Int) - ((i : Int) + 1)).toNat := hu
      obtain ⟨j, hj, hju⟩ : ∃ j : Nat, j < n ∧ i + 1 + u = j := ⟨i + 1 + u, by omega, rfl⟩
      have hju2 : (i : Int) + 1 + (u : Int) = (j : Int) := by omega
      refine ⟨.int j, by simp [itRg, hju2], ?_⟩
      simp [T1.e, hi, T1.row i hi, rowD_at hj]
      by_cases c : many ≤ R i j
      · have hst : IsSt R n many (some (i, j)) := ⟨by omega, hj, c, fun a b h1 h2 h3 => by
          rcases h3 with h3 | ⟨rfl, h3⟩
          · exact hlt a b h3 h1 h2
          · exact hlt2 b h1 (by omega) h2⟩
        simp [c]
        refine ⟨by omega, ?_⟩
        have hm1 := g1.len
        refine wI_inv (fun k ρ m' => ∃ l pre a b z8 z9 z10 z11, ρ = [.is (.ref t), .is (.bl left), .is (.int many), .is (.int n), .is (.ref r), .is (.int i), .is (.int j), .is (.ref m2.length), z8, z9, z10, z11, .un] ∧ m'[m2.length]? = some (.lst (dNs (pre ++ [a, b]))) ∧ Ud (tri pts left) R n many i j (b + 1) l pre a b ∧ l.length = k ∧ Tbl m' r n m.length ra R ∧ Gx m m') ?_ ?_ ?_
        · exact ⟨[], [], i, j, _, _, _, _, rfl, by simp, ⟨rfl, by simp; omega, by omega, by omega, hj, fun l1 hx => by simpa using hx, by simpa using c, fun x q1 q2 => by omega⟩, rfl, T1.gx Gx.app, g1.trans Gx.app⟩
        · rintro k ρ m3 hk ⟨l, pre, a, b, z8, z9, z10, z11, rfl, e3, u3, hlk, T3, g3⟩ I3 hI3
          have hk : k < ((many : Int) - 2).toNat := hk
          have hlen : pre.length = l.length := by
            have := congrArg List.length u3.l0
            simp at this
            omega
          have x1 : atI (dNs (pre ++ [a, b])) (-1) = some (.int b) := by
            have : dNs (pre ++ [a, b]) = dNs (pre ++ [a]) ++ [.int b] := by simp
            rw [this]; exact atI_m1
          have x2 : atI (dNs (pre ++ [a, b])) (-2) = some (.int a) := by
            have : dNs (pre ++ [a, b]) = dNs pre ++ [.int a, .int b] := by simp
            rw [this]; exact atI_m2
          have hb := u3.bn
          have hab := u3.ab
          have et := g3.get _ _ e
          obtain ⟨p, hp⟩ : ∃ z, pts[a]? = some z := ⟨_, List.getElem?_eq_getElem (by omega)⟩
          obtain ⟨q', hq⟩ : ∃ z, pts[b]? = some z := ⟨_, List.getElem?_eq_getElem (by omega)⟩
          refine ⟨_, rfl, ?_⟩
          generalize hW : dNs (pre ++ [a, b]) = W at *
          have hWl : W.length = pre.length + 2 := by rw [← hW]; simp
          simp [e3, x1, x2, et, hp, hq, wipeM]
          refine ⟨by omega, ?_⟩
          have hR3 := hR
          let good := (List.range' (b + 1) (n - (b + 1))).filter fun x => decide (many - 1 - l.length ≤ R b x)
          have hgp : (List.range' (b + 1) (n - (b + 1))).Pairwise (· < ·) := List.pairwise_lt_range'
          have hgm : ∀ x, x ∈ List.range' (b + 1) (n - (b + 1)) ↔ b < x ∧ x < n := fun x => by
            rw [List.mem_range'_1]; omega
          refine filtC (xs := List.range' (b + 1) (n - (b + 1))) (fun x => decide (many - 1 - l.length ≤ R b x)) (by simp) ?_ ?_ (fun y x hx => ?_) rfl ?_
          · simp; omega
          · simp; omega
          · have hx1 := (List.getElem?_eq_some_iff.mp hx)
            obtain ⟨hy, hx2⟩ := hx1
            rw [List.getElem_range'] at hx2
            rw [List.length_range'] at hy
            have hx2 : b + 1 + y = x := by omega
            have hxn : x < n := by omega
            refine ⟨by simp [itRg]; omega, fun Q' hq => ?_⟩
            simp [T3.e, e3, x1, hb, T3.row b hb, rowD_at hxn]
            have hdec : decide ((many : Int) - 1 - (k : Int) ≤ (R b x : Int)) = decide (many - 1 - l.length ≤ R b x) := by
              by_cases c : many - 1 - l.length ≤ R b x
              · have : (many : Int) - 1 - (k : Int) ≤ (R b x : Int) := by omega
                simp [c, this]
              · have : ¬ (many : Int) - 1 - (k : Int) ≤ (R b x : Int) := by omega
                simp [c, this]
            rw [hdec]
            exact hq
          simp only [kLe_, okS_ok]
          have g4 : Gx m3 (m3 ++ [O.lst (dNs ((List.range' (b + 1) (n - (b + 1))).filter fun x => decide (many - 1 - l.length ≤ R b x)))]) := Gx.app
          have eg : (m3 ++ [O.lst (dNs ((List.range' (b + 1) (n - (b + 1))).filter fun x => decide (many - 1 - l.length ≤ R b x)))])[m3.length]? = some (.lst (dNs ((List.range' (b + 1) (n - (b + 1))).filter fun x => decide (many - 1 - l.length ≤ R b x)))) := by simp
          generalize hG : (List.range' (b + 1) (n - (b + 1))).filter (fun x => decide (many - 1 - l.length ≤ R b x)) = G at *
          have hGl : G.length ≤ 1000 := by rw [← hG]; exact Nat.le_trans (List.length_filter_le _ _) (by simp; omega)
          have hGn : ∀ x ∈ G, x < n := fun x hx => by
            rw [← hG] at hx
            exact ((hgm x).mp (List.mem_filter.mp hx).1).2
          generalize hM4 : m3 ++ [O.lst (dNs G)] = m4 at *
          have hM4l : m4.length = m3.length + 1 := by rw [← hM4]; simp
          have e4 := g4.get _ _ e3
          have et4 := g4.get _ _ et
          simp [e4, eg, wipeM]
          refine filtC (xs := G) (fun x => tri pts left a b x) (by simp) (by simp) (by omega) (fun y x hx => ?_) (itLst_fin eg (by simp)) ?_
          · have hxn := hGn x (List.mem_of_getElem? hx)
            obtain ⟨r', hr'⟩ : ∃ z, pts[x]? = some z := ⟨_, List.getElem?_eq_getElem (by omega)⟩
            refine ⟨by rw [itLst_at eg (by simp)]; simp [hx], fun Q' hq2 => ?_⟩
            simp [et4, hr']
            rw [side3_w hL hp hq hr']
            simp [side_pos]
            rw [← tri_side hp hq hr']
            exact hq2
          have hff : G.filter (fun x => tri pts left a b x) = (List.range' (b + 1) (n - (b + 1))).filter fun x => tri pts left a b x && decide (many - 1 - l.length ≤ R b x) := by
            rw [← hG, List.filter_filter]
          obtain ⟨y, hy1, hy2, hy3, hy4⟩ := hR.ex a b hab hb (by have := u3.big; omega)
          have hyin : y ∈ G.filter fun x => tri pts left a b x := by
            rw [hff]
            refine List.mem_filter.mpr ⟨(hgm y).mpr ⟨hy1, hy2⟩, ?_⟩
            simp [hy3]
            have := u3.big
            omega
          obtain ⟨x, rest, hxr⟩ : ∃ x rest, G.filter (fun x => tri pts left a b x) = x :: rest := by
            cases h : G.filter (fun x => tri pts left a b x) with
            | nil => rw [h] at hyin; simp at hyin
            | cons x rest => exact ⟨x, rest, rfl⟩
          rw [hxr]
          obtain ⟨p1, p2, p3⟩ := pick_first hgp (hff.symm.trans hxr)
          obtain ⟨hbx, hxn⟩ := (hgm x).mp p1
          simp at p2
          have u4 : Ud (tri pts left) R n many i j x l pre a b := ⟨u3.l0, u3.le, hbx, u3.ab, u3.bn, u3.cont, u3.big, fun z q1 q2 => fun h => by
            have := p3 z ((hgm z).mpr ⟨q1, by omega⟩) q2
            simp [h.1, h.2] at this⟩
          have e5 : ∀ o, (m4 ++ o)[m2.length]? = some (.lst W) := fun o => get_app e4
          simp [e5, sizeLine_eq, hWl]
          refine ⟨by omega, hI3 _ _ ⟨l ++ [x], pre ++ [a], b, x, _, _, _, _, rfl, ?_, u4.go hxn (by omega) (by have := p2.2; omega) p2.1, by simp; omega, ?_, gx_setN ((g3.trans g4).trans Gx.app) hm1⟩⟩
          · rw [get_set (e5 _), ← hW]; simp
          · have T5 := (T3.gx g4).gx (Gx.app (t := [O.lst (dNs (x :: rest))]))
            refine ⟨by rw [get_set_ne (by omega)]; exact T5.e, T5.inj, T5.lt, fun z hz => ?_⟩
            rw [get_set_ne (by have := T5.lt z hz; omega)]
            exact T5.row z hz
        · rintro ρ m3 ⟨l, pre, a, b, z8, z9, z10, z11, rfl, e3, u3, hlk, T3, g3⟩
          refine ⟨rfl, ?_⟩
          have hlk : l.length = ((many : Int) - 2).toNat := hlk
          simp
          refine q _ m3 (some (i :: j :: l)) R ⟨m2.length, rfl, by rw [u3.l0]; exact e3, hm1⟩ hR ⟨i, j, l, rfl, hst, ?_, by omega⟩ g3
          have := u3.cont [] trivial
          simpa using this
      · simp [c]
        refine hI2 _ _ ⟨rfl, ⟨_, rfl⟩, fun b h1 h2 h3 => ?_⟩
        by_cases e : b = j
        · subst e; omega
        · exact hlt2 b h1 (by omega) h3
    · rintro ρ m2 ⟨rfl, ⟨z6, rfl⟩, hlt2⟩
      refine ⟨rfl, hI _ _ ⟨rfl, ⟨_, _, rfl⟩, fun a b h1 h2 h3 => ?_⟩⟩
      by_cases e : a = i
      · subst e
        refine hlt2 b h2 ?_ h3
        show b < a + 1 + ((n : Int) - ((a : Int) + 1)).toNat
        omega
      · exact hlt a b (by omega) h2 h3
  · rintro ρ m' ⟨rfl, ⟨z3, z4, rfl⟩, hlt⟩
    refine ⟨rfl, ?_⟩
    simp
    exact q _ m' none R rfl hR (fun a b h1 h2 => hlt a b (by show a < n; omega) h1 h2) g1
end
end Ours
namespace Ours
open PySem PySem.Spec PyProof.Rows L2 Mi
open Builtin.Int
/-- what is due, by the law's tables -/
def DU (pts : List (Int × Int)) (a b : Nat) (o : Option (Nat × List Nat)) : Prop := ∃ R, RS (tri pts true) pts.length R ∧ ((∃ l, o = some (0, l) ∧ IsAn (tri pts true) R pts.length (a + 2) (some l)) ∨
  (IsAn (tri pts true) R pts.length (a + 2) none ∧ ∃ R', RS (tri pts false) pts.length R' ∧ ((∃ l, o = some (1, l) ∧ IsAn (tri pts false) R' pts.length (b + 2) (some l)) ∨ (o = none ∧ IsAn (tri pts false) R' pts.length (b + 2) none))))
theorem DU.uniq {pts : List (Int × Int)} {a b : Nat} {o o' : Option (Nat × List Nat)} (h : CC pts a b o') (h' : DU pts a b o) : o' = o := by
  obtain ⟨R, hR, h'⟩ := h'
  match o', h with
  | some (0, l'), h =>
    have i1 := h R hR
    rcases h' with ⟨l, rfl, i2⟩ | ⟨i2, _⟩
    · have := IsAn.uniq hR hR i1 i2; cases this; rfl
    · have := IsAn.uniq hR hR i1 i2; cases this
  | some (1, l'), ⟨h1, h2⟩ =>
    have i1 := h1 R hR
    rcases h' with ⟨l, rfl, i2⟩ | ⟨i2, R', hR', h'⟩
    · have := IsAn.uniq hR hR i1 i2; cases this
    · rcases h' with ⟨l, rfl, i3⟩ | ⟨rfl, i3⟩
      · have := IsAn.uniq hR' hR' (h2 R' hR') i3; cases this; rfl
      · have := IsAn.uniq hR' hR' (h2 R' hR') i3; cases this
  | some (n + 2, l'), h => exact (show False from h).elim
  | none, ⟨h1, h2⟩ =>
    have i1 := h1 R hR
    rcases h' with ⟨l, rfl, i2⟩ | ⟨i2, R', hR', h'⟩
    · have := IsAn.uniq hR hR i1 i2; cases this
    · rcases h' with ⟨l, rfl, i3⟩ | ⟨rfl, i3⟩
      · have := IsAn.uniq hR' hR' (h2 R' hR') i3; cases this
      · rfl
theorem tri_false (pts : List (Int × Int)) : tri pts false = fun i j k => !tri pts true i j k := by
  funext i j k
  unfold tri
  cases cup pts i j k <;> rfl
theorem DU.some_ {pts : List (Int × Int)} {a b : Nat} {o : Option (Nat × List Nat)} (h : DU pts a b o) (hc : ch (a + b) a < pts.length) : o ≠ none := by
  rintro rfl
  obtain ⟨R, hR, h | ⟨h1, R', hR', h | ⟨_, h2⟩⟩⟩ := h
  · obtain ⟨l, h, _⟩ := h; cases h
  · obtain ⟨l, h, _⟩ := h; cases h
  · rw [tri_false] at hR' h2
    exact an_some _ hR hR' hc ⟨h1, h2⟩
section
variable {m : Hm} {Q : Rs Mi.D → Prop} {pts : List (Int × Int)} {t a b : Nat}
theorem due_w (e : m[t]? = some (.lst (ptD pts))) (hL : InLs pts) (hl : pts.length ≤ 100) (a1 : 1 ≤ a) (a2 : a ≤ 200) (b1 : 1 ≤ b) (b2 : b ≤ 200) (q : ∀ v m' o, CD m m' v o → DU pts a b o → Gx m m' → Q (.ok v m')) : wF f_law_due [.ref t, .int a, .int b] m Q := by
  unfold f_law_due m_law_due
  rw [wF_run]
  simp [slots]
  have ea : (a : Int) + 2 = ((a + 2 : Nat) : Int) := by omega
  have eb : (b : Int) + 2 = ((b + 2 : Nat) : Int) := by omega
  rw [ea]
  refine lrun_w e hL hl (by omega) (by omega) fun v m1 o R hv hR ho g1 => ?_
  cases o with
  | some l =>
    obtain ⟨x, rfl, ex, hx⟩ := hv
    simp [Mi.isNon]
    exact q _ m1 (some (0, l)) ⟨x, rfl, ex, hx⟩ ⟨R, hR, .inl ⟨l, rfl, ho⟩⟩ g1
  | none =>
    have hv : v = .non := hv
    subst hv
    simp [Mi.isNon]
    rw [eb]
    refine lrun_w (g1.get _ _ e) hL hl (by omega) (by omega) fun v m2 o R' hv hR' ho2 g2 => ?_
    cases o with
    | some l =>
      obtain ⟨x, rfl, ex, hx⟩ := hv
      simp [Mi.isNon]
      exact q _ m2 (some (1, l)) ⟨x, rfl, ex, by have := g1.len; omega⟩ ⟨R, hR, .inr ⟨ho, R', hR', .inl ⟨l, rfl, ho2⟩⟩⟩ (g1.trans g2)
    | none =>
      have hv : v = .non := hv
      subst hv
      simp [Mi.isNon]
      exact q _ m2 none rfl ⟨R, hR, .inr ⟨ho, R', hR', .inr ⟨rfl, ho2⟩⟩⟩ (g1.trans g2)
end
/-! ### the tree of an answer -/
def ccP : Option (Nat × List Nat) → Pd
  | none => .non
  | some (h, l) => .tup [.int h, .lst (pNs l)]
theorem cd_rep {m0 m : Hm} {v : Mi.D} {o : Option (Nat × List Nat)} (h : CD m0 m v o) : Rep (fun _ => True) m v (ccP o) := by
  cases o with
  | none => have h : v = .non := h; subst h; exact .non
  | some p =>
    obtain ⟨a, rfl, e, _⟩ := h
    exact .tup (.cons (.int _) (.cons (.lst trivial e (reps_ns _)) .nil))
theorem CD.gx {m0 m m' : Hm} {v : Mi.D} {o : Option (Nat × List Nat)} (h : CD m0 m v o) (g : Gx m m') : CD m0 m' v o := by
  cases o with
  | none => exact h
  | some p =>
    obtain ⟨a, rfl, e, hl⟩ := h
    exact ⟨a, rfl, g.get _ _ e, hl⟩
/-- the run of an answer -/
theorem an_run {T : Nat → Nat → Nat → Bool} {R : Nat → Nat → Nat} {n many : Nat} {l : List Nat} (h : IsAn T R n many (some l)) : l.Pairwise (· < ·) ∧ (∀ x ∈ l, x < n) ∧ Tri T l ∧ l.length = many := by
  obtain ⟨i, j, r, rfl, ⟨s1, s2, _, _⟩, x, hl⟩ := h
  obtain ⟨u1, u2⟩ := x.up
  refine ⟨List.pairwise_cons.mpr ⟨fun y hy => ?_, List.pairwise_cons.mpr ⟨fun y hy => (u1 y hy).1, u2⟩⟩, fun y hy => ?_, x.tri, by simpa using hl⟩
  · rcases List.mem_cons.mp hy with rfl | hy
    · exact s1
    · have := (u1 y hy).1; omega
  · rcases List.mem_cons.mp hy with rfl | hy
    · omega
    · rcases List.mem_cons.mp hy with rfl | hy
      · exact s2
      · exact (u1 y hy).2
theorem cc_dle {pts : List (Int × Int)} {a b : Nat} {o : Option (Nat × List Nat)} (h : DU pts a b o) (ha : a ≤ 200) (hb : b ≤ 200) : dle 18 (ccP o) := by
  have key : ∀ (k : Nat) (l : List Nat), l.length ≤ 202 → dle 18 (ccP (some (k, l))) := fun k l hl => by
    refine ⟨by simp, fun x hx => ?_⟩
    simp at hx
    rcases hx with rfl | rfl
    · trivial
    · refine ⟨by simp; omega, fun y hy => ?_⟩
      obtain ⟨z, _, rfl⟩ := List.mem_map.mp hy
      trivial
  obtain ⟨R, hR, ⟨l, rfl, h⟩ | ⟨h1, R', hR', ⟨l, rfl, h⟩ | ⟨rfl, h2⟩⟩⟩ := h
  · exact key _ _ (by have := (an_run h).2.2.2; omega)
  · exact key _ _ (by have := (an_run h).2.2.2; omega)
  · trivial
end Ours
namespace Ours
open PySem PySem.Spec PyProof.Rows L2 Mi
open Builtin.Int
abbrev BB : Int := 10 ^ 80
def Inc (pts : List (Int × Int)) : Prop := ∀ (i : Nat) (z w : Int × Int), pts[i]? = some z → pts[i + 1]? = some w → z.1 < w.1
def Bd (B : Int) (pts : List (Int × Int)) : Prop := ∀ z ∈ pts, InL B z
theorem Inc.snoc {pts : List (Int × Int)} (h : Inc pts) {z : Int × Int} (hz : ∀ w ∈ pts, w.1 < z.1) : Inc (pts ++ [z]) := by
  intro i u w hu hw
  by_cases c : i + 1 < pts.length
  · rw [List.getElem?_append_left c] at hw
    rw [List.getElem?_append_left (by omega)] at hu
    exact h i u w hu hw
  · have hi := (List.getElem?_eq_some_iff.mp hw).1
    simp at hi
    have hi2 : i + 1 = pts.length := by omega
    rw [List.getElem?_append_right (by omega)] at hw
    rw [List.getElem?_append_left (by omega)] at hu
    rw [hi2, Nat.sub_self] at hw
    simp at hw
    subst hw
    exact hz u (List.mem_of_getElem? hu)
theorem Bd.snoc {B : Int} {pts : List (Int × Int)} (h : Bd B pts) {z : Int × Int} (hz : InL B z) : Bd B (pts ++ [z]) := by
  intro w hw
  rcases List.mem_append.mp hw with hw | hw
  · exact h w hw
  · simp at hw; subst hw; exact hz
theorem bb_lim : BB < LIM := by decide +kernel
theorem bb_big : (10 : Int) ^ 30 * 1000 < BB := by decide +kernel
section
variable {s c L : Nat} {m : Hm} {Q : Rs Mi.D → Prop}
theorem full_w {n : Nat} (S : St s c L m) (hL : L + 200 ≤ 2 ^ 200) (hn : n ≤ 31) (q : ∀ (t : Nat) (pts : List (Int × Int)) m', m.length ≤ t → m'[t]? = some (.lst (ptD pts)) → pts.length = n → Inc pts → Bd BB pts → St s c (L + 200) m' → Frs s m m' → Q (.ok (.ref t) m')) : wF f_law_full_points [.ref s, .int n] m Q := by
  unfold f_law_full_points m_law_full_points
  rw [wF_run]
  have hs := S.lt
  obtain ⟨hc1, hc2⟩ := S.ctr
  have b4 : intBits 4 ≤ 2000 := bits_mono (bits_of (n := 9) (by decide)) (by decide)
  have b6 : intBits 6 ≤ 2000 := bits_mono (bits_of (n := 9) (by decide)) (by decide)
  have bl5 : (5 : Int).natAbs.log2 < 9000 := by decide
  simp [slots]
  refine take_w S (by omega) b4 fun kind m1 k0 k1 _ S1 F1 l1 => ?_
  simp
  refine between_w S1 (by omega) (bits_mono (bits_of (n := 9) (by decide)) (by decide)) (by decide) fun x m2 x0 x1 S2 F2 l2 => ?_
  simp
  refine ⟨by omega, ?_⟩
  refine wI_inv (fun k ρ m' => ∃ x y z6, ∃ pts : List (Int × Int), ρ = [.is (.ref s), .is (.int n), .is (.int kind), .is (.int x), .is (.int y), .is (.ref m2.length), z6] ∧ -9 ≤ x ∧ x ≤ 9 + 2 * (k : Int) ∧ -(10 ^ 30 + 10000 + 2 * (k : Int)) ≤ y ∧ y ≤ 10 ^ 30 + 10000 + 2 * (k : Int) ∧ m'[m2.length]? = some (.lst (ptD pts)) ∧ pts.length = k ∧ Inc pts ∧ Bd BB pts ∧ (∀ w ∈ pts, w.1 < x) ∧ St s c (L + 2 + 4 * k) m' ∧ Frs s m m') ?_ ?_ ?_
  · exact ⟨x, 0, _, [], rfl, x0, by simpa using x1, by decide, by decide, by simp, rfl, fun i z w h => by simp at h, fun z h => by simp at h, fun z h => by simp at h, S2.app, (F1.trans F2).trans Gx.app.fr⟩
  · rintro k ρ m3 hk ⟨x, y, z6, pts, rfl, x0, x1, y0, y1, e3, hpl, hI3, hB, hlx, S3, F3⟩ I hI
    have hk : k < n := hk
    refine ⟨_, rfl, ?_⟩
    simp
    refine ite_cut (fun ρ m' => ∃ y, ρ = [.is (.ref s), .is (.int n), .is (.int kind), .is (.int x), .is (.int y), .is (.ref m2.length), .is (.int k)] ∧ -(10 ^ 30 + 10000 + 2 * ((k : Int) + 1)) ≤ y ∧ y ≤ 10 ^ 30 + 10000 + 2 * ((k : Int) + 1) ∧ St s c (L + 2 + 4 * k + 1) m' ∧ Frs s m3 m') ?_ ?_
    · intro P' hP
      by_cases c0 : kind = 0
      · simp [c0]
        refine between_w S3 (by omega) (bits_mono (bits_of (n := 9) (by decide)) (by decide)) (by decide) fun y' m4 a0 a1 S4 F4 l4 => ?_
        simp
        exact hP _ _ ⟨y', by simp [c0], by omega, by omega, S4, F4⟩
      · by_cases c1 : kind = 1
        · simp [c0, c1]
          refine between_w S3 (by omega) (bits_mono (bits_of (n := 200) (by decide +kernel)) (by decide)) (by decide +kernel) fun y' m4 a0 a1 S4 F4 l4 => ?_
          simp
          exact hP _ _ ⟨y', by simp [c1], by omega, by omega, S4, F4⟩
        · by_cases c2 : kind = 2
          · simp [c0, c1, c2]
            have hxx : x * x ≤ 10000 := by
              have h1 := Int.mul_nonneg (show 0 ≤ 71 - x by omega) (show 0 ≤ x + 9 by omega)
              have h2 : (71 - x) * (x + 9) = 62 * x + 639 - x * x := by grind
              omega
            have hx0 : 0 ≤ x * x := by
              rcases Int.le_total 0 x with h | h
              · exact Int.mul_nonneg h h
              · exact Int.mul_nonneg_of_nonpos_of_nonpos h h
            obtain ⟨w, hw, hw01⟩ : ∃ w : Int, (if 2 * (k : Int) < (n : Int) then (1 : Int) else 0) = w ∧ (w = 0 ∨ w = 1) := by
              by_cases h : 2 * (k : Int) < (n : Int)
              · exact ⟨1, if_pos h, .inr rfl⟩
              · exact ⟨0, if_neg h, .inl rfl⟩
            rw [hw]
            have bx := bits_of (x := x) (n := 20) (by omega)
            have bk := bits_of (x := (k : Int)) (n := 20) (by omega)
            have bw := bits_of (x := w) (n := 20) (by omega)
            have bw2 := bits_of (x := 1 - 2 * w) (n := 20) (by omega)
            have bxx := bits_of (x := x * x) (n := 20) (by omega)
            have b2 := bits_of (x := (2 : Int)) (n := 20) (by decide)
            refine ⟨by omega, by omega, by omega, by omega, ?_⟩
            refine between_w S3 (by omega) (bits_mono (bits_of (n := 9) (by decide)) (by decide)) (by decide) fun y' m4 a0 a1 S4 F4 l4 => ?_
            simp
            have hv : -10000 ≤ x * x * (1 - 2 * w) ∧ x * x * (1 - 2 * w) ≤ 10000 := by
              rcases hw01 with rfl | rfl
              · have : x * x * (1 - 2 * 0) = x * x := by simp
                omega
              · have : x * x * (1 - 2 * 1) = -(x * x) := by simp
                omega
            generalize x * x * (1 - 2 * w) = vv at *
            exact hP _ _ ⟨vv + y', by simp [c2], by omega, by omega, S4, F4⟩
          · simp [c0, c1, c2]
            refine between_w S3 (by omega) (bits_mono (bits_of (n := 9) (by decide)) (by decide)) (by decide) fun y' m4 a0 a1 S4 F4 l4 => ?_
            simp
            exact hP _ _ ⟨y + y', by simp, by omega, by omega, S4, F4⟩
    · rintro ρ m4 ⟨y, rfl, y0, y1, S4, F4⟩
      have hs4 := S4.lt
      have e4 := F4.get _ _ (by omega) e3
      have hm2 := get_lt e3
      have l4 := F4.len
      simp [e4, sizeLine_eq]
      refine ⟨by omega, ?_⟩
      refine take_w (S4.set (by omega) (by omega)) (by omega) b6 fun u m5 u0 u1 _ S5 F5 l5 => ?_
      have u1 := u1 (by decide)
      have e5 : m5[m2.length]? = some (.lst (ptD (pts ++ [(x, y)]))) := F5.get _ _ (by omega) (by rw [get_set e4]; simp)
      simp
      have hu : u / 5 = 0 ∨ u / 5 = 1 := by omega
      have hbb := bb_big
      have hm12 : m.length ≤ m2.length := by omega
      have hBB : (10 : Int) ^ 30 * 1000 < BB := bb_big
      have h30 : (10 : Int) ^ 30 = 1000000000000000000000000000000 := by decide +kernel
      rw [h30] at y0 y1 hBB
      generalize BB = B at *
      refine ⟨bl5, hI _ _ ⟨x + 1 + u / 5, y, _, pts ++ [(x, y)], rfl, by omega, by omega, by omega, by omega, e5, by simp [hpl], hI3.snoc hlx, hB.snoc ⟨by show -B < x; omega, by show x < B; omega, by show -B < y; omega, by show y < B; omega⟩, fun w hw => ?_, S5.up (by omega), ((F3.trans F4).setN hm12).trans F5⟩⟩
      rcases List.mem_append.mp hw with hw | hw
      · have := hlx w hw; omega
      · simp at hw; subst hw; show x < x + 1 + u / 5; omega
  · rintro ρ m3 ⟨x, y, z6, pts, rfl, x0, x1, y0, y1, e3, hpl, hI3, hB, hlx, S3, F3⟩
    refine ⟨rfl, ?_⟩
    have hpl : pts.length = n := hpl
    simp
    exact q _ pts m3 (by omega) e3 hpl hI3 hB (S3.up (by show L + 2 + 4 * n ≤ L + 200; omega)) F3
end
end Ours
namespace Ours
open PySem PySem.Spec PyProof.Rows L2 Mi
open Builtin.Int
/-! ### the best points -/
def difs : List (Int × Int) → List Int
  | a :: b :: l => (if b.2 - a.2 < 0 then -(b.2 - a.2) else b.2 - a.2) :: difs (b :: l)
  | _ => []
def mx (l : List Int) (d : Int) : Int := (l ++ [d]).max?.getD 0
def upB (l r : List (Int × Int)) (s : Int) : Int := s * ((l.length : Int) + (r.length : Int)) + (l.map (·.2)).max?.getD 0 - (r.map (·.2)).min?.getD 0
def joinB (l r : List (Int × Int)) : List (Int × Int) :=
  let u := upB l r (mx (difs r) (mx (difs l) 0))
  l ++ r.map fun z => (z.1 + (l.length : Int), z.2 + u + 1)
def bpR (p : Nat → List (Int × Int)) : Nat → List (Int × Int)
  | 0 => [(0, 0)]
  | j + 1 => joinB (p (j + 1)) (bpR p j)
def bp : Nat → Nat → List (Int × Int)
  | 0 => fun _ => [(0, 0)]
  | i + 1 => bpR (bp i)
theorem bp_l (j : Nat) : bp 0 j = [(0, 0)] := rfl
theorem bp_r (i : Nat) : bp i 0 = [(0, 0)] := by cases i <;> rfl
theorem bp_s (i j : Nat) : bp (i + 1) (j + 1) = joinB (bp i (j + 1)) (bp (i + 1) j) := rfl
def incB : List (Int × Int) → Bool
  | a :: b :: l => decide (a.1 < b.1) && incB (b :: l)
  | _ => true
def bdB (B : Int) (l : List (Int × Int)) : Bool := l.all fun z => decide (-B < z.1) && decide (z.1 < B) && decide (-B < z.2) && decide (z.2 < B)
def okP (i j : Nat) : Bool := decide (i ≤ 1) || decide (j ≤ 1) || decide (i + j ≤ 7)
abbrev B60 : Int := 10 ^ 60
def chkB (i j : Nat) : Bool := !okP i j || (incB (bp i j) && bdB B60 (bp i j) && decide ((bp i j).length = ch (i + j) i) && decide ((bp i j).length ≤ 40))
set_option maxHeartbeats 0 in
theorem bp_all : ∀ i, i < 22 → ∀ j, j < 22 → (i + j ≤ 22 → chkB i j = true) := by decide +kernel
theorem bp_ok {i j : Nat} (hi : i ≤ 21) (hj : j ≤ 21) (hij : i + j ≤ 22) (h : okP i j = true) : incB (bp i j) = true ∧ bdB B60 (bp i j) = true ∧ (bp i j).length = ch (i + j) i ∧ (bp i j).length ≤ 40 := by
  have := bp_all i (by omega) j (by omega) hij
  unfold chkB at this
  rw [h] at this
  simp at this
  exact ⟨this.1.1.1, this.1.1.2, this.1.2, this.2⟩
theorem inc_of : ∀ {l : List (Int × Int)}, incB l = true → Inc l
  | [], _, i, z, w, h, _ => by simp at h
  | [a], _, i, z, w, _, h => by simp at h
  | a :: b :: l, hb, i, z, w, h1, h2 => by
    simp only [incB, Bool.and_eq_true, decide_eq_true_eq] at hb
    cases i with
    | zero => simp at h1 h2; subst h1; subst h2; exact hb.1
    | succ i => exact inc_of hb.2 i z w (by simpa using h1) (by simpa using h2)
theorem bd_of {B : Int} {l : List (Int × Int)} (h : bdB B l = true) : Bd B l := by
  intro z hz
  have := List.all_eq_true.mp h z hz
  simp at this
  exact ⟨this.1.1.1, this.1.1.2, this.1.2, this.2⟩
end Ours
namespace Ours
open PySem PySem.Spec PyProof.Rows L2 Mi
open Builtin.Int
structure TB (m : Hm) (r A B lo : Nat) (ra : Nat → Nat) (ca : Nat → Nat → Nat) (V : Nat → Nat → List (Int × Int)) : Prop where
  e : m[r]? = some (.lst ((List.range A).map fun i => .ref (ra i)))
  inj : ∀ i j, i < j → j < A → ra i < ra j
  lt : ∀ i, i < A → ra i < r ∧ lo ≤ ra i
  row : ∀ i, i < A → m[ra i]? = some (.lst ((List.range B).map fun j => .ref (ca i j)))
  cell : ∀ i j, i < A → j < B → m[ca i j]? = some (.lst (ptD (V i j)))
  ne : ∀ i j k, i < A → j < B → k < A → ca i j ≠ ra k
theorem TB.gx {m m' : Hm} {r A B lo : Nat} {ra : Nat → Nat} {ca : Nat → Nat → Nat} {V : Nat → Nat → List (Int × Int)} (h : TB m r A B lo ra ca V) (g : Gx m m') : TB m' r A B lo ra ca V :=
  ⟨g.get _ _ h.e, h.inj, h.lt, fun i hi => g.get _ _ (h.row i hi), fun i j hi hj => g.get _ _ (h.cell i j hi hj), h.ne⟩
theorem rangeR_at {n i : Nat} (f : Nat → Nat) (hi : i < n) : ((List.range n).map fun i => Mi.D.ref (f i))[i]? = some (.ref (f i)) := by
  rw [List.getElem?_map, List.getElem?_range hi]; rfl
/-- row i gets a new object c at j -/
theorem TB.set {m : Hm} {r A B lo : Nat} {ra : Nat → Nat} {ca : Nat → Nat → Nat} {V : Nat → Nat → List (Int × Int)} (h : TB m r A B lo ra ca V) {i j c : Nat} {l : List (Int × Int)} (hi : i < A) (hj : j < B) (hc : m[c]? = some (.lst (ptD l))) (hn : ∀ k, k < A → c ≠ ra k) :
    TB (m.set (ra i) (.lst (((List.range B).map fun j => Mi.D.ref (ca i j)).set j (.ref c)))) r A B lo ra (fun a b => if a = i ∧ b = j then c else ca a b) (fun a b => if a = i ∧ b = j then l else V a b) := by
  refine ⟨by rw [get_set_ne (by have := h.lt i hi; omega)]; exact h.e, h.inj, h.lt, fun k hk => ?_, fun a b ha hb => ?_, fun a b k ha hb hk => ?_⟩
  · by_cases e : k = i
    · subst e
      rw [get_set (h.row k hk)]
      congr 2
      apply List.ext_getElem?
      intro x
      by_cases hx : x < B
      · rw [rangeR_at _ hx]
        by_cases e : j = x
        · subst e
          rw [List.getElem?_set_self (by simpa using hx)]; simp
        · rw [List.getElem?_set_ne e, rangeR_at _ hx]
          have : ¬ (x = j) := fun z => e z.symm
          simp [this]
      · rw [List.getElem?_eq_none (by simp; omega), List.getElem?_eq_none (by simp; omega)]
    · have hne : ra i ≠ ra k := by
        rcases Nat.lt_or_gt_of_ne e with h1 | h1
        · have := h.inj k i h1 hi; omega
        · have := h.inj i k h1 hk; omega
      rw [get_set_ne hne, h.row k hk]
      simp [e]
  · by_cases e : a = i ∧ b = j
    · simp only [e, and_self, if_true]
      rw [get_set_ne (Ne.symm (hn i hi))]; exact hc
    · simp only [e, if_false]
      rw [get_set_ne (Ne.symm (h.ne a b i ha hb hi))]; exact h.cell a b ha hb
  · by_cases e : a = i ∧ b = j
    · simp only [e, and_self, if_true]; exact hn k hk
    · simp only [e, if_false]; exact h.ne a b k ha hb hk
theorem cells_w {B j : Nat} {ρ : Ro} {m : Hm} {Q : List Mi.D → Hm → Prop} (hB : B ≤ 1000) (q : ∀ (c : Nat → Nat) m', (∀ j, j < B → m'[c j]? = some (.lst (ptD [(0, 0)])) ∧ m.length ≤ c j ∧ c j < m'.length) → Gx m m' → Q ((List.range B).map fun j => .ref (c j)) m') :
    wL (itRg 0 B) (gNm j) tYesM (eLst (aCons (eTup (aCons (eC (.int 0)) (aCons (eC (.int 0)) (aNil)))) (aNil))) ρ m [] Q := by
  refine wL_inv (fun i acc m' => acc = (List.range i).map (fun j => .ref (m.length + j)) ∧ m'.length = m.length + i ∧ (∀ j, j < i → m'[m.length + j]? = some (.lst (ptD [(0, 0)]))) ∧ Gx m m') ⟨rfl, rfl, fun j h => by omega, Gx.refl _⟩ ?_ ?_
  · rintro i acc m' hi ⟨rfl, hl, hc, g⟩ I hI
    have hi : i < B := hi
    refine ⟨_, rfl, ?_⟩
    simp [sizeLine_eq]
    refine ⟨by omega, hI _ _ ⟨by rw [List.range_succ, List.map_append, hl]; rfl, by simp [hl]; omega, fun j hj => ?_, g.trans Gx.app⟩⟩
    by_cases e : j = i
    · subst e
      rw [← hl]; simp
    · exact get_app (hc j (by omega))
  · rintro acc m' ⟨rfl, hl, hc, g⟩
    refine ⟨rfl, q (fun j => m.length + j) m' (fun j hj => ⟨hc j hj, by omega, ?_⟩) g⟩
    have hl : m'.length = m.length + B := hl
    omega
theorem table_w {A B : Nat} {ρ : Ro} {m : Hm} {Q : List Mi.D → Hm → Prop} (hA : A ≤ 1000) (hB : B ≤ 1000) (h4 : ρ.length = 13) (h1 : ρ[1]? = some (.is (.int ((B : Int) - 1))))
    (q : ∀ (ra : Nat → Nat) (ca : Nat → Nat → Nat) m', (∀ r, m'.length ≤ r → ∀ X : Hm, Gx m' X → X[r]? = some (.lst ((List.range A).map fun i => .ref (ra i))) → TB X r A B m.length ra ca (fun _ _ => [(0, 0)])) → Gx m m' → Q ((List.range A).map fun i => .ref (ra i)) m') :
    wL (itRg 0 A) (gNm 3) tYesM (eLc (iRange (aCons (eBin opAdd (eVar 1) (eC (.int 1))) (aNil))) (gNm 4) (tYesM) (eLst (aCons (eTup (aCons (eC (.int 0)) (aCons (eC (.int 0)) (aNil)))) (aNil))) [4]) ρ m [] Q := by
  refine wL_inv (fun i acc m' => ∃ (ra : Nat → Nat) (ca : Nat → Nat → Nat), acc = (List.range i).map (fun i => .ref (ra i)) ∧ (∀ k l, k < l → l < i → ra k < ra l) ∧ (∀ k, k < i → ra k < m'.length ∧ m.length ≤ ra k) ∧ (∀ k, k < i → m'[ra k]? = some (.lst ((List.range B).map fun j => .ref (ca k j)))) ∧ (∀ k j, k < i → j < B → m'[ca k j]? = some (.lst (ptD [(0, 0)])) ∧ ca k j < m'.length) ∧ (∀ k j l, k < i → j < B → l < i → ca k j ≠ ra l) ∧ Gx m m') ?_ ?_ ?_
  · exact ⟨fun _ => 0, fun _ _ => 0, rfl, fun _ _ _ h => by omega, fun _ h => by omega, fun _ h => by omega, fun _ _ h => by omega, fun _ _ _ h => by omega, Gx.refl _⟩
  · rintro i acc m' hi ⟨ra, ca, rfl, i1, i2, i3, i4, i5, g⟩ I hI
    have hi : i < A := hi
    refine ⟨_, rfl, ?_⟩
    have e1 : (ρ.set 3 (.is (.int ((0 : Int) + (i : Nat)))))[1]? = some (.is (.int ((B : Int) - 1))) := by rw [List.getElem?_set_ne (by decide)]; exact h1
    have eB : ((B : Int) - 1 + 1) = (B : Int) := by omega
    have e2 : (ρ.set 3 (.is (.int (i : Int))))[1]? = some (.is (.int ((B : Int) - 1))) := by rw [List.getElem?_set_ne (by decide)]; exact h1
    simp [e2, wipeM, eB]
    refine ⟨by omega, ?_⟩
    refine cells_w hB fun c m2 hc g2 => ?_
    have l2 := g2.len
    simp [sizeLine_eq]
    refine ⟨by omega, ?_⟩
    refine hI _ _ ⟨fun k => if k = i then m2.length else ra k, fun k j => if k = i then c j else ca k j, ?_, fun k l hk hl => ?_, fun k hk => ?_, fun k hk => ?_, fun k j hk hj => ?_, fun k j l hk hj hl => ?_, (g.trans g2).trans Gx.app⟩
    · rw [List.range_succ, List.map_append]
      congr 1
      · apply List.map_congr_left
        intro x hx
        have := List.mem_range.mp hx
        have : x ≠ i := by omega
        simp [this]
      · simp
    · by_cases e : l = i
      · have e' : k ≠ i := by omega
        have := (i2 k (by omega)).1
        simp [e, e']; omega
      · have e' : k ≠ i := by omega
        simp [e, e']; exact i1 k l hk (by omega)
    · by_cases e : k = i
      · simp [e]; have := g.len; omega
      · have := i2 k (by omega)
        simp [e]; omega
    · by_cases e : k = i
      · simp [e]
      · simp only [e, if_false]; exact get_app (g2.get _ _ (i3 k (by omega)))
    · by_cases e : k = i
      · have := hc j hj
        simp only [e, if_true]
        exact ⟨get_app this.1, by simp; omega⟩
      · have := i4 k j (by omega) hj
        simp only [e, if_false]
        exact ⟨get_app (g2.get _ _ this.1), by simp; omega⟩
    · by_cases e : k = i
      · have := hc j hj
        by_cases e2 : l = i
        · simp [e, e2]; omega
        · have := (i2 l (by omega)).1
          simp [e, e2]; omega
      · have := (i4 k j (by omega) hj).2
        by_cases e2 : l = i
        · simp [e, e2]; omega
        · simp [e, e2]; exact i5 k j l (by omega) hj (by omega)
  · rintro acc m' ⟨ra, ca, rfl, i1, i2, i3, i4, i5, g⟩
    refine ⟨rfl, q ra ca m' (fun r hr X gX e => ⟨e, i1, fun k hk => ?_, fun k hk => gX.get _ _ (i3 k hk), fun k j hk hj => gX.get _ _ (i4 k j hk hj).1, i5⟩) g⟩
    have := i2 k hk
    omega
end Ours
namespace Ours
open PySem PySem.Spec PyProof.Rows L2 Mi
open Builtin.Int
theorem difs_len : ∀ l : List (Int × Int), (difs l).length = l.length - 1
  | [] => rfl
  | [a] => rfl
  | a :: b :: l => by
    have := difs_len (b :: l)
    simp [difs] at this ⊢
    omega
theorem difs_at : ∀ {l : List (Int × Int)} {k : Nat} {a b : Int × Int}, l[k]? = some a → l[k + 1]? = some b → (difs l)[k]? = some (if b.2 - a.2 < 0 then -(b.2 - a.2) else b.2 - a.2)
  | [], k, a, b, h, _ => by simp at h
  | [c], k, a, b, _, h => by simp at h
  | c :: d :: l, 0, a, b, h1, h2 => by simp at h1 h2; subst h1; subst h2; rfl
  | c :: d :: l, k + 1, a, b, h1, h2 => by
    have := difs_at (l := d :: l) (k := k) (by simpa using h1) (by simpa using h2)
    simpa [difs] using this
theorem mx_some (l : List Int) (d : Int) : (l ++ [d]).max? = some (mx l d) := by
  cases h : (l ++ [d]).max? with
  | none => simp at h
  | some k => simp [mx, h]
theorem mx_mem (l : List Int) (d : Int) : mx l d ∈ l ++ [d] := List.max?_mem (mx_some l d)
theorem mx_bd {l : List Int} {d C : Int} (h : ∀ x ∈ l, -C ≤ x ∧ x ≤ C) (hd : -C ≤ d ∧ d ≤ C) : -C ≤ mx l d ∧ mx l d ≤ C := by
  rcases List.mem_append.mp (mx_mem l d) with h1 | h1
  · exact h _ h1
  · simp at h1; rw [h1]; exact hd
theorem difs_bd {l : List (Int × Int)} {B : Int} (h : Bd B l) : ∀ x ∈ difs l, -(2 * B) ≤ x ∧ x ≤ 2 * B := by
  induction l with
  | nil => intro x hx; simp [difs] at hx
  | cons a l ih =>
    cases l with
    | nil => intro x hx; simp [difs] at hx
    | cons b l =>
      intro x hx
      have ha := h a (by simp)
      have hb := h b (by simp)
      obtain ⟨_, _, a1, a2⟩ := ha
      obtain ⟨_, _, b1, b2⟩ := hb
      simp only [difs, List.mem_cons] at hx
      rcases hx with rfl | hx
      · split <;> omega
      · exact ih (fun z hz => h z (List.mem_cons_of_mem _ hz)) x hx
section
variable {m : Hm} {Q : Rs Mi.D → Prop} {QS : Ou → Prop}
abbrev stB : Ms := (sAsg (eB bMaxL (aCons (eBin opAdd (eLc (iRange (aCons (eBin opSub (eB bLen (aCons (eVar 8) (aNil))) (eC (.int 1))) (aNil))) (gNm 11) (tYesM) (eB bAbs (aCons (eBin opSub (eBin opIxA (eBin opIxA (eVar 8) (eBin opAdd (eVar 11) (eC (.int 1)))) (eC (.int 1))) (eBin opIxA (eBin opIxA (eVar 8) (eVar 11)) (eC (.int 1)))) (aNil))) [11]) (eLst (aCons (eVar 7) (aNil)))) (aNil))) (gNm 7))
theorem stp_w {z0 z1 z2 z3 z4 z5 z6 z9 z10 z11 z12 : Sl} {c : Nat} {l : List (Int × Int)} {s0 : Int} (e : m[c]? = some (.lst (ptD l))) (h1 : 1 ≤ l.length) (h2 : l.length ≤ 1000)
    (q : ∀ m', Gx m m' → QS (.nx [z0, z1, z2, z3, z4, z5, z6, .is (.int (mx (difs l) s0)), .is (.ref c), z9, z10, z11, z12] m')) : wS stB [z0, z1, z2, z3, z4, z5, z6, .is (.int s0), .is (.ref c), z9, z10, z11, z12] m QS := by
  simp [e, wipeM]
  refine ⟨by omega, ?_⟩
  have hdl := difs_len l
  refine mapC (ds := (difs l).map .int) (by simp [hdl]) (by simp [hdl]; omega) (fun k y hy => ?_) rfl ?_
  · obtain ⟨x, hx, rfl⟩ := ints_at hy
    have hk := (List.getElem?_eq_some_iff.mp hx).1
    rw [hdl] at hk
    obtain ⟨a, ha⟩ : ∃ a, l[k]? = some a := ⟨_, List.getElem?_eq_getElem (by omega)⟩
    obtain ⟨b, hb⟩ : ∃ a, l[k + 1]? = some a := ⟨_, List.getElem?_eq_getElem (by omega)⟩
    rw [difs_at ha hb] at hx
    cases hx
    refine ⟨_, rfl, fun Q' hq => ?_⟩
    have a1 : atI (ptD l) ((k : Nat) : Int) = some (.tup (dPt a)) := by rw [atI_cast]; exact ptD_at ha
    have a2 : atI (ptD l) ((k : Int) + 1) = some (.tup (dPt b)) := by
      have := atI_cast (xs := ptD l) (k := k + 1)
      rw [ptD_at hb] at this
      simpa using this
    generalize ptD l = W at *
    simp [e, a1, a2]
    exact hq
  · simp [sizeLine_eq]
    refine ⟨by omega, ?_⟩
    have e3 : (m ++ [O.lst ((difs l).map .int), O.lst [.int s0], O.lst ((difs l).map Mi.D.int ++ [.int s0])])[m.length + 2]? = some (.lst ((difs l ++ [s0]).map .int)) := by simp
    rw [b_maxL e3, mx_some]
    simp
    exact q _ Gx.app
theorem max_get {l : List Int} (h : 1 ≤ l.length) : l.max? = some (l.max?.getD 0) := by
  cases e : l.max? with
  | none => simp at e; subst e; simp at h
  | some k => rfl
theorem min_get {l : List Int} (h : 1 ≤ l.length) : l.min? = some (l.min?.getD 0) := by
  cases e : l.min? with
  | none => simp at e; subst e; simp at h
  | some k => rfl
/-- [one[1] for one in row] -/
theorem ys_comp {c j : Nat} {ρ : Ro} {l : List (Int × Int)} {Q : List Mi.D → Hm → Prop} (e : m[c]? = some (.lst (ptD l))) (h2 : l.length ≤ 1000) (hj : j < ρ.length) (q : Q ((l.map (·.2)).map .int) m) :
    wL (itLst c l.length fun _ x => x) (gNm j) tYesM (eBin opIxA (eVar j) (eC (.int 1))) ρ m [] Q := by
  refine mapC (ds := (l.map (·.2)).map .int) (by simp) (by simp; omega) (fun i y hy => ?_) (itLst_fin e (by simp)) q
  obtain ⟨x, hx, rfl⟩ := ints_at hy
  rw [List.getElem?_map] at hx
  cases hz : l[i]? with
  | none => rw [hz] at hx; cases hx
  | some z =>
    rw [hz] at hx; cases hx
    refine ⟨.tup (dPt z), by rw [itLst_at e (by simp)]; simp [hz], fun Q' hq => ?_⟩
    have gj : ∀ v, (ρ.set j v)[j]? = some v := fun v => List.getElem?_set_self hj
    simp [gj]
    exact hq
abbrev bodyB : Ms := (sSeq (sAsg (eBin opIxA (eBin opIxA (eVar 2) (eBin opSub (eVar 3) (eC (.int 1)))) (eVar 4)) (gNm 5))
    (sSeq (sAsg (eBin opIxA (eBin opIxA (eVar 2) (eVar 3)) (eBin opSub (eVar 4) (eC (.int 1)))) (gNm 6))
    (sSeq (sAsg (eC (.int 0)) (gNm 7))
    (sSeq (sFor (iSeq (eLst (aCons (eVar 5) (aCons (eVar 6) (aNil))))) (gNm 8) stB)
    (sSeq (sAsg (eBin opSub (eBin opAdd (eBin opMul (eVar 7) (eBin opAdd (eB bLen (aCons (eVar 5) (aNil))) (eB bLen (aCons (eVar 6) (aNil))))) (eB bMaxL (aCons (eLc (iSeq (eVar 5)) (gNm 12) (tYesM) (eBin opIxA (eVar 12) (eC (.int 1))) [12]) (aNil)))) (eB bMinL (aCons (eLc (iSeq (eVar 6)) (gNm 12) (tYesM) (eBin opIxA (eVar 12) (eC (.int 1))) [12]) (aNil)))) (gNm 9))
    (sSeq (sAsg (eBin opIxA (eVar 2) (eVar 3)) (gNm 10))
    (sAsg (eBin opAdd (eVar 5) (eLc (iSeq (eVar 6)) (gNm 12) (tYesM) (eTup (aCons (eBin opAdd (eBin opIxA (eVar 12) (eC (.int 0))) (eB bLen (aCons (eVar 5) (aNil)))) (aCons (eBin opAdd (eBin opAdd (eBin opIxA (eVar 12) (eC (.int 1))) (eVar 9)) (eC (.int 1))) (aNil)))) [12])) (gIx (eVar 10) (eVar 4)))))))))
/-- the middle of the body: the list that is put in -/
theorem body_w {r A B lo i j a b : Nat} {ra : Nat → Nat} {ca : Nat → Nat → Nat} {V : Nat → Nat → List (Int × Int)} {z5 z6 z7 z8 z9 z10 z11 z12 : Sl} (T : TB m r A B lo ra ca V) (hi : i + 1 < A) (hj : j + 1 < B) {l rr : List (Int × Int)} (hl : V i (j + 1) = l) (hr : V (i + 1) j = rr) (l1 : 1 ≤ l.length) (l2 : l.length ≤ 100) (r1 : 1 ≤ rr.length) (r2 : rr.length ≤ 100) (bl : Bd B60 l) (br : Bd B60 rr)
    (q : ∀ m' c z5 z6 z7 z8 z9 z10 z11 z12, TB m' r A B lo ra (fun a b => if a = i + 1 ∧ b = j + 1 then c else ca a b) (fun a b => if a = i + 1 ∧ b = j + 1 then joinB l rr else V a b) → (∀ (k : Nat) (o : O), k ≠ ra (i + 1) → m[k]? = some o → m'[k]? = some o) → m.length ≤ m'.length → QS (.nx [.is (.int a), .is (.int b), .is (.ref r), .is (.int ((i : Int) + 1)), .is (.int ((j : Int) + 1)), z5, z6, z7, z8, z9, z10, z11, z12] m')) :
    wS bodyB [.is (.int a), .is (.int b), .is (.ref r), .is (.int ((i : Int) + 1)), .is (.int ((j : Int) + 1)), z5, z6, z7, z8, z9, z10, z11, z12] m QS := by
  have el := T.cell i (j + 1) (by omega) hj
  have er := T.cell (i + 1) j hi (by omega)
  rw [hl] at el
  rw [hr] at er
  have x1 : atI ((List.range A).map fun i => Mi.D.ref (ra i)) ((i : Int) + 1) = some (.ref (ra (i + 1))) := by
    have := atI_cast (xs := (List.range A).map fun i => Mi.D.ref (ra i)) (k := i + 1)
    rw [rangeR_at _ hi] at this
    simpa using this
  have x0 : atI ((List.range A).map fun i => Mi.D.ref (ra i)) (i : Int) = some (.ref (ra i)) := by rw [atI_cast, rangeR_at _ (by omega)]
  have y1 : atI ((List.range B).map fun j => Mi.D.ref (ca i j)) ((j : Int) + 1) = some (.ref (ca i (j + 1))) := by
    have := atI_cast (xs := (List.range B).map fun j => Mi.D.ref (ca i j)) (k := j + 1)
    rw [rangeR_at _ hj] at this
    simpa using this
  have y0 : atI ((List.range B).map fun j => Mi.D.ref (ca (i + 1) j)) (j : Int) = some (.ref (ca (i + 1) j)) := by rw [atI_cast, rangeR_at _ (by omega)]
  have em : ((i : Int) + 1 - 1) = (i : Int) := by omega
  have en : ((j : Int) + 1 - 1) = (j : Int) := by omega
  have te := T.e
  have tr := T.row i (by omega)
  have tr1 := T.row (i + 1) hi
  generalize hRA : (List.range A).map (fun i => Mi.D.ref (ra i)) = RA at *
  generalize hR0 : (List.range B).map (fun j => Mi.D.ref (ca i j)) = R0 at *
  generalize hR1 : (List.range B).map (fun j => Mi.D.ref (ca (i + 1) j)) = R1 at *
  simp [em, en, te, tr, tr1, x0, x1, y0, y1]
  have e2 : (m ++ [O.lst [Mi.D.ref (ca i (j + 1)), .ref (ca (i + 1) j)]])[m.length]? = some (.lst [.ref (ca i (j + 1)), .ref (ca (i + 1) j)]) := by simp
  generalize hX : m ++ [O.lst [Mi.D.ref (ca i (j + 1)), .ref (ca (i + 1) j)]] = X at *
  have gX : Gx m X := by rw [← hX]; exact Gx.app
  refine wI_inv (fun k ρ m' => ∃ z8, Gx X m' ∧ ρ = [.is (.int a), .is (.int b), .is (.ref r), .is (.int ((i : Int) + 1)), .is (.int ((j : Int) + 1)), .is (.ref (ca i (j + 1))), .is (.ref (ca (i + 1) j)), .is (.int (if k = 0 then 0 else if k = 1 then mx (difs l) 0 else mx (difs rr) (mx (difs l) 0))), z8, z9, z10, z11, z12]) ⟨_, Gx.refl _, rfl⟩ ?_ ?_
  · rintro k ρ m2 hk ⟨z8, g2, rfl⟩ I hI
    have hk : k < 2 := hk
    have e2' := g2.get _ _ e2
    have el2 := (gX.trans g2).get _ _ el
    have er2 := (gX.trans g2).get _ _ er
    rcases k with _ | _ | k
    · refine ⟨.ref (ca i (j + 1)), by rw [itLst_at e2' (by simp)]; rfl, ⟨([.is (.int a), .is (.int b), .is (.ref r), .is (.int ((i : Int) + 1)), .is (.int ((j : Int) + 1)), .is (.ref (ca i (j + 1))), .is (.ref (ca (i + 1) j)), .is (.int 0), .is (.ref (ca i (j + 1))), z9, z10, z11, z12], m2), rfl, ?_⟩⟩
      show wS stB _ m2 (lpK I _)
      refine stp_w el2 l1 (by omega) fun m3 g3 => hI _ _ ⟨_, g2.trans g3, rfl⟩
    · refine ⟨.ref (ca (i + 1) j), by rw [itLst_at e2' (by simp)]; rfl, ⟨([.is (.int a), .is (.int b), .is (.ref r), .is (.int ((i : Int) + 1)), .is (.int ((j : Int) + 1)), .is (.ref (ca i (j + 1))), .is (.ref (ca (i + 1) j)), .is (.int (mx (difs l) 0)), .is (.ref (ca (i + 1) j)), z9, z10, z11, z12], m2), rfl, ?_⟩⟩
      show wS stB _ m2 (lpK I _)
      refine stp_w er2 r1 (by omega) fun m3 g3 => hI _ _ ⟨_, g2.trans g3, rfl⟩
    · omega
  · rintro ρ m2 ⟨z8, g2, rfl⟩
    refine ⟨itLst_fin (g2.get _ _ e2) rfl, ?_⟩
    have g02 := gX.trans g2
    have el2 := g02.get _ _ el
    have er2 := g02.get _ _ er
    have hst := mx_bd (l := difs rr) (d := mx (difs l) 0) (C := 2 * B60) (difs_bd br) (mx_bd (difs_bd bl) (by constructor <;> decide))
    have h2 : (itLst m.length 2 fun _ x => x).n = 2 := rfl
    rw [h2]
    have en0 : ¬ (2 : Nat) = 0 := by decide
    have en1 : ¬ (2 : Nat) = 1 := by decide
    simp only [en0, en1, if_false]
    generalize hst' : mx (difs rr) (mx (difs l) 0) = st at *
    have bst : intBits st ≤ 210 := bits_of (by
      have : (2 : Int) * B60 < 2 ^ 210 := by decide +kernel
      omega)
    have bll := bits_of (x := (l.length : Int) + (rr.length : Int)) (n := 20) (by omega)
    simp [el2, er2, wipeM]
    refine ⟨by omega, ?_⟩
    refine ys_comp el2 (by omega) (by simp) ?_
    simp
    rw [b_maxL (ns := l.map (·.2)) (by simp), max_get (by simpa using l1)]
    have er3 : ∀ o, (m2 ++ o)[ca (i + 1) j]? = some (.lst (ptD rr)) := fun o => get_app er2
    have el3 : ∀ o, (m2 ++ o)[ca i (j + 1)]? = some (.lst (ptD l)) := fun o => get_app el2
    simp [er3, wipeM]
    refine ys_comp (er3 _) (by omega) (by simp) ?_
    simp
    rw [b_minL (ns := rr.map (·.2)) (by simp), min_get (by simpa using r1)]
    have T2 := T.gx g02
    have t2 := T2.e
    have t2' : ∀ o, (m2 ++ o)[r]? = some (.lst RA) := fun o => by rw [hRA] at t2; exact get_app t2
    have tr2 := g02.get _ _ tr1
    have tr2' : ∀ o, (m2 ++ o)[ra (i + 1)]? = some (.lst R1) := fun o => get_app tr2
    simp [t2', x1, er3, wipeM]
    have hu : st * ((l.length : Int) + (rr.length : Int)) + (l.map (·.2)).max?.getD 0 - (rr.map (·.2)).min?.getD 0 = upB l rr st := rfl
    rw [hu]
    generalize hu2 : upB l rr st = u at *
    refine mapC (ds := ptD (rr.map fun z => (z.1 + (l.length : Int), z.2 + u + 1))) (by simp) (by simp; omega) (fun k y hy => ?_) (itLst_fin (er3 _) (by simp)) ?_
    · rw [List.getElem?_map, List.getElem?_map] at hy
      cases hz : rr[k]? with
      | none => rw [hz] at hy; cases hy
      | some z =>
        rw [hz] at hy
        cases hy
        refine ⟨.tup (dPt z), by rw [itLst_at (er3 _) (by simp)]; simp [hz], fun Q' hq => ?_⟩
        simp [el3]
        exact hq
    simp [el3, sizeLine_eq]
    refine ⟨by omega, ?_⟩
    have hR1l : R1.length = B := by rw [← hR1]; simp
    have hset : ∀ (Y : Hm) (v : Mi.D), setO (some (.lst R1)) Y (ra (i + 1)) ((j : Int) + 1) v = some (Y.set (ra (i + 1)) (.lst (R1.set (j + 1) v))) := fun Y v => by
      have := setO_l (m := Y) (n := ra (i + 1)) (xs := R1) (i := j + 1) (v := v)
      rw [if_pos (by omega)] at this
      exact this
    rw [tr2', hset]
    have hj' : ptD l ++ List.map ((fun z => Mi.D.tup (dPt z)) ∘ fun (z : Int × Int) => (z.1 + (l.length : Int), z.2 + u + 1)) rr = ptD (l ++ rr.map fun z => (z.1 + (l.length : Int), z.2 + u + 1)) := by simp
    rw [hj']
    have hjoin : joinB l rr = l ++ rr.map fun z => (z.1 + (l.length : Int), z.2 + u + 1) := by
      unfold joinB
      simp only [hst', hu2]
    rw [← hjoin]
    generalize hY : m2 ++ [O.lst (List.map (Mi.D.int ∘ fun x => x.2) l), O.lst (List.map (Mi.D.int ∘ fun x => x.2) rr), O.lst (List.map ((fun z => Mi.D.tup (dPt z)) ∘ fun (z : Int × Int) => (z.1 + (l.length : Int), z.2 + u + 1)) rr), O.lst (ptD (joinB l rr))] = Y at *
    have gY : Gx m2 Y := by rw [← hY]; exact Gx.app
    have eY : Y[m2.length + 3]? = some (.lst (ptD (joinB l rr))) := by rw [← hY]; simp
    have hl2 := (g02).len
    have TY := (T2.gx gY).set hi hj eY (fun k hk => by have := (T2.lt k hk).1; have := get_lt T2.e; omega)
    rw [hR1] at TY
    simp
    refine q _ _ _ _ _ _ _ _ _ _ TY (fun k o hk ho => ?_) ?_
    · rw [get_set_ne (Ne.symm hk)]; exact (g02.trans gY).get _ _ ho
    · rw [List.length_set]; exact (g02.trans gY).len
end
end Ours
namespace Ours
open PySem PySem.Spec PyProof.Rows L2 Mi
open Builtin.Int
theorem bpR_pos (p : Nat → List (Int × Int)) (hp : ∀ j, 1 ≤ (p j).length) : ∀ j, 1 ≤ (bpR p j).length
  | 0 => by simp [bpR]
  | j + 1 => by
    have := hp (j + 1)
    simp [bpR, joinB]
    omega
theorem bp_pos : ∀ i j, 1 ≤ (bp i j).length
  | 0, j => by simp [bp]
  | i + 1, j => bpR_pos _ (bp_pos i) j
section
variable {m : Hm} {Q : Rs Mi.D → Prop} {QS : Ou → Prop}
theorem best_w {a b : Nat} (ha : a ≤ 21) (hb : b ≤ 21) (hab : a + b ≤ 22) (hok : ∀ i j, i ≤ a → j ≤ b → okP i j = true) (q : ∀ c m', m'[c]? = some (.lst (ptD (bp a b))) → Gx m m' → Q (.ok (.ref c) m')) : wF f_law_best_points [.int a, .int b] m Q := by
  unfold f_law_best_points m_law_best_points
  rw [wF_run]
  simp [slots, wipeM]
  refine ⟨by omega, ?_⟩
  refine table_w (A := a + 1) (B := b + 1) (by omega) (by omega) (by simp) (by simp) fun ra ca m1 hT g1 => ?_
  have T0 := hT m1.length (Nat.le_refl _) (m1 ++ [.lst ((List.range (a + 1)).map fun i => .ref (ra i))]) Gx.app (by simp)
  simp
  refine ⟨by omega, ?_⟩
  generalize hX : m1 ++ [O.lst ((List.range (a + 1)).map fun i => Mi.D.ref (ra i))] = X at *
  have gX : Gx m X := by rw [← hX]; exact g1.trans Gx.app
  have cell_ok : ∀ i j, i ≤ a → j ≤ b → Bd B60 (bp i j) ∧ 1 ≤ (bp i j).length ∧ (bp i j).length ≤ 100 := fun i j hi hj => by
    obtain ⟨_, h2, _, h4⟩ := bp_ok (i := i) (j := j) (by omega) (by omega) (by omega) (hok i j hi hj)
    exact ⟨bd_of h2, bp_pos i j, by omega⟩
  refine wI_inv (fun t ρ m' => ∃ z3 z4 z5 z6 z7 z8 z9 z10 z11 z12 ca V, ρ = [.is (.int a), .is (.int b), .is (.ref m1.length), z3, z4, z5, z6, z7, z8, z9, z10, z11, z12] ∧ TB m' m1.length (a + 1) (b + 1) m.length ra ca V ∧ (∀ x y, x ≤ a → y ≤ b → (x ≤ t ∨ y = 0) → V x y = bp x y) ∧ Gx m m') ?_ ?_ ?_
  · refine ⟨_, _, _, _, _, _, _, _, _, _, _, _, rfl, T0, fun x y _ _ h => ?_, gX⟩
    rcases h with h | h
    · have : x = 0 := by omega
      subst this; rfl
    · subst h; rw [bp_r]
  · rintro t ρ m2 ht ⟨z3, z4, z5, z6, z7, z8, z9, z10, z11, z12, ca2, V, rfl, T2, hV, g2⟩ I hI
    have ht : t < a := ht
    refine ⟨.int ((t : Int) + 1), by simp [itRg]; omega, ?_⟩
    simp
    refine ⟨by omega, ?_⟩
    refine wI_inv (fun u ρ m' => ∃ z4 z5 z6 z7 z8 z9 z10 z11 z12 ca V, ρ = [.is (.int a), .is (.int b), .is (.ref m1.length), .is (.int ((t : Int) + 1)), z4, z5, z6, z7, z8, z9, z10, z11, z12] ∧ TB m' m1.length (a + 1) (b + 1) m.length ra ca V ∧ (∀ x y, x ≤ a → y ≤ b → (x ≤ t ∨ y = 0 ∨ (x = t + 1 ∧ y ≤ u)) → V x y = bp x y) ∧ Gx m m') ?_ ?_ ?_
    · refine ⟨_, _, _, _, _, _, _, _, _, _, _, rfl, T2, fun x y h1 h2 h => hV x y h1 h2 (by omega), g2⟩
    · rintro u ρ m3 hu ⟨z4, z5, z6, z7, z8, z9, z10, z11, z12, ca3, V, rfl, T3, hV, g3⟩ I2 hI2
      have hu : u < b := hu
      refine ⟨.int ((u : Int) + 1), by simp [itRg]; omega, ?_⟩
      obtain ⟨b1, b2, b3⟩ := cell_ok t (u + 1) (by omega) (by omega)
      obtain ⟨c1, c2, c3⟩ := cell_ok (t + 1) u (by omega) (by omega)
      have v1 := hV t (u + 1) (by omega) (by omega) (.inl (Nat.le_refl _))
      have v2 := hV (t + 1) u (by omega) (by omega) (.inr (.inr ⟨rfl, Nat.le_refl _⟩))
      refine ⟨([.is (.int a), .is (.int b), .is (.ref m1.length), .is (.int ((t : Int) + 1)), .is (.int ((u : Int) + 1)), z5, z6, z7, z8, z9, z10, z11, z12], m3), rfl, ?_⟩
      show wS bodyB _ m3 (lpK I2 _)
      refine body_w T3 (by omega) (by omega) v1 v2 b2 b3 c2 c3 b1 c1 fun m4 c y5 y6 y7 y8 y9 y10 y11 y12 T4 h4 l4 => ?_
      refine hI2 _ _ ⟨_, _, _, _, _, _, _, _, _, _, _, rfl, T4, fun x y h1 h2 h => ?_, ⟨by have := g3.len; omega, fun n o ho => h4 n o ?_ (g3.get _ _ ho)⟩⟩
      · by_cases e : x = t + 1 ∧ y = u + 1
        · obtain ⟨rfl, rfl⟩ := e
          simp [bp_s]
        · simp only [e, if_false]
          exact hV x y h1 h2 (by omega)
      · have := (T3.lt (t + 1) (by omega)).2
        have := get_lt ho
        omega
    · rintro ρ m3 ⟨z4, z5, z6, z7, z8, z9, z10, z11, z12, ca3, V, rfl, T3, hV, g3⟩
      refine ⟨rfl, hI _ _ ⟨_, _, _, _, _, _, _, _, _, _, _, _, rfl, T3, fun x y h1 h2 h => hV x y h1 h2 ?_, g3⟩⟩
      by_cases e : x = t + 1
      · refine .inr (.inr ⟨e, ?_⟩)
        exact h2
      · omega
  · rintro ρ m2 ⟨z3, z4, z5, z6, z7, z8, z9, z10, z11, z12, ca2, V, rfl, T2, hV, g2⟩
    refine ⟨rfl, ?_⟩
    have v := hV a b (Nat.le_refl _) (Nat.le_refl _) (.inl (Nat.le_refl a))
    have te := T2.e
    have tr := T2.row a (by omega)
    have tc := T2.cell a b (by omega) (by omega)
    rw [v] at tc
    have x0 := rangeR_at ra (n := a + 1) (i := a) (by omega)
    have y0 := rangeR_at (ca2 a) (n := b + 1) (i := b) (by omega)
    generalize (List.range (a + 1)).map (fun i => Mi.D.ref (ra i)) = RA at *
    generalize (List.range (b + 1)).map (fun j => Mi.D.ref (ca2 a j)) = R0 at *
    simp [te, tr, x0, y0]
    exact q _ m2 tc g2
end
end Ours
namespace Ours
open PySem PySem.Spec PyProof.Rows L2 Mi
open Builtin.Int
/-! ### forms -/
/-- ps: the points, each in some form -/
structure Fm (ps : List Pd) (pts : List (Int × Int)) : Prop where
  len : ps.length = pts.length
  at_ : ∀ (i : Nat) (p : Pd), ps[i]? = some p → ∃ z, pts[i]? = some z ∧ (p = .lst (pPt z) ∨ p = .tup (pPt z))
theorem Fm.nil : Fm [] [] := ⟨rfl, fun i p h => by simp at h⟩
theorem Fm.snoc {ps : List Pd} {pts : List (Int × Int)} (h : Fm ps pts) {z : Int × Int} {p : Pd} (hp : p = .lst (pPt z) ∨ p = .tup (pPt z)) : Fm (ps ++ [p]) (pts ++ [z]) := by
  refine ⟨by simp [h.len], fun i x hx => ?_⟩
  by_cases c : i < ps.length
  · rw [List.getElem?_append_left c] at hx
    obtain ⟨y, hy, e⟩ := h.at_ i x hx
    exact ⟨y, by rw [List.getElem?_append_left (h.len ▸ c)]; exact hy, e⟩
  · have hi : i = ps.length := by
      have := (List.getElem?_eq_some_iff.mp hx).1
      simp at this; omega
    subst hi
    simp at hx
    subst hx
    exact ⟨z, by simp [h.len], hp⟩
theorem pt_dle {z : Int × Int} {p : Pd} (h : p = .lst (pPt z) ∨ p = .tup (pPt z)) (k : Nat) : dle (k + 2) p := by
  rcases h with rfl | rfl <;> refine ⟨by simp, fun x hx => ?_⟩ <;> simp at hx <;> rcases hx with rfl | rfl <;> trivial
theorem pt_okd {z : Int × Int} {p : Pd} (h : p = .lst (pPt z) ∨ p = .tup (pPt z)) (k : Nat) : okd k p := by
  have g : ∀ (k : Nat) (i : Int), okd k (.int i) := fun k i => by cases k <;> trivial
  rcases h with rfl | rfl <;> cases k with
  | zero => trivial
  | succ k => 
    intro x hx
    simp at hx
    rcases hx with rfl | rfl <;> exact g _ _
theorem pt_seq {z : Int × Int} {p : Pd} (h : p = .lst (pPt z) ∨ p = .tup (pPt z)) : seqP p = some (pPt z) := by
  rcases h with rfl | rfl <;> rfl
theorem Fm.dle {ps : List Pd} {pts : List (Int × Int)} (h : Fm ps pts) (hl : pts.length ≤ 100) (k : Nat) : dle (k + 3) (.lst ps) := by
  refine ⟨by have := h.len; omega, fun x hx => ?_⟩
  obtain ⟨i, hi⟩ := List.getElem?_of_mem hx
  obtain ⟨z, _, e⟩ := h.at_ i x hi
  exact pt_dle e _
theorem Fm.okd {ps : List Pd} {pts : List (Int × Int)} (h : Fm ps pts) (k : Nat) : okd (k + 1) (.lst ps) := by
  intro x hx
  obtain ⟨i, hi⟩ := List.getElem?_of_mem hx
  obtain ⟨z, _, e⟩ := h.at_ i x hi
  exact pt_okd e _
theorem Fm.get {ps : List Pd} {pts : List (Int × Int)} (h : Fm ps pts) {i : Nat} {z : Int × Int} (hz : pts[i]? = some z) : ∃ p, ps[i]? = some p ∧ (p = .lst (pPt z) ∨ p = .tup (pPt z)) := by
  obtain ⟨p, hp⟩ : ∃ p, ps[i]? = some p := ⟨_, List.getElem?_eq_getElem (by rw [h.len]; exact (List.getElem?_eq_some_iff.mp hz).1)⟩
  obtain ⟨y, hy, e⟩ := h.at_ i p hp
  rw [hz] at hy; cases hy
  exact ⟨p, hp, e⟩
theorem rep_pt {A : Nat → Prop} {m : Hm} (z : Int × Int) : Rep A m (.tup (dPt z)) (.tup (pPt z)) := .tup (.cons (.int _) (.cons (.int _) .nil))
/-- each point in a drawn form -/
theorem forms_comp {s c L j : Nat} {m : Hm} {w : Wk} {e : Mv Mi.D} {ρ : Ro} {pts : List (Int × Int)} {Q : List Mi.D → Hm → Prop} (hn : w.n = pts.length) (hl : pts.length ≤ 100) (S : St s c L m) (hL : L + 100 ≤ 2 ^ 200)
    (hw : ∀ i m' z, pts[i]? = some z → Frs s m m' → ∃ d, w.at_ i m' = some d ∧ ∀ Q', wF f_law_form [.ref s, .tup (dPt z)] m' Q' → wE e (ρ.set j (.is d)) m' Q') (hf : ∀ m', Frs s m m' → w.fin m' = true)
    (q : ∀ acc ps m', Reps (Ns s) m' acc ps → Fm ps pts → St s c (L + 100) m' → Frs s m m' → Q acc m') : wL w (gNm j) tYesM e ρ m [] Q := by
  refine wL_inv (fun i acc m' => ∃ ps, Reps (Ns s) m' acc ps ∧ Fm ps (pts.take i) ∧ St s c (L + i) m' ∧ Frs s m m') ⟨[], .nil, by simpa using Fm.nil, S, Frs.refl _ _⟩ ?_ ?_
  · rintro i acc m' hi ⟨ps, r, f, S', F⟩ I hI
    have hi : i < pts.length := by rw [← hn]; exact hi
    obtain ⟨z, hz⟩ : ∃ z, pts[i]? = some z := ⟨_, List.getElem?_eq_getElem hi⟩
    obtain ⟨d, hd, he⟩ := hw i m' z hz F
    refine ⟨d, hd, ?_⟩
    simp
    refine he _ (form_w S' (by omega) (rep_pt z) rfl fun v p' m2 hp rv S2 F2 => ?_)
    simp
    have al := r.length
    have := f.len
    rw [List.length_take] at this
    refine ⟨by rw [sizeLine_eq]; omega, hI _ _ ⟨ps ++ [p'], ?_, ?_, S2, F.trans F2⟩⟩
    · exact (r.fr F2 fun _ h => h).append (.cons rv .nil)
    · rw [List.take_add_one, hz]
      exact f.snoc hp
  · rintro acc m' ⟨ps, r, f, S', F⟩
    rw [hn, List.take_length] at f
    exact ⟨hf m' F, q acc ps m' r f (S'.up (by omega)) F⟩
def xB (l : List (Int × Int)) : Bool := l.all fun z => decide (0 ≤ z.1) && decide (z.1 < (l.length : Int))
set_option maxHeartbeats 0 in
theorem bp_x_all : ∀ i, i < 22 → ∀ j, j < 22 → (i + j ≤ 22 → (!okP i j || xB (bp i j)) = true) := by decide +kernel
theorem bp_x {i j : Nat} (hi : i ≤ 21) (hj : j ≤ 21) (hij : i + j ≤ 22) (h : okP i j = true) : ∀ z ∈ bp i j, 0 ≤ z.1 ∧ z.1 < ((bp i j).length : Int) := by
  have := bp_x_all i (by omega) j (by omega) hij
  rw [h] at this
  intro z hz
  have := List.all_eq_true.mp (show xB (bp i j) = true by simpa using this) z hz
  simpa using this
theorem Inc.cons {pts : List (Int × Int)} (h : Inc pts) {z : Int × Int} (hz : ∀ w ∈ pts, z.1 < w.1) : Inc (z :: pts) := by
  intro i u w hu hw
  cases i with
  | zero =>
    simp at hu hw
    subst hu
    exact hz w (List.mem_of_getElem? hw)
  | succ i => exact h i u w (by simpa using hu) (by simpa using hw)
theorem Bd.mono {B C : Int} {l : List (Int × Int)} (h : Bd B l) (hc : B ≤ C) : Bd C l := fun z hz => by
  obtain ⟨h1, h2, h3, h4⟩ := h z hz
  exact ⟨by omega, by omega, by omega, by omega⟩
theorem b60_bb : 100 * B60 < BB := by decide +kernel
theorem b60_big : (1000 : Int) < B60 := by decide +kernel
section
variable {s c L : Nat} {m : Hm} {Q : Rs Mi.D → Prop}
theorem case_w {kind : Int} {a b : Nat} (S : St s c L m) (hL : L + 400 ≤ 2 ^ 200) (hk : kind = 0 ∨ ((kind = 1 ∨ kind = 2) ∧ a ≤ 21 ∧ b ≤ 21 ∧ a + b ≤ 22 ∧ ch (a + b) a ≤ 22 ∧ ∀ i j, i ≤ a → j ≤ b → okP i j = true))
    (q : ∀ (t : Nat) (pts : List (Int × Int)) m', m.length ≤ t → m'[t]? = some (.lst (ptD pts)) → Inc pts → Bd BB pts → pts.length ≤ 31 → (kind ≠ 0 → pts.length = ch (a + b) a + 1) → St s c (L + 400) m' → Frs s m m' → Q (.ok (.ref t) m')) : wF f_law_case [.ref s, .int kind, .int a, .int b] m Q := by
  unfold f_law_case m_law_case
  rw [wF_run]
  have b4 : intBits 4 ≤ 2000 := bits_mono (bits_of (n := 9) (by decide)) (by decide)
  have b7 : intBits 7 ≤ 2000 := bits_mono (bits_of (n := 9) (by decide)) (by decide)
  have b13 : intBits 13 ≤ 2000 := bits_mono (bits_of (n := 9) (by decide)) (by decide)
  have b2 : intBits 2 ≤ 2000 := bits_mono (bits_of (n := 9) (by decide)) (by decide)
  have b3 : intBits 3 ≤ 2000 := bits_mono (bits_of (n := 9) (by decide)) (by decide)
  have hs := S.lt
  by_cases c0 : kind = 0
  · subst c0
    simp [slots]
    refine chance_w S (by omega) b4 fun bb m1 S1 F1 l1 => ?_
    simp
    cases bb with
    | true =>
      simp
      refine between_w S1 (by omega) b7 (by decide) fun n m2 n0 n1 S2 F2 l2 => ?_
      obtain ⟨n, rfl⟩ : ∃ k : Nat, n = k := ⟨n.toNat, by omega⟩
      simp
      refine full_w S2 (by omega) (by omega) fun t pts m3 ht e hl hI hB S3 F3 => ?_
      simp
      exact q t pts m3 (by omega) e hI hB (by omega) (fun h => (h rfl).elim) (S3.up (by omega)) ((F1.trans F2).trans F3)
    | false =>
      simp
      refine edge_w S1 (by omega) b13 (by decide) fun n m2 n0 n1 S2 F2 l2 => ?_
      obtain ⟨n, rfl⟩ : ∃ k : Nat, n = k := ⟨n.toNat, by omega⟩
      simp
      refine full_w S2 (by omega) (by omega) fun t pts m3 ht e hl hI hB S3 F3 => ?_
      simp
      exact q t pts m3 (by omega) e hI hB (by omega) (fun h => (h rfl).elim) (S3.up (by omega)) ((F1.trans F2).trans F3)
  obtain ⟨hk, ha, hb, hab, hch, hok⟩ := hk.resolve_left c0
  by_cases c1 : kind = 1
  · simp [slots, c0, c1]
    have eab : (a : Int) + (b : Int) = ((a + b : Nat) : Int) := by omega
    rw [eab]
    refine choose_w (by omega) ?_
    have ec : ((ch (a + b) a : Nat) : Int) + 1 = ((ch (a + b) a + 1 : Nat) : Int) := by omega
    simp
    rw [ec]
    refine full_w S (by omega) (by omega) fun t pts m3 ht e hl hI hB S3 F3 => ?_
    simp
    exact q t pts m3 (by omega) e hI hB (by omega) (fun _ => hl) (S3.up (by omega)) F3
  have c2 : kind = 2 := by rcases hk with h | h <;> omega
  simp [slots, c0, c1, c2]
  refine best_w ha hb hab hok fun cb m1 e1 g1 => ?_
  obtain ⟨o1, o2, o3, o4⟩ := bp_ok ha hb hab (hok a b (Nat.le_refl _) (Nat.le_refl _))
  have ox := bp_x ha hb hab (hok a b (Nat.le_refl _) (Nat.le_refl _))
  have oI := inc_of o1
  have oB := bd_of o2
  have op := bp_pos a b
  generalize bp a b = P at *
  have hmin : P.map (·.2) ≠ [] := by intro h; have := congrArg List.length h; simp at this; subst this; simp at op
  obtain ⟨lo, hlo⟩ : ∃ k, (P.map (·.2)).min? = some k := ⟨_, min_get (by simpa using op)⟩
  obtain ⟨hi, hhi⟩ : ∃ k, (P.map (·.2)).max? = some k := ⟨_, max_get (by simpa using op)⟩
  have ylo := List.min?_mem hlo
  have yhi := List.max?_mem hhi
  have hlohi : lo ≤ hi := (List.max?_eq_some_iff.mp hhi).2 lo ylo
  obtain ⟨zl, hzl, rfl⟩ := List.mem_map.mp ylo
  obtain ⟨zh, hzh, rfl⟩ := List.mem_map.mp yhi
  obtain ⟨_, _, p1, p2⟩ := oB zl hzl
  obtain ⟨_, _, p3, p4⟩ := oB zh hzh
  generalize zl.2 = lo at *
  generalize zh.2 = hi at *
  simp [e1, wipeM]
  refine ys_comp e1 (by omega) (by simp) ?_
  simp
  rw [b_minL (ns := P.map (·.2)) (by simp), hlo]
  have e1' : ∀ o, (m1 ++ o)[cb]? = some (.lst (ptD P)) := fun o => get_app e1
  simp [e1', wipeM]
  refine ys_comp (e1' _) (by omega) (by simp) ?_
  simp
  rw [b_maxL (ns := P.map (·.2)) (by simp), hhi]
  simp
  have hB2 : (100 : Int) * B60 < 2 ^ 210 := by decide +kernel
  have hB3 := b60_bb
  have hB4 := b60_big
  have bhi := bits_of (x := hi) (n := 210) (by omega)
  have b9 := bits_of (x := (9 : Int)) (n := 20) (by decide)
  have bd := bits_of (x := hi - lo + 1) (n := 210) (by omega)
  refine ⟨by omega, ?_⟩
  have g2 : Gx m1 (m1 ++ [O.lst (List.map (Mi.D.int ∘ fun x => x.2) P), O.lst (List.map (Mi.D.int ∘ fun x => x.2) P)]) := Gx.app
  refine between_w ((S.gx g1).gx g2) (by omega) (by omega) hlohi fun y m2 y0 y1 S2 F2 l2 => ?_
  have F02 : Frs s m m2 := (g1.trans g2).fr.trans F2
  have hcs : cb ≠ s := by
    intro h
    subst h
    obtain ⟨cells, i1, i2, i3, i4, h1, _⟩ := (S.gx g1).ex
    rw [e1] at h1
    have := congrArg (fun o => match o with | some (O.lst (x :: _)) => (match x with | .ref _ => true | _ => false) | _ => false) h1
    cases P with
    | nil => simp at op
    | cons p P => simp at this
  have e2 := F2.get _ _ hcs (g2.get _ _ e1)
  have hs2 := S2.lt
  simp
  refine pick_w S2.app (by omega) (ds := [.int (lo - 1), .int lo, .int 0, .int hi, .int (hi + 1), .int (9 * hi + 7), .int y]) ⟨.inr ⟨_, by show m2.length ≠ s; omega, rfl, by simp⟩⟩ (by simp) (by simp) fun k x m3 hx S3 F3 l3 => ?_
  obtain ⟨Y, rfl, Y0, Y1⟩ : ∃ Y : Int, x = .int Y ∧ -(10 * B60) ≤ Y ∧ Y ≤ 10 * B60 := by
    rcases k with _ | _ | _ | _ | _ | _ | _ | k <;> simp at hx <;> subst hx
    · exact ⟨_, rfl, by omega, by omega⟩
    · exact ⟨_, rfl, by omega, by omega⟩
    · exact ⟨_, rfl, by omega, by omega⟩
    · exact ⟨_, rfl, by omega, by omega⟩
    · exact ⟨_, rfl, by omega, by omega⟩
    · exact ⟨_, rfl, by omega, by omega⟩
    · exact ⟨_, rfl, by omega, by omega⟩
  have e3 := F3.get _ _ hcs (get_app e2)
  have F03 := F02.trans (Gx.app.fr.trans F3)
  have oB2 : Bd BB P := oB.mono (by omega)
  simp
  refine chance_w S3 (by omega) b2 fun bb m4 S4 F4 l4 => ?_
  have e4 := F4.get _ _ hcs e3
  simp
  cases bb with
  | true =>
    simp [e4]
    refine take_w S4 (by omega) b3 fun u m5 u0 u1 _ S5 F5 l5 => ?_
    have u1 := u1 (by decide)
    have e5 := F5.get _ _ hcs e4
    have e5' : ∀ o, (m5 ++ o)[cb]? = some (.lst (ptD P)) := fun o => get_app e5
    simp [e5', sizeLine_eq]
    refine ⟨by omega, ?_⟩
    refine q _ (P ++ [((P.length : Int) + u, Y)]) _ ?_ (by simp) (oI.snoc fun w hw => ?_) (oB2.snoc ?_) (by simp; omega) (fun _ => by simp [o3]) (S5.app.up (by omega)) (((F03.trans F4).trans F5).trans Gx.app.fr)
    · have := F03.len; have := F4.len; have := F5.len; omega
    · have := (ox w hw).2; show w.1 < (P.length : Int) + u; omega
    · exact ⟨by show -BB < (P.length : Int) + u; omega, by show (P.length : Int) + u < BB; omega, by show -BB < Y; omega, by show Y < BB; omega⟩
  | false =>
    simp
    refine take_w S4 (by omega) b3 fun u m5 u0 u1 _ S5 F5 l5 => ?_
    have u1 := u1 (by decide)
    have e5 := F5.get _ _ hcs e4
    have e5' : ∀ o, (m5 ++ o)[cb]? = some (.lst (ptD P)) := fun o => get_app e5
    simp [e5', sizeLine_eq]
    refine ⟨by omega, ?_⟩
    refine q _ ((-1 - u, Y) :: P) _ ?_ (by simp) (oI.cons fun w hw => ?_) ?_ (by simp; omega) (fun _ => by simp [o3]) (S5.app.up (by omega)) (((F03.trans F4).trans F5).trans Gx.app.fr)
    · have := F03.len; have := F4.len; have := F5.len; omega
    · have := (ox w hw).1; show -1 - u < w.1; omega
    · intro w hw
      rcases List.mem_cons.mp hw with rfl | hw
      · exact ⟨by show -BB < -1 - u; omega, by show -1 - u < BB; omega, by show -BB < Y; omega, by show Y < BB; omega⟩
      · exact oB2 w hw
end
end Ours
namespace Ours
open PySem PySem.Spec PyProof.Rows L2 Mi
open Builtin.Int
theorem odd_pt {p : Pd} (h : p ∈ oddL) : isPt p = false := by
  simp only [oddL, List.mem_cons, List.not_mem_nil, or_false] at h
  rcases h with rfl | rfl | rfl | rfl | rfl | rfl | rfl | rfl | rfl | rfl | rfl | rfl | rfl | rfl <;> rfl
theorem odd_co {p : Pd} (h : p ∈ oddL) : isCo p = false := by
  simp only [oddL, List.mem_cons, List.not_mem_nil, or_false] at h
  rcases h with rfl | rfl | rfl | rfl | rfl | rfl | rfl | rfl | rfl | rfl | rfl | rfl | rfl | rfl <;> rfl
theorem odd_w200 {p : Pd} (h : p ∈ oddL) : isW p = false := by
  simp only [oddL, List.mem_cons, List.not_mem_nil, or_false] at h
  rcases h with rfl | rfl | rfl | rfl | rfl | rfl | rfl | rfl | rfl | rfl | rfl | rfl | rfl | rfl <;> rfl
theorem w_int {x : Int} (h : x < 1 ∨ 200 < x) : isW (.int x) = false := by
  unfold isW
  rcases h with h | h
  · have : ¬ 1 ≤ x := by omega
    simp [this]
  · have : ¬ x ≤ 200 := by omega
    simp [this]
abbrev pPs (pts : List (Int × Int)) : List Pd := pts.map fun z => .tup (pPt z)
theorem reps_ptD {A : Nat → Prop} {m : Hm} : ∀ pts : List (Int × Int), Reps A m (ptD pts) (pPs pts)
  | [] => .nil
  | z :: pts => .cons (rep_pt z) (reps_ptD pts)
theorem reps_k {A : Nat → Prop} {m : Hm} : ∀ l : List Nat, Reps A m (l.map fun (k : Nat) => Mi.D.tup [.int (k : Int), .int 0]) (l.map fun (k : Nat) => .tup [.int (k : Int), .int 0])
  | [] => .nil
  | i :: l => .cons (.tup (.cons (.int _) (.cons (.int _) .nil))) (reps_k l)
/-- what is told of spoilt points -/
def Bent (s : Nat) (m : Hm) (pts : List (Int × Int)) (v w : Mi.D) : Prop :=
  (w = .non ∧ ∃ p, Rep (Ns s) m v p ∧ (seqP p = none ∨ ∃ ps, seqP p = some ps ∧ 200 < ps.length)) ∨
  ∃ (k : Nat) (px : Pd) (ps : List Pd), w = .int k ∧ Rep (Ns s) m v (.lst ps) ∧ Gk ps pts k ∧ ps[k]? = some px ∧ dle 10 px ∧ BadAt pts k px ∧ ps.length ≤ 200
theorem gk_put {pts : List (Int × Int)} {k : Nat} {px : Pd} {rest : List Pd} (hI : Inc pts) (hB : Bd LIM pts) (hk : k ≤ pts.length) : Gk ((pPs pts).take k ++ px :: rest) pts k := by
  refine ⟨fun i hi => ?_, fun i z w _ h1 h2 => hI i z w h1 h2⟩
  obtain ⟨z, hz⟩ : ∃ z, pts[i]? = some z := ⟨_, List.getElem?_eq_getElem (by omega)⟩
  refine ⟨z, .tup (pPt z), hz, ?_, rfl, hB z (List.mem_of_getElem? hz)⟩
  rw [List.getElem?_append_left (by simp; omega), List.getElem?_take_of_lt hi]
  simp [hz]
section
variable {s c L t : Nat} {m : Hm} {Q : Rs Mi.D → Prop} {pts : List (Int × Int)}
set_option maxHeartbeats 2000000 in
theorem bentp_w (S : St s c L m) (hL : L + 20 ≤ 2 ^ 200) (e : m[t]? = some (.lst (ptD pts))) (ht : t ≠ s) (hI : Inc pts) (hB : Bd BB pts) (hl : pts.length ≤ 31) (q : ∀ r v w m', m'[r]? = some (.lst [v, w]) → r ≠ s → Bent s m' pts v w → St s c (L + 20) m' → Frs s m m' → Q (.ok (.ref r) m')) : wF f_law_bent_points [.ref s, .ref t] m Q := by
  unfold f_law_bent_points m_law_bent_points
  rw [wF_run]
  have hs := S.lt
  obtain ⟨hc1, hc2⟩ := S.ctr
  have b7 : intBits 7 ≤ 2000 := bits_mono (bits_of (n := 9) (by decide)) (by decide)
  have b2 : intBits 2 ≤ 2000 := bits_mono (bits_of (n := 9) (by decide)) (by decide)
  have hBL : Bd LIM pts := hB.mono (Int.le_of_lt bb_lim)
  simp [slots]
  refine take_w S (by omega) b7 fun kind m1 k0 k1 _ S1 F1 l1 => ?_
  have e1 := F1.get _ _ ht e
  simp
  by_cases c0 : kind = 0
  · simp [c0]
    refine not_sequence_w S1 (by omega) fun v p m2 hp r2 S2 F2 => ?_
    simp
    refine q _ v .non _ (by simp) (by have := S2.lt; omega) (.inl ⟨rfl, p, ?_, .inl (nseq_ok hp).1⟩) (S2.app.up (by omega)) ((F1.trans F2).trans Gx.app.fr)
    exact (New.ns (by omega) r2).gx Gx.app
  by_cases c1 : kind = 1
  · simp [c0, c1, wipeM]
    refine mapC (ds := (List.range 201).map fun (k : Nat) => .tup [.int (k : Int), .int 0]) (by simp) (by simp) (fun i y hy => ?_) rfl ?_
    · rw [List.getElem?_map] at hy
      have hi : i < 201 := by
        by_cases h : i < 201
        · exact h
        · rw [List.getElem?_eq_none (by simp; omega)] at hy; cases hy
      rw [List.getElem?_range hi] at hy
      cases hy
      refine ⟨_, rfl, fun Q' hq => ?_⟩
      simp
      exact hq
    simp
    refine q _ (.ref m1.length) .non _ (by simp) (by omega) (.inl ⟨rfl, .lst ((List.range 201).map fun (k : Nat) => .tup [.int (k : Int), .int 0]), .lst (by show m1.length ≠ s; omega) (by simp; rfl) ?_, .inr ⟨_, rfl, by simp⟩⟩) (S1.app.up (by omega)) (F1.trans Gx.app.fr)
    exact reps_k _
  simp [c0, c1, e1]
  have e2 : ∀ o, (m1 ++ o)[t]? = some (.lst (ptD pts)) := fun o => get_app e1
  simp [e2]
  refine edge_w S1.app (by omega) (bits_mono (bits_of (n := 9) (by omega)) (by decide)) (by omega) fun k m2 k0' k1' S2 F2 l2 => ?_
  obtain ⟨k, rfl⟩ : ∃ j : Nat, k = j := ⟨k.toNat, by omega⟩
  have hk : k ≤ pts.length := by omega
  have c199 : ¬ (199 : Int) < (k : Int) := by omega
  have e3 := F2.get _ _ ht (e2 [O.lst (ptD pts)])
  have ev : m2[m1.length]? = some (.lst (ptD pts)) := F2.get _ _ (by omega) (by simp)
  have F02 : Frs s m m2 := (F1.trans Gx.app.fr).trans F2
  simp [c199]
  refine ite_cut (fun ρ m' => m' = m2 ∧ ∃ x : Int, ρ = [.is (.ref s), .is (.ref t), .is (.int kind), .is (.ref m1.length), .is (.int k), .is (.int x), .un, .un, .un] ∧ -BB < x ∧ x < BB ∧ ∀ j, k = j + 1 → ∃ z, pts[j]? = some z ∧ x = z.1) ?_ ?_
  · intro P' hP
    cases k with
    | zero =>
      simp
      exact hP _ _ ⟨rfl, 0, rfl, by decide, by decide, fun j h => by omega⟩
    | succ j =>
      have hj : (0 : Int) < (j : Int) + 1 := by omega
      have ej : (j : Int) + 1 - 1 = (j : Int) := by omega
      obtain ⟨z, hz⟩ : ∃ z, pts[j]? = some z := ⟨_, List.getElem?_eq_getElem (by omega)⟩
      obtain ⟨z1, z2, _, _⟩ := hB z (List.mem_of_getElem? hz)
      simp [e3, hz, ej]
      exact hP _ _ ⟨rfl, z.1, rfl, z1, z2, fun i h => (show j = i by omega) ▸ ⟨z, hz, rfl⟩⟩
  rintro ρ m' ⟨rfl, x, rfl, x0, x1, hx⟩
  simp
  refine odd_w S2 (by omega) fun wv wp m3 hwp r3 S3 F3 => ?_
  have hs2 := S2.lt
  have hm12 : m1.length < m'.length := get_lt ev
  have r3 : Rep (Nst s m1.length) m3 wv wp := r3.wk fun n hn _ => by simp [New] at hn; constructor <;> omega
  simp
  refine ⟨by decide +kernel, by decide +kernel, by decide +kernel, ?_⟩
  obtain ⟨F, hF⟩ : ∃ F, F = LIM := ⟨_, rfl⟩
  rw [lim_eq, ← hF]
  have bF : intBits F ≤ 700 := bits_of (by subst hF; decide +kernel)
  have hcoF : ∀ y : Int, y = F ∨ y = -F → isCo (.int y) = false := fun y hy => by
    rcases hy with rfl | rfl
    · subst hF
      unfold isCo
      have : ¬ (LIM < LIM) := by omega
      simp
    · subst hF
      unfold isCo
      simp
  have hpt2 : ∀ a b : Pd, isCo b = false → isPt (.lst [a, b]) = false ∧ isPt (.tup [a, b]) = false ∧ isPt (.lst [b, a]) = false := fun a b h => by
    refine ⟨?_, ?_, ?_⟩ <;> simp [isPt, seqP, h]
  have F3' : Frs s m m3 := F02.trans F3
  refine ite_cut (fun ρ m' => ∃ wv wp, ρ = [.is (.ref s), .is (.ref t), .is (.int kind), .is (.ref m1.length), .is (.int k), .is (.int x), .is wv, .is (.int F), .un] ∧ Rep (Nst s m1.length) m' wv wp ∧ dle 10 wp ∧ BadAt pts k wp ∧ St s c (L + 8) m' ∧ Frs s m3 m') ?_ ?_
  · intro P' hP
    by_cases c2 : kind = 2
    · simp [c2]
      exact hP _ _ ⟨.tup [.int (x + 1), .int 0, .int 0], .tup [.int (x + 1), .int 0, .int 0], by simp [c2], .tup (.cons (.int _) (.cons (.int _) (.cons (.int _) .nil))), by simp [dle], .inl rfl, S3.up (by omega), Frs.refl _ _⟩
    by_cases c3 : kind = 3
    · simp [c3]
      refine odd_w S3 (by omega) fun ov op m4 hop r4 S4 F4 => ?_
      have hs3 := S3.lt
      have hs4 := S4.lt
      simp
      refine hP _ _ ⟨.ref m4.length, .lst [.int (x + 1), op], by simp [c3], .lst (by have := F3.len; have := F4.len; constructor <;> omega) (by simp) (.cons (.int _) (.cons ((r4.wk fun n hn _ => by have := F3.len; simp [New] at hn; constructor <;> omega).gx Gx.app) .nil)), ?_, .inl (hpt2 _ _ (odd_co hop)).1, S4.app.up (by omega), F4.trans Gx.app.fr⟩
      refine ⟨by simp, fun y hy => ?_⟩
      simp at hy
      rcases hy with rfl | rfl
      · trivial
      · exact dle_mono (k := 4) (odd_ok hop).2.1 (by decide)
    by_cases c4 : kind = 4
    · simp [c4]
      refine take_w S3 (by omega) b2 fun u m4 u0 u1 _ S4 F4 l4 => ?_
      have u1 := u1 (by decide)
      have bu := bits_of (x := u) (n := 20) (by omega)
      have b22 := bits_of (x := (2 : Int)) (n := 20) (by decide)
      have buu := bits_of (x := 1 - 2 * u) (n := 20) (by omega)
      simp
      refine ⟨by omega, by omega, ?_⟩
      have hco : isCo (.int (F * (1 - 2 * u))) = false := hcoF _ (by
        have : u = 0 ∨ u = 1 := by omega
        rcases this with rfl | rfl
        · left; simp
        · right; simp)
      exact hP _ _ ⟨.tup [.int (x + 1), .int (F * (1 - 2 * u))], .tup [.int (x + 1), .int (F * (1 - 2 * u))], by simp [c4], .tup (.cons (.int _) (.cons (.int _) .nil)), by simp [dle], .inl (hpt2 _ _ hco).2.1, S4.up (by omega), F4⟩
    have fin : ∀ P' : Ro → Hm → Prop, (∀ ρ m', (∃ wv wp, ρ = [.is (.ref s), .is (.ref t), .is (.int kind), .is (.ref m1.length), .is (.int k), .is (.int x), .is wv, .is (.int F), .un] ∧ Rep (Nst s m1.length) m' wv wp ∧ dle 10 wp ∧ BadAt pts k wp ∧ St s c (L + 8) m' ∧ Frs s m3 m') → P' ρ m') → P' [.is (.ref s), .is (.ref t), .is (.int kind), .is (.ref m1.length), .is (.int k), .is (.int x), .is wv, .is (.int F), .un] m3 := fun P' hP =>
      hP _ _ ⟨wv, wp, rfl, r3, dle_mono (k := 4) (odd_ok hwp).2.1 (by decide), .inl (odd_pt hwp), S3.up (by omega), Frs.refl _ _⟩
    by_cases c5 : kind = 5
    · cases k with
      | zero =>
        simp [c5]
        simpa [c5] using fin P' hP
      | succ j =>
        obtain ⟨z, hz, rfl⟩ := hx j rfl
        simp [c5]
        refine take_w S3 (by omega) b2 fun u m4 u0 u1 _ S4 F4 l4 => ?_
        have u1 := u1 (by decide)
        simp
        have hlim := bb_lim
        refine hP _ _ ⟨.tup [.int (z.1 - u), .int 0], .tup [.int (z.1 - u), .int 0], by simp [c5], .tup (.cons (.int _) (.cons (.int _) .nil)), by simp [dle], .inr ⟨(z.1 - u, 0), z, j, rfl, ⟨?_, ?_, ?_, ?_⟩, rfl, hz, ?_⟩, S4.up (by omega), F4⟩
        · show -LIM < z.1 - u
          omega
        · show z.1 - u < LIM
          omega
        · show -LIM < 0
          decide +kernel
        · show 0 < LIM
          decide +kernel
        · show z.1 - u ≤ z.1
          omega
    have c6 : kind = 6 := by omega
    simp [c6]
    exact hP _ _ ⟨.ref m3.length, .lst [.int F, .int 0], by simp [c6], .lst (by have := S3.lt; have := F3.len; constructor <;> omega) (by simp) (.cons (.int _) (.cons (.int _) .nil)), by simp [dle], .inl (hpt2 _ _ (hcoF F (.inl rfl))).2.2, S3.app.up (by omega), Gx.app.fr⟩
  rintro ρ m' ⟨wv, wp, rfl, r4, hd, hbad, S4, F4⟩
  simp
  have ev4 := F4.get _ _ (by omega) (F3.get _ _ (by omega) ev)
  have hm4 := get_lt ev4
  have hs4 := S4.lt
  have F04 := F3'.trans F4
  -- the value, whatever was done
  have fin : ∀ (X : Hm) (rest : List Mi.D) (rp : List Pd), X = m'.set m1.length (.lst ((ptD pts).take k ++ wv :: rest)) → (∀ A M, Reps A M rest rp) → rp.length ≤ 100 → Q (.ok (.ref m'.length) (X ++ [.lst [.ref m1.length, .int k]])) := fun X rest rp hX hr hrl => by
    have eX : X[m1.length]? = some (.lst ((ptD pts).take k ++ wv :: rest)) := by rw [hX]; exact get_set ev4 _
    have SX : St s c (L + 20) X := by rw [hX]; exact (S4.set (by omega) (by omega)).up (by omega)
    have FX : Frs s m X := by rw [hX]; exact F04.setN (by omega)
    have hXl : X.length = m'.length := by rw [hX]; simp
    have rX : Rep (Ns s) X wv wp := by
      rw [hX]
      exact (r4.set (n := m1.length) fun n h => h.2).wk fun n h _ => h.1
    rw [← hXl]
    refine q X.length (.ref m1.length) (.int k) _ (by simp) (by omega) (.inr ⟨k, wp, (pPs pts).take k ++ wp :: rp, rfl, .lst (by show m1.length ≠ s; omega) (get_app eX) ?_, gk_put hI hBL hk, ?_, hd, hbad, ?_⟩) SX.app (FX.trans Gx.app.fr)
    · have h1 : Reps (Ns s) (X ++ [O.lst [.ref m1.length, .int k]]) ((ptD pts).take k) ((pPs pts).take k) := by
        rw [← List.map_take, ← List.map_take]
        exact reps_ptD _
      exact h1.append (.cons (rX.gx Gx.app) (hr _ _))
    · rw [List.getElem?_append_right (by simp; omega)]
      have : k - ((pPs pts).take k).length = 0 := by simp; omega
      rw [this]; rfl
    · simp; omega
  by_cases c : k < pts.length
  · simp [ev4, c, ixN_cast]
    refine fin _ ((ptD pts).drop (k + 1)) ((pPs pts).drop (k + 1)) ?_ (fun A M => ?_) (by simp; omega)
    · congr 2
      rw [List.set_eq_take_append_cons_drop]
      simp [c]
    · rw [← List.map_drop, ← List.map_drop]
      exact reps_ptD _
  · have ck : k = pts.length := by omega
    simp [ev4, c, sizeLine_eq]
    refine ⟨by omega, ?_⟩
    refine fin _ [] [] ?_ (fun A M => .nil) (by simp)
    congr 2
    rw [List.take_of_length_le (by simp; omega)]
end
end Ours
namespace Ours
open PySem PySem.Spec PyProof.Rows L2 Mi
open Builtin.Int
theorem Inc.append {l r : List (Int × Int)} (h : Inc l) (h' : Inc r) (hx : ∀ x ∈ l, ∀ y ∈ r, x.1 < y.1) : Inc (l ++ r) := by
  intro i u w hu hw
  by_cases c : i + 1 < l.length
  · rw [List.getElem?_append_left c] at hw
    rw [List.getElem?_append_left (by omega)] at hu
    exact h i u w hu hw
  · rw [List.getElem?_append_right (by omega)] at hw
    by_cases c2 : i < l.length
    · rw [List.getElem?_append_left c2] at hu
      exact hx u (List.mem_of_getElem? hu) w (List.mem_of_getElem? hw)
    · rw [List.getElem?_append_right (by omega)] at hu
      exact h' (i - l.length) u w hu (by rw [show i - l.length + 1 = i + 1 - l.length by omega]; exact hw)
theorem inc_le {l : List (Int × Int)} (h : Inc l) : ∀ (d : Nat) {i : Nat} {u w : Int × Int}, l[i]? = some u → l[i + d]? = some w → u.1 ≤ w.1
  | 0, i, u, w, h1, h2 => by
    rw [Nat.add_zero, h1] at h2
    cases h2
    exact Int.le_refl _
  | d + 1, i, u, w, h1, h2 => by
    have hi := (List.getElem?_eq_some_iff.mp h2).1
    obtain ⟨v, hv⟩ : ∃ v, l[i + d]? = some v := ⟨_, List.getElem?_eq_getElem (by omega)⟩
    have := inc_le h d h1 hv
    have := h (i + d) v w hv h2
    omega
def extP (x : Int) (n : Nat) : List (Int × Int) := (List.range n).map fun (k : Nat) => (x + 1 + (k : Int), (k : Int))
theorem ext_inc (x : Int) (n : Nat) : Inc (extP x n) := by
  intro i u w hu hw
  unfold extP at hu hw
  rw [List.getElem?_map] at hu hw
  have hi : i + 1 < n := by
    by_cases h : i + 1 < n
    · exact h
    · rw [List.getElem?_eq_none (by simp; omega)] at hw; cases hw
  rw [List.getElem?_range hi] at hw
  rw [List.getElem?_range (by omega)] at hu
  cases hu; cases hw
  show x + 1 + (i : Int) < x + 1 + ((i + 1 : Nat) : Int)
  omega
theorem gp_ptD {pts : List (Int × Int)} (hI : Inc pts) (hB : Bd LIM pts) : Gp (pPs pts) pts :=
  ⟨by simp, fun i z hz => ⟨.tup (pPt z), by simp [hz], rfl, hB z (List.mem_of_getElem? hz)⟩, hI⟩
theorem ptD_rep {A : Nat → Prop} {m : Hm} {t : Nat} {pts : List (Int × Int)} (h : A t) (e : m[t]? = some (.lst (ptD pts))) : Rep A m (.ref t) (.lst (pPs pts)) := .lst h e (reps_ptD pts)
section
variable {s c L t : Nat} {m : Hm} {Q : Rs Mi.D → Prop} {pts : List (Int × Int)}
theorem not_number_w (S : St s c L m) (hL : L + 10 ≤ 2 ^ 200) (q : ∀ v p m', isW p = false → Rep (New m) m' v p → St s c (L + 10) m' → Frs s m m' → Q (.ok v m')) : wF f_law_not_number [.ref s, .int 1, .int 200] m Q := by
  unfold f_law_not_number m_law_not_number
  rw [wF_run]
  have b8 : intBits 8 ≤ 2000 := bits_mono (bits_of (n := 4) (by decide)) (by decide)
  have b5 : intBits 5 ≤ 2000 := bits_mono (bits_of (n := 4) (by decide)) (by decide)
  have b2 : intBits 2 ≤ 2000 := bits_mono (bits_of (n := 4) (by decide)) (by decide)
  simp [slots]
  refine take_w S (by omega) b8 fun kind m1 k0 k1 _ S1 F1 l1 => ?_
  simp
  by_cases c1 : kind < 2
  · simp [c1]
    exact q _ (.int 0) m1 (w_int (by omega)) (.int _) (S1.up (by omega)) F1
  by_cases c2 : kind < 4
  · simp [c1, c2]
    exact q _ (.int 201) m1 (w_int (by omega)) (.int _) (S1.up (by omega)) F1
  by_cases c3 : kind = 4
  · simp [c1, c2, c3]
    refine take_w S1 (by omega) b5 fun x m2 x0 x1 _ S2 F2 l2 => ?_
    simp
    exact q _ (.int (201 + x)) m2 (w_int (by omega)) (.int _) (S2.up (by omega)) (F1.trans F2)
  by_cases c4 : kind = 5
  · simp [c1, c2, c3, c4]
    refine far_w S1 (by omega) fun x m2 x0 x1 S2 F2 l2 => ?_
    simp
    refine take_w S2 (by omega) b2 fun y m3 y0 y1 _ S3 F3 l3 => ?_
    simp
    by_cases c5 : y = 0
    · simp [c5]
      exact q _ (.int (201 + x)) m3 (w_int (by omega)) (.int _) (S3.up (by omega)) ((F1.trans F2).trans F3)
    · simp [c5]
      exact q _ (.int (-x)) m3 (w_int (by omega)) (.int _) (S3.up (by omega)) ((F1.trans F2).trans F3)
  simp [c1, c2, c3, c4]
  refine odd_w S1 (by omega) fun v p m2 hp r2 S2 F2 => ?_
  simp
  exact q v p m2 (odd_w200 hp) (r2.wk fun n hn _ => Nat.le_trans F1.len hn) (S2.up (by omega)) (F1.trans F2)
abbrev bpP (w : Pd) : Pd := .lst [.str "BadPoints", w]
theorem bp_rep {m : Hm} {a : Nat} {w : Mi.D} {p : Pd} (e : m[a]? = some (.lst [.str "BadPoints", w])) (r : ∀ A M, Rep A M w p) : Rep (fun _ => True) m (.ref a) (bpP p) := .lst trivial e (.cons (.str _) (.cons (r _ _) .nil))
abbrev nmP : Pd := .lst [.str "BadNumber"]
theorem nm_rep {m : Hm} {a : Nat} (e : m[a]? = some (.lst [.str "BadNumber"])) : Rep (fun _ => True) m (.ref a) nmP := .lst trivial e (.cons (.str _) .nil)
theorem Bent.fr {s : Nat} {m m' : Hm} {pts : List (Int × Int)} {v w : Mi.D} (h : Bent s m pts v w) (F : Frs s m m') : Bent s m' pts v w := by
  rcases h with ⟨h1, p, r, h2⟩ | ⟨k, px, ps, h1, r, h2⟩
  · exact .inl ⟨h1, p, r.fr F fun _ h => h, h2⟩
  · exact .inr ⟨k, px, ps, h1, r.fr F fun _ h => h, h2⟩
theorem ask_bent {v w e f : Mi.D} (h : Bent s m pts v w) (q : Q (.ok (.ref m.length) (m ++ [.lst [.str "BadPoints", w]]))) : wF f_law_ask [v, e, f] m Q := by
  rcases h with ⟨rfl, p, r, h2⟩ | ⟨k, px, ps, rfl, r, g, hx, hd, hb, hl⟩
  · exact ask_bad (fun Q' hq => cc_none r h2 hq) q
  · exact ask_bad (fun Q' hq => cc_bad r rfl g hl hx hd hb hq) q
theorem ext_comp {ρ : Ro} {Q : List Mi.D → Hm → Prop} (e : m[t]? = some (.lst (ptD pts))) (h1 : ρ.length = 9 ∧ ρ[1]? = some (.is (.ref t))) (hI : Inc pts) (hB : Bd BB pts) (q : ∀ ext, Inc (pts ++ ext) → Bd LIM (pts ++ ext) → ext.length ≤ 24 → Q (ptD ext) m) :
    wL (itRg 0 24) (gNm 8) (tTru (eVar 1)) (eTup (aCons (eBin opAdd (eBin opAdd (eBin opIxA (eBin opIxA (eVar 1) (eNeg (eC (.int 1)))) (eC (.int 0))) (eC (.int 1))) (eVar 8)) (aCons (eVar 8) aNil))) ρ m [] Q := by
  have hBL : Bd LIM pts := hB.mono (Int.le_of_lt bb_lim)
  have g1 : ∀ v, (ρ.set 8 v)[1]? = some (.is (.ref t)) := fun v => by rw [List.getElem?_set_ne (by decide)]; exact h1.2
  have g8 : ∀ v, (ρ.set 8 v)[8]? = some v := fun v => List.getElem?_set_self (by rw [h1.1]; decide)
  have hcc : pts = [] ∨ ∃ pre z, pts = pre ++ [z] := by
    rcases List.eq_nil_or_concat pts with h | ⟨pre, z, h⟩
    · exact .inl h
    · exact .inr ⟨pre, z, by rw [h]; simp⟩
  rcases hcc with rfl | ⟨pre, z, rfl⟩
  · refine wL_inv (fun i acc m' => m' = m ∧ acc = []) ⟨rfl, rfl⟩ ?_ ?_
    · rintro i acc m' hi ⟨rfl, rfl⟩ I hI2
      refine ⟨_, rfl, ?_⟩
      simp [g1, e]
      exact hI2 _ _ ⟨rfl, rfl⟩
    · rintro acc m' ⟨rfl, rfl⟩
      exact ⟨rfl, q [] (by simpa using hI) (by simpa using hBL) (by simp)⟩
  · have x1 : atI (ptD (pre ++ [z])) (-1) = some (.tup (dPt z)) := by
      have : ptD (pre ++ [z]) = ptD pre ++ [.tup (dPt z)] := by simp
      rw [this]; exact atI_m1
    have hne : (ptD (pre ++ [z])).isEmpty = false := by simp
    have hz : ∀ w ∈ pre ++ [z], w.1 ≤ z.1 := by
      intro w hw
      obtain ⟨i, hi⟩ := List.getElem?_of_mem hw
      have hi2 := (List.getElem?_eq_some_iff.mp hi).1
      simp at hi2
      exact inc_le hI (pre.length - i) hi (by rw [show i + (pre.length - i) = pre.length by omega]; simp)
    generalize hW : ptD (pre ++ [z]) = W at *
    refine wL_inv (fun i acc m' => m' = m ∧ i ≤ 24 ∧ acc = ptD (extP z.1 i)) ⟨rfl, by omega, rfl⟩ ?_ ?_
    · rintro i acc m' hi ⟨rfl, hi2, rfl⟩ I hI2
      have hi : i < 24 := hi
      refine ⟨_, rfl, ?_⟩
      have hx : W ≠ [] := by intro h; rw [h] at hne; simp at hne
      simp [g1, g8, e, hne, x1, sizeLine_eq]
      refine ⟨by simp [extP]; omega, hI2 _ _ ⟨rfl, by omega, ?_⟩⟩
      simp [extP, List.range_succ]
    · rintro acc m' ⟨rfl, _, rfl⟩
      refine ⟨rfl, q (extP z.1 24) (hI.append (ext_inc _ _) fun x hx y hy => ?_) (fun w hw => ?_) (by simp [extP])⟩
      · have := hz x hx
        unfold extP at hy
        obtain ⟨k, _, rfl⟩ := List.mem_map.mp hy
        show x.1 < z.1 + 1 + (k : Int)
        omega
      · rcases List.mem_append.mp hw with hw | hw
        · exact hBL w hw
        · unfold extP at hw
          obtain ⟨k, hk, rfl⟩ := List.mem_map.mp hw
          have hk := List.mem_range.mp hk
          obtain ⟨z1, z2, _, _⟩ := hB z (by simp)
          have hl : BB * 2 < LIM := by decide +kernel
          have hb : (1000 : Int) < BB := by decide +kernel
          exact ⟨by show -LIM < z.1 + 1 + (k : Int); omega, by show z.1 + 1 + (k : Int) < LIM; omega, by show -LIM < (k : Int); omega, by show (k : Int) < LIM; omega⟩
theorem refuses_w {a b : Nat} (S : St s c L m) (hL : L + 100 ≤ 2 ^ 200) (e : m[t]? = some (.lst (ptD pts))) (ht : t ≠ s) (hI : Inc pts) (hB : Bd BB pts) (hl : pts.length ≤ 31) (a1 : 1 ≤ a) (a2 : a ≤ 200) (b1 : 1 ≤ b) (b2 : b ≤ 200) (q : ∀ m', St s c (L + 100) m' → Frs s m m' → Q (.ok (.bl true) m')) : wF f_law_refuses [.ref s, .ref t, .int a, .int b] m Q := by
  unfold f_law_refuses m_law_refuses
  rw [wF_run]
  have hBL : Bd LIM pts := hB.mono (Int.le_of_lt bb_lim)
  simp [slots]
  refine bentp_w S (by omega) e ht hI hB hl fun r v w m1 e1 hr hb S1 F1 => ?_
  simp
  refine not_number_w S1 (by omega) fun wv wp m2 hw r2 S2 F2 => ?_
  have hs1 := S1.lt
  have r2 : Rep (Ns s) m2 wv wp := New.ns hs1 r2
  have e2 := F2.get _ _ hr e1
  have et2 := F2.get _ _ ht (F1.get _ _ ht e)
  simp [e2]
  have hb2 := Bent.fr hb F2
  obtain ⟨pw, hpw, hdw⟩ : ∃ p, (∀ A M, Rep A M w p) ∧ dle 10 p := by
    rcases hb with ⟨rfl, _⟩ | ⟨k, _, _, rfl, _⟩
    · exact ⟨.non, fun _ _ => .non, trivial⟩
    · exact ⟨.int k, fun _ _ => .int _, trivial⟩
  refine ask_bent hb2 ?_
  have e3 : ∀ o, (m2 ++ o)[r]? = some (.lst [v, w]) := fun o => get_app e2
  simp [e3]
  refine same_w 20 (p := bpP pw) ⟨by simp, fun x hx => ?_⟩ (bp_rep (by simp) hpw) (bp_rep (by simp) hpw) fun m3 g3 => ?_
  · simp at hx
    rcases hx with rfl | rfl
    · trivial
    · exact dle_mono (k := 10) hdw (by decide)
  have g23 : Gx m2 m3 := Gx.app.trans g3
  have et3 := g23.get _ _ et2
  have r3 := r2.gx g23
  have S3 := S2.gx g23
  simp [et3, wipeM]
  refine ext_comp et3 ⟨rfl, rfl⟩ hI hB fun ext hxI hxB hxl => ?_
  have et3' : ∀ o, (m3 ++ o)[t]? = some (.lst (ptD pts)) := fun o => get_app et3
  simp [et3', sizeLine_eq]
  refine ⟨by omega, ?_⟩
  have ejo : ptD pts ++ ptD ext = ptD (pts ++ ext) := by simp
  rw [ejo]
  generalize hX : m3 ++ [O.lst (ptD ext), O.lst (ptD (pts ++ ext))] = X at *
  have gX : Gx m3 X := by rw [← hX]; exact Gx.app
  have eX : X[m3.length + 1]? = some (.lst (ptD (pts ++ ext))) := by rw [← hX]; simp
  refine ask_num (fun Q' hq => cc_num (A := fun _ => True) (B := Ns s) (C := fun _ => True) (pa := wp) (pb := .int b) (ptD_rep trivial eX) rfl (gp_ptD hxI hxB) (by simp; omega) (r3.gx gX) (.int _) (.inl hw) hq) ?_
  simp
  have gX2 : Gx m3 (X ++ [O.lst [.str "BadNumber"]]) := gX.trans Gx.app
  refine ask_num (fun Q' hq => cc_num (A := fun _ => True) (B := fun _ => True) (C := Ns s) (pa := .int a) (pb := wp) (ptD_rep trivial (gX2.get _ _ et3)) rfl (gp_ptD hI hBL) (by omega) (.int _) (r3.gx gX2) (.inr hw) hq) ?_
  simp
  refine same_w 20 (p := .lst [nmP, nmP]) ⟨by simp, fun x hx => ?_⟩ (.lst (A := fun _ => True) (ds := [.ref X.length, .ref (X.length + 1)]) trivial (by simp) (.cons (nm_rep (by simp)) (.cons (nm_rep (by simp)) .nil))) (.lst (A := fun _ => True) (ds := [.ref (X.length + 3), .ref (X.length + 4)]) trivial (by simp) (.cons (nm_rep (by simp)) (.cons (nm_rep (by simp)) .nil))) fun m5 g5 => ?_
  · simp at hx
    subst hx
    refine ⟨by simp, fun y hy => ?_⟩
    simp at hy
    subst hy
    trivial
  simp
  have g35 : Gx m3 m5 := gX.trans (Gx.app.trans g5)
  exact q m5 ((S3.gx g35).up (by omega)) ((F1.trans F2).trans (g23.trans g35).fr)
end
end Ours
namespace Ours
open PySem PySem.Spec PyProof.Rows L2 Mi
open Builtin.Int
def restL : Ms := (sSeq (sAsg (eCall f_law_case (aCons (eVar 1) (aCons (eVar 5) (aCons (eVar 3) (aCons (eVar 4) (aNil)))))) (gNm 6))
    (sSeq (sAsg (eCall f_law_form (aCons (eVar 1) (aCons (eLc (iSeq (eVar 6)) (gNm 12) (tYesM) (eCall f_law_form (aCons (eVar 1) (aCons (eVar 12) (aNil)))) [12]) (aNil)))) (gNm 7))
    (sSeq (sAsg (eCall f_law_keep (aCons (eVar 7) (aNil))) (gNm 8))
    (sSeq (sAsg (eLst (aCons (eC (.str "TooMany")) (aCons (eC (.int 2000)) (aNil)))) (gNm 9))
    (sSeq (sIf (tBl (eBin opLt (eB bLen (aCons (eVar 6) (aNil))) (eC (.int 24)))) (sAsg (eLst (aCons (eC (.str "told")) (aCons (eCall f_law_due (aCons (eVar 6) (aCons (eVar 3) (aCons (eVar 4) (aNil))))) (aNil)))) (gNm 9)) (sNext))
    (sSeq (sAsg (eCall f_law_ask (aCons (eVar 7) (aCons (eVar 3) (aCons (eVar 4) (aNil))))) (gNm 10))
    (sSeq (sIf (tOrM (tNotM (tTru (eCall f_law_same (aCons (eVar 10) (aCons (eVar 9) (aNil)))))) (tAndM (tBl (eBin opGt (eVar 5) (eC (.int 0)))) (tBl (eBin opIs (eBin opIxA (eVar 10) (eC (.int 1))) (eC .non))))) (sRet (eC (.bl false))) (sNext))
    (sSeq (sIf (tAndM (tBl (eBin opEq (eBin opIxA (eVar 9) (eC (.int 0))) (eC (.str "told")))) (tBl (eBin opIsNot (eBin opIxA (eVar 9) (eC (.int 1))) (eC .non)))) (sSeq (sAsg (eLst (aCons (eCall f_p_is_cup (aCons (eVar 7) (aCons (eBin opIxA (eBin opIxA (eVar 10) (eC (.int 1))) (eC (.int 1))) (aNil)))) (aCons (eCall f_p_is_cap (aCons (eVar 7) (aCons (eBin opIxA (eBin opIxA (eVar 10) (eC (.int 1))) (eC (.int 1))) (aNil)))) (aNil)))) (gNm 11))
    (sSeq (sIf (tBl (eBin (opIsB true) (eBin opIxA (eVar 11) (eBin opIxA (eBin opIxA (eVar 9) (eC (.int 1))) (eC (.int 0)))) (eC (.bl true)))) (sRet (eC (.bl false))) (sNext))
    (sExpr (eMt mApp (eBin opIxA (eBin opIxA (eVar 10) (eC (.int 1))) (eC (.int 1))) (aCons (eC (.int 0)) (aNil)))))) (sNext))
    (sSeq (sIf (tAndM (tBl (eBin opEq (eBin opIxA (eVar 9) (eC (.int 0))) (eC (.str "told")))) (tNotM (tTru (eCall f_law_same (aCons (eCallK f_p_cup_or_cap [2, 1, 0] aNil (aCons (eVar 4) (aCons (eVar 3) (aCons (eVar 7) (aNil))))) (aCons (eBin opIxA (eVar 9) (eC (.int 1))) (aNil))))))) (sRet (eC (.bl false))) (sNext))
    (sSeq (sIf (tNotM (tTru (eCall f_law_refuses (aCons (eVar 1) (aCons (eVar 6) (aCons (eVar 3) (aCons (eVar 4) (aNil)))))))) (sRet (eC (.bl false))) (sNext))
    (sRet (eAnd (eCall f_law_same (aCons (eCall f_law_ask (aCons (eVar 7) (aCons (eVar 3) (aCons (eVar 4) (aNil))))) (aCons (eVar 9) (aNil)))) (eCall f_law_same (aCons (eVar 7) (aCons (eVar 8) (aNil))))))))))))))))
theorem m_law_eq : m_p_law = sSeq (sAsg (eCall f_law_store (aCons (eVar 0) (aNil))) (gNm 1))
    (sSeq (sAsg (eCall f_law_pick (aCons (eVar 1) (aCons (eLst (aCons (eTup (aCons (eC (.int 1)) (aCons (eC (.int 1)) (aNil)))) (aCons (eTup (aCons (eC (.int 1)) (aCons (eC (.int 2)) (aNil)))) (aCons (eTup (aCons (eC (.int 2)) (aCons (eC (.int 2)) (aNil)))) (aCons (eTup (aCons (eC (.int 1)) (aCons (eC (.int 4)) (aNil)))) (aCons (eTup (aCons (eC (.int 2)) (aCons (eC (.int 3)) (aNil)))) (aCons (eTup (aCons (eC (.int 2)) (aCons (eC (.int 4)) (aNil)))) (aCons (eTup (aCons (eC (.int 3)) (aCons (eC (.int 3)) (aNil)))) (aCons (eTup (aCons (eC (.int 2)) (aCons (eC (.int 5)) (aNil)))) (aCons (eTup (aCons (eC (.int 1)) (aCons (eC (.int 20)) (aNil)))) (aCons (eTup (aCons (eC (.int 1)) (aCons (eC (.int 21)) (aNil)))) (aCons (eTup (aCons (eC (.int 1)) (aCons (eC (.int 3)) (aNil)))) (aNil))))))))))))) (aNil)))) (gNm 2))
    (sSeq (sAsg (eBin opIxA (eVar 2) (eC (.int 0))) (gNm 3))
    (sSeq (sAsg (eBin opIxA (eVar 2) (eC (.int 1))) (gNm 4))
    (sSeq (sIf (tTru (eCall f_law_chance (aCons (eVar 1) (aCons (eC (.int 2)) (aNil))))) (sSeq (sAsg (eBin opIxA (eVar 2) (eC (.int 1))) (gNm 3))
    (sAsg (eBin opIxA (eVar 2) (eC (.int 0))) (gNm 4))) (sNext))
    (sSeq (sAsg (eCall f_law_take (aCons (eVar 1) (aCons (eC (.int 3)) (aNil)))) (gNm 5))
    (sSeq (sIf (tAndM (tBl (eBin opEq (eVar 5) (eC (.int 0)))) (tTru (eCall f_law_chance (aCons (eVar 1) (aCons (eC (.int 2)) (aNil)))))) (sSeq (sAsg (eCall f_law_edge (aCons (eVar 1) (aCons (eC (.int 1)) (aCons (eC (.int 200)) (aNil))))) (gNm 3))
    (sAsg (eCall f_law_pick (aCons (eVar 1) (aCons (eLst (aCons (eC (.int 1)) (aCons (eC (.int 1)) (aCons (eC (.int 2)) (aCons (eC (.int 3)) (aCons (eC (.int 199)) (aCons (eC (.int 200)) (aNil)))))))) (aNil)))) (gNm 4))) (sNext))
    restL)))))) := rfl
theorem cd_repA {A : Nat → Prop} {m0 m : Hm} {v : Mi.D} {o : Option (Nat × List Nat)} (h : CD m0 m v o) (hA : ∀ n, m0.length ≤ n → A n) : Rep A m v (ccP o) := by
  cases o with
  | none => have h : v = .non := h; subst h; exact .non
  | some p =>
    obtain ⟨a, rfl, e, hl⟩ := h
    exact .tup (.cons (.int _) (.cons (.lst (hA _ hl) e (reps_ns _)) .nil))
theorem fm_gp {ps : List Pd} {pts : List (Int × Int)} (f : Fm ps pts) (hI : Inc pts) (hB : Bd LIM pts) : Gp ps pts :=
  ⟨f.len, fun i z hz => by
    obtain ⟨p, hp, h⟩ := f.get hz
    exact ⟨p, hp, pt_seq h, hB z (List.mem_of_getElem? hz)⟩, hI⟩
abbrev tdP (p : Pd) : Pd := .lst [.str "told", p]
section
variable {m : Hm} {Q : Rs Mi.D → Prop} {A : Nat → Prop} {d : Mi.D} {p : Pd} {ps : List Pd} {pts : List (Int × Int)}
theorem cup_w {l : List Nat} {t : Nat} (r : Rep A m d p) (sp : seqP p = some ps) (g : Gp ps pts) (hl : pts.length ≤ 200) (e : m[t]? = some (.lst (dNs l))) (hp : l.Pairwise (· < ·)) (hn : ∀ x ∈ l, x < pts.length)
    (q : ∀ k : Bool, (Tri (tri pts true) l → k = true) → Q (.ok (.bl k) m)) : wF f_p_is_cup [d, .ref t] m Q := by
  unfold f_p_is_cup m_p_is_cup
  rw [wF_run]
  simp [slots]
  refine bent_w r sp g hl e hp hn fun k hk => ?_
  simp
  exact q k hk
theorem cap_w {l : List Nat} {t : Nat} (r : Rep A m d p) (sp : seqP p = some ps) (g : Gp ps pts) (hl : pts.length ≤ 200) (e : m[t]? = some (.lst (dNs l))) (hp : l.Pairwise (· < ·)) (hn : ∀ x ∈ l, x < pts.length)
    (q : ∀ k : Bool, (Tri (tri pts false) l → k = true) → Q (.ok (.bl k) m)) : wF f_p_is_cap [d, .ref t] m Q := by
  unfold f_p_is_cap m_p_is_cap
  rw [wF_run]
  simp [slots]
  refine bent_w r sp g hl e hp hn fun k hk => ?_
  simp
  exact q k hk
/-- what the due run is -/
theorem du_run {a b h : Nat} {l : List Nat} (hd : DU pts a b (some (h, l))) : l.Pairwise (· < ·) ∧ (∀ x ∈ l, x < pts.length) ∧ ((h = 0 ∧ Tri (tri pts true) l) ∨ (h = 1 ∧ Tri (tri pts false) l)) := by
  obtain ⟨R, hR, ⟨l', e, h1⟩ | ⟨_, R', hR', ⟨l', e, h1⟩ | ⟨e, _⟩⟩⟩ := hd
  · cases e
    obtain ⟨r1, r2, r3, _⟩ := an_run h1
    exact ⟨r1, r2, .inl ⟨rfl, r3⟩⟩
  · cases e
    obtain ⟨r1, r2, r3, _⟩ := an_run h1
    exact ⟨r1, r2, .inr ⟨rfl, r3⟩⟩
  · cases e
end
@[simp] theorem op_isB_b {b c : Bool} {m : Hm} : opIsB true (.bl b) (.bl c) m = some (.bl (true != (b == c)), m) := rfl
set_option maxHeartbeats 4000000 in
theorem rest_w {L : Nat} {m : Hm} {kind : Int} {a b : Nat} {z0 z2 : Sl} (S : St 1 0 L m) (hL : L ≤ 1000) (hk0 : 0 ≤ kind) (hk : kind = 0 ∨ ((kind = 1 ∨ kind = 2) ∧ a ≤ 21 ∧ b ≤ 21 ∧ a + b ≤ 22 ∧ ch (a + b) a ≤ 22 ∧ ∀ i j, i ≤ a → j ≤ b → okP i j = true)) (a1 : 1 ≤ a) (a2 : a ≤ 200) (b1 : 1 ≤ b) (b2 : b ≤ 200) :
    wS restL [z0, .is (.ref 1), z2, .is (.int a), .is (.int b), .is (.int kind), .un, .un, .un, .un, .un, .un, .un] m (reK fun r => ∃ m', r = .ok (.bl true) m') := by
  unfold restL
  have hbig : ∀ x : Nat, x ≤ 100000 → x ≤ 2 ^ 200 := fun x hx => Nat.le_trans hx (by decide)
  simp
  refine case_w S (hbig _ (by omega)) hk fun t pts m1 ht e1 hI hB hl hlk S1 F1 => ?_
  have hBL : Bd LIM pts := hB.mono (Int.le_of_lt bb_lim)
  have hs := S.lt
  simp [e1, wipeM]
  refine forms_comp (pts := pts) (by simp) (by omega) S1 (hbig _ (by omega)) (fun i m' z hz F => ?_) (fun m' F => itLst_fin (F.get _ _ (by omega) e1) (by simp)) fun acc ps m2 racc fm S2 F2 => ?_
  · refine ⟨.tup (dPt z), by rw [itLst_at (F.get _ _ (by omega) e1) (by simp)]; simp [hz], fun Q' hq => ?_⟩
    simp
    exact hq
  have e2 := F2.get _ _ (by omega) e1
  have hs2 := S2.lt
  simp
  refine form_w S2.app (hbig _ (by omega)) (p := .lst ps) (.lst (by show m2.length ≠ 1; omega) (by simp) (racc.gx Gx.app)) rfl fun hv hp m3 hhp rh S3 F3 => ?_
  have e3 := F3.get _ _ (by omega) (get_app e2)
  have hsq : seqP hp = some ps := by rcases hhp with rfl | rfl <;> rfl
  have hg := fm_gp fm hI hBL
  have hdl : dle 10 hp := by
    have := fm.dle (by omega) 7
    rcases hhp with rfl | rfl <;> exact this
  have hok : okd 20 hp := by
    have := fm.okd 19
    rcases hhp with rfl | rfl <;> exact this
  simp
  refine keep_w 20 (dle_mono (k := 10) hdl (by decide)) hok rh fun kv m4 g4 rk => ?_
  have rh4 := rh.gx g4
  have S4 := S3.gx g4
  have e4 := g4.get _ _ e3
  have hs3 := S3.lt
  have rk4 : Rep (Ns 1) m4 kv hp := rk.wk fun n hn _ => by simp [New] at hn; show n ≠ 1; omega
  have hlm4 := g4.len
  have e4' : ∀ o, (m4 ++ o)[t]? = some (.lst (ptD pts)) := fun o => get_app e4
  simp [e4']
  have hps : pts.length = ps.length := fm.len.symm
  by_cases c : pts.length < 24
  · have c' : (pts.length : Int) < 24 := by omega
    simp [c']
    have g45 : Gx m4 (m4 ++ [O.lst [.str "TooMany", .int 2000]]) := Gx.app
    refine due_w (e4' _) hBL (by omega) a1 a2 b1 b2 fun dv m5 o hcd hdu g5 => ?_
    simp
    have g46 : Gx m4 (m5 ++ [O.lst [.str "told", dv]]) := (g45.trans g5).trans Gx.app
    have hcd6 : CD (m4 ++ [O.lst [.str "TooMany", .int 2000]]) (m5 ++ [O.lst [.str "told", dv]]) dv o := hcd.gx Gx.app
    have ed : (m5 ++ [O.lst [.str "told", dv]])[m5.length]? = some (.lst [.str "told", dv]) := by simp
    have hl5 := (g45.trans g5).len
    generalize hM6 : m5 ++ [O.lst [.str "told", dv]] = m6 at *
    have hdle : dle 19 (tdP (ccP o)) := by
      refine ⟨by simp, fun x hx => ?_⟩
      simp at hx
      rcases hx with rfl | rfl
      · trivial
      · exact cc_dle hdu a2 b2
    have S6 := S4.gx g46
    have rh6 := rh4.gx g46
    have rk6 := rk4.gx g46
    have e6 := g46.get _ _ e4
    -- asked once
    refine ask_ok (fun Q' hq => cc_ok rh6 hsq hg (by omega) a1 a2 b1 b2 hq) fun tv m7 o' x7 hcd7 hcc g7 e7 hx7 => ?_
    have := DU.uniq hcc hdu
    subst this
    have rd7 : Rep (fun _ => True) m7 (.ref m5.length) (tdP (ccP o')) := .lst trivial (g7.get _ _ ed) (.cons (.str _) (.cons (cd_rep (hcd6.gx g7)) .nil))
    have rt7 : Rep (fun _ => True) m7 (.ref x7) (tdP (ccP o')) := .lst trivial e7 (.cons (.str _) (.cons (cd_rep hcd7) .nil))
    simp
    refine same_w 20 (dle_mono (k := 19) hdle (by decide)) rt7 rd7 fun m8 g8 => ?_
    have e8 := g8.get _ _ e7
    have ed8 := (g7.trans g8).get _ _ ed
    have hcd8 := hcd7.gx g8
    simp
    refine kTa_cut (· = m8) (fun hk QB hq => ?_) (fun _ => rfl) ?_
    · have hk : 0 < kind := by simpa using hk
      have hne := hdu.some_ (by have := hlk (by omega); omega)
      cases o' with
      | none => exact (hne rfl).elim
      | some p =>
        obtain ⟨xa, rfl, _, _⟩ := hcd7
        simp [e8, Mi.isNon]
        exact hq _ rfl
    intro m' hm
    rw [show m' = m8 from hm]
    simp [ed8]
    -- what stays behind the judges
    have tail : ∀ (m9 : Hm) (z11 : Sl), Gx m6 m9 → wS (sSeq (sIf (tAndM (tBl (eBin opEq (eBin opIxA (eVar 9) (eC (D.int 0))) (eC (D.str (Str.ofString "told"))))) (tNotM (tTru (eCall f_law_same (aCons (eCallK f_p_cup_or_cap [2, 1, 0] aNil (aCons (eVar 4) (aCons (eVar 3) (aCons (eVar 7) aNil)))) (aCons (eBin opIxA (eVar 9) (eC (D.int 1))) aNil)))))) (sRet (eC (D.bl false))) sNext)
        (sSeq (sIf (tNotM (tTru (eCall f_law_refuses (aCons (eVar 1) (aCons (eVar 6) (aCons (eVar 3) (aCons (eVar 4) (aNil)))))))) (sRet (eC (.bl false))) (sNext))
        (sRet (eAnd (eCall f_law_same (aCons (eCall f_law_ask (aCons (eVar 7) (aCons (eVar 3) (aCons (eVar 4) (aNil))))) (aCons (eVar 9) (aNil)))) (eCall f_law_same (aCons (eVar 7) (aCons (eVar 8) (aNil)))))))) [z0, .is (.ref 1), z2, .is (.int a), .is (.int b), .is (.int kind), .is (.ref t), .is hv, .is kv, .is (.ref m5.length), .is (.ref x7), z11, .un] m9 (reK fun r => ∃ m', r = .ok (.bl true) m') := fun m9 z11 g9 => by
      have ed9 := g9.get _ _ ed
      simp [ed9, pick]
      refine cc_ok (rh6.gx g9) hsq hg (by omega) a1 a2 b1 b2 fun tv2 m10 o2 hcd10 hcc10 g10 => ?_
      have := DU.uniq hcc10 hdu
      subst this
      have ed10 := g10.get _ _ ed9
      simp [ed10]
      refine same_w 20 (dle_mono (k := 18) (cc_dle hdu a2 b2) (by decide)) (cd_rep hcd10) (cd_rep (hcd6.gx (g9.trans g10))) fun m11 g11 => ?_
      have g611 := (g9.trans g10).trans g11
      simp
      refine refuses_w (S6.gx g611) (hbig _ (by omega)) (g611.get _ _ e6) (by omega) hI hB hl a1 a2 b1 b2 fun m12 S12 F12 => ?_
      have rd12 : Rep (Ns 1) m12 (.ref m5.length) (tdP (ccP o2)) := (Rep.lst (A := Ns 1) (by show m5.length ≠ 1; omega) (g611.get _ _ ed) (.cons (.str _) (.cons (cd_repA (hcd6.gx g611) fun n hn => by simp at hn; show n ≠ 1; omega) .nil))).fr F12 fun _ h => h
      have rh12 := (rh6.gx g611).fr F12 fun _ h => h
      have rk12 := (rk6.gx g611).fr F12 fun _ h => h
      simp
      refine ask_ok (fun Q' hq => cc_ok rh12 hsq hg (by omega) a1 a2 b1 b2 hq) fun tv3 m13 o3 x13 hcd13 hcc13 g13 e13 hx13 => ?_
      have := DU.uniq hcc13 hdu
      subst this
      simp
      refine same_w 20 (dle_mono (k := 19) hdle (by decide)) (.lst (A := fun _ => True) trivial e13 (.cons (.str _) (.cons (cd_rep hcd13) .nil))) (rd12.gx g13) fun m14 g14 => ?_
      simp
      refine same_w 20 (dle_mono (k := 10) hdl (by decide)) ((rh12.gx g13).gx g14) ((rk12.gx g13).gx g14) fun m15 g15 => ?_
      simp
    cases o' with
    | none =>
      have hdv : dv = .non := hcd6
      subst hdv
      simp [ed8, Mi.isNon]
      simpa [ed8] using tail m8 .un (g7.trans g8)
    | some p =>
      obtain ⟨hh, l⟩ := p
      obtain ⟨da, hdv, eda, hda⟩ := hcd6
      subst hdv
      obtain ⟨xa, htv, exa, hxa⟩ := hcd8
      subst htv
      obtain ⟨r1, r2, r3⟩ := du_run hdu
      have rh8 := (rh6.gx g7).gx g8
      simp [ed8, Mi.isNon, e8]
      refine cup_w rh8 hsq hg (by omega) exa r1 r2 fun k1 hk1 => ?_
      simp [e8]
      refine cap_w rh8 hsq hg (by omega) exa r1 r2 fun k2 hk2 => ?_
      have ed8' : ∀ o, (m8 ++ o)[m5.length]? = some (.lst [.str "told", .tup [.int hh, .ref da]]) := fun o => get_app ed8
      have e8' : ∀ o, (m8 ++ o)[x7]? = some (.lst [.str "told", .tup [.int hh, .ref xa]]) := fun o => get_app e8
      have exa' : ∀ o, (m8 ++ o)[xa]? = some (.lst (dNs l)) := fun o => get_app exa
      have hjk : [Mi.D.bl k1, .bl k2][hh]? = some (.bl true) := by
        rcases r3 with ⟨rfl, h3⟩ | ⟨rfl, h3⟩
        · rw [hk1 h3]; rfl
        · rw [hk2 h3]; rfl
      have hll : l.length ≤ 1000 := by
        obtain ⟨R, hR, ⟨l', e', h1⟩ | ⟨_, R', hR', ⟨l', e', h1⟩ | ⟨e', _⟩⟩⟩ := hdu
        · cases e'; have := (an_run h1).2.2.2; omega
        · cases e'; have := (an_run h1).2.2.2; omega
        · cases e'
      simp [ed8', hjk, e8', exa', sizeLine_eq]
      refine ⟨by omega, ?_⟩
      have gJ : Gx m6 ((m8 ++ [O.lst [.bl k1, .bl k2]]).set xa (.lst (dNs l ++ [.int 0]))) := gx_setN ((g7.trans g8).trans Gx.app) hxa
      have edJ := gJ.get _ _ ed
      have := tail _ (.is (.ref m8.length)) gJ
      generalize (m8 ++ [O.lst [.bl k1, .bl k2]]).set xa (.lst (dNs l ++ [.int 0])) = J at *
      simpa [edJ] using this
  · have c' : ¬ (pts.length : Int) < 24 := by omega
    have hk0' : kind = 0 := by
      rcases hk with h | ⟨_, _, _, _, h5, _⟩
      · exact h
      · exfalso
        by_cases hz : kind = 0
        · have := hlk; omega
        · have := hlk hz; omega
    subst hk0'
    simp [c']
    have tm : ∀ (M : Hm) (x : Nat), M[x]? = some (.lst [.str "TooMany", .int 2000]) → ∀ A : Nat → Prop, A x → Rep A M (.ref x) (.lst [.str "TooMany", .int 2000]) := fun M x h A hA => .lst hA h (.cons (.str _) (.cons (.int _) .nil))
    have g45 : Gx m4 (m4 ++ [O.lst [.str "TooMany", .int 2000]]) := Gx.app
    have ed : (m4 ++ [O.lst [.str "TooMany", .int 2000]])[m4.length]? = some (.lst [.str "TooMany", .int 2000]) := by simp
    generalize hM6 : m4 ++ [O.lst [.str "TooMany", .int 2000]] = m6 at *
    have hd2 : dle 20 (.lst [.str "TooMany", .int 2000]) := by simp [dle]
    have S6 := S4.gx g45
    have rh6 := rh4.gx g45
    have rk6 := rk4.gx g45
    have e6 := g45.get _ _ e4
    refine ask_many (fun Q' hq => cc_many rh6 hsq hg (by omega) (by omega) a1 a2 b1 b2 hq) ?_
    simp
    refine same_w 20 hd2 (tm _ m6.length (by simp) (fun _ => True) trivial) (tm _ m4.length (get_app ed) (fun _ => True) trivial) fun m8 g8 => ?_
    have g68 : Gx m6 m8 := Gx.app.trans g8
    have ed8 := g68.get _ _ ed
    have hstr : (Str.ofString "TooMany" == Str.ofString "told") = false := by decide +kernel
    have hstr2 : ¬ Str.ofString "TooMany" = Str.ofString "told" := by decide +kernel
    simp [ed8, hstr, hstr2]
    refine refuses_w (S6.gx g68) (hbig _ (by omega)) (g68.get _ _ e6) (by omega) hI hB hl a1 a2 b1 b2 fun m12 S12 F12 => ?_
    have rh12 := (rh6.gx g68).fr F12 fun _ h => h
    have rk12 := (rk6.gx g68).fr F12 fun _ h => h
    have ed12 := F12.get _ _ (by omega) ed8
    simp
    refine ask_many (fun Q' hq => cc_many rh12 hsq hg (by omega) (by omega) a1 a2 b1 b2 hq) ?_
    simp
    refine same_w 20 hd2 (tm _ m12.length (by simp) (fun _ => True) trivial) (tm _ m4.length (get_app ed12) (fun _ => True) trivial) fun m14 g14 => ?_
    simp
    have gg : Gx m12 m14 := Gx.app.trans g14
    refine same_w 20 (dle_mono (k := 10) hdl (by decide)) (rh12.gx gg) (rk12.gx gg) fun m15 g15 => ?_
    simp
end Ours
namespace Ours
open PySem PySem.Spec PyProof.Rows L2 Mi
open Builtin.Int
def menu : List (Nat × Nat) := [(1, 1), (1, 2), (2, 2), (1, 4), (2, 3), (2, 4), (3, 3), (2, 5), (1, 20), (1, 21), (1, 3)]
def okM (a b : Nat) : Bool := decide (1 ≤ a) && decide (a ≤ 21) && decide (1 ≤ b) && decide (b ≤ 21) && decide (a + b ≤ 22) && decide (ch (a + b) a ≤ 22) && (List.range (a + 1)).all fun i => (List.range (b + 1)).all fun j => okP i j
theorem menu_ok : (menu.all fun p => okM p.1 p.2 && okM p.2 p.1) = true := by decide +kernel
theorem okM_of {a b : Nat} (h : okM a b = true) : 1 ≤ a ∧ a ≤ 200 ∧ 1 ≤ b ∧ b ≤ 200 ∧ a ≤ 21 ∧ b ≤ 21 ∧ a + b ≤ 22 ∧ ch (a + b) a ≤ 22 ∧ ∀ i j, i ≤ a → j ≤ b → okP i j = true := by
  unfold okM at h
  simp only [Bool.and_eq_true, decide_eq_true_eq] at h
  obtain ⟨⟨⟨⟨⟨⟨h1, h2⟩, h3⟩, h4⟩, h5⟩, h6⟩, h7⟩ := h
  refine ⟨h1, by omega, h3, by omega, h2, h4, h5, h6, fun i j hi hj => ?_⟩
  have := List.all_eq_true.mp h7 i (List.mem_range.mpr (by omega))
  exact List.all_eq_true.mp this j (List.mem_range.mpr (by omega))
theorem law_true (ns : List Int) (hl : ns.length ≤ 63) (hb : ∀ z ∈ ns, intBits z ≤ 1048576) : ∃ m', f_p_law [.frl (ns.map .int)] [] = some (.ok (.bl true) m') := by
  suffices h : wF f_p_law [.frl (ns.map .int)] [] fun r => ∃ m', r = .ok (.bl true) m' by
    obtain ⟨r, h1, m', rfl⟩ := h
    exact ⟨m', h1⟩
  unfold f_p_law
  rw [m_law_eq, wF_run]
  have b2 : intBits 2 ≤ 2000 := bits_mono (bits_of (n := 9) (by decide)) (by decide)
  have b3 : intBits 3 ≤ 2000 := bits_mono (bits_of (n := 9) (by decide)) (by decide)
  have b200 : intBits 200 ≤ 2000 := bits_mono (bits_of (n := 9) (by decide)) (by decide)
  simp [slots]
  refine store_w hl hb fun m0 S0 l0 => ?_
  simp
  refine pick_w S0.app (by decide) (ds := menu.map fun p => .tup [.int (p.1 : Int), .int (p.2 : Int)]) ⟨.inr ⟨_, by show m0.length ≠ 1; omega, rfl, by simp [menu]⟩⟩ (by simp [menu]) (by simp [menu]) fun k x m1 hx S1 F1 l1 => ?_
  obtain ⟨p, hp, rfl⟩ : ∃ p ∈ menu, x = .tup [.int (p.1 : Int), .int (p.2 : Int)] := by
    obtain ⟨p, hp, h⟩ := List.mem_map.mp (List.mem_of_getElem? hx)
    exact ⟨p, hp, h.symm⟩
  have hok := List.all_eq_true.mp menu_ok p hp
  rw [Bool.and_eq_true] at hok
  -- behind the choice of a and b
  have go : ∀ (a b : Nat) (M : Hm) (L : Nat) (z0 z2 : Sl), okM a b = true → St 1 0 L M → L ≤ 100 → wS (sSeq (sAsg (eCall f_law_take (aCons (eVar 1) (aCons (eC (.int 3)) (aNil)))) (gNm 5))
      (sSeq (sIf (tAndM (tBl (eBin opEq (eVar 5) (eC (.int 0)))) (tTru (eCall f_law_chance (aCons (eVar 1) (aCons (eC (.int 2)) (aNil)))))) (sSeq (sAsg (eCall f_law_edge (aCons (eVar 1) (aCons (eC (.int 1)) (aCons (eC (.int 200)) (aNil))))) (gNm 3))
      (sAsg (eCall f_law_pick (aCons (eVar 1) (aCons (eLst (aCons (eC (.int 1)) (aCons (eC (.int 1)) (aCons (eC (.int 2)) (aCons (eC (.int 3)) (aCons (eC (.int 199)) (aCons (eC (.int 200)) (aNil)))))))) (aNil)))) (gNm 4))) (sNext)) restL)) [z0, .is (.ref 1), z2, .is (.int a), .is (.int b), .un, .un, .un, .un, .un, .un, .un, .un] M (reK fun r => ∃ m', r = .ok (.bl true) m') := fun a b M L z0 z2 hab SM hL => by
    obtain ⟨a1, a2, b1, b2', a3, b3', ab, hch, hok⟩ := okM_of hab
    have hbig : ∀ x : Nat, x ≤ 100000 → x ≤ 2 ^ 200 := fun x hx => Nat.le_trans hx (by decide)
    simp
    refine take_w SM (hbig _ (by omega)) b3 fun kind m2 k0 k1 _ S2 F2 l2 => ?_
    have k1 := k1 (by decide)
    simp
    by_cases c : kind = 0
    · subst c
      simp
      refine chance_w S2 (hbig _ (by omega)) b2 fun bb m3 S3 F3 l3 => ?_
      simp
      cases bb with
      | true =>
        simp
        refine edge_w S3 (hbig _ (by omega)) b200 (by decide) fun A m4 A0 A1 S4 F4 l4 => ?_
        obtain ⟨A, rfl⟩ : ∃ j : Nat, A = j := ⟨A.toNat, by omega⟩
        have hs4 := S4.lt
        simp
        refine pick_w S4.app (hbig _ (by omega)) (ds := [.int 1, .int 1, .int 2, .int 3, .int 199, .int 200]) ⟨.inr ⟨_, by show m4.length ≠ 1; omega, rfl, by simp⟩⟩ (by simp) (by simp) fun k x m5 hx S5 F5 l5 => ?_
        obtain ⟨B, rfl, B0, B1⟩ : ∃ B : Nat, x = .int B ∧ 1 ≤ B ∧ B ≤ 200 := by
          rcases k with _ | _ | _ | _ | _ | _ | k <;> simp at hx <;> subst hx
          · exact ⟨1, rfl, by omega, by omega⟩
          · exact ⟨1, rfl, by omega, by omega⟩
          · exact ⟨2, rfl, by omega, by omega⟩
          · exact ⟨3, rfl, by omega, by omega⟩
          · exact ⟨199, rfl, by omega, by omega⟩
          · exact ⟨200, rfl, by omega, by omega⟩
        simp
        exact rest_w S5 (by omega) (Int.le_refl _) (.inl rfl) (by omega) (by omega) B0 B1
      | false =>
        simp
        exact rest_w S3 (by omega) (Int.le_refl _) (.inl rfl) a1 a2 b1 b2'
    · simp [c]
      exact rest_w S2 (by omega) k0 (.inr ⟨by omega, a3, b3', ab, hch, hok⟩) a1 a2 b1 b2'
  simp
  refine chance_w S1 (by decide) b2 fun bb m2 S2 F2 l2 => ?_
  simp
  cases bb with
  | true =>
    simp
    simpa using go p.2 p.1 m2 _ _ _ hok.2 S2 (by decide)
  | false =>
    simp
    simpa using go p.1 p.2 m2 _ _ _ hok.1 S2 (by decide)
end Ours
namespace Ours
open PySem PySem.Spec PyProof.Rows L2 Mi
def fn : List He.DefD := [d_law_store, d_law_mix, d_law_take, d_law_pick, d_law_chance, d_law_best_points, d_law_between, d_law_full_points, d_law_edge, d_law_choose, d_law_case, d_law_form, d_law_keep, d_p_is_sequence, d_p_is_integer, d_p_is_coordinate, d_p_is_point, d_p_check_points, d_p_turned_area, d_p_bends, d_p_bent_reach, d_p_least_start, d_p_least_bent, d_p_is_integer_within, d_p_cup_or_cap, d_law_ask, d_law_odd, d_law_not_sequence, d_law_bent_points, d_law_far, d_law_not_number, d_law_is_integer, d_law_same, d_law_refuses, d_law_side, d_law_reach, d_law_least_run, d_law_due, d_p_are_indices, d_p_is_bent, d_p_is_cup, d_p_is_cap, d_p_law, di_BadThings, di_BadPoints, di_TooMany]
def fa : List He.Fa := [.glo "_law_store", .glo "_law_mix", .glo "_law_take", .glo "_law_pick", .glo "_law_chance", .glo "_law_best_points", .glo "_law_between", .glo "_law_full_points", .glo "_law_edge", .glo "_law_choose", .glo "_law_case", .glo "_law_form", .glo "_law_keep", .glo "is_sequence", .glo "is_integer", .glo "is_coordinate", .glo "is_point", .glo "check_points", .glo "turned_area", .glo "bends", .glo "bent_reach", .glo "least_start", .glo "least_bent", .glo "is_integer_within", .glo "cup_or_cap", .glo "_law_ask", .glo "_law_odd", .glo "_law_not_sequence", .glo "_law_bent_points", .glo "_law_far", .glo "_law_not_number", .glo "_law_is_integer", .glo "_law_same", .glo "_law_refuses", .glo "_law_side", .glo "_law_reach", .glo "_law_least_run", .glo "_law_due", .glo "are_indices", .glo "is_bent", .glo "is_cup", .glo "is_cap", .glo "law", .glo "HueError", .glo "BadNumber", .glo "BadThings", .glo "BadPoints", .glo "TooMany", .free "ValueError", .free "abs", .free "bool", .free "dict", .free "enumerate", .free "int", .free "isinstance", .free "len", .free "list", .free "max", .free "min", .free "range", .free "reversed", .free "str", .free "tuple", .int "MOST_POINTS" 200, .int "MOST_HUED" 23, .int "SIZE_LIMIT" 100000000000000000000000000000000000000000000000000000000000000000000000000000000000000000000000000000000000000000000000000000000000000000000000000000000000000000000000000000000000000000000000000000000]
def names0 : List PySem.Str := ["HueError", "BadNumber", "BadThings", "BadPoints", "TooMany", "is_sequence", "is_integer", "is_integer_within", "are_indices", "MOST_POINTS", "MOST_HUED", "SIZE_LIMIT", "is_coordinate", "is_point", "check_points", "turned_area", "bends", "is_bent", "is_cup", "is_cap", "bent_reach", "least_start", "least_bent", "cup_or_cap", "_law_mix", "_law_store", "_law_take", "_law_between", "_law_edge", "_law_chance"]
def names1 : List PySem.Str := ["_law_pick", "_law_form", "_law_odd", "_law_far", "_law_not_number", "_law_not_sequence", "_law_choose", "_law_bent_points", "_law_side", "_law_is_integer", "_law_same", "_law_keep", "_law_reach", "_law_full_points", "_law_least_run", "_law_due", "_law_best_points", "_law_ask", "_law_case", "_law_refuses"]
def names : List PySem.Str := names0 ++ names1
abbrev R : PySem.W.OpenRow := PySem.W.OpenLaw.row PySem.Challenge.rw_huewalks_k82_cup_or_cap_found
abbrev hk : PySem.W.Hook := hookM 5 fa fn (exAll es cs)
def ob (s : PySem.W.SharedT) : AlM := obsM 5 fa fn (exAll es cs) (HandSHeadRun.getT s)
theorem ob_eq (s : PySem.W.SharedT) : ob s = hk.obs s.abs := obsM_eq (HandSHeadRun.getT_eq s)
theorem run (w : World) : HandSHeadRun.RunEq R (PySem.W.view R.prog [54]) hk ob 9000 names w := by
  intro os
  kernel_rfl
theorem all_mk {P : Program} {w : World} {K : PySem.W.Frag} {h : Heap} {mg : Str → Option Value} (X : K.In h) (G : h.Ns mainGlobals mg) (c : He.SaysD fa fn K) (e : exAll es cs K = true) :
    ∀ base : Heap, FnM P w K mg base (lkOf es cs K) 26 d_p_law "law" ["script"] f_p_law := by
  intro base
  have T : Tx K mg (lkOf es cs K) es cs := ⟨rfl, e, fun x hx => by
    simp only [es, List.mem_cons, List.not_mem_nil, or_false] at hx
    rcases hx with rfl | rfl | rfl | rfl | rfl
    · exact He.glo_ok X G (c.fact 43 (f := .glo "HueError") rfl)
    · exact He.glo_ok X G (c.fact 44 (f := .glo "BadNumber") rfl)
    · exact He.glo_ok X G (c.fact 45 (f := .glo "BadThings") rfl)
    · exact He.glo_ok X G (c.fact 46 (f := .glo "BadPoints") rfl)
    · exact He.glo_ok X G (c.fact 47 (f := .glo "TooMany") rfl)
    , fun x hx => by cases hx⟩
  have n : Fr mg := ⟨He.free_ok X G (c.fact 48 (f := .free "ValueError") rfl), He.free_ok X G (c.fact 49 (f := .free "abs") rfl), He.free_ok X G (c.fact 50 (f := .free "bool") rfl), He.free_ok X G (c.fact 51 (f := .free "dict") rfl), He.free_ok X G (c.fact 52 (f := .free "enumerate") rfl), He.free_ok X G (c.fact 53 (f := .free "int") rfl), He.free_ok X G (c.fact 54 (f := .free "isinstance") rfl), He.free_ok X G (c.fact 55 (f := .free "len") rfl), He.free_ok X G (c.fact 56 (f := .free "list") rfl), He.free_ok X G (c.fact 57 (f := .free "max") rfl), He.free_ok X G (c.fact 58 (f := .free "min") rfl), He.free_ok X G (c.fact 59 (f := .free "range") rfl), He.free_ok X G (c.fact 60 (f := .free "reversed") rfl), He.free_ok X G (c.fact 61 (f := .free "str") rfl), He.free_ok X G (c.fact 62 (f := .free "tuple") rfl)⟩
  have c_ : Co mg := ⟨He.int_ok X G (c.fact 63 (f := .int "MOST_POINTS" 200) rfl), He.int_ok X G (c.fact 64 (f := .int "MOST_HUED" 23) rfl), He.int_ok X G (c.fact 65 (f := .int "SIZE_LIMIT" 100000000000000000000000000000000000000000000000000000000000000000000000000000000000000000000000000000000000000000000000000000000000000000000000000000000000000000000000000000000000000000000000000000000) rfl)⟩
  have I : In_ P w K mg base := ⟨(by obtain ⟨fd, F⟩ := c.def_ 43 (d := di_BadThings) rfl; exact wi_BadThings F), (by obtain ⟨fd, F⟩ := c.def_ 44 (d := di_BadPoints) rfl; exact wi_BadPoints F), (by obtain ⟨fd, F⟩ := c.def_ 45 (d := di_TooMany) rfl; exact wi_TooMany F)⟩
  have D_law_store : DefOk K mg d_law_store "_law_store" := by
    obtain ⟨fd, F⟩ := c.def_ 0 (d := d_law_store) rfl
    exact ⟨_, fd, He.glo_ok X G (c.fact 0 (f := .glo "_law_store") rfl), F⟩
  have h_law_store := w_law_store (P := P) (w := w) (base := base) T n c_ I D_law_store 
  have D_law_mix : DefOk K mg d_law_mix "_law_mix" := by
    obtain ⟨fd, F⟩ := c.def_ 1 (d := d_law_mix) rfl
    exact ⟨_, fd, He.glo_ok X G (c.fact 1 (f := .glo "_law_mix") rfl), F⟩
  have h_law_mix := w_law_mix (P := P) (w := w) (base := base) T n c_ I D_law_mix 
  have D_law_take : DefOk K mg d_law_take "_law_take" := by
    obtain ⟨fd, F⟩ := c.def_ 2 (d := d_law_take) rfl
    exact ⟨_, fd, He.glo_ok X G (c.fact 2 (f := .glo "_law_take") rfl), F⟩
  have h_law_take := w_law_take (P := P) (w := w) (base := base) T n c_ I D_law_take h_law_mix
  have D_law_pick : DefOk K mg d_law_pick "_law_pick" := by
    obtain ⟨fd, F⟩ := c.def_ 3 (d := d_law_pick) rfl
    exact ⟨_, fd, He.glo_ok X G (c.fact 3 (f := .glo "_law_pick") rfl), F⟩
  have h_law_pick := w_law_pick (P := P) (w := w) (base := base) T n c_ I D_law_pick h_law_take
  have D_law_chance : DefOk K mg d_law_chance "_law_chance" := by
    obtain ⟨fd, F⟩ := c.def_ 4 (d := d_law_chance) rfl
    exact ⟨_, fd, He.glo_ok X G (c.fact 4 (f := .glo "_law_chance") rfl), F⟩
  have h_law_chance := w_law_chance (P := P) (w := w) (base := base) T n c_ I D_law_chance h_law_take
  have D_law_best_points : DefOk K mg d_law_best_points "_law_best_points" := by
    obtain ⟨fd, F⟩ := c.def_ 5 (d := d_law_best_points) rfl
    exact ⟨_, fd, He.glo_ok X G (c.fact 5 (f := .glo "_law_best_points") rfl), F⟩
  have h_law_best_points := w_law_best_points (P := P) (w := w) (base := base) T n c_ I D_law_best_points 
  have D_law_between : DefOk K mg d_law_between "_law_between" := by
    obtain ⟨fd, F⟩ := c.def_ 6 (d := d_law_between) rfl
    exact ⟨_, fd, He.glo_ok X G (c.fact 6 (f := .glo "_law_between") rfl), F⟩
  have h_law_between := w_law_between (P := P) (w := w) (base := base) T n c_ I D_law_between h_law_take
  have D_law_full_points : DefOk K mg d_law_full_points "_law_full_points" := by
    obtain ⟨fd, F⟩ := c.def_ 7 (d := d_law_full_points) rfl
    exact ⟨_, fd, He.glo_ok X G (c.fact 7 (f := .glo "_law_full_points") rfl), F⟩
  have h_law_full_points := w_law_full_points (P := P) (w := w) (base := base) T n c_ I D_law_full_points h_law_take h_law_between
  have D_law_edge : DefOk K mg d_law_edge "_law_edge" := by
    obtain ⟨fd, F⟩ := c.def_ 8 (d := d_law_edge) rfl
    exact ⟨_, fd, He.glo_ok X G (c.fact 8 (f := .glo "_law_edge") rfl), F⟩
  have h_law_edge := w_law_edge (P := P) (w := w) (base := base) T n c_ I D_law_edge h_law_take
  have D_law_choose : DefOk K mg d_law_choose "_law_choose" := by
    obtain ⟨fd, F⟩ := c.def_ 9 (d := d_law_choose) rfl
    exact ⟨_, fd, He.glo_ok X G (c.fact 9 (f := .glo "_law_choose") rfl), F⟩
  have h_law_choose := w_law_choose (P := P) (w := w) (base := base) T n c_ I D_law_choose 
  have D_law_case : DefOk K mg d_law_case "_law_case" := by
    obtain ⟨fd, F⟩ := c.def_ 10 (d := d_law_case) rfl
    exact ⟨_, fd, He.glo_ok X G (c.fact 10 (f := .glo "_law_case") rfl), F⟩
  have h_law_case := w_law_case (P := P) (w := w) (base := base) T n c_ I D_law_case h_law_chance h_law_full_points h_law_between h_law_edge h_law_choose h_law_best_points h_law_pick h_law_take
  have D_law_form : DefOk K mg d_law_form "_law_form" := by
    obtain ⟨fd, F⟩ := c.def_ 11 (d := d_law_form) rfl
    exact ⟨_, fd, He.glo_ok X G (c.fact 11 (f := .glo "_law_form") rfl), F⟩
  have h_law_form := w_law_form (P := P) (w := w) (base := base) T n c_ I D_law_form h_law_take
  have D_law_keep : DefOk K mg d_law_keep "_law_keep" := by
    obtain ⟨fd, F⟩ := c.def_ 12 (d := d_law_keep) rfl
    exact ⟨_, fd, He.glo_ok X G (c.fact 12 (f := .glo "_law_keep") rfl), F⟩
  have h_law_keep := w_law_keep (P := P) (w := w) (base := base) T n c_ I D_law_keep 
  have D_p_is_sequence : DefOk K mg d_p_is_sequence "is_sequence" := by
    obtain ⟨fd, F⟩ := c.def_ 13 (d := d_p_is_sequence) rfl
    exact ⟨_, fd, He.glo_ok X G (c.fact 13 (f := .glo "is_sequence") rfl), F⟩
  have h_p_is_sequence := w_p_is_sequence (P := P) (w := w) (base := base) T n c_ I D_p_is_sequence 
  have D_p_is_integer : DefOk K mg d_p_is_integer "is_integer" := by
    obtain ⟨fd, F⟩ := c.def_ 14 (d := d_p_is_integer) rfl
    exact ⟨_, fd, He.glo_ok X G (c.fact 14 (f := .glo "is_integer") rfl), F⟩
  have h_p_is_integer := w_p_is_integer (P := P) (w := w) (base := base) T n c_ I D_p_is_integer 
  have D_p_is_coordinate : DefOk K mg d_p_is_coordinate "is_coordinate" := by
    obtain ⟨fd, F⟩ := c.def_ 15 (d := d_p_is_coordinate) rfl
    exact ⟨_, fd, He.glo_ok X G (c.fact 15 (f := .glo "is_coordinate") rfl), F⟩
  have h_p_is_coordinate := w_p_is_coordinate (P := P) (w := w) (base := base) T n c_ I D_p_is_coordinate h_p_is_integer
  have D_p_is_point : DefOk K mg d_p_is_point "is_point" := by
    obtain ⟨fd, F⟩ := c.def_ 16 (d := d_p_is_point) rfl
    exact ⟨_, fd, He.glo_ok X G (c.fact 16 (f := .glo "is_point") rfl), F⟩
  have h_p_is_point := w_p_is_point (P := P) (w := w) (base := base) T n c_ I D_p_is_point h_p_is_sequence h_p_is_coordinate
  have D_p_check_points : DefOk K mg d_p_check_points "check_points" := by
    obtain ⟨fd, F⟩ := c.def_ 17 (d := d_p_check_points) rfl
    exact ⟨_, fd, He.glo_ok X G (c.fact 17 (f := .glo "check_points") rfl), F⟩
  have h_p_check_points := w_p_check_points (P := P) (w := w) (base := base) T n c_ I D_p_check_points h_p_is_sequence h_p_is_point
  have D_p_turned_area : DefOk K mg d_p_turned_area "turned_area" := by
    obtain ⟨fd, F⟩ := c.def_ 18 (d := d_p_turned_area) rfl
    exact ⟨_, fd, He.glo_ok X G (c.fact 18 (f := .glo "turned_area") rfl), F⟩
  have h_p_turned_area := w_p_turned_area (P := P) (w := w) (base := base) T n c_ I D_p_turned_area 
  have D_p_bends : DefOk K mg d_p_bends "bends" := by
    obtain ⟨fd, F⟩ := c.def_ 19 (d := d_p_bends) rfl
    exact ⟨_, fd, He.glo_ok X G (c.fact 19 (f := .glo "bends") rfl), F⟩
  have h_p_bends := w_p_bends (P := P) (w := w) (base := base) T n c_ I D_p_bends h_p_turned_area
  have D_p_bent_reach : DefOk K mg d_p_bent_reach "bent_reach" := by
    obtain ⟨fd, F⟩ := c.def_ 20 (d := d_p_bent_reach) rfl
    exact ⟨_, fd, He.glo_ok X G (c.fact 20 (f := .glo "bent_reach") rfl), F⟩
  have h_p_bent_reach := w_p_bent_reach (P := P) (w := w) (base := base) T n c_ I D_p_bent_reach h_p_bends
  have D_p_least_start : DefOk K mg d_p_least_start "least_start" := by
    obtain ⟨fd, F⟩ := c.def_ 21 (d := d_p_least_start) rfl
    exact ⟨_, fd, He.glo_ok X G (c.fact 21 (f := .glo "least_start") rfl), F⟩
  have h_p_least_start := w_p_least_start (P := P) (w := w) (base := base) T n c_ I D_p_least_start 
  have D_p_least_bent : DefOk K mg d_p_least_bent "least_bent" := by
    obtain ⟨fd, F⟩ := c.def_ 22 (d := d_p_least_bent) rfl
    exact ⟨_, fd, He.glo_ok X G (c.fact 22 (f := .glo "least_bent") rfl), F⟩
  have h_p_least_bent := w_p_least_bent (P := P) (w := w) (base := base) T n c_ I D_p_least_bent h_p_bent_reach h_p_least_start h_p_bends
  have D_p_is_integer_within : DefOk K mg d_p_is_integer_within "is_integer_within" := by
    obtain ⟨fd, F⟩ := c.def_ 23 (d := d_p_is_integer_within) rfl
    exact ⟨_, fd, He.glo_ok X G (c.fact 23 (f := .glo "is_integer_within") rfl), F⟩
  have h_p_is_integer_within := w_p_is_integer_within (P := P) (w := w) (base := base) T n c_ I D_p_is_integer_within h_p_is_integer
  have D_p_cup_or_cap : DefOk K mg d_p_cup_or_cap "cup_or_cap" := by
    obtain ⟨fd, F⟩ := c.def_ 24 (d := d_p_cup_or_cap) rfl
    exact ⟨_, fd, He.glo_ok X G (c.fact 24 (f := .glo "cup_or_cap") rfl), F⟩
  have h_p_cup_or_cap := w_p_cup_or_cap (P := P) (w := w) (base := base) T n c_ I D_p_cup_or_cap h_p_check_points h_p_is_integer_within h_p_least_bent
  have D_law_ask : DefOk K mg d_law_ask "_law_ask" := by
    obtain ⟨fd, F⟩ := c.def_ 25 (d := d_law_ask) rfl
    exact ⟨_, fd, He.glo_ok X G (c.fact 25 (f := .glo "_law_ask") rfl), F⟩
  have h_law_ask := w_law_ask (P := P) (w := w) (base := base) T n c_ I D_law_ask h_p_cup_or_cap
  have D_law_odd : DefOk K mg d_law_odd "_law_odd" := by
    obtain ⟨fd, F⟩ := c.def_ 26 (d := d_law_odd) rfl
    exact ⟨_, fd, He.glo_ok X G (c.fact 26 (f := .glo "_law_odd") rfl), F⟩
  have h_law_odd := w_law_odd (P := P) (w := w) (base := base) T n c_ I D_law_odd h_law_take
  have D_law_not_sequence : DefOk K mg d_law_not_sequence "_law_not_sequence" := by
    obtain ⟨fd, F⟩ := c.def_ 27 (d := d_law_not_sequence) rfl
    exact ⟨_, fd, He.glo_ok X G (c.fact 27 (f := .glo "_law_not_sequence") rfl), F⟩
  have h_law_not_sequence := w_law_not_sequence (P := P) (w := w) (base := base) T n c_ I D_law_not_sequence h_law_take
  have D_law_bent_points : DefOk K mg d_law_bent_points "_law_bent_points" := by
    obtain ⟨fd, F⟩ := c.def_ 28 (d := d_law_bent_points) rfl
    exact ⟨_, fd, He.glo_ok X G (c.fact 28 (f := .glo "_law_bent_points") rfl), F⟩
  have h_law_bent_points := w_law_bent_points (P := P) (w := w) (base := base) T n c_ I D_law_bent_points h_law_take h_law_not_sequence h_law_edge h_law_odd
  have D_law_far : DefOk K mg d_law_far "_law_far" := by
    obtain ⟨fd, F⟩ := c.def_ 29 (d := d_law_far) rfl
    exact ⟨_, fd, He.glo_ok X G (c.fact 29 (f := .glo "_law_far") rfl), F⟩
  have h_law_far := w_law_far (P := P) (w := w) (base := base) T n c_ I D_law_far h_law_edge h_law_take
  have D_law_not_number : DefOk K mg d_law_not_number "_law_not_number" := by
    obtain ⟨fd, F⟩ := c.def_ 30 (d := d_law_not_number) rfl
    exact ⟨_, fd, He.glo_ok X G (c.fact 30 (f := .glo "_law_not_number") rfl), F⟩
  have h_law_not_number := w_law_not_number (P := P) (w := w) (base := base) T n c_ I D_law_not_number h_law_take h_law_far h_law_odd
  have D_law_is_integer : DefOk K mg d_law_is_integer "_law_is_integer" := by
    obtain ⟨fd, F⟩ := c.def_ 31 (d := d_law_is_integer) rfl
    exact ⟨_, fd, He.glo_ok X G (c.fact 31 (f := .glo "_law_is_integer") rfl), F⟩
  have h_law_is_integer := w_law_is_integer (P := P) (w := w) (base := base) T n c_ I D_law_is_integer 
  have D_law_same : DefOk K mg d_law_same "_law_same" := by
    obtain ⟨fd, F⟩ := c.def_ 32 (d := d_law_same) rfl
    exact ⟨_, fd, He.glo_ok X G (c.fact 32 (f := .glo "_law_same") rfl), F⟩
  have h_law_same := w_law_same (P := P) (w := w) (base := base) T n c_ I D_law_same h_law_is_integer
  have D_law_refuses : DefOk K mg d_law_refuses "_law_refuses" := by
    obtain ⟨fd, F⟩ := c.def_ 33 (d := d_law_refuses) rfl
    exact ⟨_, fd, He.glo_ok X G (c.fact 33 (f := .glo "_law_refuses") rfl), F⟩
  have h_law_refuses := w_law_refuses (P := P) (w := w) (base := base) T n c_ I D_law_refuses h_law_bent_points h_law_not_number h_law_same h_law_ask
  have D_law_side : DefOk K mg d_law_side "_law_side" := by
    obtain ⟨fd, F⟩ := c.def_ 34 (d := d_law_side) rfl
    exact ⟨_, fd, He.glo_ok X G (c.fact 34 (f := .glo "_law_side") rfl), F⟩
  have h_law_side := w_law_side (P := P) (w := w) (base := base) T n c_ I D_law_side 
  have D_law_reach : DefOk K mg d_law_reach "_law_reach" := by
    obtain ⟨fd, F⟩ := c.def_ 35 (d := d_law_reach) rfl
    exact ⟨_, fd, He.glo_ok X G (c.fact 35 (f := .glo "_law_reach") rfl), F⟩
  have h_law_reach := w_law_reach (P := P) (w := w) (base := base) T n c_ I D_law_reach h_law_side
  have D_law_least_run : DefOk K mg d_law_least_run "_law_least_run" := by
    obtain ⟨fd, F⟩ := c.def_ 36 (d := d_law_least_run) rfl
    exact ⟨_, fd, He.glo_ok X G (c.fact 36 (f := .glo "_law_least_run") rfl), F⟩
  have h_law_least_run := w_law_least_run (P := P) (w := w) (base := base) T n c_ I D_law_least_run h_law_reach h_law_side
  have D_law_due : DefOk K mg d_law_due "_law_due" := by
    obtain ⟨fd, F⟩ := c.def_ 37 (d := d_law_due) rfl
    exact ⟨_, fd, He.glo_ok X G (c.fact 37 (f := .glo "_law_due") rfl), F⟩
  have h_law_due := w_law_due (P := P) (w := w) (base := base) T n c_ I D_law_due h_law_least_run
  have D_p_are_indices : DefOk K mg d_p_are_indices "are_indices" := by
    obtain ⟨fd, F⟩ := c.def_ 38 (d := d_p_are_indices) rfl
    exact ⟨_, fd, He.glo_ok X G (c.fact 38 (f := .glo "are_indices") rfl), F⟩
  have h_p_are_indices := w_p_are_indices (P := P) (w := w) (base := base) T n c_ I D_p_are_indices h_p_is_sequence h_p_is_integer
  have D_p_is_bent : DefOk K mg d_p_is_bent "is_bent" := by
    obtain ⟨fd, F⟩ := c.def_ 39 (d := d_p_is_bent) rfl
    exact ⟨_, fd, He.glo_ok X G (c.fact 39 (f := .glo "is_bent") rfl), F⟩
  have h_p_is_bent := w_p_is_bent (P := P) (w := w) (base := base) T n c_ I D_p_is_bent h_p_check_points h_p_are_indices h_p_bends
  have D_p_is_cup : DefOk K mg d_p_is_cup "is_cup" := by
    obtain ⟨fd, F⟩ := c.def_ 40 (d := d_p_is_cup) rfl
    exact ⟨_, fd, He.glo_ok X G (c.fact 40 (f := .glo "is_cup") rfl), F⟩
  have h_p_is_cup := w_p_is_cup (P := P) (w := w) (base := base) T n c_ I D_p_is_cup h_p_is_bent
  have D_p_is_cap : DefOk K mg d_p_is_cap "is_cap" := by
    obtain ⟨fd, F⟩ := c.def_ 41 (d := d_p_is_cap) rfl
    exact ⟨_, fd, He.glo_ok X G (c.fact 41 (f := .glo "is_cap") rfl), F⟩
  have h_p_is_cap := w_p_is_cap (P := P) (w := w) (base := base) T n c_ I D_p_is_cap h_p_is_bent
  have D_p_law : DefOk K mg d_p_law "law" := by
    obtain ⟨fd, F⟩ := c.def_ 42 (d := d_p_law) rfl
    exact ⟨_, fd, He.glo_ok X G (c.fact 42 (f := .glo "law") rfl), F⟩
  have h_p_law := w_p_law (P := P) (w := w) (base := base) T n c_ I D_p_law h_law_store h_law_pick h_law_chance h_law_take h_law_edge h_law_case h_law_form h_law_keep h_law_due h_law_ask h_law_same h_p_is_cap h_p_is_cup h_p_cup_or_cap h_law_refuses
  exact h_p_law
theorem end_ {w : World} {K : PySem.W.Frag} {h : Heap} {mg : Str → Option Value} {fa : Addr} (X : K.In h) (G : h.Ns mainGlobals mg) (hfa : mg ("law" : Str) = some (.ref fa)) (c : He.SaysD Ours.fa fn K) (e : exAll es cs K = true) :
    ∃ (K : PySem.W.Frag) (fd : FuncData) (sp : Sp), K.In h ∧ (∀ (s : Shared) (u : Value), BindsTo s fd ⟨[u], []⟩ [("script", u)]) ∧
      (∀ (H : Hp) (a : Addr) (ns : List Int), ns.length ≤ 63 → (∀ z ∈ ns, Builtin.Int.intBits z ≤ 1048576) → Only H → SqL K H a (ns.map V.int) → sp [.ref a] H (fun v _ => v = .bl true) fun _ _ _ => False) ∧
      ∀ base : Heap, K.In base → base.Ns mainGlobals mg → FnOk (PySem.Challenge.rw_huewalks_k82_cup_or_cap_found).prog w K mg base (L2.CX (PySem.Challenge.rw_huewalks_k82_cup_or_cap_found).prog w) 26 fa fd ["script"] sp := by
  have A := all_mk (P := (PySem.Challenge.rw_huewalks_k82_cup_or_cap_found).prog) (w := w) X G c e
  have eg := He.glo_ok X G (c.fact 42 (f := .glo "law") rfl)
  have ef := hfa.symm.trans eg
  cases ef
  obtain ⟨fd, Fd⟩ := c.def_ 42 (d := d_p_law) rfl
  have b := FunD.bindsA (ps := ["script"]) Fd fun _ _ _ _ _ _ us hl => match us, hl with | [_], _ => rfl
  refine ⟨K, fd, spM (lkOf es cs K) 1 f_p_law, X, fun s v => b s [v] rfl, fun H a ns hl hb hO hS => ?_, fun base _ _ => ?_⟩
  · obtain ⟨hr, rv⟩ := script_rv (g := lkOf es cs K) rfl hO hS
    obtain ⟨m', hm⟩ := law_true ns hl hb
    exact ⟨[], [], [.frl (ns.map D.int)], .ok (.bl true) m', hr, rv, rfl, hm, fun d m' e ι' v H' ex hr rv => by cases e; cases rv; rfl, fun x m' e => by cases e⟩
  · obtain ⟨f, fd', h1, h2, h3⟩ := (A base).ex
    have e1 := h1.symm.trans eg
    cases e1
    obtain ⟨oc, od, dV, kV, doc, pm, an, cdv, ct, osl, e2, lk, _⟩ := id Fd.ex
    obtain ⟨oc', od', dV', kV', doc', pm', an', cdv', ct', osl', e3, lk', _⟩ := id h2.ex
    have q := lk.symm.trans lk'
    cases q
    exact h3

end Ours
open PySem PySem.W PySem.Calls PyProof.Rows
theorem PySem.Challenge.cw_huewalks_k82_cup_or_cap_found_holds : PySem.Challenge.rw_huewalks_k82_cup_or_cap_found.Holds := by
  w_on; o_law
  refine HandSHeadRun.head_any (r := OpenLaw.row PySem.Challenge.rw_huewalks_k82_cup_or_cap_found) (q := view (OpenLaw.row PySem.Challenge.rw_huewalks_k82_cup_or_cap_found).prog [54]) (H := Ours.hk) (ob := Ours.ob) (M := 9000) (loose := Ours.names) (d := HandSHeadRun.topDef (OpenLaw.row PySem.Challenge.rw_huewalks_k82_cup_or_cap_found).prog 54) (kwd := []) Ours.ob_eq
    (by kernel_rfl) (fun s => by kernel_rfl) Ours.run (by kernel_rfl) (by kernel_rfl) (by kernel_rfl) (by rfl) (by first | assumption | decide +kernel) (by decide +kernel) ⟨rfl, rfl, rfl, rfl, rfl, by decide +kernel⟩ ?hw ?hc
  case hw => w_witness2
  case hc =>
    refine Mi.walk_ofBE (l := PySem.Challenge.rw_huewalks_k82_cup_or_cap_found) (n := 63) (k := 26) (x := "script") (CX := fun w => L2.CX (PySem.Challenge.rw_huewalks_k82_cup_or_cap_found).prog w) rfl (by decide) (by kernel_rfl) ⟨rfl, by decide, by decide⟩ ?F (fun w H s e s' z => Mi.cx_no z)
    intro w mg fa h Y G hmg0
    obtain ⟨K, KX, c, e⟩ := Y
    have hmg : mg ("law" : PySem.Str) = some (.ref fa) := by
      have e : (HandSHeadRun.topDef (OpenLaw.row PySem.Challenge.rw_huewalks_k82_cup_or_cap_found).prog 54).name = ("law" : PySem.Str) := by kernel_rfl
      rw [← e]
      exact hmg0
    exact Ours.end_ KX G hmg c e
