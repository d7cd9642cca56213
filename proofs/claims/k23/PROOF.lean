import PyProof.Rows.All
import Wide.All
import OpenK.AllK
import Wide.FinOn
import HandS.ForMost
import HandS.ForExc
import HandS.Lambda
import HandS.Flow
import HandS.TupAny
import HandS.TupMul
import HandS.Deep
import HandS.IsInst
import HandS.Style
import KE.DataEq
import HandS.Star
import HandS.Rev
import HandS.Text
import PyProof.WalksMore
import PyProof.SumWalkG
import HandS.Zip
import HandS.Exc
import HandS.Nested
import HandS.Comp
import HandS.WordsExc
import HandS.Defaults
import HandS.Property
import HandS.RaiseMore
import HandS.TupSets
import HandS.SetFor
import HandS.Head2
import HandS.HeadHook4
import HandS.HeadWalk
import HandS.EndTab
import HandS.NestedK
import PyProof.ReprRoads
import PyProof.FitsInt
import PyProof.StrLawsRepr
import OpenK.KOps
import OpenK.KMeth
import HandS.ClsMeth
import HandS.HeadNt
import HandS.FStr
import KE.GoesEnum
import PyProof.Rows.MatchSeqLen
import KE.KUnpack
import KE.DataCmp
import HandS.SortInts
import KE.DataMinMax
import PySem.Challenge.RW_burstlimits_k23_texts_of_limits
set_option Elab.async false
set_option linter.all false
set_option maxRecDepth 100000
set_option maxHeartbeats 0
namespace FC
open PySem PySem.Spec PyProof.Rows L2

/-- data, by value -/
inductive D where
  | non | bl (b : Bool) | int (i : Int) | str (x : Str)
  | lst (xs : List D) | tup (xs : List D) | dct (kvs : List (Key × D))
  | ins (c : Nat) (fs : List (Str × D)) | raw (v : V) | cls (c : Nat)
/-- a thing that is changed -/
inductive MO where
  | lst (xs : List D) | ins (c : Nat) (fs : List (Str × D))
/-- what stands in a slot: nothing, data, a thing of one's own (its tag: the parameter that brought it), a list that is only looked at -/
inductive SV where
  | none | val (d : D) | own (t : Option Nat) (o : MO) | view (xs : List D)
abbrev Gm := List SV
structure Ct where
  K : PySem.W.Frag
  cl : Nat → Addr
  ec : Nat → Addr
  T : List (Addr × Str)
structure Ex where
  c : Nat
  fs : List (Str × D)

def isTbl : HO → Bool | .tbl _ => true | _ => false
/-- what may change: nothing (not a table either), or some addresses (and tables grow) -/
inductive KN where
  | no | of (N : Addr → Prop)
instance : Coe (Addr → Prop) KN := ⟨KN.of⟩
def KN.at : KN → Addr → Prop
  | .no, _ => False
  | .of N, a => N a
def KN.ok : KN → HO → HO → Prop
  | .no, o, o' => o' = o
  | .of _, _, _ => True
theorem KN.ok_refl : ∀ (N : KN) (o : HO), N.ok o o
  | .no, _ => rfl
  | .of _, _ => trivial
theorem KN.ok_trans : ∀ (N : KN) {a b c : HO}, N.ok a b → N.ok b c → N.ok a c
  | .no, _, _, _, e1, e2 => e2.trans e1
  | .of _, _, _, _, _, _ => trivial
def Keep (N : KN) (H H' : Hp) : Prop := ∀ a o, H a = some o → ¬ N.at a → (isTbl o = false → H' a = some o) ∧ (isTbl o = true → ∃ o', H' a = some o' ∧ isTbl o' = true ∧ N.ok o o')
abbrev Nope : Addr → Prop := fun _ => False
abbrev Keep0 := Keep KN.no
theorem Keep.refl (N : KN) (H : Hp) : Keep N H H := fun _ o e _ => ⟨fun _ => e, fun t => ⟨o, e, t, N.ok_refl o⟩⟩
theorem Keep.there {N : KN} {H H' : Hp} (k : Keep N H H') {a : Addr} {o : HO} (e : H a = some o) (n : ¬ N.at a) : ∃ o', H' a = some o' := by
  cases t : isTbl o with
  | false => exact ⟨o, (k a o e n).1 t⟩
  | true => obtain ⟨o', h, _⟩ := (k a o e n).2 t; exact ⟨o', h⟩
theorem Keep.mono {N : KN} {N' : Addr → Prop} {H H' : Hp} (k : Keep N H H') (h : ∀ a, N.at a → N' a) : Keep (.of N') H H' := fun a o e n => ⟨(k a o e fun z => n (h a z)).1, fun t => by
  obtain ⟨o', e1, t1, _⟩ := (k a o e fun z => n (h a z)).2 t
  exact ⟨o', e1, t1, trivial⟩⟩
theorem Keep.trans {N : KN} {H H1 H2 : Hp} (a : Keep N H H1) (b : Keep N H1 H2) : Keep N H H2 := fun c o e n => by
  cases t : isTbl o with
  | false =>
    have e1 := (a c o e n).1 t
    exact ⟨fun _ => (b c o e1 n).1 t, fun z => by cases z⟩
  | true =>
    obtain ⟨o1, e1, t1, k1⟩ := (a c o e n).2 t
    refine ⟨fun z => (by cases z), fun _ => ?_⟩
    obtain ⟨o2, e2, t2, k2⟩ := (b c o1 e1 n).2 t1
    exact ⟨o2, e2, t2, N.ok_trans k1 k2⟩
theorem Keep.new {N : KN} {H : Hp} {p : Addr} {o : HO} (h : H p = none) : Keep N H (upd H p o) := fun a u e _ => by
  have ne : a ≠ p := ne_of_none e h
  rw [upd_ne ne]
  exact ⟨fun _ => e, fun t => ⟨u, e, t, N.ok_refl u⟩⟩
theorem Keep.all {H H' : Hp} (k : Keep0 H H') {a : Addr} {o : HO} (e : H a = some o) : H' a = some o := by
  cases t : isTbl o with
  | false => exact (k a o e id).1 t
  | true =>
    obtain ⟨o', e1, _, q⟩ := (k a o e id).2 t
    rw [← show o' = o from q]
    exact e1
theorem Keep.at {H H' : Hp} (k : Keep0 H H') {a : Addr} {o : HO} (e : H a = some o) (_t : isTbl o = false := by rfl) : H' a = some o := k.all e
theorem Keep.free {N : KN} {H H' : Hp} (k : Keep N H H') {a : Addr} (e : H' a = none) (n : ¬ N.at a) : H a = none := by
  cases q : H a with
  | none => rfl
  | some o => obtain ⟨o', z⟩ := k.there q n; rw [e] at z; cases z
theorem Keep0.any {N : Addr → Prop} {H H' : Hp} (k : Keep0 H H') : Keep (.of N) H H' := k.mono fun _ z => z.elim

mutual
inductive Rep (C : Ct) (M : Addr → Prop) (H : Hp) : V → D → Prop
  | non : Rep C M H .non .non
  | bl (b : Bool) : Rep C M H (.bl b) (.bl b)
  | int (i : Int) : Rep C M H (.int i) (.int i)
  | str (x : Str) : Rep C M H (.str x) (.str x)
  | lst {a : Addr} {vs : List V} {ds : List D} : H a = some (.lst vs) → ¬ M a → RepL C M H vs ds → Rep C M H (.ref a) (.lst ds)
  | tup {a : Addr} {vs : List V} {ds : List D} : H a = some (.tup vs) → ¬ M a → RepL C M H vs ds → Rep C M H (.ref a) (.tup ds)
  | dct {a : Addr} {vs : List (Key × V)} {ds : List (Key × D)} : H a = some (.dK vs) → ¬ M a → RepK C M H vs ds → Rep C M H (.ref a) (.dct ds)
  | ins {a dx : Addr} {c : Nat} {vs : List (Str × V)} {ds : List (Str × D)} : H a = some (.ins (C.cl c) dx vs) → ¬ M a → RepF C M H vs ds → Rep C M H (.ref a) (.ins c ds)
  | raw (v : V) : Rep C M H v (.raw v)
  | cls (c : Nat) : Rep C M H (.ref (C.cl c)) (.cls c)
inductive RepL (C : Ct) (M : Addr → Prop) (H : Hp) : List V → List D → Prop
  | nil : RepL C M H [] []
  | cons {v : V} {vs : List V} {d : D} {ds : List D} : Rep C M H v d → RepL C M H vs ds → RepL C M H (v :: vs) (d :: ds)
inductive RepK (C : Ct) (M : Addr → Prop) (H : Hp) : List (Key × V) → List (Key × D) → Prop
  | nil : RepK C M H [] []
  | cons {k : Key} {v : V} {vs : List (Key × V)} {d : D} {ds : List (Key × D)} : Rep C M H v d → RepK C M H vs ds → RepK C M H ((k, v) :: vs) ((k, d) :: ds)
inductive RepF (C : Ct) (M : Addr → Prop) (H : Hp) : List (Str × V) → List (Str × D) → Prop
  | nil : RepF C M H [] []
  | cons {k : Str} {v : V} {vs : List (Str × V)} {d : D} {ds : List (Str × D)} : Rep C M H v d → RepF C M H vs ds → RepF C M H ((k, v) :: vs) ((k, d) :: ds)
end

section
variable {C : Ct} {M M' N : Addr → Prop} {H H' : Hp}
/-- what a step must leave for data to stand -/
structure Fine (M M' : Addr → Prop) (H H' : Hp) : Prop where
  at_ : ∀ a o, H a = some o → ¬ M a → isTbl o = false → H' a = some o
  no : ∀ a o, H a = some o → M' a → M a
mutual
theorem Rep.fine (k : Fine M M' H H') : ∀ {d : D} {v : V}, Rep C M H v d → Rep C M' H' v d
  | .non, _, .non => .non
  | .bl _, _, .bl b => .bl b
  | .int _, _, .int i => .int i
  | .str _, _, .str x => .str x
  | .lst _, _, .lst e n r => .lst (k.at_ _ _ e n rfl) (fun z => n (k.no _ _ e z)) (RepL.fine k r)
  | .tup _, _, .tup e n r => .tup (k.at_ _ _ e n rfl) (fun z => n (k.no _ _ e z)) (RepL.fine k r)
  | .dct _, _, .dct e n r => .dct (k.at_ _ _ e n rfl) (fun z => n (k.no _ _ e z)) (RepK.fine k r)
  | .ins _ _, _, .ins e n r => .ins (k.at_ _ _ e n rfl) (fun z => n (k.no _ _ e z)) (RepF.fine k r)
  | .raw _, _, .raw v => .raw v
  | .cls _, _, .cls c => .cls c
theorem RepL.fine (k : Fine M M' H H') : ∀ {ds : List D} {vs : List V}, RepL C M H vs ds → RepL C M' H' vs ds
  | [], _, .nil => .nil
  | _ :: _, _, .cons r t => .cons (Rep.fine k r) (RepL.fine k t)
theorem RepK.fine (k : Fine M M' H H') : ∀ {ds : List (Key × D)} {vs : List (Key × V)}, RepK C M H vs ds → RepK C M' H' vs ds
  | [], _, .nil => .nil
  | (_, _) :: _, _, .cons r t => .cons (Rep.fine k r) (RepK.fine k t)
theorem RepF.fine (k : Fine M M' H H') : ∀ {ds : List (Str × D)} {vs : List (Str × V)}, RepF C M H vs ds → RepF C M' H' vs ds
  | [], _, .nil => .nil
  | (_, _) :: _, _, .cons r t => .cons (Rep.fine k r) (RepF.fine k t)
end
theorem Fine.keep (k : Keep N H H') (h : ∀ a, N a → M a) : Fine M M H H' := ⟨fun a o e n t => (k a o e fun z => n (h a z)).1 t, fun _ _ _ z => z⟩
theorem Fine.keep0 (k : Keep0 H H') : Fine M M H H' := ⟨fun a o e _ _ => k.all e, fun _ _ _ z => z⟩
theorem Fine.weak (h : ∀ a o, H a = some o → M' a → M a) : Fine M M' H H := ⟨fun _ _ e _ _ => e, h⟩
/-- one more address that nothing reaches yet -/
def adj (M : Addr → Prop) (p : Addr) : Addr → Prop := fun a => M a ∨ a = p
theorem Fine.plus {p : Addr} (h : H p = none) : Fine M (adj M p) H H := Fine.weak fun a o e z => z.elim id fun q => by rw [q, h] at e; cases e
theorem Fine.trans {M1 M2 M3 : Addr → Prop} {H1 H2 H3 : Hp} (a : Fine M1 M2 H1 H2) (b : Fine M2 M3 H2 H3) (t : ∀ c o, H1 c = some o → isTbl o = true → M3 c → M1 c) : Fine M1 M3 H1 H3 :=
  ⟨fun c o e n t => b.at_ c o (a.at_ c o e n t) (fun z => n (a.no c o e z)) t, fun c o e z => by
    cases q : isTbl o with
    | true => exact t c o e q z
    | false =>
      by_cases n : M1 c
      · exact n
      · exact a.no c o e (b.no c o (a.at_ c o e n q) z)⟩

theorem RepL.length : ∀ {ds : List D} {vs : List V}, RepL C M H vs ds → vs.length = ds.length
  | [], _, .nil => rfl
  | _ :: _, _, .cons _ t => congrArg (· + 1) (RepL.length t)
theorem RepL.get : ∀ {ds : List D} {vs : List V} {i : Nat} {d : D}, RepL C M H vs ds → ds[i]? = some d → ∃ v, vs[i]? = some v ∧ Rep C M H v d
  | _ :: _, _, 0, d, .cons r t, e => by cases e; exact ⟨_, rfl, r⟩
  | _ :: _, _, i + 1, d, .cons r t, e => by
    obtain ⟨v, h1, h2⟩ := RepL.get (i := i) t (by simpa using e)
    exact ⟨v, by simpa using h1, h2⟩
theorem RepL.getV : ∀ {ds : List D} {vs : List V} {i : Nat} {v : V}, RepL C M H vs ds → vs[i]? = some v → ∃ d, ds[i]? = some d ∧ Rep C M H v d
  | [], _, _, _, .nil, e => by simp at e
  | _ :: _, _, 0, d, .cons r t, e => by cases e; exact ⟨_, rfl, r⟩
  | _ :: _, _, i + 1, d, .cons r t, e => by
    obtain ⟨v, h1, h2⟩ := RepL.getV (i := i) t (by simpa using e)
    exact ⟨v, by simpa using h1, h2⟩
theorem RepL.append : ∀ {ds es : List D} {vs ws : List V}, RepL C M H vs ds → RepL C M H ws es → RepL C M H (vs ++ ws) (ds ++ es)
  | [], _, _, _, .nil, s => s
  | _ :: _, _, _, _, .cons r t, s => .cons r (RepL.append t s)
theorem RepL.drop : ∀ {ds : List D} {vs : List V} (n : Nat), RepL C M H vs ds → RepL C M H (vs.drop n) (ds.drop n)
  | _, _, 0, r => r
  | [], _, _ + 1, .nil => .nil
  | _ :: _, _, n + 1, .cons _ t => RepL.drop n t
theorem RepL.take : ∀ {ds : List D} {vs : List V} (n : Nat), RepL C M H vs ds → RepL C M H (vs.take n) (ds.take n)
  | _, _, 0, r => .nil
  | [], _, _ + 1, .nil => .nil
  | _ :: _, _, n + 1, .cons r t => .cons r (RepL.take n t)
theorem RepL.set : ∀ {ds : List D} {vs : List V} {v : V} {d : D} (n : Nat), Rep C M H v d → RepL C M H vs ds → RepL C M H (vs.set n v) (ds.set n d)
  | [], _, _, _, _, _, .nil => .nil
  | _ :: _, _, _, _, 0, q, .cons r t => .cons q t
  | _ :: _, _, _, _, n + 1, q, .cons r t => .cons r (RepL.set n q t)
theorem RepL.reverse : ∀ {ds : List D} {vs : List V}, RepL C M H vs ds → RepL C M H vs.reverse ds.reverse
  | [], _, .nil => .nil
  | _ :: _, _, .cons r t => by
    rw [List.reverse_cons, List.reverse_cons]
    exact RepL.append (RepL.reverse t) (.cons r .nil)
theorem RepF.lookup : ∀ {ds : List (Str × D)} {vs : List (Str × V)} {f : Str} {d : D}, RepF C M H vs ds → ds.lookup f = some d → ∃ v, vs.lookup f = some v ∧ Rep C M H v d
  | (k, _) :: _, _, f, d, .cons r t, e => by
    rw [List.lookup_cons] at e ⊢
    split at e
    · cases e; exact ⟨_, rfl, r⟩
    · exact RepF.lookup t e
theorem RepF.lookupN : ∀ {ds : List (Str × D)} {vs : List (Str × V)} {f : Str}, RepF C M H vs ds → ds.lookup f = none → vs.lookup f = none
  | [], _, _, .nil, _ => rfl
  | (k, _) :: _, _, f, .cons r t, e => by
    rw [List.lookup_cons] at e ⊢
    split at e
    · cases e
    · exact RepF.lookupN t e
theorem RepF.length : ∀ {ds : List (Str × D)} {vs : List (Str × V)}, RepF C M H vs ds → vs.length = ds.length
  | [], _, .nil => rfl
  | (_, _) :: _, _, .cons _ t => congrArg (· + 1) (RepF.length t)
end

/-- the thing at a -/
def ORep (C : Ct) (M : Addr → Prop) (H : Hp) (a : Addr) : MO → Prop
  | .lst xs => ∃ vs, H a = some (.lst vs) ∧ RepL C M H vs xs
  | .ins c fs => ∃ dx vfs, H a = some (.ins (C.cl c) dx vfs) ∧ RepF C M H vfs fs
theorem ORep.fine {C : Ct} {M M' : Addr → Prop} {H H' : Hp} {a : Addr} (k : Fine M M' H H') (ka : ∀ o, H a = some o → isTbl o = false → H' a = some o) : ∀ {o : MO}, ORep C M H a o → ORep C M' H' a o
  | .lst _, ⟨vs, e, r⟩ => ⟨vs, ka _ e rfl, r.fine k⟩
  | .ins _ _, ⟨dx, vfs, e, r⟩ => ⟨dx, vfs, ka _ e rfl, r.fine k⟩
theorem ORep.there {C : Ct} {M : Addr → Prop} {H : Hp} {a : Addr} : ∀ {o : MO}, ORep C M H a o → ∃ u, H a = some u ∧ isTbl u = false
  | .lst _, ⟨_, e, _⟩ => ⟨_, e, rfl⟩
  | .ins _ _, ⟨_, _, e, _⟩ => ⟨_, e, rfl⟩
/-- a list that is looked at: frozen, or the written part's -/
def Seen (C : Ct) (H : Hp) (a : Addr) (vs : List V) : Prop :=
  (∃ o, H a = some (.frz o (.lst vs))) ∨ (SqL C.K (fun _ => none) a vs)
theorem Seen.sql {C : Ct} {H : Hp} {a : Addr} {vs : List V} (s : Seen C H a vs) : SqL C.K H a vs := by
  rcases s with ⟨o, h⟩ | s
  · exact .inl (.inr ⟨o, h⟩)
  · rcases s with (h | ⟨o, h⟩) | h
    · cases h
    · cases h
    · exact .inr h

def SlotOk (C : Ct) (pens : Nat → Addr) (M : Addr → Prop) (H : Hp) (x : Option V) : SV → Prop
  | .none => True
  | .val d => ∃ v, x = some v ∧ Rep C M H v d
  | .own t o => ∃ a, x = some (.ref a) ∧ M a ∧ ORep C M H a o ∧ ∀ k, t = some k → pens k = a
  | .view xs => ∃ a vs, x = some (.ref a) ∧ Seen C H a vs ∧ RepL C M H vs xs
def Own (γ : Gm) (σ : L2.St) (a : Addr) : Prop := ∃ (i : Nat) (t : Option Nat) (o : MO), γ[i]? = some (.own t o) ∧ σ[i]? = some (some (.ref a))
structure EnvRep (C : Ct) (pens : Nat → Addr) (M : Addr → Prop) (γ : Gm) (σ : L2.St) (H : Hp) : Prop where
  len : σ.length = γ.length
  ok : ∀ (i : Nat) (sv : SV) (x : Option V), γ[i]? = some sv → σ[i]? = some x → SlotOk C pens M H x sv
  inj : ∀ (i j : Nat) (t : Option Nat) (o : MO) (t' : Option Nat) (o' : MO) (a : Addr), γ[i]? = some (.own t o) → γ[j]? = some (.own t' o') → σ[i]? = some (some (.ref a)) → σ[j]? = some (some (.ref a)) → i = j
  dom : ∀ a, M a → ∃ o, H a = some o
  tab : LamX.Tabs C.T H
section
variable {C : Ct} {pens : Nat → Addr} {M M' N : Addr → Prop} {γ γ' : Gm} {σ σ' : L2.St} {H H' : Hp}
theorem EnvRep.slot (E : EnvRep C pens M γ σ H) {i : Nat} {sv : SV} (e : γ[i]? = some sv) : ∃ x, σ[i]? = some x ∧ SlotOk C pens M H x sv := by
  obtain ⟨hi, _⟩ := List.getElem?_eq_some_iff.mp e
  have hs : i < σ.length := by rw [E.len]; exact hi
  exact ⟨σ[i], List.getElem?_eq_getElem hs, E.ok i sv _ e (List.getElem?_eq_getElem hs)⟩
theorem EnvRep.ownM (E : EnvRep C pens M γ σ H) {a : Addr} (o : Own γ σ a) : M a ∧ ∃ u, H a = some u ∧ isTbl u = false := by
  obtain ⟨i, t, u, h1, h2⟩ := o
  obtain ⟨b, e, m, r, _⟩ := E.ok i _ _ h1 h2
  cases e
  exact ⟨m, r.there⟩
theorem SlotOk.fine {x : Option V} (k : Fine M M' H H') (hm : ∀ a, M a → M' a) (hs : ∀ a vs, Seen C H a vs → Seen C H' a vs) : ∀ {sv : SV}, (∀ (t : Option Nat) (o : MO) (a : Addr), sv = .own t o → x = some (.ref a) → ∀ u, H a = some u → isTbl u = false → H' a = some u) → SlotOk C pens M H x sv → SlotOk C pens M' H' x sv
  | .none, _, _ => trivial
  | .val _, _, ⟨v, e, r⟩ => ⟨v, e, r.fine k⟩
  | .own _ _, ho, ⟨a, e, m, r, p⟩ => ⟨a, e, hm a m, r.fine k (ho _ _ a rfl e), p⟩
  | .view _, _, ⟨a, vs, e, s, r⟩ => ⟨a, vs, e, hs a vs s, r.fine k⟩
theorem Seen.keep (k : Keep0 H H') {a : Addr} {vs : List V} (s : Seen C H a vs) : Seen C H' a vs := by
  rcases s with ⟨o, h⟩ | s
  · exact .inl ⟨o, k.at h⟩
  · exact .inr s
theorem EnvRep.keep (E : EnvRep C pens M γ σ H) (k : Keep0 H H') : EnvRep C pens M γ σ H' where
  len := E.len
  ok := fun i sv x h1 h2 => (E.ok i sv x h1 h2).fine (Fine.keep0 k) (fun _ z => z) (fun _ _ s => s.keep k) fun _ _ a _ _ u q t => k.at q t
  inj := E.inj
  dom := fun a m => by obtain ⟨o, e⟩ := E.dom a m; exact k.there e id
  tab := E.tab.ext fun _ _ e => k.all e
/-- one more address of one's own -/
theorem EnvRep.plus {p : Addr} (E : EnvRep C pens M γ σ H) (hp : H p = none) (h' : ∃ o, H' p = some o) (k : Keep0 H H') : EnvRep C pens (adj M p) γ σ H' where
  len := E.len
  ok := fun i sv x h1 h2 => (E.ok i sv x h1 h2).fine (Fine.trans (Fine.plus hp) (Fine.keep0 k) fun a o e _ z => z.elim id fun q => by rw [q, hp] at e; cases e) (fun _ z => .inl z) (fun _ _ s => s.keep k) fun _ _ a _ _ u q t => k.at q t
  inj := E.inj
  dom := fun a m => by
    rcases m with m | m
    · obtain ⟨o, e⟩ := E.dom a m; exact k.there e id
    · rw [m]; exact h'
  tab := E.tab.ext fun _ _ e => k.all e
/-- fewer that are not to be reached (none of the own ones) -/
theorem EnvRep.weak (E : EnvRep C pens M γ σ H) (h : ∀ a, M' a → M a) (ho : ∀ a, Own γ σ a → M' a) : EnvRep C pens M' γ σ H where
  len := E.len
  ok := fun i sv x h1 h2 => by
    have k : Fine M M' H H := Fine.weak fun a _ _ z => h a z
    have q := E.ok i sv x h1 h2
    cases sv with
    | none => trivial
    | val d => obtain ⟨v, e, r⟩ := q; exact ⟨v, e, r.fine k⟩
    | own t o => obtain ⟨a, e, m, r, p⟩ := q; exact ⟨a, e, ho a ⟨i, t, o, h1, by rw [h2, e]⟩, r.fine k fun _ z _ => z, p⟩
    | view xs => obtain ⟨a, vs, e, s, r⟩ := q; exact ⟨a, vs, e, s, r.fine k⟩
  inj := E.inj
  dom := fun a m => E.dom a (h a m)
  tab := E.tab
end

/-! ### what a step computes -/
inductive R (α : Type) where
  | ok (a : α) (γ : Gm) | ex (e : Ex) (γ : Gm) | st
abbrev F (α : Type) := Gm → R α
def F.pure {α : Type} (a : α) : F α := fun γ => .ok a γ
def F.bind {α β : Type} (f : F α) (g : α → F β) : F β := fun γ => match f γ with
  | .ok a γ' => g a γ'
  | .ex e γ' => .ex e γ'
  | .st => .st
theorem bind_ok {α β : Type} {f : F α} {g : α → F β} {γ γ' : Gm} {a : α} (h : f γ = .ok a γ') : F.bind f g γ = g a γ' := by unfold F.bind; rw [h]
theorem bind_ex {α β : Type} {f : F α} {g : α → F β} {γ γ' : Gm} {e : Ex} (h : f γ = .ex e γ') : F.bind f g γ = .ex e γ' := by unfold F.bind; rw [h]
theorem bind_st {α β : Type} {f : F α} {g : α → F β} {γ : Gm} (h : f γ = .st) : F.bind f g γ = .st := by unfold F.bind; rw [h]
def liftO {α : Type} (o : Option α) : F α := fun γ => match o with
  | some a => .ok a γ
  | none => .st

/-- the same but for what the own things hold -/
def patOf : SV → SV
  | .own t _ => .own t (.lst [])
  | s => s
def Pat (γ γ' : Gm) : Prop := γ.map patOf = γ'.map patOf
theorem Pat.refl (γ : Gm) : Pat γ γ := rfl
theorem Pat.trans {a b c : Gm} (h : Pat a b) (k : Pat b c) : Pat a c := Eq.trans h k
theorem Pat.symm {a b : Gm} (h : Pat a b) : Pat b a := Eq.symm h
theorem Pat.at {γ γ' : Gm} (h : Pat γ γ') (i : Nat) : (γ[i]?).map patOf = (γ'[i]?).map patOf := by
  have e : (γ.map patOf)[i]? = (γ'.map patOf)[i]? := by rw [show γ.map patOf = γ'.map patOf from h]
  rwa [List.getElem?_map, List.getElem?_map] at e
theorem Pat.own {γ γ' : Gm} (h : Pat γ γ') {i : Nat} {t : Option Nat} {o : MO} (e : γ[i]? = some (.own t o)) : ∃ o', γ'[i]? = some (.own t o') := by
  have q := h.at i
  rw [e] at q
  cases r : γ'[i]? with
  | none => rw [r] at q; cases q
  | some s =>
    rw [r] at q
    cases s with
    | own t' o' => cases q; exact ⟨o', rfl⟩
    | none => cases q
    | val _ => cases q
    | view _ => cases q
theorem Pat.Own {γ γ' : Gm} {σ : L2.St} {a : Addr} (h : Pat γ γ') (o : Own γ σ a) : Own γ' σ a := by
  obtain ⟨i, t, o, h1, h2⟩ := o
  obtain ⟨o', e⟩ := h.own h1
  exact ⟨i, t, o', e, h2⟩
theorem Pat.length {γ γ' : Gm} (h : Pat γ γ') : γ.length = γ'.length := by
  have e := congrArg List.length (show γ.map patOf = γ'.map patOf from h)
  rwa [List.length_map, List.length_map] at e

/-- data, or a list (a thing) whose own address nothing else names: looked at once -/
inductive SRep (C : Ct) (M : Addr → Prop) (H : Hp) : V → D → Prop
  | rep {v : V} {d : D} (r : Rep C M H v d) : SRep C M H v d
  | lst {a : Addr} {vs : List V} {xs : List D} (e : H a = some (.lst vs)) (r : RepL C M H vs xs) : SRep C M H (.ref a) (.lst xs)
  | ins {a dx : Addr} {c : Nat} {vs : List (Str × V)} {ds : List (Str × D)} (e : H a = some (.ins (C.cl c) dx vs)) (r : RepF C M H vs ds) : SRep C M H (.ref a) (.ins c ds)
theorem SqL.keep0 {K : PySem.W.Frag} {H H' : Hp} {a : Addr} {vs : List V} (k : Keep0 H H') (s : SqL K H a vs) : SqL K H' a vs := by
  rcases s with (h | ⟨o, h⟩) | h
  · exact .inl (.inl (k.at h))
  · exact .inl (.inr ⟨o, k.at h⟩)
  · exact .inr h
theorem SRep.keep {C : Ct} {M : Addr → Prop} {H H' : Hp} {v : V} {d : D} (k : Keep0 H H') (s : SRep C M H v d) : SRep C M H' v d := by
  cases s with
  | rep r => exact .rep (r.fine (Fine.keep0 k))
  | lst e r => exact .lst (k.at e) (r.fine (Fine.keep0 k))
  | ins e r => exact .ins (k.at e) (r.fine (Fine.keep0 k))
/-- Rep, or SRep -/
def MRep (m : Bool) (C : Ct) (M : Addr → Prop) (H : Hp) (v : V) (d : D) : Prop := if m = true then Rep C M H v d else SRep C M H v d
theorem MRep.s {m : Bool} {C : Ct} {M : Addr → Prop} {H : Hp} {v : V} {d : D} (h : MRep m C M H v d) : SRep C M H v d := by
  cases m with
  | true => exact .rep h
  | false => exact h
theorem MRep.r {C : Ct} {M : Addr → Prop} {H : Hp} {v : V} {d : D} (h : MRep true C M H v d) : Rep C M H v d := h

def ExRep (C : Ct) (M : Addr → Prop) (e : Ex) (cls : Value) (d : Option Addr) (H : Hp) : Prop :=
  cls = .ref (C.ec e.c) ∧ ((e.fs = [] ∧ d = none) ∨ ∃ dx vs, d = some dx ∧ H dx = some (.xd vs) ∧ RepF C M H vs e.fs)

/-- what is left behind a step: σ as it is -/
structure Stp (C : Ct) (pens : Nat → Addr) (M : Addr → Prop) (σ : L2.St) (γ : Gm) (H : Hp) (γ' : Gm) (H' : Hp) : Prop where
  env : EnvRep C pens M γ' σ H'
  keep : Keep (Own γ σ) H H'
  pat : Pat γ γ'
theorem Stp.trans {C : Ct} {pens : Nat → Addr} {M : Addr → Prop} {σ : L2.St} {γ γ1 γ2 : Gm} {H H1 H2 : Hp} (a : Stp C pens M σ γ H γ1 H1) (b : Stp C pens M σ γ1 H1 γ2 H2) : Stp C pens M σ γ H γ2 H2 :=
  ⟨b.env, a.keep.trans (b.keep.mono fun _ z => a.pat.symm.Own z), a.pat.trans b.pat⟩
theorem Stp.pure {C : Ct} {pens : Nat → Addr} {M : Addr → Prop} {σ : L2.St} {γ : Gm} {H H' : Hp} (E : EnvRep C pens M γ σ H) (k : Keep0 H H') : Stp C pens M σ γ H γ H' := ⟨E.keep k, k.any, rfl⟩
theorem Stp.rep {C : Ct} {pens : Nat → Addr} {M : Addr → Prop} {σ : L2.St} {γ γ' : Gm} {H H' : Hp} (E : EnvRep C pens M γ σ H) (s : Stp C pens M σ γ H γ' H') {v : V} {d : D} (r : Rep C M H v d) : Rep C M H' v d :=
  r.fine (Fine.keep s.keep fun _ z => (E.ownM z).1)

def aft (C : Ct) (W : WX) (pens : Nat → Addr) (M : Addr → Prop) (σ : L2.St) (γ : Gm) (H : Hp) (m p : Bool) (r : R D) (Q : VK) : Prop := match r with
  | .ok d γ' => ∀ v H', Stp C pens M σ γ H γ' H' → (p = true → γ' = γ ∧ Keep0 H H') → MRep m C M H' v d → Q v H'
  | .ex e γ' => ∀ cls d H', Stp C pens M σ γ H γ' H' → ExRep C M e cls d H' → W cls d σ H'
  | .st => False
/-- the reading of an expression by what it computes -/
def tF (C : Ct) (W : WX) (m p : Bool) (f : F D) : TE := fun σ H Q => ∃ pens M γ, EnvRep C pens M γ σ H ∧ aft C W pens M σ γ H m p (f γ) Q
def FX (C : Ct) (W : WX) (m p : Bool) (X : Cx) (e : Expr) (f : F D) : Prop := PE X e (tF C W m p f)
theorem PE.imp {X : Cx} {e : Expr} {t t' : TE} (h : PE X e t) (k : ∀ σ H Q, t' σ H Q → t σ H Q) : PE X e t' := ⟨fun pins s σ H Q I q => h.run pins s σ H Q I (k σ H Q q)⟩
end FC

namespace FC
open PySem PySem.Spec PyProof.Rows L2

/-! ### combinators -/
def f0 (d : D) : F D := fun γ => .ok d γ
def f1 {α β : Type} (g : α → Option β) (fa : F α) : F β := F.bind fa fun x => liftO (g x)
def f2 {α β δ : Type} (g : α → β → Option δ) (fa : F α) (fb : F β) : F δ := F.bind fa fun x => F.bind fb fun y => liftO (g x y)
def fVar (i : Nat) : F D := fun γ => match γ[i]? with
  | some (.val d) => .ok d γ
  | _ => .st
/-- a name looked at: data, a thing of one's own, the script -/
def fLook (i : Nat) : F D := fun γ => match γ[i]? with
  | some (.val d) => .ok d γ
  | some (.own _ (.lst xs)) => .ok (.lst xs) γ
  | some (.own _ (.ins c fs)) => .ok (.ins c fs) γ
  | _ => .st

section
variable {C : Ct} {W : WX} {X : Cx} {m p m1 p1 m2 p2 m3 p3 : Bool} {a b e' : Expr} {fa fb : F D}
/-- a step whose own part is pure -/
theorem aft_fin {pens : Nat → Addr} {M : Addr → Prop} {σ : L2.St} {γ γ' : Gm} {H H' : Hp} {q : Bool} {Q : VK} {d : D} (S : Stp C pens M σ γ H γ' H') (P : q = true → γ' = γ ∧ Keep0 H H')
    (h : aft C W pens M σ γ H true q (.ok d γ') Q) : ∀ v H2, Keep0 H' H2 → Rep C M H2 v d → Q v H2 := fun v H2 k r =>
  h v H2 (S.trans (Stp.pure S.env k)) (fun z => ⟨(P z).1, (P z).2.trans k⟩) r

theorem fx_const {v : V} {d : D} (h : PE X a (tC v)) (r : ∀ M H, Rep C M H v d) : FX C W true true X a (f0 d) := PE.imp h fun σ H Q ⟨pens, M, γ, E, k⟩ =>
  k v H (Stp.pure E (Keep.refl _ _)) (fun _ => ⟨rfl, Keep.refl _ _⟩) (r M H)
theorem fx_int {i : Int} {j pos} : FX C W true true X (.Constant (.int i) j pos) (f0 (.int i)) := fx_const pe_int fun _ _ => .int i
theorem fx_bl {i : Bool} {j pos} : FX C W true true X (.Constant (.bool i) j pos) (f0 (.bl i)) := fx_const pe_bl fun _ _ => .bl i
theorem fx_non {j pos} : FX C W true true X (.Constant .none j pos) (f0 .non) := fx_const pe_non fun _ _ => .non
theorem fx_str {i : Str} {j pos} : FX C W true true X (.Constant (.str i) j pos) (f0 (.str i)) := fx_const pe_str fun _ _ => .str i
/-- a global constant: an int, a text -/
theorem fx_gint {x : Str} {i : Int} {pos : Pos} (hm : ∃ t, X.mg x = some (.int i t)) (hg : Gl X x) (hd : (x == ("__debug__" : Str)) = false := by decide) : FX C W true true X (.Name x pos) (f0 (.int i)) := by
  obtain ⟨t, hm⟩ := hm
  exact fx_const (pe_glob (v := .int i) hg hm ⟨t, rfl⟩ hd) fun _ _ => .int i
theorem fx_gstr {x z : Str} {pos : Pos} (hm : ∃ t, X.mg x = some (.str z t)) (hg : Gl X x) (hd : (x == ("__debug__" : Str)) = false := by decide) : FX C W true true X (.Name x pos) (f0 (.str z)) := by
  obtain ⟨t, hm⟩ := hm
  exact fx_const (pe_glob (v := .str z) hg hm ⟨t, rfl⟩ hd) fun _ _ => .str z

theorem fx_var {i : Nat} (h : PE X a (tVar i)) : FX C W true true X a (fVar i) := PE.imp h fun σ H Q ⟨pens, M, γ, E, k⟩ => by
  unfold fVar at k
  cases q : γ[i]? with
  | none => rw [q] at k; exact k.elim
  | some sv =>
    rw [q] at k
    cases sv with
    | val d =>
      obtain ⟨x, h1, v, h2, r⟩ := E.slot q
      subst h2
      exact ⟨v, h1, k v H (Stp.pure E (Keep.refl _ _)) (fun _ => ⟨rfl, Keep.refl _ _⟩) r⟩
    | none => exact k.elim
    | own _ _ => exact k.elim
    | view _ => exact k.elim
theorem fx_look {i : Nat} (h : PE X a (tVar i)) : FX C W false true X a (fLook i) := PE.imp h fun σ H Q ⟨pens, M, γ, E, k⟩ => by
  unfold fLook at k
  cases q : γ[i]? with
  | none => rw [q] at k; exact k.elim
  | some sv =>
    rw [q] at k
    cases sv with
    | val d =>
      obtain ⟨x, h1, v, h2, r⟩ := E.slot q
      subst h2
      exact ⟨v, h1, k v H (Stp.pure E (Keep.refl _ _)) (fun _ => ⟨rfl, Keep.refl _ _⟩) (SRep.rep r)⟩
    | none => exact k.elim
    | own t o =>
      obtain ⟨x, h1, a, h2, _, r, _⟩ := E.slot q
      subst h2
      cases o with
      | lst xs =>
        obtain ⟨vs, e, r⟩ := r
        exact ⟨.ref a, h1, k _ H (Stp.pure E (Keep.refl _ _)) (fun _ => ⟨rfl, Keep.refl _ _⟩) (SRep.lst e r)⟩
      | ins c fs =>
        obtain ⟨dx, vs, e, r⟩ := r
        exact ⟨.ref a, h1, k _ H (Stp.pure E (Keep.refl _ _)) (fun _ => ⟨rfl, Keep.refl _ _⟩) (SRep.ins e r)⟩
    | view xs => exact k.elim

/-! ### operations on values -/
def Op1 (C : Ct) (r : V → Hp → VK → Prop) (g : D → Option D) : Prop := ∀ (M : Addr → Prop) (H : Hp) (x : V) (dx d : D) (Q : VK), (∀ a, M a → ∃ o, H a = some o) → SRep C M H x dx → g dx = some d → (∀ v H', Keep0 H H' → Rep C M H' v d → Q v H') → r x H Q
def Op2 (C : Ct) (r : V → V → Hp → VK → Prop) (g : D → D → Option D) : Prop := ∀ (M : Addr → Prop) (H : Hp) (x y : V) (dx dy d : D) (Q : VK), (∀ a, M a → ∃ o, H a = some o) → SRep C M H x dx → SRep C M H y dy → g dx dy = some d →
  (∀ v H', Keep0 H H' → Rep C M H' v d → Q v H') → r x y H Q
theorem fx1 {r : V → Hp → VK → Prop} {g : D → Option D} (ha : FX C W m p X a fa) (mk : ∀ ta, PE X a ta → PE X e' (fun σ H Q => ta σ H fun x H1 => r x H1 Q)) (hr : Op1 C r g) : FX C W true p X e' (f1 g fa) := PE.imp (mk _ ha) fun σ H Q ⟨pens, M, γ, E, h⟩ => by
  refine ⟨pens, M, γ, E, ?_⟩
  unfold f1 F.bind at h
  cases ea : fa γ with
  | st => rw [ea] at h; exact h
  | ex e γ' => rw [ea] at h; exact h
  | ok d γ1 =>
    rw [ea] at h
    intro v H1 S1 P1 r1
    simp only [liftO] at h
    cases eg : g d with
    | none => rw [eg] at h; exact h.elim
    | some d2 => rw [eg] at h; exact hr M H1 v d d2 Q S1.env.dom r1.s eg (aft_fin S1 P1 h)
theorem both {pens : Nat → Addr} {M : Addr → Prop} {σ : L2.St} {γ1 γ2 : Gm} {H1 H2 : Hp} {v : V} {d : D} (E1 : EnvRep C pens M γ1 σ H1) (S2 : Stp C pens M σ γ1 H1 γ2 H2) (hm : (m1 || p2) = true) (P2 : p2 = true → γ2 = γ1 ∧ Keep0 H1 H2) (r : MRep m1 C M H1 v d) : MRep m1 C M H2 v d := by
  cases m1 with
  | true => exact S2.rep E1 r
  | false => exact SRep.keep (P2 hm).2 r
theorem purity {q1 q2 : Bool} {γ γ1 γ2 : Gm} {H H1 H2 : Hp} (P1 : q1 = true → γ1 = γ ∧ Keep0 H H1) (P2 : q2 = true → γ2 = γ1 ∧ Keep0 H1 H2) : (q1 && q2) = true → γ2 = γ ∧ Keep0 H H2 := fun z => by
  rw [Bool.and_eq_true] at z
  obtain ⟨a1, b1⟩ := P1 z.1
  obtain ⟨a2, b2⟩ := P2 z.2
  exact ⟨a2.trans a1, b1.trans b2⟩
theorem fx2 {r : V → V → Hp → VK → Prop} {g : D → D → Option D} (ha : FX C W m1 p1 X a fa) (hb : FX C W m2 p2 X b fb) (mk : ∀ ta tb, PE X a ta → PE X b tb → PE X e' (fun σ H Q => ta σ H fun x H1 => tb σ H1 fun y H2 => r x y H2 Q)) (hr : Op2 C r g)
    (hm : (m1 || p2) = true := by rfl) : FX C W true (p1 && p2) X e' (f2 g fa fb) := PE.imp (mk _ _ ha hb) fun σ H Q ⟨pens, M, γ, E, h⟩ => by
  refine ⟨pens, M, γ, E, ?_⟩
  unfold f2 F.bind at h
  cases ea : fa γ with
  | st => rw [ea] at h; exact h
  | ex e γ' => rw [ea] at h; exact h
  | ok d γ1 =>
    rw [ea] at h
    intro v H1 S1 P1 r1
    refine ⟨pens, M, γ1, S1.env, ?_⟩
    simp only [F.bind] at h
    cases eb : fb γ1 with
    | st => rw [eb] at h; exact h
    | ex e γ' => rw [eb] at h; exact fun cls dd H' S2 re => h cls dd H' (S1.trans S2) re
    | ok d2 γ2 =>
      rw [eb] at h
      intro v2 H2 S2 P2 r2
      simp only [liftO] at h
      cases eg : g d d2 with
      | none => rw [eg] at h; exact h.elim
      | some d3 =>
        rw [eg] at h
        exact hr M H2 v v2 d d2 d3 Q S2.env.dom (both S1.env S2 hm P2 r1).s r2.s eg (aft_fin (S1.trans S2) (purity P1 P2) h)

/-! ### the two-place operators -/
theorem Op2.bin {op : Operator} {r : R2} {g : D → D → Option D} {pos : Pos} (ho : OpR X (binaryOp op) r) (hr : Op2 C r g) (ha : FX C W m1 p1 X a fa) (hb : FX C W m2 p2 X b fb) (hm : (m1 || p2) = true := by rfl) : FX C W true (p1 && p2) X (.BinOp a op b pos) (f2 g fa fb) :=
  fx2 (r := r) ha hb (fun ta tb h1 h2 => pe_op ho h1 h2) hr hm
theorem Op2.or1 {r r' : R2} {g : D → D → Option D} (h : Op2 C r g) : Op2 C (fun x y H Q => r x y H Q ∨ r' x y H Q) g := fun M H x y dx dy d Q hd sx sy e k => .inl (h M H x y dx dy d Q hd sx sy e k)
end

def dAdd : D → D → Option D
  | .int i, .int j => some (.int (i + j))
  | .str x, .str y => if x.length + y.length ≤ sizeLine then some (.str (x ++ y)) else none
  | .lst xs, .lst ys => if xs.length + ys.length ≤ sizeLine then some (.lst (xs ++ ys)) else none
  | .tup xs, .tup ys => if xs.length + ys.length ≤ sizeLine then some (.tup (xs ++ ys)) else none
  | _, _ => none
/-- a list at a place that is tracked -/
theorem SRep.lstH {C : Ct} {M : Addr → Prop} {H : Hp} {x : V} {ds : List D} (s : SRep C M H x (.lst ds)) : ∃ a vs, x = .ref a ∧ H a = some (.lst vs) ∧ RepL C M H vs ds := by
  cases s with
  | rep r => cases r with
    | lst e n r => exact ⟨_, _, rfl, e, r⟩
  | lst e r => exact ⟨_, _, rfl, e, r⟩
theorem SRep.tupH {C : Ct} {M : Addr → Prop} {H : Hp} {x : V} {ds : List D} (s : SRep C M H x (.tup ds)) : ∃ a vs, x = .ref a ∧ H a = some (.tup vs) ∧ ¬ M a ∧ RepL C M H vs ds := by
  cases s with
  | rep r => cases r with
    | tup e n r => exact ⟨_, _, rfl, e, n, r⟩
theorem SRep.intH {C : Ct} {M : Addr → Prop} {H : Hp} {x : V} {i : Int} (s : SRep C M H x (.int i)) : x = .int i := by
  cases s with
  | rep r => cases r; rfl
theorem SRep.strH {C : Ct} {M : Addr → Prop} {H : Hp} {x : V} {i : Str} (s : SRep C M H x (.str i)) : x = .str i := by
  cases s with
  | rep r => cases r; rfl
theorem SRep.blH {C : Ct} {M : Addr → Prop} {H : Hp} {x : V} {i : Bool} (s : SRep C M H x (.bl i)) : x = .bl i := by
  cases s with
  | rep r => cases r; rfl
theorem SRep.nonH {C : Ct} {M : Addr → Prop} {H : Hp} {x : V} (s : SRep C M H x .non) : x = .non := by
  cases s with
  | rep r => cases r; rfl
theorem notM {M : Addr → Prop} {H : Hp} {p : Addr} (hd : ∀ a, M a → ∃ o, H a = some o) (hp : H p = none) : ¬ M p := fun z => by
  obtain ⟨o, e⟩ := hd p z
  rw [hp] at e
  cases e
theorem rep_newT {C : Ct} {M : Addr → Prop} {H : Hp} {p : Addr} {vs : List V} {ds : List D} (hd : ∀ a, M a → ∃ o, H a = some o) (hp : H p = none) (r : RepL C M H vs ds) : Rep C M (upd H p (.tup vs)) (.ref p) (.tup ds) :=
  .tup upd_same (notM hd hp) (r.fine (Fine.keep0 (Keep.new hp)))
theorem rep_newL {C : Ct} {M : Addr → Prop} {H : Hp} {p : Addr} {vs : List V} {ds : List D} (hd : ∀ a, M a → ∃ o, H a = some o) (hp : H p = none) (r : RepL C M H vs ds) : Rep C M (upd H p (.lst vs)) (.ref p) (.lst ds) :=
  .lst upd_same (notM hd hp) (r.fine (Fine.keep0 (Keep.new hp)))
theorem RepL.nilD {C : Ct} {M : Addr → Prop} {H : Hp} {vs : List V} {ds : List D} (r : RepL C M H vs ds) : vs = [] ↔ ds = [] := by
  cases r with
  | nil => simp
  | cons _ _ => simp

section
variable {C : Ct} {W : WX} {X : Cx} {m p m1 p1 m2 p2 m3 p3 : Bool} {a b e' : Expr} {fa fb : F D}
abbrev rAddI : R2 := rI0 fun i j => .int (i + j)
abbrev rAddS : R2 := fun x y H Q => ∃ i j, x = .str i ∧ y = .str j ∧ i.length + j.length ≤ sizeLine ∧ Q (.str (i ++ j)) H
abbrev rAddA (K : PySem.W.Frag) : R2 := fun x y H Q => (rAddI x y H Q ∨ rAddS x y H Q) ∨ (rCat x y H Q ∨ rCatA K x y H Q)
theorem op_addA : OpR X (binaryOp .Add) (rAddA X.K) := (op_add.or op_add_str).or (op_cat.or op_catA)
theorem op2_add : Op2 C (rAddA X.K) dAdd := fun M H x y dx dy d Q hd sx sy e k => by
  cases dx with
  | int i => cases dy with
    | int j => cases e; rw [sx.intH, sy.intH]; exact .inl (.inl ⟨i, j, rfl, rfl, k _ H (Keep.refl _ _) (.int _)⟩)
    | _ => cases e
  | str i => cases dy with
    | str j =>
      simp only [dAdd] at e
      split at e
      · cases e; rw [sx.strH, sy.strH]; exact .inl (.inr ⟨i, j, rfl, rfl, by assumption, k _ H (Keep.refl _ _) (.str _)⟩)
      · cases e
    | _ => cases e
  | lst xs => cases dy with
    | lst ys =>
      simp only [dAdd] at e
      split at e
      · rename_i hz
        cases e
        obtain ⟨a, vs, rfl, ha, ra⟩ := sx.lstH
        obtain ⟨b, ws, rfl, hb, rb⟩ := sy.lstH
        exact .inr (.inl ⟨a, b, vs, ws, rfl, rfl, ha, hb, by rw [ra.length, rb.length]; exact hz, fun p hp => k _ _ (Keep.new hp) (rep_newL hd hp (ra.append rb))⟩)
      · cases e
    | _ => cases e
  | tup xs => cases dy with
    | tup ys =>
      simp only [dAdd] at e
      split at e
      · rename_i hz
        cases e
        obtain ⟨a, vs, rfl, ha, na, ra⟩ := sx.tupH
        obtain ⟨b, ws, rfl, hb, nb, rb⟩ := sy.tupH
        refine .inr (.inr ⟨a, b, vs, ws, rfl, rfl, .inl (.inl ha), .inl (.inl hb), by rw [ra.length, rb.length]; exact hz, fun z => ?_, fun _ z => ?_, fun _ _ p hp => k _ _ (Keep.new hp) (rep_newT hd hp (ra.append rb))⟩)
        · have z' := ra.nilD.mp z
          subst z'
          exact k _ H (Keep.refl _ _) (.tup hb nb rb)
        · have z' := rb.nilD.mp z
          subst z'
          exact k _ H (Keep.refl _ _) (by rw [List.append_nil]; exact .tup ha na ra)
      · cases e
    | _ => cases e
  | _ => cases dy <;> cases e
theorem fx_add {pos : Pos} (ha : FX C W m1 p1 X a fa) (hb : FX C W m2 p2 X b fb) (hm : (m1 || p2) = true := by rfl) : FX C W true (p1 && p2) X (.BinOp a .Add b pos) (f2 dAdd fa fb) := Op2.bin op_addA op2_add ha hb hm
end
end FC

namespace FC
open PySem PySem.Spec PyProof.Rows L2

/-! ### data that the library reads -/
mutual
def D.data : D → Option PyData
  | .non => some .none
  | .bl b => some (.bool b)
  | .int i => some (.int i)
  | .str x => some (.str x)
  | .lst xs => (D.dataL xs).map .list
  | .tup xs => (D.dataL xs).map .tuple
  | .dct _ => none
  | .ins _ _ => none
  | .raw _ => none
  | .cls _ => none
def D.dataL : List D → Option (List PyData)
  | [] => some []
  | x :: xs => match D.data x, D.dataL xs with
    | some p, some ps => some (p :: ps)
    | _, _ => none
end
section
variable {C : Ct} {M : Addr → Prop} {H : Hp} {K : PySem.W.Frag}
mutual
theorem Rep.dp : ∀ {d : D} {v : V} {p : PyData}, Rep C M H v d → d.data = some p → Dp K H v p
  | .non, _, _, .non, e => by simp only [D.data] at e; cases e; exact .non
  | .bl _, _, _, .bl b, e => by simp only [D.data] at e; cases e; exact .bl b
  | .int _, _, _, .int b, e => by simp only [D.data] at e; cases e; exact .int b
  | .str _, _, _, .str b, e => by simp only [D.data] at e; cases e; exact .str b
  | .lst xs, _, _, .lst h n r, e => by
    simp only [D.data] at e
    cases q : D.dataL xs with
    | none => rw [q] at e; cases e
    | some ps => rw [q] at e; cases e; exact .lst (.inl (.inl h)) (RepL.dp r q)
  | .tup xs, _, _, .tup h n r, e => by
    simp only [D.data] at e
    cases q : D.dataL xs with
    | none => rw [q] at e; cases e
    | some ps => rw [q] at e; cases e; exact .tup (.inl (.inl h)) (RepL.dp r q)
  | .dct _, _, _, _, e => by simp only [D.data] at e; cases e
  | .ins _ _, _, _, _, e => by simp only [D.data] at e; cases e
  | .raw _, _, _, _, e => by simp only [D.data] at e; cases e
  | .cls _, _, _, _, e => by simp only [D.data] at e; cases e
theorem RepL.dp : ∀ {ds : List D} {vs : List V} {ps : List PyData}, RepL C M H vs ds → D.dataL ds = some ps → DpAll K H vs ps
  | [], _, _, .nil, e => by simp only [D.dataL] at e; cases e; exact .nil
  | x :: xs, _, _, .cons r t, e => by
    simp only [D.dataL] at e
    cases q : D.data x with
    | none => rw [q] at e; cases e
    | some p =>
      cases q2 : D.dataL xs with
      | none => rw [q, q2] at e; cases e
      | some ps => rw [q, q2] at e; cases e; exact .cons (Rep.dp r q) (RepL.dp t q2)
end
theorem SRep.dp {d : D} {v : V} {p : PyData} (s : SRep C M H v d) (e : d.data = some p) : Dp K H v p := by
  cases s with
  | rep r => exact r.dp e
  | lst h r =>
    rename_i a vs xs
    simp only [D.data] at e
    cases q : D.dataL xs with
    | none => rw [q] at e; cases e
    | some ps => rw [q] at e; cases e; exact .lst (.inl (.inl h)) (r.dp q)
  | ins h r => simp only [D.data] at e; cases e
end

mutual
theorem data_plain : ∀ {d : D} {p : PyData}, d.data = some p → p.plain = true
  | .non, _, e => by simp only [D.data] at e; cases e; rfl
  | .bl _, _, e => by simp only [D.data] at e; cases e; rfl
  | .int _, _, e => by simp only [D.data] at e; cases e; rfl
  | .str _, _, e => by simp only [D.data] at e; cases e; rfl
  | .lst xs, _, e => by
    simp only [D.data] at e
    obtain ⟨ps, q, rfl⟩ := Option.map_eq_some_iff.mp e
    simp only [PyData.plain]
    exact dataL_plain q
  | .tup xs, _, e => by
    simp only [D.data] at e
    obtain ⟨ps, q, rfl⟩ := Option.map_eq_some_iff.mp e
    simp only [PyData.plain]
    exact dataL_plain q
  | .dct _, _, e => by simp only [D.data] at e; cases e
  | .ins _ _, _, e => by simp only [D.data] at e; cases e
  | .raw _, _, e => by simp only [D.data] at e; cases e
  | .cls _, _, e => by simp only [D.data] at e; cases e
theorem dataL_plain : ∀ {ds : List D} {ps : List PyData}, D.dataL ds = some ps → PyData.plainAll ps = true
  | [], _, e => by simp only [D.dataL] at e; cases e; simp only [PyData.plainAll]
  | x :: xs, _, e => by
    simp only [D.dataL] at e
    cases q : D.data x with
    | none => rw [q] at e; cases e
    | some p =>
      cases q2 : D.dataL xs with
      | none => rw [q, q2] at e; cases e
      | some ps =>
        rw [q, q2] at e
        cases e
        simp only [PyData.plainAll, data_plain q, dataL_plain q2, Bool.and_self]
end
/-! == of data of any texts -/
def rEqP (K : PySem.W.Frag) : R2 := fun x y H Q => ∃ d e, Dp K H x d ∧ Dp K H y e ∧ d.plain = true ∧ e.plain = true ∧ min d.depth e.depth ≤ 64 ∧ Q (.bl (PyData.eqv d e)) H
def rNeP (K : PySem.W.Frag) : R2 := fun x y H Q => ∃ d e, Dp K H x d ∧ Dp K H y e ∧ d.plain = true ∧ e.plain = true ∧ min d.depth e.depth ≤ 64 ∧ Q (.bl (!PyData.eqv d e)) H
theorem op_eqP {X : Cx} (hu : X.A.units + 64 < cLine) : OpR X (compareOp .Eq) (rEqP X.K) := by
  intro pins s σ H x y v u Q I rx ry h
  obtain ⟨d, e, hd, he, sd, se, hm, q⟩ := h
  obtain ⟨as, r1⟩ := Dp.reads I d x v hd rx
  obtain ⟨bs, r2⟩ := Dp.reads I e y u he ry
  exact SeqAt.eq_plain r1 r2 sd se (by omega) ⟨.bl _, H, I, rfl, q⟩
theorem op_neP {X : Cx} (hu : X.A.units + 64 < cLine) : OpR X (compareOp .NotEq) (rNeP X.K) := by
  intro pins s σ H x y v u Q I rx ry h
  obtain ⟨d, e, hd, he, sd, se, hm, q⟩ := h
  obtain ⟨as, r1⟩ := Dp.reads I d x v hd rx
  obtain ⟨bs, r2⟩ := Dp.reads I e y u he ry
  exact SeqAt.ne_plain r1 r2 sd se (by omega) ⟨.bl _, H, I, rfl, q⟩
def rInP (K : PySem.W.Frag) : R2 := fun x y H Q => ∃ d ds, Dp K H x d ∧ Dp K H y (.list ds) ∧ d.plain = true ∧ PyData.plainAll ds = true ∧ min (PyData.depthAll ds) d.depth ≤ 64 ∧ Q (.bl (ds.any fun z => PyData.eqv z d)) H
def rNotInP (K : PySem.W.Frag) : R2 := fun x y H Q => ∃ d ds, Dp K H x d ∧ Dp K H y (.list ds) ∧ d.plain = true ∧ PyData.plainAll ds = true ∧ min (PyData.depthAll ds) d.depth ≤ 64 ∧ Q (.bl (!ds.any fun z => PyData.eqv z d)) H
theorem op_inP {X : Cx} (hu : X.A.units + 65 < cLine) : OpR X (compareOp .In) (rInP X.K) := by
  intro pins s σ H x y v u Q I rx ry h
  obtain ⟨d, ds, hd, he, sd, se, hm, q⟩ := h
  obtain ⟨as, r1⟩ := Dp.reads I d x v hd rx
  obtain ⟨bs, r2⟩ := Dp.reads I (.list ds) y u he ry
  exact SeqAt.in_list_data r2 r1 se sd (by omega) ⟨.bl _, H, I, rfl, q⟩
theorem op_notInP {X : Cx} (hu : X.A.units + 65 < cLine) : OpR X (compareOp .NotIn) (rNotInP X.K) := by
  intro pins s σ H x y v u Q I rx ry h
  obtain ⟨d, ds, hd, he, sd, se, hm, q⟩ := h
  obtain ⟨as, r1⟩ := Dp.reads I d x v hd rx
  obtain ⟨bs, r2⟩ := Dp.reads I (.list ds) y u he ry
  exact SeqAt.notIn_list_data r2 r1 se sd (by omega) ⟨.bl _, H, I, rfl, q⟩

/-! ### two-place operators -/
def dSub : D → D → Option D | .int i, .int j => some (.int (i - j)) | _, _ => none
def dMul : D → D → Option D
  | .int i, .int j => if (-(2 ^ 64) < i ∧ i < 2 ^ 64) ∨ (-(2 ^ 64) < j ∧ j < 2 ^ 64) then some (.int (i * j)) else none
  | .lst xs, .int k => if -(2 ^ 63) ≤ k ∧ k < 2 ^ 63 ∧ xs.length * k.toNat ≤ sizeLine then some (.lst (List.replicate k.toNat xs).flatten) else none
  | .tup xs, .int k => if xs ≠ [] ∧ 2 ≤ k ∧ k ≤ 1000 ∧ xs.length ≤ 1000 then some (.tup (List.replicate k.toNat xs).flatten) else none
  | _, _ => none
def dFdiv : D → D → Option D | .int i, .int j => if 0 < j ∧ j < 1073741824 then some (.int (i / j)) else none | _, _ => none
def dMod : D → D → Option D | .int i, .int j => if 0 < j then some (.int (i % j)) else none | _, _ => none
def dPow : D → D → Option D | .int i, .int j => if 0 ≤ j ∧ j ≤ 1000000 ∧ i.natAbs < 2 ^ 64 then some (.int (i ^ j.toNat)) else none | _, _ => none
def dNeg : D → Option D | .int i => some (.int (-i)) | _ => none
def dEq (x y : D) : Option D := match x.data, y.data with
  | some p, some q => if min p.depth q.depth ≤ 64 then some (.bl (PyData.eqv p q)) else none
  | _, _ => none
def dNe (x y : D) : Option D := match x.data, y.data with
  | some p, some q => if min p.depth q.depth ≤ 64 then some (.bl (!PyData.eqv p q)) else none
  | _, _ => none
def dLt : D → D → Option D | .int i, .int j => some (.bl (decide (i < j))) | _, _ => none
def dLe : D → D → Option D | .int i, .int j => some (.bl (decide (i ≤ j))) | _, _ => none
def dGt : D → D → Option D | .int i, .int j => some (.bl (decide (j < i))) | _, _ => none
def dGe : D → D → Option D | .int i, .int j => some (.bl (decide (j ≤ i))) | _, _ => none
def dIn (x y : D) : Option D := match x.data, y with
  | some p, .lst ys => (match D.dataL ys with
    | some qs => if min (PyData.depthAll qs) p.depth ≤ 64 then some (.bl (qs.any fun z => PyData.eqv z p)) else none
    | none => none)
  | some p, .tup ys => (match D.dataL ys with
    | some qs => if min (PyData.depthAll qs) p.depth ≤ 64 then some (.bl (qs.any fun z => PyData.eqv z p)) else none
    | none => none)
  | some (.str x), .str y => (match x.cps.toList with
    | [c] => some (.bl (decide (c ∈ y.cps.toList)))
    | _ => none)
  | _, _ => none
def dNotIn (x y : D) : Option D := match x.data, y with
  | some p, .lst ys => (match D.dataL ys with
    | some qs => if min (PyData.depthAll qs) p.depth ≤ 64 then some (.bl (!qs.any fun z => PyData.eqv z p)) else none
    | none => none)
  | some p, .tup ys => (match D.dataL ys with
    | some qs => if min (PyData.depthAll qs) p.depth ≤ 64 then some (.bl (!qs.any fun z => PyData.eqv z p)) else none
    | none => none)
  | _, _ => none
def D.isNon : D → Bool | .non => true | _ => false
def dIsN (x : D) : Option D := match x with | .raw _ => none | _ => some (.bl x.isNon)
def dNotN (x : D) : Option D := match x with | .raw _ => none | _ => some (.bl (!x.isNon))

section
variable {C : Ct} {W : WX} {X : Cx} {m p m1 p1 m2 p2 m3 p3 : Bool} {a b c e' : Expr} {fa fb fc : F D} {pos : Pos}
theorem SRep.isNon {M : Addr → Prop} {H : Hp} {v : V} {d : D} (s : SRep C M H v d) (h : ∀ u, d ≠ .raw u) : decide (v = .non) = d.isNon := by
  cases s with
  | rep r => cases r <;> first | rfl | exact absurd rfl (h _)
  | lst _ _ => rfl
  | ins _ _ => rfl
theorem op2_int {g : Int → Int → V} {cc : Int → Int → Prop} {q : D → D → Option D} (h : ∀ dx dy d, q dx dy = some d → ∃ i j, dx = .int i ∧ dy = .int j ∧ cc i j ∧ ∀ M H, Rep C M H (g i j) d) : Op2 C (rI cc g) q := fun M H x y dx dy d Q hd sx sy e k => by
  obtain ⟨i, j, rfl, rfl, hc, r⟩ := h dx dy d e
  rw [sx.intH, sy.intH]
  exact ⟨i, j, rfl, rfl, hc, k _ H (Keep.refl _ _) (r M H)⟩
theorem op2_int0 {g : Int → Int → V} {q : D → D → Option D} (h : ∀ dx dy d, q dx dy = some d → ∃ i j, dx = .int i ∧ dy = .int j ∧ ∀ M H, Rep C M H (g i j) d) : Op2 C (rI0 g) q := fun M H x y dx dy d Q hd sx sy e k => by
  obtain ⟨i, j, rfl, rfl, r⟩ := h dx dy d e
  rw [sx.intH, sy.intH]
  exact ⟨i, j, rfl, rfl, k _ H (Keep.refl _ _) (r M H)⟩
theorem op2_sub : Op2 C (rI0 fun i j => .int (i - j)) dSub := op2_int0 fun dx dy d e => by
  cases dx with
  | int i => cases dy with
    | int j => cases e; exact ⟨i, j, rfl, rfl, fun _ _ => .int _⟩
    | _ => cases e
  | _ => cases dy <;> cases e
theorem op2_fdiv : Op2 C (rI CDiv fun i j => .int (i / j)) dFdiv := op2_int fun dx dy d e => by
  cases dx with
  | int i => cases dy with
    | int j =>
      simp only [dFdiv] at e
      split at e
      · rename_i h; cases e; exact ⟨i, j, rfl, rfl, h, fun _ _ => .int _⟩
      · cases e
    | _ => cases e
  | _ => cases dy <;> cases e
theorem op2_mod : Op2 C (rI (fun _ j => 0 < j) fun i j => .int (i % j)) dMod := op2_int fun dx dy d e => by
  cases dx with
  | int i => cases dy with
    | int j =>
      simp only [dMod] at e
      split at e
      · rename_i h; cases e; exact ⟨i, j, rfl, rfl, h, fun _ _ => .int _⟩
      · cases e
    | _ => cases e
  | _ => cases dy <;> cases e
theorem op2_pow : Op2 C (rI CPow fun i j => .int (i ^ j.toNat)) dPow := op2_int fun dx dy d e => by
  cases dx with
  | int i => cases dy with
    | int j =>
      simp only [dPow] at e
      split at e
      · rename_i h; cases e; exact ⟨i, j, rfl, rfl, h, fun _ _ => .int _⟩
      · cases e
    | _ => cases e
  | _ => cases dy <;> cases e
abbrev rMulA (K : PySem.W.Frag) : R2 := fun x y H Q => (rI CMul fun i j => .int (i * j)) x y H Q ∨ (rRep x y H Q ∨ rRepT K x y H Q)
theorem repFlat {M : Addr → Prop} {H : Hp} {vs : List V} {ds : List D} (r : RepL C M H vs ds) : ∀ n : Nat, RepL C M H (List.replicate n vs).flatten (List.replicate n ds).flatten
  | 0 => .nil
  | n + 1 => by
    rw [List.replicate_succ, List.replicate_succ, List.flatten_cons, List.flatten_cons]
    exact r.append (repFlat r n)
theorem op2_mul : Op2 C (rMulA X.K) dMul := fun M H x y dx dy d Q hd sx sy e k => by
  cases dx with
  | int i => cases dy with
    | int j =>
      simp only [dMul] at e
      split at e
      · rename_i h; cases e; rw [sx.intH, sy.intH]; exact .inl ⟨i, j, rfl, rfl, h, k _ H (Keep.refl _ _) (.int _)⟩
      · cases e
    | _ => cases e
  | lst xs => cases dy with
    | int j =>
      simp only [dMul] at e
      split at e
      · rename_i h
        cases e
        rw [sy.intH]
        obtain ⟨l, vs, rfl, ha, ra⟩ := sx.lstH
        exact .inr (.inl ⟨l, j, vs, rfl, rfl, ha, h.1, h.2.1, by rw [ra.length]; exact h.2.2, fun p hp => k _ _ (Keep.new hp) (rep_newL hd hp (repFlat ra _))⟩)
      · cases e
    | _ => cases e
  | tup xs => cases dy with
    | int j =>
      simp only [dMul] at e
      split at e
      · rename_i h
        cases e
        rw [sy.intH]
        obtain ⟨l, vs, rfl, ha, na, ra⟩ := sx.tupH
        exact .inr (.inr ⟨l, j, vs, rfl, rfl, .inl (.inl ha), fun z => h.1 (ra.nilD.mp z), h.2.1, h.2.2.1, by rw [ra.length]; exact h.2.2.2, fun p hp => k _ _ (Keep.new hp) (rep_newT hd hp (repFlat ra _))⟩)
      · cases e
    | _ => cases e
  | _ => cases dy <;> cases e
theorem fx_sub (ha : FX C W m1 p1 X a fa) (hb : FX C W m2 p2 X b fb) (hm : (m1 || p2) = true := by rfl) : FX C W true (p1 && p2) X (.BinOp a .Sub b pos) (f2 dSub fa fb) := Op2.bin op_sub op2_sub ha hb hm
theorem fx_mul (ha : FX C W m1 p1 X a fa) (hb : FX C W m2 p2 X b fb) (hm : (m1 || p2) = true := by rfl) : FX C W true (p1 && p2) X (.BinOp a .Mult b pos) (f2 dMul fa fb) := Op2.bin (op_mul.or (op_rep.or op_repT)) op2_mul ha hb hm
theorem fx_fdiv (ha : FX C W m1 p1 X a fa) (hb : FX C W m2 p2 X b fb) (hm : (m1 || p2) = true := by rfl) : FX C W true (p1 && p2) X (.BinOp a .FloorDiv b pos) (f2 dFdiv fa fb) := Op2.bin op_fdiv op2_fdiv ha hb hm
theorem fx_mod (ha : FX C W m1 p1 X a fa) (hb : FX C W m2 p2 X b fb) (hm : (m1 || p2) = true := by rfl) : FX C W true (p1 && p2) X (.BinOp a .Mod b pos) (f2 dMod fa fb) := Op2.bin op_mod op2_mod ha hb hm
theorem fx_pow (ha : FX C W m1 p1 X a fa) (hb : FX C W m2 p2 X b fb) (hm : (m1 || p2) = true := by rfl) : FX C W true (p1 && p2) X (.BinOp a .Pow b pos) (f2 dPow fa fb) := Op2.bin op_pow op2_pow ha hb hm
theorem op1_neg : Op1 C (rU fun i => .int (-i)) dNeg := fun M H x dx d Q hd sx e k => by
  cases dx with
  | int i => cases e; rw [sx.intH]; exact ⟨i, rfl, k _ H (Keep.refl _ _) (.int _)⟩
  | _ => cases e
theorem fx_neg (ha : FX C W m p X a fa) : FX C W true p X (.UnaryOp .USub a pos) (f1 dNeg fa) := fx1 ha (fun ta h => pe_un un_neg h) op1_neg

/-! ### comparisons -/
theorem op2_eq : Op2 C (rEqP X.K) dEq := fun M H x y dx dy d Q hd sx sy e k => by
  unfold dEq at e
  cases q1 : dx.data with
  | none => rw [q1] at e; cases e
  | some p1 =>
    cases q2 : dy.data with
    | none => rw [q1, q2] at e; cases e
    | some p2 =>
      rw [q1, q2] at e
      simp only at e
      split at e
      · rename_i h; cases e; exact ⟨p1, p2, sx.dp q1, sy.dp q2, data_plain q1, data_plain q2, h, k _ H (Keep.refl _ _) (.bl _)⟩
      · cases e
theorem op2_ne : Op2 C (rNeP X.K) dNe := fun M H x y dx dy d Q hd sx sy e k => by
  unfold dNe at e
  cases q1 : dx.data with
  | none => rw [q1] at e; cases e
  | some p1 =>
    cases q2 : dy.data with
    | none => rw [q1, q2] at e; cases e
    | some p2 =>
      rw [q1, q2] at e
      simp only at e
      split at e
      · rename_i h; cases e; exact ⟨p1, p2, sx.dp q1, sy.dp q2, data_plain q1, data_plain q2, h, k _ H (Keep.refl _ _) (.bl _)⟩
      · cases e
theorem op2_lt : Op2 C (rI0 fun i j => .bl (decide (i < j))) dLt := op2_int0 fun dx dy d e => by
  cases dx with
  | int i => cases dy with
    | int j => cases e; exact ⟨i, j, rfl, rfl, fun _ _ => .bl _⟩
    | _ => cases e
  | _ => cases dy <;> cases e
theorem op2_le : Op2 C (rI0 fun i j => .bl (decide (i ≤ j))) dLe := op2_int0 fun dx dy d e => by
  cases dx with
  | int i => cases dy with
    | int j => cases e; exact ⟨i, j, rfl, rfl, fun _ _ => .bl _⟩
    | _ => cases e
  | _ => cases dy <;> cases e
theorem op2_gt : Op2 C (rI0 fun i j => .bl (decide (j < i))) dGt := op2_int0 fun dx dy d e => by
  cases dx with
  | int i => cases dy with
    | int j => cases e; exact ⟨i, j, rfl, rfl, fun _ _ => .bl _⟩
    | _ => cases e
  | _ => cases dy <;> cases e
theorem op2_ge : Op2 C (rI0 fun i j => .bl (decide (j ≤ i))) dGe := op2_int0 fun dx dy d e => by
  cases dx with
  | int i => cases dy with
    | int j => cases e; exact ⟨i, j, rfl, rfl, fun _ _ => .bl _⟩
    | _ => cases e
  | _ => cases dy <;> cases e
theorem fx_cmp {op : CmpOp} {r : R2} {g : D → D → Option D} (ho : OpR X (compareOp op) r) (hr : Op2 C r g) (ha : FX C W m1 p1 X a fa) (hb : FX C W m2 p2 X b fb) (hmk : behindInMarks op b = false) (hm : (m1 || p2) = true := by rfl) : FX C W true (p1 && p2) X (.Compare a [op] [b] pos) (f2 g fa fb) :=
  fx2 (r := r) ha hb (fun ta tb h1 h2 => pe_cmpR ho h1 h2 hmk) hr hm
def Unit64 (X : Cx) : Prop := X.A.units + 64 < cLine
theorem fx_eq (hu : X.A.units + 64 < cLine) (ha : FX C W m1 p1 X a fa) (hb : FX C W m2 p2 X b fb) (hm : (m1 || p2) = true := by rfl) : FX C W true (p1 && p2) X (.Compare a [.Eq] [b] pos) (f2 dEq fa fb) := fx_cmp (op_eqP hu) op2_eq ha hb (nomark _) hm
theorem fx_ne (hu : X.A.units + 64 < cLine) (ha : FX C W m1 p1 X a fa) (hb : FX C W m2 p2 X b fb) (hm : (m1 || p2) = true := by rfl) : FX C W true (p1 && p2) X (.Compare a [.NotEq] [b] pos) (f2 dNe fa fb) := fx_cmp (op_neP hu) op2_ne ha hb (nomark _) hm
theorem fx_lt (ha : FX C W m1 p1 X a fa) (hb : FX C W m2 p2 X b fb) (hm : (m1 || p2) = true := by rfl) : FX C W true (p1 && p2) X (.Compare a [.Lt] [b] pos) (f2 dLt fa fb) := fx_cmp op_lt op2_lt ha hb (nomark _) hm
theorem fx_le (ha : FX C W m1 p1 X a fa) (hb : FX C W m2 p2 X b fb) (hm : (m1 || p2) = true := by rfl) : FX C W true (p1 && p2) X (.Compare a [.LtE] [b] pos) (f2 dLe fa fb) := fx_cmp op_le op2_le ha hb (nomark _) hm
theorem fx_gt (ha : FX C W m1 p1 X a fa) (hb : FX C W m2 p2 X b fb) (hm : (m1 || p2) = true := by rfl) : FX C W true (p1 && p2) X (.Compare a [.Gt] [b] pos) (f2 dGt fa fb) := fx_cmp op_gt op2_gt ha hb (nomark _) hm
theorem fx_ge (ha : FX C W m1 p1 X a fa) (hb : FX C W m2 p2 X b fb) (hm : (m1 || p2) = true := by rfl) : FX C W true (p1 && p2) X (.Compare a [.GtE] [b] pos) (f2 dGe fa fb) := fx_cmp op_ge op2_ge ha hb (nomark _) hm
theorem fx_isN {j pos'} (ha : FX C W m p X a fa) : FX C W true p X (.Compare a [.Is] [.Constant .none j pos'] pos) (f1 dIsN fa) := fx1 (r := fun x H Q => Q (.bl (decide (x = .non))) H) ha (fun ta h => pe_cmp (pc_isN h)) fun M H x dx d Q hd sx e k => by
  unfold dIsN at e
  split at e
  · cases e
  · rename_i hn; cases e; exact k _ H (Keep.refl _ _) (by rw [sx.isNon fun u z => hn u z]; exact .bl _)
theorem fx_notN {j pos'} (ha : FX C W m p X a fa) : FX C W true p X (.Compare a [.IsNot] [.Constant .none j pos'] pos) (f1 dNotN fa) := fx1 (r := fun x H Q => Q (.bl (!decide (x = .non))) H) ha (fun ta h => pe_cmp (pc_notN h)) fun M H x dx d Q hd sx e k => by
  unfold dNotN at e
  split at e
  · cases e
  · rename_i hn; cases e; exact k _ H (Keep.refl _ _) (by rw [sx.isNon fun u z => hn u z]; exact .bl _)
end
end FC

namespace FC
open PySem PySem.Spec PyProof.Rows L2

section
variable {C : Ct} {W : WX} {X : Cx} {m p m1 p1 m2 p2 m3 p3 : Bool} {a b c e' : Expr} {fa fb fc : F D} {pos : Pos}
def rInT (K : PySem.W.Frag) : R2 := fun x y H Q => ∃ d ds, Dp K H x d ∧ Dp K H y (.tuple ds) ∧ d.plain = true ∧ PyData.plainAll ds = true ∧ min (PyData.depthAll ds) d.depth ≤ 64 ∧ Q (.bl (ds.any fun z => PyData.eqv z d)) H
def rNotInT (K : PySem.W.Frag) : R2 := fun x y H Q => ∃ d ds, Dp K H x d ∧ Dp K H y (.tuple ds) ∧ d.plain = true ∧ PyData.plainAll ds = true ∧ min (PyData.depthAll ds) d.depth ≤ 64 ∧ Q (.bl (!ds.any fun z => PyData.eqv z d)) H
theorem op_inT (hu : X.A.units + 65 < cLine) : OpR X (compareOp .In) (rInT X.K) := by
  intro pins s σ H x y v u Q I rx ry h
  obtain ⟨d, ds, hd, he, sd, se, hm, q⟩ := h
  obtain ⟨as, r1⟩ := Dp.reads I d x v hd rx
  obtain ⟨bs, r2⟩ := Dp.reads I (.tuple ds) y u he ry
  exact SeqAt.in_tuple_data r2 r1 se sd (by omega) ⟨.bl _, H, I, rfl, q⟩
theorem op_notInT (hu : X.A.units + 65 < cLine) : OpR X (compareOp .NotIn) (rNotInT X.K) := by
  intro pins s σ H x y v u Q I rx ry h
  obtain ⟨d, ds, hd, he, sd, se, hm, q⟩ := h
  obtain ⟨as, r1⟩ := Dp.reads I d x v hd rx
  obtain ⟨bs, r2⟩ := Dp.reads I (.tuple ds) y u he ry
  exact SeqAt.notIn_tuple_data r2 r1 se sd (by omega) ⟨.bl _, H, I, rfl, q⟩
theorem SRep.dpL {M : Addr → Prop} {H : Hp} {K : PySem.W.Frag} {y : V} {ys : List D} {qs : List PyData} (s : SRep C M H y (.lst ys)) (e : D.dataL ys = some qs) : Dp K H y (.list qs) := s.dp (by simp only [D.data]; rw [e]; rfl)
theorem SRep.dpT {M : Addr → Prop} {H : Hp} {K : PySem.W.Frag} {y : V} {ys : List D} {qs : List PyData} (s : SRep C M H y (.tup ys)) (e : D.dataL ys = some qs) : Dp K H y (.tuple qs) := s.dp (by simp only [D.data]; rw [e]; rfl)
theorem op2_in : Op2 C (fun x y H Q => (rInP X.K x y H Q ∨ rInT X.K x y H Q) ∨ ∃ (c : Nat) (z : Str), x = .str ⟨#[c]⟩ ∧ y = .str z ∧ Q (.bl (decide (c ∈ z.cps.toList))) H) dIn := fun M H x y dx dy d Q hd sx sy e k => by
  unfold dIn at e
  cases q1 : dx.data with
  | none => rw [q1] at e; cases dy <;> cases e
  | some p1 =>
    rw [q1] at e
    cases dy with
    | lst ys =>
      simp only at e
      cases q2 : D.dataL ys with
      | none => rw [q2] at e; cases e
      | some p2 =>
        rw [q2] at e
        simp only at e
        split at e
        · rename_i h; cases e; exact .inl (.inl ⟨p1, p2, sx.dp q1, sy.dpL q2, data_plain q1, dataL_plain q2, h, k _ H (Keep.refl _ _) (.bl _)⟩)
        · cases e
    | tup ys =>
      simp only at e
      cases q2 : D.dataL ys with
      | none => rw [q2] at e; cases e
      | some p2 =>
        rw [q2] at e
        simp only at e
        split at e
        · rename_i h; cases e; exact .inl (.inr ⟨p1, p2, sx.dp q1, sy.dpT q2, data_plain q1, dataL_plain q2, h, k _ H (Keep.refl _ _) (.bl _)⟩)
        · cases e
    | str y =>
      cases p1 with
      | str x' =>
        simp only at e
        split at e
        · rename_i cc hcc
          cases e
          have ex : dx = .str x' := by
            cases dx with
            | str z => simp only [D.data] at q1; cases q1; rfl
            | non => simp only [D.data] at q1; cases q1
            | bl _ => simp only [D.data] at q1; cases q1
            | int _ => simp only [D.data] at q1; cases q1
            | lst zs => simp only [D.data] at q1; cases r : D.dataL zs <;> rw [r] at q1 <;> cases q1
            | tup zs => simp only [D.data] at q1; cases r : D.dataL zs <;> rw [r] at q1 <;> cases q1
            | dct _ => simp only [D.data] at q1; cases q1
            | ins _ _ => simp only [D.data] at q1; cases q1
            | raw _ => simp only [D.data] at q1; cases q1
            | cls _ => simp only [D.data] at q1; cases q1
          subst ex
          have ez : x' = ⟨#[cc]⟩ := by
            obtain ⟨⟨l⟩⟩ := x'
            have : l = [cc] := hcc
            rw [this]
          refine .inr ⟨cc, y, ?_, sy.strH, k _ H (Keep.refl _ _) (.bl _)⟩
          rw [← ez]
          exact sx.strH
        · cases e
      | _ => cases e
    | _ => cases p1 <;> cases e
theorem op2_notIn : Op2 C (fun x y H Q => rNotInP X.K x y H Q ∨ rNotInT X.K x y H Q) dNotIn := fun M H x y dx dy d Q hd sx sy e k => by
  unfold dNotIn at e
  cases q1 : dx.data with
  | none => rw [q1] at e; cases dy <;> cases e
  | some p1 =>
    rw [q1] at e
    cases dy with
    | lst ys =>
      simp only at e
      cases q2 : D.dataL ys with
      | none => rw [q2] at e; cases e
      | some p2 =>
        rw [q2] at e
        simp only at e
        split at e
        · rename_i h; cases e; exact .inl ⟨p1, p2, sx.dp q1, sy.dpL q2, data_plain q1, dataL_plain q2, h, k _ H (Keep.refl _ _) (.bl _)⟩
        · cases e
    | tup ys =>
      simp only at e
      cases q2 : D.dataL ys with
      | none => rw [q2] at e; cases e
      | some p2 =>
        rw [q2] at e
        simp only at e
        split at e
        · rename_i h; cases e; exact .inr ⟨p1, p2, sx.dp q1, sy.dpT q2, data_plain q1, dataL_plain q2, h, k _ H (Keep.refl _ _) (.bl _)⟩
        · cases e
    | _ => cases e
theorem fx_in (hu : X.A.units + 65 < cLine) (ha : FX C W m1 p1 X a fa) (hb : FX C W m2 p2 X b fb) (hmk : behindInMarks .In b = false := by rfl) (hm : (m1 || p2) = true := by rfl) : FX C W true (p1 && p2) X (.Compare a [.In] [b] pos) (f2 dIn fa fb) := fx_cmp (((op_inP hu).or (op_inT hu)).or op_in_sign) op2_in ha hb hmk hm
theorem fx_notIn (hu : X.A.units + 65 < cLine) (ha : FX C W m1 p1 X a fa) (hb : FX C W m2 p2 X b fb) (hmk : behindInMarks .NotIn b = false := by rfl) (hm : (m1 || p2) = true := by rfl) : FX C W true (p1 && p2) X (.Compare a [.NotIn] [b] pos) (f2 dNotIn fa fb) := fx_cmp ((op_notInP hu).or (op_notInT hu)) op2_notIn ha hb hmk hm
end

/-! ### truth, tests -/
def dTruth : D → Option Bool
  | .non => some false
  | .bl b => some b
  | .int i => some (i != 0)
  | .str y => if y.length ≤ sizeLine then some ((y.length : Int) != 0) else none
  | .lst xs => some (!xs.isEmpty)
  | .tup xs => some (!xs.isEmpty)
  | .dct xs => some (!xs.isEmpty)
  | _ => none
theorem RepL.isEmpty {C : Ct} {M : Addr → Prop} {H : Hp} {vs : List V} {ds : List D} (r : RepL C M H vs ds) : vs.isEmpty = ds.isEmpty := by
  cases r <;> rfl
theorem SRep.truth {C : Ct} {K : PySem.W.Frag} {M : Addr → Prop} {H : Hp} {x : V} {d : D} {k : Bool} (s : SRep C M H x d) (e : dTruth d = some k) : TruV K x H k := by
  cases d with
  | non => cases e; rw [s.nonH]; exact rfl
  | bl b => cases e; rw [s.blH]; exact rfl
  | int b => cases e; rw [s.intH]; exact rfl
  | str y =>
    simp only [dTruth] at e
    split at e
    · rename_i h; cases e; rw [s.strH]; exact ⟨h, rfl⟩
    · cases e
  | lst xs =>
    cases e
    obtain ⟨a, vs, rfl, ha, r⟩ := s.lstH
    exact .inl ⟨vs, .inl (.inl ha), by rw [r.isEmpty]⟩
  | tup xs =>
    cases e
    obtain ⟨a, vs, rfl, ha, na, r⟩ := s.tupH
    exact .inr (.inl ⟨vs, .inl (.inl ha), by rw [r.isEmpty]⟩)
  | dct xs =>
    cases e
    cases s with
    | rep r => cases r with
      | dct h n r => exact .inr (.inr ⟨_, h, by cases r <;> rfl⟩)
  | ins _ _ => cases e
  | raw _ => cases e
  | cls _ => cases e

def aftB (C : Ct) (W : WX) (pens : Nat → Addr) (M : Addr → Prop) (σ : L2.St) (γ : Gm) (H : Hp) (p : Bool) (r : R Bool) (Q : Bool → Hp → Prop) : Prop := match r with
  | .ok d γ' => ∀ H', Stp C pens M σ γ H γ' H' → (p = true → γ' = γ ∧ Keep0 H H') → Q d H'
  | .ex e γ' => ∀ cls d H', Stp C pens M σ γ H γ' H' → ExRep C M e cls d H' → W cls d σ H'
  | .st => False
def tFB (C : Ct) (W : WX) (p : Bool) (f : F Bool) : TT := fun σ H Q => ∃ pens M γ, EnvRep C pens M γ σ H ∧ aftB C W pens M σ γ H p (f γ) Q
def FT (C : Ct) (W : WX) (p : Bool) (X : Cx) (e : Expr) (f : F Bool) : Prop := PT X e (tFB C W p f)
theorem PT.imp {X : Cx} {e : Expr} {t t' : TT} (h : PT X e t) (k : ∀ σ H Q, t' σ H Q → t σ H Q) : PT X e t' := ⟨fun pins s σ H Q I q => h.run pins s σ H Q I (k σ H Q q)⟩
theorem PW.imp {X : Cx} {e : Expr} {t t' : TT} (h : PW X e t) (k : ∀ σ H Q, t' σ H Q → t σ H Q) : PW X e t' := ⟨fun wh pins s σ H Q I q => h.run wh pins s σ H Q I (k σ H Q q)⟩
def dBl : D → Option Bool | .bl b => some b | _ => none
section
variable {C : Ct} {W : WX} {X : Cx} {m p m1 p1 m2 p2 m3 p3 : Bool} {a b c e' : Expr} {fa fb fc : F D} {ga gb gc : F Bool} {pos : Pos} {rest : List Expr}
/-- a test by a value -/
theorem ft_of {g : D → Option Bool} {r : V → Hp → (Bool → Hp → Prop) → Prop} (ha : FX C W m p X a fa) (mk : ∀ ta, PE X a ta → PT X e' (fun σ H Q => ta σ H fun x H1 => r x H1 Q))
    (hr : ∀ (M : Addr → Prop) (H : Hp) (x : V) (dx : D) (k : Bool) (Q : Bool → Hp → Prop), SRep C M H x dx → g dx = some k → Q k H → r x H Q) : FT C W p X e' (f1 g fa) := PT.imp (mk _ ha) fun σ H Q ⟨pens, M, γ, E, h⟩ => by
  refine ⟨pens, M, γ, E, ?_⟩
  unfold f1 F.bind at h
  cases ea : fa γ with
  | st => rw [ea] at h; exact h
  | ex e γ' => rw [ea] at h; exact h
  | ok d γ1 =>
    rw [ea] at h
    intro v H1 S1 P1 r1
    simp only [liftO] at h
    cases eg : g d with
    | none => rw [eg] at h; exact h.elim
    | some k => rw [eg] at h; exact hr M H1 v d k Q r1.s eg (h H1 S1 P1)
/-- any plain expression: its truth -/
theorem ft_truth (ha : FX C W m p X a fa) (he : ∀ whole, isTrue a X.env whole = (do let v ← whole; standAt a.pos; holding [v] (truthy v)) := by intro _; rfl) : FT C W p X a (f1 dTruth fa) :=
  ft_of (r := fun x H Q => ∃ k, TruV X.K x H k ∧ Q k H) ha (fun ta h => pt_truth h he) fun M H x dx k Q s e q => ⟨k, s.truth e, q⟩
/-- a comparison -/
theorem ft_cmp {op : CmpOp} {r : R2} {g : D → D → Option D} (ho : OpR X (compareOp op) r) (hr : Op2 C r g) (ha : FX C W m1 p1 X a fa) (hb : FX C W m2 p2 X b fb) (hmk : behindInMarks op b = false) (hm : (m1 || p2) = true := by rfl) : FT C W (p1 && p2) X (.Compare a [op] [b] pos) (f1 dBl (f2 g fa fb)) := by
  refine PT.imp (pt_cmpR (ta := tF C W m1 p1 fa) (tb := tF C W m2 p2 fb) ho ha hb hmk) fun σ H Q ⟨pens, M, γ, E, h⟩ => ?_
  refine ⟨pens, M, γ, E, ?_⟩
  unfold f1 f2 F.bind at h
  simp only [F.bind] at h
  cases ea : fa γ with
  | st => rw [ea] at h; exact h
  | ex e γ' => rw [ea] at h; exact h
  | ok d γ1 =>
    rw [ea] at h
    simp only at h
    intro v H1 S1 P1 r1
    refine ⟨pens, M, γ1, S1.env, ?_⟩
    cases eb : fb γ1 with
    | st => rw [eb] at h; exact h
    | ex e γ' => rw [eb] at h; exact fun cls dd H' S2 re => h cls dd H' (S1.trans S2) re
    | ok d2 γ2 =>
      rw [eb] at h
      intro v2 H2 S2 P2 r2
      simp only [liftO] at h
      cases eg : g d d2 with
      | none => rw [eg] at h; exact h.elim
      | some d3 =>
        rw [eg] at h
        simp only at h
        cases ek : dBl d3 with
        | none => rw [ek] at h; exact h.elim
        | some k =>
          rw [ek] at h
          refine hr M H2 v v2 d d2 d3 _ S2.env.dom (both S1.env S2 hm P2 r1).s r2.s eg fun v3 H3 k3 r3 => ?_
          cases d3 with
          | bl kk =>
            cases ek
            cases r3
            refine ⟨_, rfl, h H3 ((S1.trans S2).trans (Stp.pure S2.env k3)) fun z => ?_⟩
            obtain ⟨q1, q2⟩ := purity P1 P2 z
            exact ⟨q1, q2.trans k3⟩
          | _ => cases ek
theorem ft_eq (hu : X.A.units + 64 < cLine) (ha : FX C W m1 p1 X a fa) (hb : FX C W m2 p2 X b fb) (hm : (m1 || p2) = true := by rfl) : FT C W (p1 && p2) X (.Compare a [.Eq] [b] pos) (f1 dBl (f2 dEq fa fb)) := ft_cmp (op_eqP hu) op2_eq ha hb (nomark _) hm
theorem ft_ne (hu : X.A.units + 64 < cLine) (ha : FX C W m1 p1 X a fa) (hb : FX C W m2 p2 X b fb) (hm : (m1 || p2) = true := by rfl) : FT C W (p1 && p2) X (.Compare a [.NotEq] [b] pos) (f1 dBl (f2 dNe fa fb)) := ft_cmp (op_neP hu) op2_ne ha hb (nomark _) hm
theorem ft_lt (ha : FX C W m1 p1 X a fa) (hb : FX C W m2 p2 X b fb) (hm : (m1 || p2) = true := by rfl) : FT C W (p1 && p2) X (.Compare a [.Lt] [b] pos) (f1 dBl (f2 dLt fa fb)) := ft_cmp op_lt op2_lt ha hb (nomark _) hm
theorem ft_le (ha : FX C W m1 p1 X a fa) (hb : FX C W m2 p2 X b fb) (hm : (m1 || p2) = true := by rfl) : FT C W (p1 && p2) X (.Compare a [.LtE] [b] pos) (f1 dBl (f2 dLe fa fb)) := ft_cmp op_le op2_le ha hb (nomark _) hm
theorem ft_gt (ha : FX C W m1 p1 X a fa) (hb : FX C W m2 p2 X b fb) (hm : (m1 || p2) = true := by rfl) : FT C W (p1 && p2) X (.Compare a [.Gt] [b] pos) (f1 dBl (f2 dGt fa fb)) := ft_cmp op_gt op2_gt ha hb (nomark _) hm
theorem ft_ge (ha : FX C W m1 p1 X a fa) (hb : FX C W m2 p2 X b fb) (hm : (m1 || p2) = true := by rfl) : FT C W (p1 && p2) X (.Compare a [.GtE] [b] pos) (f1 dBl (f2 dGe fa fb)) := ft_cmp op_ge op2_ge ha hb (nomark _) hm
theorem ft_in (hu : X.A.units + 65 < cLine) (ha : FX C W m1 p1 X a fa) (hb : FX C W m2 p2 X b fb) (hmk : behindInMarks .In b = false := by rfl) (hm : (m1 || p2) = true := by rfl) : FT C W (p1 && p2) X (.Compare a [.In] [b] pos) (f1 dBl (f2 dIn fa fb)) := ft_cmp (((op_inP hu).or (op_inT hu)).or op_in_sign) op2_in ha hb hmk hm
theorem ft_notIn (hu : X.A.units + 65 < cLine) (ha : FX C W m1 p1 X a fa) (hb : FX C W m2 p2 X b fb) (hmk : behindInMarks .NotIn b = false := by rfl) (hm : (m1 || p2) = true := by rfl) : FT C W (p1 && p2) X (.Compare a [.NotIn] [b] pos) (f1 dBl (f2 dNotIn fa fb)) := ft_cmp ((op_notInP hu).or (op_notInT hu)) op2_notIn ha hb hmk hm
def dIsNB (x : D) : Option Bool := match x with | .raw _ => none | _ => some x.isNon
def dNotNB (x : D) : Option Bool := match x with | .raw _ => none | _ => some (!x.isNon)
theorem ft_isN {j pos'} (ha : FX C W m p X a fa) : FT C W p X (.Compare a [.Is] [.Constant .none j pos'] pos) (f1 dIsNB fa) :=
  ft_of (g := dIsNB) (r := fun x H Q => ∃ c, V.bl (decide (x = .non)) = .bl c ∧ Q c H) ha (fun ta h => pt_cmp (pc_isN h)) fun M H x dx k Q s e q => by
    unfold dIsNB at e
    split at e
    · cases e
    · rename_i hn; cases e; exact ⟨_, by rw [s.isNon fun u z => hn u z], q⟩
theorem ft_notN {j pos'} (ha : FX C W m p X a fa) : FT C W p X (.Compare a [.IsNot] [.Constant .none j pos'] pos) (f1 dNotNB fa) :=
  ft_of (g := dNotNB) (r := fun x H Q => ∃ c, V.bl (!decide (x = .non)) = .bl c ∧ Q c H) ha (fun ta h => pt_cmp (pc_notN h)) fun M H x dx k Q s e q => by
    unfold dNotNB at e
    split at e
    · cases e
    · rename_i hn; cases e; exact ⟨_, by rw [s.isNon fun u z => hn u z], q⟩

/-! ### and, or, not as tests -/
def tAndF (fa fb : F Bool) : F Bool := F.bind fa fun k => if k = true then fb else fun γ => .ok false γ
def tOrF (fa fb : F Bool) : F Bool := F.bind fa fun k => if k = true then (fun γ => .ok true γ) else fb
def tNotF (fa : F Bool) : F Bool := F.bind fa fun k γ => .ok (!k) γ
theorem aftB_go {pens : Nat → Addr} {M : Addr → Prop} {σ : L2.St} {γ γ1 : Gm} {H H1 : Hp} {q1 q2 : Bool} {Q : Bool → Hp → Prop} {r : R Bool} (S1 : Stp C pens M σ γ H γ1 H1) (P1 : q1 = true → γ1 = γ ∧ Keep0 H H1)
    (h : aftB C W pens M σ γ H (q1 && q2) r Q) : aftB C W pens M σ γ1 H1 q2 r Q := by
  cases r with
  | st => exact h
  | ex e γ' => exact fun cls dd H' S2 re => h cls dd H' (S1.trans S2) re
  | ok k γ2 => exact fun H2 S2 P2 => h H2 (S1.trans S2) (purity P1 P2)
theorem fw_and1 (ha : FT C W p1 X a ga) : PW X (.BoolOp .And [a] pos) (tFB C W p1 ga) := pw_and1 ha
theorem fw_or1 (ha : FT C W p1 X a ga) : PW X (.BoolOp .Or [a] pos) (tFB C W p1 ga) := pw_or1 ha
theorem fw_and (ha : FT C W p1 X a ga) (hb : PW X (.BoolOp .And (b :: rest) pos) (tFB C W p2 gb)) : PW X (.BoolOp .And (a :: b :: rest) pos) (tFB C W (p1 && p2) (tAndF ga gb)) := by
  refine PW.imp (pw_and ha hb) fun σ H Q ⟨pens, M, γ, E, h⟩ => ⟨pens, M, γ, E, ?_⟩
  unfold tAndF F.bind at h
  cases ea : ga γ with
  | st => rw [ea] at h; exact h
  | ex e γ' => rw [ea] at h; exact h
  | ok k γ1 =>
    rw [ea] at h
    intro H1 S1 P1
    cases k with
    | true =>
      simp only [if_true] at h
      rw [if_pos rfl]
      exact ⟨pens, M, γ1, S1.env, aftB_go S1 P1 h⟩
    | false =>
      simp only [Bool.false_eq_true, if_false] at h
      rw [if_neg Bool.false_ne_true]
      exact h H1 S1 fun z => P1 (Bool.and_eq_true_iff.mp z).1
theorem fw_or (ha : FT C W p1 X a ga) (hb : PW X (.BoolOp .Or (b :: rest) pos) (tFB C W p2 gb)) : PW X (.BoolOp .Or (a :: b :: rest) pos) (tFB C W (p1 && p2) (tOrF ga gb)) := by
  refine PW.imp (pw_or ha hb) fun σ H Q ⟨pens, M, γ, E, h⟩ => ⟨pens, M, γ, E, ?_⟩
  unfold tOrF F.bind at h
  cases ea : ga γ with
  | st => rw [ea] at h; exact h
  | ex e γ' => rw [ea] at h; exact h
  | ok k γ1 =>
    rw [ea] at h
    intro H1 S1 P1
    cases k with
    | true =>
      simp only [if_true] at h
      rw [if_pos rfl]
      exact h H1 S1 fun z => P1 (Bool.and_eq_true_iff.mp z).1
    | false =>
      simp only [Bool.false_eq_true, if_false] at h
      rw [if_neg Bool.false_ne_true]
      exact ⟨pens, M, γ1, S1.env, aftB_go S1 P1 h⟩
theorem ft_w (h : PW X a (tFB C W p ga)) : FT C W p X a ga := h.pt
theorem ft_not (ha : FT C W p X a ga) : FT C W p X (.UnaryOp .Not a pos) (tNotF ga) := by
  refine PT.imp (pt_not ha) fun σ H Q ⟨pens, M, γ, E, h⟩ => ⟨pens, M, γ, E, ?_⟩
  unfold tNotF F.bind at h
  cases ea : ga γ with
  | st => rw [ea] at h; exact h
  | ex e γ' => rw [ea] at h; exact h
  | ok k γ1 => rw [ea] at h; exact h
/-! ### as values -/
/-- a and b: the first one True or False -/
def vAnd (fa fb : F D) : F D := F.bind fa fun x => match x with
  | .bl true => fb
  | .bl false => fun γ => .ok (.bl false) γ
  | _ => fun _ => .st
def vOr (fa fb : F D) : F D := F.bind fa fun x => match dTruth x with
  | some true => fun γ => .ok x γ
  | some false => fb
  | none => fun _ => .st
def vNot : D → Option D | .bl b => some (.bl (!b)) | _ => none
theorem aft_go {pens : Nat → Addr} {M : Addr → Prop} {σ : L2.St} {γ γ1 : Gm} {H H1 : Hp} {q1 q2 : Bool} {Q : VK} {r : R D} (S1 : Stp C pens M σ γ H γ1 H1) (P1 : q1 = true → γ1 = γ ∧ Keep0 H H1)
    (h : aft C W pens M σ γ H m (q1 && q2) r Q) : aft C W pens M σ γ1 H1 m q2 r Q := by
  cases r with
  | st => exact h
  | ex e γ' => exact fun cls dd H' S2 re => h cls dd H' (S1.trans S2) re
  | ok k γ2 => exact fun v H2 S2 P2 rr => h v H2 (S1.trans S2) (purity P1 P2) rr
theorem MRep.weak {M : Addr → Prop} {H : Hp} {v : V} {d : D} (h : Rep C M H v d) : ∀ {m : Bool}, MRep m C M H v d
  | true => h
  | false => .rep h
theorem fx_one {op : BoolOp} (ha : FX C W m p X a fa) : FX C W m p X (.BoolOp op [a] pos) fa := pe_one ha
theorem fx_and (ha : FX C W m1 p1 X a fa) (hb : FX C W m2 p2 X (.BoolOp .And (b :: rest) pos) fb) : FX C W m2 (p1 && p2) X (.BoolOp .And (a :: b :: rest) pos) (vAnd fa fb) := by
  refine PE.imp (pe_and ha hb) fun σ H Q ⟨pens, M, γ, E, h⟩ => ⟨pens, M, γ, E, ?_⟩
  unfold vAnd F.bind at h
  cases ea : fa γ with
  | st => rw [ea] at h; exact h
  | ex e γ' => rw [ea] at h; exact h
  | ok k γ1 =>
    rw [ea] at h
    intro v H1 S1 P1 r1
    cases k with
    | bl k =>
      rw [r1.s.blH]
      refine ⟨k, rfl, ?_⟩
      cases k with
      | true => rw [if_pos rfl]; exact ⟨pens, M, γ1, S1.env, aft_go S1 P1 h⟩
      | false => rw [if_neg Bool.false_ne_true]; exact h _ H1 S1 (fun z => P1 (Bool.and_eq_true_iff.mp z).1) (MRep.weak (.bl _))
    | _ => exact h.elim
theorem fx_or (ha : FX C W true p1 X a fa) (hb : FX C W m2 p2 X (.BoolOp .Or (b :: rest) pos) fb) : FX C W m2 (p1 && p2) X (.BoolOp .Or (a :: b :: rest) pos) (vOr fa fb) := by
  refine PE.imp (pe_orT ha hb) fun σ H Q ⟨pens, M, γ, E, h⟩ => ⟨pens, M, γ, E, ?_⟩
  unfold vOr F.bind at h
  cases ea : fa γ with
  | st => rw [ea] at h; exact h
  | ex e γ' => rw [ea] at h; exact h
  | ok k γ1 =>
    rw [ea] at h
    intro v H1 S1 P1 r1
    simp only at h
    cases et : dTruth k with
    | none => rw [et] at h; exact h.elim
    | some t =>
      rw [et] at h
      refine ⟨t, r1.s.truth et, ?_⟩
      cases t with
      | true => rw [if_pos rfl]; exact h _ H1 S1 (fun z => P1 (Bool.and_eq_true_iff.mp z).1) (MRep.weak r1)
      | false => rw [if_neg Bool.false_ne_true]; exact ⟨pens, M, γ1, S1.env, aft_go S1 P1 h⟩
theorem fx_not (ha : FX C W m p X a fa) : FX C W true p X (.UnaryOp .Not a pos) (f1 vNot fa) := fx1 (r := fun x H Q => ∃ c, x = .bl c ∧ Q (.bl (!c)) H) ha (fun ta h => pe_not h) fun M H x dx d Q hd sx e k => by
  cases dx with
  | bl b => cases e; exact ⟨b, sx.blH, k _ H (Keep.refl _ _) (.bl _)⟩
  | _ => cases e
/-- x if t else y -/
def fIf (t : F Bool) (fa fb : F D) : F D := F.bind t fun k => if k = true then fa else fb
theorem fx_if (ht : FT C W p1 X c gc) (ha : FX C W m p2 X a fa) (hb : FX C W m p3 X b fb) : FX C W m (p1 && (p2 && p3)) X (.IfExp c a b pos) (fIf gc fa fb) := by
  refine PE.imp (pe_ifExp ht ha hb) fun σ H Q ⟨pens, M, γ, E, h⟩ => ⟨pens, M, γ, E, ?_⟩
  unfold fIf F.bind at h
  cases ea : gc γ with
  | st => rw [ea] at h; exact h
  | ex e γ' => rw [ea] at h; exact h
  | ok k γ1 =>
    rw [ea] at h
    intro H1 S1 P1
    have weaken : ∀ {q : Bool} {r : R D}, (∀ z : q = true → True, True) → aft C W pens M σ γ1 H1 m (p2 && p3) r Q → (q = p2 ∨ q = p3) → (q = true → True) → True := fun _ _ _ _ => trivial
    cases k with
    | true =>
      simp only [if_true] at h
      rw [if_pos rfl]
      refine ⟨pens, M, γ1, S1.env, ?_⟩
      have h2 := aft_go S1 P1 h
      cases er : fa γ1 with
      | st => rw [er] at h2; exact h2
      | ex e g => rw [er] at h2; exact h2
      | ok d g => rw [er] at h2; exact fun v H2 S2 P2 rr => h2 v H2 S2 (fun z => P2 (Bool.and_eq_true_iff.mp z).1) rr
    | false =>
      simp only [Bool.false_eq_true, if_false] at h
      rw [if_neg Bool.false_ne_true]
      refine ⟨pens, M, γ1, S1.env, ?_⟩
      have h2 := aft_go S1 P1 h
      cases er : fb γ1 with
      | st => rw [er] at h2; exact h2
      | ex e g => rw [er] at h2; exact h2
      | ok d g => rw [er] at h2; exact fun v H2 S2 P2 rr => h2 v H2 S2 (fun z => P2 (Bool.and_eq_true_iff.mp z).2) rr
/-- a r b r' c -/
def fChain (g g' : D → D → Option D) (fa fb fc : F D) : F D := F.bind fa fun x => F.bind fb fun y => match g x y with
  | some (.bl true) => F.bind fc fun z => liftO (g' y z)
  | some (.bl false) => fun γ => .ok (.bl false) γ
  | _ => fun _ => .st
theorem tChain_of {op op' : CmpOp} {r r' : R2} {g g' : D → D → Option D} (hr : Op2 C r g) (hr' : Op2 C r' g') (hm : (m1 || p2) = true) (hm2 : (m2 || p3) = true) {σ : L2.St} {H : Hp} {Q : VK}
    (h : tF C W true (p1 && (p2 && p3)) (fChain g g' fa fb fc) σ H Q) : tChain r r' (tF C W m1 p1 fa) (tF C W m2 p2 fb) (tF C W m3 p3 fc) σ H Q := by
  obtain ⟨pens, M, γ, E, h⟩ := h
  refine ⟨pens, M, γ, E, ?_⟩
  unfold fChain at h
  cases ea : fa γ with
  | st => rw [bind_st ea] at h; exact h
  | ex e γ' => rw [bind_ex ea] at h; exact h
  | ok d γ1 =>
    rw [bind_ok ea] at h
    intro v H1 S1 P1 r1
    refine ⟨pens, M, γ1, S1.env, ?_⟩
    have h2 := aft_go S1 P1 h
    cases eb : fb γ1 with
    | st => rw [bind_st eb] at h2; exact h2
    | ex e γ' => rw [bind_ex eb] at h2; exact h2
    | ok d2 γ2 =>
      rw [bind_ok eb] at h2
      intro v2 H2 S2 P2 r2
      have h3 := aft_go S2 P2 h2
      cases eg : g d d2 with
      | none => rw [eg] at h3; exact h3.elim
      | some d3 =>
        rw [eg] at h3
        refine hr M H2 v v2 d d2 d3 _ S2.env.dom (both S1.env S2 hm P2 r1).s r2.s eg fun v3 H3 k3 r3 => ?_
        cases d3 with
        | bl kk =>
          cases r3
          refine ⟨kk, rfl, ?_⟩
          have S3 : Stp C pens M σ γ2 H2 γ2 H3 := Stp.pure S2.env k3
          cases kk with
          | true =>
            rw [if_pos rfl]
            refine ⟨pens, M, γ2, S3.env, ?_⟩
            have h4 : aft C W pens M σ γ2 H3 true p3 (F.bind fc (fun z => liftO (g' d2 z)) γ2) Q := aft_go (q1 := true) (q2 := p3) S3 (fun _ => ⟨rfl, k3⟩) (by simpa using h3)
            cases ec : fc γ2 with
            | st => rw [bind_st ec] at h4; exact h4
            | ex e γ' => rw [bind_ex ec] at h4; exact h4
            | ok d4 γ4 =>
              rw [bind_ok ec] at h4
              intro v4 H4 S4 P4 r4
              simp only [liftO] at h4
              cases eg' : g' d2 d4 with
              | none => rw [eg'] at h4; exact h4.elim
              | some d5 =>
                rw [eg'] at h4
                have rb : MRep m2 C M H4 v2 d2 := both S2.env (S3.trans S4) hm2 (fun z => ⟨(P4 z).1, k3.trans (P4 z).2⟩) r2
                exact hr' M H4 v2 v4 d2 d4 d5 Q S4.env.dom rb.s r4.s eg' (aft_fin S4 P4 h4)
          | false =>
            rw [if_neg Bool.false_ne_true]
            exact h3 _ H3 S3 (fun _ => ⟨rfl, k3⟩) (.bl _)
        | _ => exact h3.elim
theorem fx_chain {op op' : CmpOp} {r r' : R2} {g g' : D → D → Option D} (ho : OpR X (compareOp op) r) (ho' : OpR X (compareOp op') r') (hr : Op2 C r g) (hr' : Op2 C r' g') (ha : FX C W m1 p1 X a fa) (hb : FX C W m2 p2 X b fb) (hc : FX C W m3 p3 X c fc)
    (hl : lastMarks [op, op'] [b, c] = false) (hm : (m1 || p2) = true := by rfl) (hm2 : (m2 || p3) = true := by rfl) : FX C W true (p1 && (p2 && p3)) X (.Compare a [op, op'] [b, c] pos) (fChain g g' fa fb fc) :=
  PE.imp (pe_chain ho ho' ha hb hc hl) fun σ H Q h => tChain_of (op := op) (op' := op') hr hr' hm hm2 h
theorem ft_chain {op op' : CmpOp} {r r' : R2} {g g' : D → D → Option D} (ho : OpR X (compareOp op) r) (ho' : OpR X (compareOp op') r') (hr : Op2 C r g) (hr' : Op2 C r' g') (ha : FX C W m1 p1 X a fa) (hb : FX C W m2 p2 X b fb) (hc : FX C W m3 p3 X c fc)
    (hl : lastMarks [op, op'] [b, c] = false) (hm : (m1 || p2) = true := by rfl) (hm2 : (m2 || p3) = true := by rfl) : FT C W (p1 && (p2 && p3)) X (.Compare a [op, op'] [b, c] pos) (f1 dBl (fChain g g' fa fb fc)) := by
  refine PT.imp (pt_chain ho ho' ha hb hc hl) fun σ H Q ⟨pens, M, γ, E, h⟩ => ?_
  refine tChain_of (op := op) (op' := op') hr hr' hm hm2 ⟨pens, M, γ, E, ?_⟩
  unfold f1 F.bind at h
  cases er : fChain g g' fa fb fc γ with
  | st => rw [er] at h; exact h
  | ex e γ' => rw [er] at h; exact h
  | ok d γ1 =>
    rw [er] at h
    intro v H1 S1 P1 r1
    simp only [liftO] at h
    cases ek : dBl d with
    | none => rw [ek] at h; exact h.elim
    | some k =>
      rw [ek] at h
      cases d with
      | bl kk => cases ek; cases r1; exact ⟨_, rfl, h H1 S1 P1⟩
      | _ => cases ek
end
end FC

namespace FC
open PySem PySem.Spec PyProof.Rows L2

/-! ### a new thing -/
def MO.d : MO → D
  | .lst xs => .lst xs
  | .ins c fs => .ins c fs
def aftN (C : Ct) (W : WX) (pens : Nat → Addr) (M : Addr → Prop) (σ : L2.St) (γ : Gm) (H : Hp) (p : Bool) (r : R MO) (Q : VK) : Prop := match r with
  | .ok o γ' => ∀ a H', H a = none → EnvRep C pens (adj M a) γ' σ H' → Keep (Own γ σ) H H' → Pat γ γ' → (p = true → γ' = γ ∧ Keep0 H H') → ORep C (adj M a) H' a o → Q (.ref a) H'
  | .ex e γ' => ∀ cls d H', Stp C pens M σ γ H γ' H' → ExRep C M e cls d H' → W cls d σ H'
  | .st => False
def tFN (C : Ct) (W : WX) (p : Bool) (f : F MO) : TE := fun σ H Q => ∃ pens M γ, EnvRep C pens M γ σ H ∧ aftN C W pens M σ γ H p (f γ) Q
def FN (C : Ct) (W : WX) (p : Bool) (X : Cx) (e : Expr) (f : F MO) : Prop := PE X e (tFN C W p f)
def fD (f : F MO) : F D := F.bind f fun o γ => .ok o.d γ
theorem Own.tracked {C : Ct} {pens : Nat → Addr} {M : Addr → Prop} {γ : Gm} {σ : L2.St} {H : Hp} (E : EnvRep C pens M γ σ H) {a : Addr} (h : H a = none) : ¬ Own γ σ a := fun o => by
  obtain ⟨_, u, e, _⟩ := E.ownM o
  rw [h] at e
  cases e
section
variable {C : Ct} {W : WX} {X : Cx} {m p m1 p1 m2 p2 m3 p3 : Bool} {a b c e' : Expr} {fa fb fc : F D} {fn : F MO} {pos : Pos}
theorem ORep.rep {M : Addr → Prop} {H : Hp} {a : Addr} (n : ¬ M a) : ∀ {o : MO}, ORep C (adj M a) H a o → Rep C M H (.ref a) o.d
  | .lst _, ⟨vs, e, r⟩ => .lst e n (r.fine (Fine.weak fun _ _ _ z => .inl z))
  | .ins _ _, ⟨dx, vs, e, r⟩ => .ins e n (r.fine (Fine.weak fun _ _ _ z => .inl z))
/-- as data: nothing will change it -/
theorem fx_new (h : FN C W p X a fn) : FX C W true p X a (fD fn) := PE.imp h fun σ H Q ⟨pens, M, γ, E, h⟩ => by
  refine ⟨pens, M, γ, E, ?_⟩
  unfold fD at h
  cases ea : fn γ with
  | st => rw [bind_st ea] at h; exact h
  | ex e γ' => rw [bind_ex ea] at h; exact h
  | ok o γ1 =>
    rw [bind_ok ea] at h
    intro p H1 hp E1 k1 pt P1 r1
    have np : ¬ M p := notM E.dom hp
    exact h (.ref p) H1 ⟨E1.weak (fun _ z => .inl z) (fun b ob => (E.ownM (pt.symm.Own ob)).1), k1, pt⟩ P1 (r1.rep np)
/-- behind a step whose end makes a new list -/
theorem aftN_fin {pens : Nat → Addr} {M : Addr → Prop} {σ : L2.St} {γ γ' : Gm} {H H' : Hp} {q : Bool} {Q : VK} {xs : List D} (E : EnvRep C pens M γ σ H) (S : Stp C pens M σ γ H γ' H') (P : q = true → γ' = γ ∧ Keep0 H H')
    (h : aftN C W pens M σ γ H q (.ok (.lst xs) γ') Q) : ∀ pp vs, H' pp = none → RepL C M H' vs xs → Q (.ref pp) (upd H' pp (.lst vs)) := fun pp vs hp r => by
  have hp0 : H pp = none := S.keep.free hp fun o => Own.tracked S.env hp (S.pat.Own o)
  refine h pp _ hp0 (S.env.plus hp ⟨_, upd_same⟩ (Keep.new hp)) (S.keep.trans (Keep.new hp)) S.pat (fun z => ⟨(P z).1, (P z).2.trans (Keep.new hp)⟩) ⟨vs, upd_same, ?_⟩
  exact r.fine (Fine.trans (Fine.plus hp) (Fine.keep0 (Keep.new hp)) fun a o e _ z => z.elim id fun q => by rw [q, hp] at e; cases e)
/-- an operation that makes a new list -/
def Op1N (C : Ct) (r : V → Hp → VK → Prop) (g : D → Option (List D)) : Prop := ∀ (M : Addr → Prop) (H : Hp) (x : V) (dx : D) (xs : List D) (Q : VK), SRep C M H x dx → g dx = some xs → (∀ p vs, H p = none → RepL C M H vs xs → Q (.ref p) (upd H p (.lst vs))) → r x H Q
def Op2N (C : Ct) (r : V → V → Hp → VK → Prop) (g : D → D → Option (List D)) : Prop := ∀ (M : Addr → Prop) (H : Hp) (x y : V) (dx dy : D) (xs : List D) (Q : VK), SRep C M H x dx → SRep C M H y dy → g dx dy = some xs →
  (∀ p vs, H p = none → RepL C M H vs xs → Q (.ref p) (upd H p (.lst vs))) → r x y H Q
def n1 (g : D → Option (List D)) (fa : F D) : F MO := f1 (fun x => (g x).map .lst) fa
def n2 (g : D → D → Option (List D)) (fa fb : F D) : F MO := f2 (fun x y => (g x y).map .lst) fa fb
theorem fn1 {r : V → Hp → VK → Prop} {g : D → Option (List D)} (ha : FX C W m p X a fa) (mk : ∀ ta, PE X a ta → PE X e' (fun σ H Q => ta σ H fun x H1 => r x H1 Q)) (hr : Op1N C r g) : FN C W p X e' (n1 g fa) := PE.imp (mk _ ha) fun σ H Q ⟨pens, M, γ, E, h⟩ => by
  refine ⟨pens, M, γ, E, ?_⟩
  unfold n1 f1 at h
  cases ea : fa γ with
  | st => rw [bind_st ea] at h; exact h
  | ex e γ' => rw [bind_ex ea] at h; exact h
  | ok d γ1 =>
    rw [bind_ok ea] at h
    intro v H1 S1 P1 r1
    simp only [liftO] at h
    cases eg : g d with
    | none => rw [eg] at h; exact h.elim
    | some d2 => rw [eg] at h; exact hr M H1 v d d2 Q r1.s eg (aftN_fin E S1 P1 h)
theorem fn2 {r : V → V → Hp → VK → Prop} {g : D → D → Option (List D)} (ha : FX C W m1 p1 X a fa) (hb : FX C W m2 p2 X b fb) (mk : ∀ ta tb, PE X a ta → PE X b tb → PE X e' (fun σ H Q => ta σ H fun x H1 => tb σ H1 fun y H2 => r x y H2 Q)) (hr : Op2N C r g)
    (hm : (m1 || p2) = true := by rfl) : FN C W (p1 && p2) X e' (n2 g fa fb) := PE.imp (mk _ _ ha hb) fun σ H Q ⟨pens, M, γ, E, h⟩ => by
  refine ⟨pens, M, γ, E, ?_⟩
  unfold n2 f2 at h
  cases ea : fa γ with
  | st => rw [bind_st ea] at h; exact h
  | ex e γ' => rw [bind_ex ea] at h; exact h
  | ok d γ1 =>
    rw [bind_ok ea] at h
    intro v H1 S1 P1 r1
    refine ⟨pens, M, γ1, S1.env, ?_⟩
    cases eb : fb γ1 with
    | st => rw [bind_st eb] at h; exact h
    | ex e γ' => rw [bind_ex eb] at h; exact fun cls dd H' S2 re => h cls dd H' (S1.trans S2) re
    | ok d2 γ2 =>
      rw [bind_ok eb] at h
      intro v2 H2 S2 P2 r2
      simp only [liftO] at h
      cases eg : g d d2 with
      | none => rw [eg] at h; exact h.elim
      | some d3 =>
        rw [eg] at h
        exact hr M H2 v v2 d d2 d3 Q (both S1.env S2 hm P2 r1).s r2.s eg (aftN_fin E (S1.trans S2) (purity P1 P2) h)
end

/-! ### argument lists -/
inductive AV where
  | d (x : D) | n (o : MO) | s (i : Nat) | w (xs : List D)
def AOk (C : Ct) (M : Addr → Prop) (H : Hp) (σ : L2.St) (γ : Gm) (v : V) : AV → Prop
  | .d x => Rep C M H v x
  | .n o => ∃ a, v = .ref a ∧ M a ∧ ORep C M H a o
  | .s i => σ[i]? = some (some v) ∧ ∃ t o, γ[i]? = some (.own t o)
  | .w xs => ∃ a vs, v = .ref a ∧ Seen C H a vs ∧ RepL C M H vs xs
def freshA : List V → List AV → List Addr
  | .ref a :: vs, .n _ :: as => a :: freshA vs as
  | _ :: vs, _ :: as => freshA vs as
  | _, _ => []
structure AsOk (C : Ct) (M : Addr → Prop) (H0 H : Hp) (σ : L2.St) (γ : Gm) (vs : List V) (as : List AV) : Prop where
  ok : Paired (AOk C M H σ γ) vs as
  nd : (freshA vs as).Nodup
  fr : ∀ a ∈ freshA vs as, H0 a = none
def aftA (C : Ct) (W : WX) (pens : Nat → Addr) (M : Addr → Prop) (σ : L2.St) (γ : Gm) (H : Hp) (p : Bool) (r : R (List AV)) (Q : List V → Hp → Prop) : Prop := match r with
  | .ok as γ' => ∀ vs H' M', EnvRep C pens M' γ' σ H' → Keep (Own γ σ) H H' → Pat γ γ' → (p = true → γ' = γ ∧ Keep0 H H') → (∀ a, M a → M' a) → (∀ a, M' a → M a ∨ a ∈ freshA vs as) → AsOk C M' H H' σ γ' vs as → Q vs H'
  | .ex e γ' => ∀ cls d H' M', EnvRep C pens M' γ' σ H' → Keep (Own γ σ) H H' → Pat γ γ' → (∀ a, M a → M' a) → (∀ a, M' a → M a ∨ H a = none) → ExRep C M' e cls d H' → W cls d σ H'
  | .st => False
def tFA (C : Ct) (W : WX) (p : Bool) (f : F (List AV)) : TA := fun σ H Q => ∃ pens M γ, EnvRep C pens M γ σ H ∧ aftA C W pens M σ γ H p (f γ) Q
def FA (C : Ct) (W : WX) (p : Bool) (X : Cx) (es : List Expr) (f : F (List AV)) : Prop := PA X es (tFA C W p f)
theorem PA.imp {X : Cx} {es : List Expr} {t t' : TA} (h : PA X es t) (k : ∀ σ H Q, t' σ H Q → t σ H Q) : PA X es t' := ⟨fun pos pins s σ H Q I q => h.run pos pins s σ H Q I (k σ H Q q)⟩
def aNil : F (List AV) := fun γ => .ok [] γ
def aVal (fa : F D) (fr : F (List AV)) : F (List AV) := F.bind fa fun x => F.bind fr fun as γ => .ok (.d x :: as) γ
def aNew (fn : F MO) (fr : F (List AV)) : F (List AV) := F.bind fn fun x => F.bind fr fun as γ => .ok (.n x :: as) γ
/-- a name of the frame: data, a thing of one's own, the script -/
def aVar (i : Nat) (fr : F (List AV)) : F (List AV) := fun γ => match γ[i]? with
  | some (.own _ _) => F.bind fr (fun as γ => .ok (.s i :: as) γ) γ
  | some (.val d) => F.bind fr (fun as γ => .ok (.d d :: as) γ) γ
  | some (.view xs) => F.bind fr (fun as γ => .ok (.w xs :: as) γ) γ
  | _ => .st
def dItems : D → Option (List D)
  | .lst xs => some xs
  | .tup xs => some xs
  | _ => none
def aStar (fa : F D) (fr : F (List AV)) : F (List AV) := F.bind fa fun x => F.bind (liftO (dItems x)) fun xs => F.bind fr fun as γ => .ok (xs.map .d ++ as) γ
section
variable {C : Ct} {W : WX} {X : Cx} {m p m1 p1 m2 p2 m3 p3 : Bool} {a b c e' : Expr} {fa fb fc : F D} {fn : F MO} {fr : F (List AV)} {pos : Pos} {e : Expr} {es : List Expr}
theorem fa_nil : FA C W true X [] aNil := PA.imp pa_nil fun σ H Q ⟨pens, M, γ, E, h⟩ => h [] H M E (Keep.refl _ _) rfl (fun _ => ⟨rfl, Keep.refl _ _⟩) (fun _ z => z) (fun _ z => .inl z) ⟨.nil, List.nodup_nil, fun _ z => nomatch z⟩
theorem stepM {pens : Nat → Addr} {M1 M2 : Addr → Prop} {σ : L2.St} {γ1 : Gm} {H1 H2 : Hp} {vs : List V} {as : List AV} (E1 : EnvRep C pens M1 γ1 σ H1) (k2 : Keep (Own γ1 σ) H1 H2) (up : ∀ a, M2 a → M1 a ∨ a ∈ freshA vs as) (fr2 : ∀ a ∈ freshA vs as, H1 a = none) : Fine M1 M2 H1 H2 :=
  ⟨fun a o e n t => (k2 a o e fun z => n (E1.ownM z).1).1 t, fun a o e z => (up a z).elim id fun q => by rw [fr2 a q] at e; cases e⟩
theorem fa_val (he : FX C W true p1 X e fa) (hr : FA C W p2 X es fr) (hs : starEach (e :: es) X.env = (false, eval e X.env) :: starEach es X.env := by rfl) : FA C W (p1 && p2) X (e :: es) (aVal fa fr) := by
  refine PA.imp (pa_cons he hr hs) fun σ H Q ⟨pens, M, γ, E, h⟩ => ⟨pens, M, γ, E, ?_⟩
  unfold aVal at h
  cases ea : fa γ with
  | st => rw [bind_st ea] at h; exact h
  | ex x γ' => rw [bind_ex ea] at h; exact fun cls d H' S re => h cls d H' M S.env S.keep S.pat (fun _ z => z) (fun _ z => .inl z) re
  | ok d γ1 =>
    rw [bind_ok ea] at h
    intro v H1 S1 P1 r1
    refine ⟨pens, M, γ1, S1.env, ?_⟩
    cases eb : fr γ1 with
    | st => rw [bind_st eb] at h; exact h
    | ex x γ' =>
      rw [bind_ex eb] at h
      intro cls dd H' M' E' k' pt' up dn re
      refine h cls dd H' M' E' (S1.keep.trans (k'.mono fun _ z => S1.pat.symm.Own z)) (S1.pat.trans pt') up (fun a z => (dn a z).elim .inl fun q => ?_) re
      by_cases o : Own γ σ a
      · exact .inl (E.ownM o).1
      · exact .inr (S1.keep.free q o)
    | ok as γ2 =>
      rw [bind_ok eb] at h
      intro vs H2 M2 E2 k2 pt2 P2 up dn A
      have fH : ∀ a ∈ freshA vs as, H a = none := fun a ha => S1.keep.free (A.fr a ha) fun o => Own.tracked S1.env (A.fr a ha) (S1.pat.Own o)
      have F12 := stepM S1.env k2 dn A.fr
      have ef : freshA (v :: vs) (.d d :: as) = freshA vs as := by cases v <;> rfl
      refine h (v :: vs) H2 M2 E2 (S1.keep.trans (k2.mono fun _ z => S1.pat.symm.Own z)) (S1.pat.trans pt2) (purity P1 P2) up (fun a z => by rw [ef]; exact dn a z) ⟨.cons (show AOk C M2 H2 σ γ2 v (.d d) from Rep.fine F12 r1) A.ok, by rw [ef]; exact A.nd, fun a ha => by rw [ef] at ha; exact fH a ha⟩
theorem fa_new (he : FN C W p1 X e fn) (hr : FA C W p2 X es fr) (hs : starEach (e :: es) X.env = (false, eval e X.env) :: starEach es X.env := by rfl) : FA C W (p1 && p2) X (e :: es) (aNew fn fr) := by
  refine PA.imp (pa_cons he hr hs) fun σ H Q ⟨pens, M, γ, E, h⟩ => ⟨pens, M, γ, E, ?_⟩
  unfold aNew at h
  cases ea : fn γ with
  | st => rw [bind_st ea] at h; exact h
  | ex x γ' => rw [bind_ex ea] at h; exact fun cls d H' S re => h cls d H' M S.env S.keep S.pat (fun _ z => z) (fun _ z => .inl z) re
  | ok o γ1 =>
    rw [bind_ok ea] at h
    intro v H1 hv E1 k1 pt1 P1 r1
    refine ⟨pens, adj M v, γ1, E1, ?_⟩
    have no1 : ∀ a, Own γ1 σ a → Own γ σ a := fun _ z => pt1.symm.Own z
    have there : ∃ u, H1 v = some u ∧ isTbl u = false := r1.there
    cases eb : fr γ1 with
    | st => rw [bind_st eb] at h; exact h
    | ex x γ' =>
      rw [bind_ex eb] at h
      intro cls dd H' M' E' k' pt' up dn re
      refine h cls dd H' M' E' (k1.trans (k'.mono no1)) (pt1.trans pt') (fun a z => up a (.inl z)) (fun a z => (dn a z).elim (fun q => q.elim .inl fun w => .inr (by rw [w]; exact hv)) fun q => ?_) re
      by_cases ow : Own γ σ a
      · exact .inl (E.ownM ow).1
      · exact .inr (k1.free q ow)
    | ok as γ2 =>
      rw [bind_ok eb] at h
      intro vs H2 M2 E2 k2 pt2 P2 up dn A
      have fH : ∀ a ∈ freshA vs as, H a = none := fun a ha => k1.free (A.fr a ha) fun ow => Own.tracked E1 (A.fr a ha) (pt1.Own ow)
      have F12 := stepM E1 k2 dn A.fr
      have ef : freshA (.ref v :: vs) (.n o :: as) = v :: freshA vs as := rfl
      have nv : ¬ Own γ1 σ v := fun z => Own.tracked E hv (no1 v z)
      refine h (.ref v :: vs) H2 M2 E2 (k1.trans (k2.mono no1)) (pt1.trans pt2) (purity P1 P2) (fun a z => up a (.inl z)) (fun a z => ?_) ⟨.cons ⟨v, rfl, up v (.inr rfl), r1.fine F12 fun u hu ht => (k2 v u hu nv).1 ht⟩ A.ok, ?_, fun a ha => ?_⟩
      · rw [ef]
        rcases dn a z with (q | q) | q
        · exact .inl q
        · exact .inr (by rw [q]; exact List.mem_cons_self)
        · exact .inr (List.mem_cons_of_mem _ q)
      · rw [ef]
        refine List.nodup_cons.mpr ⟨fun z => ?_, A.nd⟩
        obtain ⟨u, hu, _⟩ := there
        rw [A.fr v z] at hu
        cases hu
      · rw [ef] at ha
        rcases List.mem_cons.mp ha with q | q
        · rw [q]; exact hv
        · exact fH a q
theorem Pat.val {γ γ' : Gm} (h : Pat γ γ') {i : Nat} {d : D} (e : γ[i]? = some (.val d)) : γ'[i]? = some (.val d) := by
  have q := h.at i
  rw [e] at q
  cases r : γ'[i]? with
  | none => rw [r] at q; cases q
  | some s =>
    rw [r] at q
    cases s with
    | own t' o' => cases q
    | none => cases q
    | val _ => cases q; rfl
    | view _ => cases q
theorem Pat.view {γ γ' : Gm} (h : Pat γ γ') {i : Nat} {d : List D} (e : γ[i]? = some (.view d)) : γ'[i]? = some (.view d) := by
  have q := h.at i
  rw [e] at q
  cases r : γ'[i]? with
  | none => rw [r] at q; cases q
  | some s =>
    rw [r] at q
    cases s with
    | own t' o' => cases q
    | none => cases q
    | val _ => cases q
    | view _ => cases q; rfl
theorem fa_var {i : Nat} (he : PE X e (tVar i)) (hr : FA C W p X es fr) (hs : starEach (e :: es) X.env = (false, eval e X.env) :: starEach es X.env := by rfl) : FA C W p X (e :: es) (aVar i fr) := by
  refine PA.imp (pa_cons he hr hs) fun σ H Q ⟨pens, M, γ, E, h⟩ => ?_
  unfold aVar at h
  cases q : γ[i]? with
  | none => rw [q] at h; exact h.elim
  | some sv =>
    rw [q] at h
    obtain ⟨x, h1, h2⟩ := E.slot q
    have go : ∀ (v : V) (av : AV), x = some v → (∀ M2 H2 γ2, EnvRep C pens M2 γ2 σ H2 → Pat γ γ2 → AOk C M2 H2 σ γ2 v av) → (∀ vs as, freshA (v :: vs) (av :: as) = freshA vs as) → aftA C W pens M σ γ H p (F.bind fr (fun as γ => .ok (av :: as) γ) γ) Q →
        (fun σ H Q => ∃ v, σ[i]? = some (some v) ∧ (fun v H1 => tFA C W p fr σ H1 fun vs H2 => Q (v :: vs) H2) v H) σ H Q := fun v av ex ok ef h => by
      subst ex
      refine ⟨v, h1, pens, M, γ, E, ?_⟩
      cases eb : fr γ with
      | st => rw [bind_st eb] at h; exact h
      | ex x γ' => rw [bind_ex eb] at h; exact h
      | ok as γ2 =>
        rw [bind_ok eb] at h
        intro vs H2 M2 E2 k2 pt2 P2 up dn A
        exact h (v :: vs) H2 M2 E2 k2 pt2 P2 up (fun b z => by rw [ef]; exact dn b z) ⟨.cons (ok M2 H2 γ2 E2 pt2) A.ok, by rw [ef]; exact A.nd, fun b z => A.fr b (by rw [ef] at z; exact z)⟩
    cases sv with
    | own t o =>
      obtain ⟨a, h2, _, r, _⟩ := h2
      refine go (.ref a) (.s i) h2 (fun M2 H2 γ2 E2 pt => ?_) (fun vs as => rfl) h
      obtain ⟨o', ho'⟩ := pt.own q
      exact ⟨by rw [h1, h2], t, o', ho'⟩
    | val d =>
      obtain ⟨v, h2, r⟩ := h2
      refine go v (.d d) h2 (fun M2 H2 γ2 E2 pt => ?_) (fun vs as => by cases v <;> rfl) h
      obtain ⟨x3, h3, v3, e3, r3⟩ := E2.slot (pt.val q)
      rw [h1, h2] at h3
      cases h3
      cases e3
      exact r3
    | view xs =>
      obtain ⟨a, us, h2, s, r⟩ := h2
      refine go (.ref a) (.w xs) h2 (fun M2 H2 γ2 E2 pt => ?_) (fun vs as => rfl) h
      obtain ⟨x3, h3, a3, us3, e3, s3, r3⟩ := E2.slot (pt.view q)
      rw [h1, h2] at h3
      cases h3
      cases e3
      exact ⟨a, us3, rfl, s3, r3⟩
    | none => exact h.elim
theorem freshA_d : ∀ (xs : List D) (us vs : List V) (as : List AV), us.length = xs.length → freshA (us ++ vs) (xs.map AV.d ++ as) = freshA vs as
  | [], [], _, _, _ => rfl
  | _ :: xs, u :: us, vs, as, h => by
    have e := freshA_d xs us vs as (by simpa using h)
    cases u <;> exact e
theorem paired_d {M : Addr → Prop} {H : Hp} {σ : L2.St} {γ : Gm} : ∀ {xs : List D} {us : List V} {vs : List V} {as : List AV}, RepL C M H us xs → Paired (AOk C M H σ γ) vs as → Paired (AOk C M H σ γ) (us ++ vs) (xs.map AV.d ++ as)
  | [], _, _, _, .nil, k => k
  | _ :: _, _, _, _, .cons r t, k => .cons r (paired_d t k)
theorem fa_star {sp : Pos} (he : FX C W m1 p1 X e fa) (hr : FA C W p2 X es fr) (hm : (m1 || p2) = true := by rfl) (hK : X.K = C.K := by rfl) (hs : starEach (.Starred e sp :: es) X.env = (true, eval e X.env) :: starEach es X.env := by rfl) : FA C W (p1 && p2) X (.Starred e sp :: es) (aStar fa fr) := by
  refine PA.imp (StX.pa_star he hr hs) fun σ H Q ⟨pens, M, γ, E, h⟩ => ⟨pens, M, γ, E, ?_⟩
  unfold aStar at h
  cases ea : fa γ with
  | st => rw [bind_st ea] at h; exact h
  | ex x γ' => rw [bind_ex ea] at h; exact fun cls d H' S re => h cls d H' M S.env S.keep S.pat (fun _ z => z) (fun _ z => .inl z) re
  | ok d γ1 =>
    rw [bind_ok ea] at h
    intro v H1 S1 P1 r1
    cases ei : dItems d with
    | none => rw [bind_st (by unfold liftO; rw [ei])] at h; exact h.elim
    | some xs =>
      rw [bind_ok (f := liftO (dItems d)) (a := xs) (γ' := γ1) (by unfold liftO; rw [ei])] at h
      -- the items
      have its : ∃ a us, v = .ref a ∧ (SqT X.K H1 a us ∨ SqL X.K H1 a us) ∧ RepL C M H1 us xs := by
        cases d with
        | lst ys => cases ei; obtain ⟨a, us, e1, e2, e3⟩ := r1.s.lstH; exact ⟨a, us, e1, .inr (.inl (.inl e2)), e3⟩
        | tup ys => cases ei; obtain ⟨a, us, e1, e2, _, e3⟩ := r1.s.tupH; exact ⟨a, us, e1, .inl (.inl (.inl e2)), e3⟩
        | _ => cases ei
      obtain ⟨a, us, e1, e2, e3⟩ := its
      refine ⟨a, us, e1, e2, pens, M, γ1, S1.env, ?_⟩
      cases eb : fr γ1 with
      | st => rw [bind_st eb] at h; exact h
      | ex x γ' =>
        rw [bind_ex eb] at h
        intro cls dd H' M' E' k' pt' up dn re
        refine h cls dd H' M' E' (S1.keep.trans (k'.mono fun _ z => S1.pat.symm.Own z)) (S1.pat.trans pt') up (fun a z => (dn a z).elim .inl fun q => ?_) re
        by_cases o : Own γ σ a
        · exact .inl (E.ownM o).1
        · exact .inr (S1.keep.free q o)
      | ok as γ2 =>
        rw [bind_ok eb] at h
        intro vs H2 M2 E2 k2 pt2 P2 up dn A
        have fH : ∀ a ∈ freshA vs as, H a = none := fun a ha => S1.keep.free (A.fr a ha) fun o => Own.tracked S1.env (A.fr a ha) (S1.pat.Own o)
        have F12 := stepM S1.env k2 dn A.fr
        have ef := freshA_d xs us vs as e3.length
        refine h (us ++ vs) H2 M2 E2 (S1.keep.trans (k2.mono fun _ z => S1.pat.symm.Own z)) (S1.pat.trans pt2) (purity P1 P2) up (fun a z => by rw [ef]; exact dn a z) ⟨paired_d (e3.fine F12) A.ok, by rw [ef]; exact A.nd, fun a ha => by rw [ef] at ha; exact fH a ha⟩
end

/-! ### displays -/
def allD : List AV → Option (List D)
  | [] => some []
  | .d x :: as => (allD as).map (x :: ·)
  | _ :: _ => none
theorem allD_eq : ∀ {as : List AV} {ds : List D}, allD as = some ds → as = ds.map AV.d
  | [], ds, e => by cases e; rfl
  | .d x :: as, ds, e => by
    simp only [allD] at e
    cases q : allD as with
    | none => rw [q] at e; cases e
    | some r => rw [q] at e; cases e; rw [allD_eq q]; rfl
  | .n _ :: _, _, e => by cases e
  | .s _ :: _, _, e => by cases e
  | .w _ :: _, _, e => by cases e
theorem repL_of {C : Ct} {M : Addr → Prop} {H : Hp} {σ : L2.St} {γ : Gm} : ∀ {ds : List D} {vs : List V}, Paired (AOk C M H σ γ) vs (ds.map AV.d) → RepL C M H vs ds
  | [], _, .nil => .nil
  | _ :: _, _, .cons r t => .cons r (repL_of t)
theorem freshA_all : ∀ (xs : List D) (us : List V), freshA us (xs.map AV.d) = []
  | [], [] => rfl
  | [], u :: us => by cases u <;> rfl
  | _ :: xs, [] => rfl
  | x :: xs, u :: us => by
    have e := freshA_all xs us
    cases u <;> exact e
def dTup (xs : List D) : Option D := if xs.length ≤ sizeLine then some (.tup xs) else none
def dLst (xs : List D) : Option MO := if xs.length ≤ sizeLine then some (.lst xs) else none
def fTup (fr : F (List AV)) : F D := F.bind fr fun as => F.bind (liftO (allD as)) fun xs => liftO (dTup xs)
def nLst (fr : F (List AV)) : F MO := F.bind fr fun as => F.bind (liftO (allD as)) fun xs => liftO (dLst xs)
section
variable {C : Ct} {W : WX} {X : Cx} {p : Bool} {fr : F (List AV)} {pos : Pos} {es : List Expr}
theorem liftO_some {α : Type} {o : Option α} {a : α} (h : o = some a) (γ : Gm) : liftO o γ = .ok a γ := by unfold liftO; rw [h]
theorem liftO_none {α : Type} {o : Option α} (h : o = none) (γ : Gm) : liftO o γ = .st := by unfold liftO; rw [h]
/-- arguments that are all data -/
theorem aftA_all {pens : Nat → Addr} {M : Addr → Prop} {σ : L2.St} {γ γ' : Gm} {H : Hp} {as : List AV} {xs : List D} {Q : List V → Hp → Prop} (E : EnvRep C pens M γ σ H) (ha : allD as = some xs)
    (h : ∀ vs H', Stp C pens M σ γ H γ' H' → (p = true → γ' = γ ∧ Keep0 H H') → RepL C M H' vs xs → Q vs H') : aftA C W pens M σ γ H p (.ok as γ') Q := by
  intro vs H' M' E' k pt P up dn A
  have e := allD_eq ha
  subst e
  have hM : ∀ a, M' a → M a := fun a z => (dn a z).elim id fun q => by rw [freshA_all] at q; cases q
  exact h vs H' ⟨E'.weak up fun a o => (E.ownM (pt.symm.Own o)).1, k, pt⟩ P ((repL_of A.ok).fine (Fine.weak fun a _ _ z => up a z))
theorem aftA_ex {pens : Nat → Addr} {M : Addr → Prop} {σ : L2.St} {γ γ' : Gm} {H : Hp} {e : Ex} {Q : List V → Hp → Prop} (E : EnvRep C pens M γ σ H)
    (h : ∀ cls d H', Stp C pens M σ γ H γ' H' → ExRep C M e cls d H' → W cls d σ H') : aftA C W pens M σ γ H p (.ex e γ') Q := by
  intro cls d H' M' E' k pt up dn re
  refine h cls d H' ⟨E'.weak up fun a o => (E.ownM (pt.symm.Own o)).1, k, pt⟩ ⟨re.1, re.2.imp id fun ⟨dx, vs, a1, a2, a3⟩ => ⟨dx, vs, a1, a2, a3.fine (Fine.weak fun a _ _ z => up a z)⟩⟩
theorem fx_tup {x1} (h : FA C W p X es fr) : FX C W true p X (.Tuple es x1 pos) (fTup fr) := by
  refine PE.imp (pe_tup h) fun σ H Q ⟨pens, M, γ, E, h⟩ => ⟨pens, M, γ, E, ?_⟩
  unfold fTup at h
  cases ea : fr γ with
  | st => rw [bind_st ea] at h; exact h
  | ex x γ' => rw [bind_ex ea] at h; exact aftA_ex E h
  | ok as γ1 =>
    rw [bind_ok ea] at h
    cases eb : allD as with
    | none => rw [bind_st (liftO_none eb _)] at h; exact h.elim
    | some xs =>
      rw [bind_ok (liftO_some eb _)] at h
      refine aftA_all E eb fun vs H' S P r => ?_
      unfold dTup at h
      split at h
      · rename_i hz
        exact ⟨by rw [r.length]; exact hz, fun q hq => aft_fin S P h _ _ (Keep.new hq) (rep_newT S.env.dom hq r)⟩
      · exact h.elim
theorem fn_lst (h : FA C W p X es fr) : FN C W p X (.List es pos) (nLst fr) := by
  refine PE.imp (pe_lst h) fun σ H Q ⟨pens, M, γ, E, h⟩ => ⟨pens, M, γ, E, ?_⟩
  unfold nLst at h
  cases ea : fr γ with
  | st => rw [bind_st ea] at h; exact h
  | ex x γ' => rw [bind_ex ea] at h; exact aftA_ex E h
  | ok as γ1 =>
    rw [bind_ok ea] at h
    cases eb : allD as with
    | none => rw [bind_st (liftO_none eb _)] at h; exact h.elim
    | some xs =>
      rw [bind_ok (liftO_some eb _)] at h
      refine aftA_all E eb fun vs H' S P r => ?_
      unfold dLst at h
      split at h
      · rename_i hz
        exact ⟨by rw [r.length]; exact hz, fun q hq => aftN_fin E S P h q vs hq r⟩
      · exact h.elim
end
end FC

namespace FC
open PySem PySem.Spec PyProof.Rows L2

/-! ### an item -/
def dIx : D → D → Option D
  | .lst xs, .int i => atI xs i
  | .tup xs, .int i => atI xs i
  | .str z, .int i => if z.length ≤ sizeLine then (atI z.cps.toList i).map fun c => .str ⟨#[c]⟩ else none
  | _, _ => none
section
variable {C : Ct} {W : WX} {X : Cx} {m p m1 p1 m2 p2 m3 p3 : Bool} {a b c e' : Expr} {fa fb fc : F D} {pos : Pos}
theorem RepL.at {M : Addr → Prop} {H : Hp} {vs : List V} {ds : List D} {i : Int} {d : D} (r : RepL C M H vs ds) (h : atI ds i = some d) : ∃ v, atI vs i = some v ∧ Rep C M H v d := by
  unfold atI at h ⊢
  rw [r.length]
  cases q : ixN ds.length i with
  | none => rw [q] at h; cases h
  | some j =>
    rw [q] at h
    exact r.get h
theorem op2_ix : Op2 C (rIx X.K) dIx := fun M H x y dx dy d Q hd sx sy e k => by
  cases dx with
  | lst xs => cases dy with
    | int i =>
      obtain ⟨a, vs, rfl, ha, r⟩ := sx.lstH
      obtain ⟨v, h1, h2⟩ := r.at e
      rw [sy.intH]
      exact .inl ⟨a, vs, i, v, rfl, rfl, .inl (.inl ha), h1, k v H (Keep.refl _ _) h2⟩
    | _ => cases e
  | tup xs => cases dy with
    | int i =>
      obtain ⟨a, vs, rfl, ha, na, r⟩ := sx.tupH
      obtain ⟨v, h1, h2⟩ := r.at e
      rw [sy.intH]
      exact .inr (.inl ⟨a, vs, i, v, rfl, rfl, .inl (.inl ha), h1, k v H (Keep.refl _ _) h2⟩)
    | _ => cases e
  | str z => cases dy with
    | int i =>
      simp only [dIx] at e
      split at e
      · rename_i hz
        cases q : atI z.cps.toList i with
        | none => rw [q] at e; cases e
        | some cc =>
          rw [q] at e
          cases e
          rw [sx.strH, sy.intH]
          exact .inr (.inr ⟨z, i, cc, rfl, rfl, hz, q, k _ H (Keep.refl _ _) (.str _)⟩)
      · cases e
    | _ => cases e
  | _ => cases dy <;> cases e
theorem fx_ix (ha : FX C W m1 p1 X a fa) (hb : FX C W m2 p2 X b fb) (hs : PlainIx b := by intro _ _; rfl) (hm : (m1 || p2) = true := by rfl) : FX C W true (p1 && p2) X (.Subscript a b pos) (f2 dIx fa fb) := fx2 (r := rIx X.K) ha hb (fun ta tb h1 h2 => pe_ix ix_seq h1 h2 hs) op2_ix hm

/-! ### slices -/
def cutD (xs : List D) (lo hi : Option Int) : List D := (xs.drop (HT.sIx xs.length 0 lo)).take (HT.sIx xs.length xs.length hi - HT.sIx xs.length 0 lo)
def dSl (d : D) (lo hi : Option Int) : Option D := match d with
  | .lst xs => some (.lst (cutD xs lo hi))
  | .tup xs => some (.tup (cutD xs lo hi))
  | .str z => if z.length ≤ sizeLine then some (.str (cutS z lo hi)) else none
  | _ => none
theorem RepL.cut {M : Addr → Prop} {H : Hp} {vs : List V} {ds : List D} (r : RepL C M H vs ds) (lo hi : Option Int) : RepL C M H (cutV vs lo hi) (cutD ds lo hi) := by
  unfold cutV cutD
  rw [r.length]
  exact (r.drop _).take _
abbrev rSlAll (K : PySem.W.Frag) : V → Option Int → Option Int → Hp → VK → Prop := fun x lo hi H Q => (rSlL K x lo hi H Q ∨ rSlA K x lo hi H Q) ∨ rSlS x lo hi H Q
theorem sl_all : SlR X (rSlAll X.K) := (sl_list.or sl_tupA).or sl_str
theorem cut_whole {ds : List D} {lo hi : Option Int} (h : HT.sIx ds.length 0 lo = 0 ∧ HT.sIx ds.length ds.length hi = ds.length) : cutD ds lo hi = ds := by
  unfold cutD
  rw [h.1, h.2, List.drop_zero, Nat.sub_zero, List.take_length]
theorem rsl_of {M : Addr → Prop} {H : Hp} {x : V} {dx d : D} {lo hi : Option Int} {Q : VK} (hd : ∀ a, M a → ∃ o, H a = some o) (sx : SRep C M H x dx) (e : dSl dx lo hi = some d) (k : ∀ v H', Keep0 H H' → Rep C M H' v d → Q v H') : rSlAll X.K x lo hi H Q := by
  cases dx with
  | lst xs =>
    cases e
    obtain ⟨a, vs, rfl, ha, r⟩ := sx.lstH
    exact .inl (.inl ⟨a, vs, rfl, .inl (.inl ha), fun p hp => k _ _ (Keep.new hp) (rep_newL hd hp (r.cut lo hi))⟩)
  | tup xs =>
    cases e
    obtain ⟨a, vs, rfl, ha, na, r⟩ := sx.tupH
    refine .inl (.inr ⟨a, vs, rfl, .inl (.inl ha), fun z => ?_, fun _ p hp => k _ _ (Keep.new hp) (rep_newT hd hp (r.cut lo hi))⟩)
    rw [r.length] at z
    exact k _ H (Keep.refl _ _) (by rw [cut_whole z]; exact .tup ha na r)
  | str z =>
    simp only [dSl] at e
    split at e
    · rename_i hz
      cases e
      rw [sx.strH]
      exact .inr ⟨z, rfl, hz, k _ H (Keep.refl _ _) (.str _)⟩
    · cases e
  | _ => cases e
def dInt : D → Option Int | .int i => some i | _ => none
def fSl2 (fa fb fc : F D) : F D := F.bind fa fun x => F.bind (f1 dInt fb) fun i => F.bind (f1 dInt fc) fun j => liftO (dSl x (some i) (some j))
def fSlL (fa fb : F D) : F D := f2 (fun x y => (dInt y).bind fun i => dSl x (some i) none) fa fb
def fSlH (fa fb : F D) : F D := f2 (fun x y => (dInt y).bind fun i => dSl x none (some i)) fa fb
def fSlW (fa : F D) : F D := f1 (fun x => dSl x none none) fa
theorem fx_slW {p2' : Pos} (ha : FX C W m p X a fa) : FX C W true p X (.Subscript a (.Slice none none none p2') pos) (fSlW fa) :=
  fx1 (r := fun x H Q => rSlAll X.K x none none H Q) ha (fun ta h => pe_slice sl_all h po_none po_none) fun M H x dx d Q hd sx e k => rsl_of hd sx e k
theorem fx_slL {p2' : Pos} (ha : FX C W m1 p1 X a fa) (hb : FX C W m2 p2 X b fb) (hm : (m1 || p2) = true := by rfl) : FX C W true (p1 && p2) X (.Subscript a (.Slice (some b) none none p2') pos) (fSlL fa fb) :=
  fx2 (r := fun x y H Q => ∃ i, y = .int i ∧ rSlAll X.K x (some i) none H Q) ha hb (fun ta tb h1 h2 => pe_slice sl_all h1 (po_some h2) po_none) (fun M H x y dx dy d Q hd sx sy e k => by
    cases dy with
    | int i => exact ⟨i, sy.intH, rsl_of hd sx e k⟩
    | _ => cases e) hm
theorem fx_slH {p2' : Pos} (ha : FX C W m1 p1 X a fa) (hb : FX C W m2 p2 X b fb) (hm : (m1 || p2) = true := by rfl) : FX C W true (p1 && p2) X (.Subscript a (.Slice none (some b) none p2') pos) (fSlH fa fb) :=
  fx2 (r := fun x y H Q => ∃ i, y = .int i ∧ rSlAll X.K x none (some i) H Q) ha hb (fun ta tb h1 h2 => pe_slice sl_all h1 po_none (po_some h2)) (fun M H x y dx dy d Q hd sx sy e k => by
    cases dy with
    | int i => exact ⟨i, sy.intH, rsl_of hd sx e k⟩
    | _ => cases e) hm
theorem fx_sl2 {p2' : Pos} (ha : FX C W m1 p1 X a fa) (hb : FX C W m2 p2 X b fb) (hc : FX C W m3 p3 X c fc) (hm : (m1 || (p2 && p3)) = true := by rfl) : FX C W true (p1 && (p2 && p3)) X (.Subscript a (.Slice (some b) (some c) none p2') pos) (fSl2 fa fb fc) := by
  refine PE.imp (pe_slice sl_all ha (po_some hb) (po_some hc)) fun σ H Q ⟨pens, M, γ, E, h⟩ => ⟨pens, M, γ, E, ?_⟩
  unfold fSl2 at h
  cases ea : fa γ with
  | st => rw [bind_st ea] at h; exact h
  | ex e γ' => rw [bind_ex ea] at h; exact h
  | ok d γ1 =>
    rw [bind_ok ea] at h
    intro v H1 S1 P1 r1
    refine ⟨pens, M, γ1, S1.env, ?_⟩
    have h2 := aft_go S1 P1 h
    unfold f1 at h2
    cases eb : fb γ1 with
    | st => rw [bind_st (bind_st eb)] at h2; exact h2
    | ex e γ' => rw [bind_ex (bind_ex eb)] at h2; exact h2
    | ok d2 γ2 =>
      intro v2 H2 S2 P2 r2
      cases d2 with
      | int i =>
        rw [bind_ok (f := F.bind fb fun x => liftO (dInt x)) (a := i) (γ' := γ2) (by rw [bind_ok eb] <;> rfl)] at h2
        refine ⟨i, r2.s.intH, pens, M, γ2, S2.env, ?_⟩
        have h3 := aft_go S2 P2 h2
        cases ec : fc γ2 with
        | st => rw [bind_st (bind_st ec)] at h3; exact h3
        | ex e γ' => rw [bind_ex (bind_ex ec)] at h3; exact h3
        | ok d3 γ3 =>
          intro v3 H3 S3 P3 r3
          cases d3 with
          | int j =>
            rw [bind_ok (f := F.bind fc fun x => liftO (dInt x)) (a := j) (γ' := γ3) (by rw [bind_ok ec] <;> rfl)] at h3
            refine ⟨j, r3.s.intH, ?_⟩
            cases eg : dSl d (some i) (some j) with
            | none => rw [liftO_none eg] at h3; exact h3.elim
            | some d5 =>
              rw [liftO_some eg] at h3
              have rb : MRep m1 C M H3 v d := both S1.env (S2.trans S3) hm (fun z => purity P2 P3 z) r1
              exact rsl_of S3.env.dom rb.s eg (aft_fin S3 P3 h3)
          | _ => rw [bind_st (by rw [bind_ok ec] <;> rfl)] at h3; exact h3.elim
      | _ => rw [bind_st (by rw [bind_ok eb] <;> rfl)] at h2; exact h2.elim

/-! ### the script: looked at -/
def sList (i : Nat) : F (List D) := fun γ => match γ[i]? with
  | some (.view xs) => .ok xs γ
  | some (.val (.lst xs)) => .ok xs γ
  | _ => .st
def fSeeIx (i : Nat) (fb : F D) : F D := F.bind (sList i) fun xs => F.bind fb fun y => liftO (dIx (.lst xs) y)
def fSeeLen (i : Nat) : F D := F.bind (sList i) fun xs γ => .ok (.int xs.length) γ
def fSeeSl (i : Nat) (lo hi : Int) : F D := F.bind (sList i) fun xs γ => .ok (.lst (cutD xs (some lo) (some hi))) γ
theorem view_of {pens : Nat → Addr} {M : Addr → Prop} {γ γ' : Gm} {σ : L2.St} {H : Hp} {i : Nat} {xs : List D} (E : EnvRep C pens M γ σ H) (h : sList i γ = .ok xs γ') : γ' = γ ∧ ∃ a vs, σ[i]? = some (some (.ref a)) ∧ SqL C.K H a vs ∧ RepL C M H vs xs := by
  unfold sList at h
  cases q : γ[i]? with
  | none => rw [q] at h; cases h
  | some sv =>
    rw [q] at h
    cases sv with
    | view ys =>
      cases h
      obtain ⟨x, h1, a, vs, h2, s, r⟩ := E.slot q
      subst h2
      exact ⟨rfl, a, vs, h1, s.sql, r⟩
    | val d =>
      cases d with
      | lst ys =>
        cases h
        obtain ⟨x, h1, v, h2, r⟩ := E.slot q
        subst h2
        cases r with
        | lst e n r => exact ⟨rfl, _, _, h1, .inl (.inl e), r⟩
      | _ => cases h
    | none => cases h
    | own _ _ => cases h
theorem seen_st {pens : Nat → Addr} {M : Addr → Prop} {γ : Gm} {i : Nat} : sList i γ = .st ∨ ∃ xs, sList i γ = .ok xs γ := by
  unfold sList
  cases q : γ[i]? with
  | none => exact .inl rfl
  | some sv => cases sv with
    | val d => cases d <;> first | exact .inl rfl | exact .inr ⟨_, rfl⟩
    | _ => first | exact .inl rfl | exact .inr ⟨_, rfl⟩
theorem fx_seeIx {i : Nat} (h : PE X a (tVar i)) (hb : FX C W m2 true X b fb) (hs : PlainIx b := by intro _ _; rfl) (hK : C.K = X.K := by rfl) : FX C W true true X (.Subscript a b pos) (fSeeIx i fb) := by
  refine PE.imp (pe_ix ix_list h hb hs) fun σ H Q ⟨pens, M, γ, E, h⟩ => ?_
  unfold fSeeIx at h
  rcases seen_st (pens := pens) (M := M) (γ := γ) (i := i) with q | ⟨xs, q⟩
  · rw [bind_st q] at h; exact h.elim
  · rw [bind_ok q] at h
    obtain ⟨_, a, vs, e1, s, r⟩ := view_of E q
    refine ⟨.ref a, e1, pens, M, γ, E, ?_⟩
    cases eb : fb γ with
    | st => rw [bind_st eb] at h; exact h
    | ex e γ' => rw [bind_ex eb] at h; exact h
    | ok d2 γ2 =>
      rw [bind_ok eb] at h
      intro v2 H2 S2 P2 r2
      obtain ⟨e2, k2⟩ := P2 rfl
      cases eg : dIx (.lst xs) d2 with
      | none => rw [liftO_none eg] at h; exact h.elim
      | some d3 =>
        rw [liftO_some eg] at h
        cases d2 with
        | int j =>
          obtain ⟨v, h1, h2⟩ := RepL.at r eg
          exact ⟨a, vs, j, v, rfl, r2.s.intH, by rw [← hK]; exact SqL.keep0 k2 s, h1, h v H2 S2 (fun _ => ⟨e2, k2⟩) (h2.fine (Fine.keep0 k2))⟩
        | _ => cases eg
theorem fx_seeSl {i : Nat} {lo hi : Int} {j1 j2 : Nat} {q1 q2 p2' : Pos} (h : PE X a (tVar i)) (hK : C.K = X.K := by rfl) : FX C W true true X (.Subscript a (.Slice (some (.Constant (.int lo) j1 q1)) (some (.Constant (.int hi) j2 q2)) none p2') pos) (fSeeSl i lo hi) := by
  refine PE.imp (pe_slice sl_list h (po_some pe_int) (po_some pe_int)) fun σ H Q ⟨pens, M, γ, E, h⟩ => ?_
  unfold fSeeSl at h
  rcases seen_st (pens := pens) (M := M) (γ := γ) (i := i) with q | ⟨xs, q⟩
  · rw [bind_st q] at h; exact h.elim
  · rw [bind_ok q] at h
    obtain ⟨_, a, vs, e1, s, r⟩ := view_of E q
    refine ⟨.ref a, e1, lo, rfl, hi, rfl, a, vs, rfl, by rw [← hK]; exact s, fun pp hp => h _ _ (Stp.pure E (Keep.new hp)) (fun _ => ⟨rfl, Keep.new hp⟩) (rep_newL E.dom hp (r.cut _ _))⟩
end

/-! ### built-ins by their names -/
section
variable {C : Ct} {W : WX} {X : Cx} {m p m1 p1 m2 p2 m3 p3 : Bool} {a b c e' : Expr} {fa fb fc : F D} {pos pn : Pos} {x : Str} {id T : String} {r : List V → Hp → VK → Prop} {g : D → Option D} {g2 : D → D → Option D}
theorem fx_b1 (hc : CallR X (.builtin id) r) (hr : Op1 C (fun x H Q => r [x] H Q) g) (ha : FX C W m p X a fa) (hv : bootBuiltins x = some (.builtin id)) (hm : X.mg x = none) (hg : Gl X x) (hn : x ≠ "__name__" := by decide) (hdb : (x == ("__debug__" : Str)) = false := by decide)
    (he : starEach [a] X.env = (false, eval a X.env) :: starEach [] X.env := by rfl) (hpl : (backTo pos (starEach [] X.env)).any (·.1) = false := by rfl) : FX C W true p X (.Call (.Name x pn) [a] [] pos) (f1 g fa) :=
  fx1 ha (fun ta h => pe_callB hc hg hm hv (pa_cons h pa_nil he) hn hdb he hpl) hr
theorem fx_b2 (hc : CallR X (.builtin id) r) (hr : Op2 C (fun x y H Q => r [x, y] H Q) g2) (ha : FX C W m1 p1 X a fa) (hb : FX C W m2 p2 X b fb) (hv : bootBuiltins x = some (.builtin id)) (hm0 : X.mg x = none) (hg : Gl X x) (hm : (m1 || p2) = true := by rfl) (hn : x ≠ "__name__" := by decide) (hdb : (x == ("__debug__" : Str)) = false := by decide)
    (he : starEach [a, b] X.env = (false, eval a X.env) :: starEach [b] X.env := by rfl) (he2 : starEach [b] X.env = (false, eval b X.env) :: starEach [] X.env := by rfl) (hpl : (backTo pos (starEach [b] X.env)).any (·.1) = false := by rfl) : FX C W true (p1 && p2) X (.Call (.Name x pn) [a, b] [] pos) (f2 g2 fa fb) :=
  fx2 (r := fun x y H Q => r [x, y] H Q) ha hb (fun ta tb h1 h2 => pe_callB hc hg hm0 hv (pa_cons h1 (pa_cons h2 pa_nil he2) he) hn hdb he hpl) hr hm
theorem fx_t1 (hc : CallR X (.type T) r) (hr : Op1 C (fun x H Q => r [x] H Q) g) (ha : FX C W m p X a fa) (hv : bootBuiltins x = some (.type T)) (hm : X.mg x = none) (hg : Gl X x) (hn : x ≠ "__name__" := by decide) (hdb : (x == ("__debug__" : Str)) = false := by decide)
    (he : starEach [a] X.env = (false, eval a X.env) :: starEach [] X.env := by rfl) (hpl : (backTo pos (starEach [] X.env)).any (·.1) = false := by rfl) : FX C W true p X (.Call (.Name x pn) [a] [] pos) (f1 g fa) :=
  fx1 ha (fun ta h => pe_callTy hc hg hm hv (pa_cons h pa_nil he) hn hdb he hpl) hr
theorem fn_t1 {gn : D → Option (List D)} (hc : CallR X (.type T) r) (hr : Op1N C (fun x H Q => r [x] H Q) gn) (ha : FX C W m p X a fa) (hv : bootBuiltins x = some (.type T)) (hm : X.mg x = none) (hg : Gl X x) (hn : x ≠ "__name__" := by decide) (hdb : (x == ("__debug__" : Str)) = false := by decide)
    (he : starEach [a] X.env = (false, eval a X.env) :: starEach [] X.env := by rfl) (hpl : (backTo pos (starEach [] X.env)).any (·.1) = false := by rfl) : FN C W p X (.Call (.Name x pn) [a] [] pos) (n1 gn fa) :=
  fn1 ha (fun ta h => pe_callTy hc hg hm hv (pa_cons h pa_nil he) hn hdb he hpl) hr
theorem fn_b1 {gn : D → Option (List D)} (hc : CallR X (.builtin id) r) (hr : Op1N C (fun x H Q => r [x] H Q) gn) (ha : FX C W m p X a fa) (hv : bootBuiltins x = some (.builtin id)) (hm : X.mg x = none) (hg : Gl X x) (hn : x ≠ "__name__" := by decide) (hdb : (x == ("__debug__" : Str)) = false := by decide)
    (he : starEach [a] X.env = (false, eval a X.env) :: starEach [] X.env := by rfl) (hpl : (backTo pos (starEach [] X.env)).any (·.1) = false := by rfl) : FN C W p X (.Call (.Name x pn) [a] [] pos) (n1 gn fa) :=
  fn1 ha (fun ta h => pe_callB hc hg hm hv (pa_cons h pa_nil he) hn hdb he hpl) hr

/-- len -/
def dLen : D → Option D
  | .lst xs => some (.int xs.length)
  | .tup xs => some (.int xs.length)
  | .str z => if z.length ≤ sizeLine then some (.int z.length) else none
  | _ => none
theorem op1_len : Op1 C (fun x H Q => ∃ y n, [x] = [y] ∧ LenV X.K y H n ∧ Q (.int n) H) dLen := fun M H x dx d Q hd sx e k => by
  cases dx with
  | lst xs =>
    cases e
    obtain ⟨a, vs, rfl, ha, r⟩ := sx.lstH
    exact ⟨_, xs.length, rfl, .inl ⟨vs, .inl (.inl ha), r.length.symm⟩, k _ H (Keep.refl _ _) (.int _)⟩
  | tup xs =>
    cases e
    obtain ⟨a, vs, rfl, ha, na, r⟩ := sx.tupH
    exact ⟨_, xs.length, rfl, .inr ⟨vs, .inl (.inl ha), r.length.symm⟩, k _ H (Keep.refl _ _) (.int _)⟩
  | str z =>
    simp only [dLen] at e
    split at e
    · rename_i hz; cases e; rw [sx.strH]; exact ⟨_, z.length, rfl, ⟨hz, rfl⟩, k _ H (Keep.refl _ _) (.int _)⟩
    · cases e
  | _ => cases e
theorem fx_len (ha : FX C W m p X a fa) (hm : X.mg "len" = none) (hg : Gl X "len") (he : starEach [a] X.env = (false, eval a X.env) :: starEach [] X.env := by rfl) (hpl : (backTo pos (starEach [] X.env)).any (·.1) = false := by rfl) : FX C W true p X (.Call (.Name "len" pn) [a] [] pos) (f1 dLen fa) :=
  fx_b1 call_len op1_len ha boot_len hm hg (he := he) (hpl := hpl)
theorem fx_seeLen {i : Nat} (h : PE X a (tVar i)) (hm : X.mg "len" = none) (hg : Gl X "len") (hK : C.K = X.K := by rfl) (he : starEach [a] X.env = (false, eval a X.env) :: starEach [] X.env := by rfl) (hpl : (backTo pos (starEach [] X.env)).any (·.1) = false := by rfl) : FX C W true true X (.Call (.Name "len" pn) [a] [] pos) (fSeeLen i) := by
  refine PE.imp (pe_callB call_len_seq hg hm boot_len (pa_cons h pa_nil he) (by decide) (by decide) he hpl) fun σ H Q ⟨pens, M, γ, E, h⟩ => ?_
  unfold fSeeLen at h
  rcases seen_st (pens := pens) (M := M) (γ := γ) (i := i) with q | ⟨xs, q⟩
  · rw [bind_st q] at h; exact h.elim
  · rw [bind_ok q] at h
    obtain ⟨_, a, vs, e1, s, r⟩ := view_of E q
    refine ⟨.ref a, e1, a, vs, rfl, .inl (by rw [← hK]; exact s), h _ H (Stp.pure E (Keep.refl _ _)) (fun _ => ⟨rfl, Keep.refl _ _⟩) (by rw [r.length]; exact .int _)⟩
/-- ints within -/
def dInts : List D → Option (List Int)
  | [] => some []
  | .int i :: xs => (dInts xs).map (i :: ·)
  | _ :: _ => none
theorem dInts_eq : ∀ {xs : List D} {ns : List Int}, dInts xs = some ns → xs = ns.map D.int
  | [], _, e => by cases e; rfl
  | .int i :: xs, ns, e => by
    simp only [dInts] at e
    cases q : dInts xs with
    | none => rw [q] at e; cases e
    | some r => rw [q] at e; cases e; rw [dInts_eq q]; rfl
  | .non :: _, _, e => by cases e
  | .bl _ :: _, _, e => by cases e
  | .str _ :: _, _, e => by cases e
  | .lst _ :: _, _, e => by cases e
  | .tup _ :: _, _, e => by cases e
  | .dct _ :: _, _, e => by cases e
  | .ins _ _ :: _, _, e => by cases e
  | .raw _ :: _, _, e => by cases e
  | .cls _ :: _, _, e => by cases e
theorem RepL.ints {M : Addr → Prop} {H : Hp} : ∀ {ns : List Int} {vs : List V}, RepL C M H vs (ns.map D.int) → vs = ns.map V.int
  | [], _, .nil => rfl
  | _ :: _, _, .cons r t => by rw [RepL.ints t]; cases r; rfl
theorem repL_ints {M : Addr → Prop} {H : Hp} : ∀ ns : List Int, RepL C M H (ns.map V.int) (ns.map D.int)
  | [] => .nil
  | _ :: ns => .cons (.int _) (repL_ints ns)
def dBls : List D → Option (List Bool)
  | [] => some []
  | .bl i :: xs => (dBls xs).map (i :: ·)
  | _ :: _ => none
theorem dBls_eq : ∀ {xs : List D} {ns : List Bool}, dBls xs = some ns → xs = ns.map D.bl
  | [], _, e => by cases e; rfl
  | .bl i :: xs, ns, e => by
    simp only [dBls] at e
    cases q : dBls xs with
    | none => rw [q] at e; cases e
    | some r => rw [q] at e; cases e; rw [dBls_eq q]; rfl
  | .non :: _, _, e => by cases e
  | .int _ :: _, _, e => by cases e
  | .str _ :: _, _, e => by cases e
  | .lst _ :: _, _, e => by cases e
  | .tup _ :: _, _, e => by cases e
  | .dct _ :: _, _, e => by cases e
  | .ins _ _ :: _, _, e => by cases e
  | .raw _ :: _, _, e => by cases e
  | .cls _ :: _, _, e => by cases e
theorem RepL.bls {M : Addr → Prop} {H : Hp} : ∀ {ns : List Bool} {vs : List V}, RepL C M H vs (ns.map D.bl) → vs = ns.map V.bl
  | [], _, .nil => rfl
  | _ :: _, _, .cons r t => by rw [RepL.bls t]; cases r; rfl
def dStrs : List D → Option (List Str)
  | [] => some []
  | .str i :: xs => (dStrs xs).map (i :: ·)
  | _ :: _ => none
theorem dStrs_eq : ∀ {xs : List D} {ns : List Str}, dStrs xs = some ns → xs = ns.map D.str
  | [], _, e => by cases e; rfl
  | .str i :: xs, ns, e => by
    simp only [dStrs] at e
    cases q : dStrs xs with
    | none => rw [q] at e; cases e
    | some r => rw [q] at e; cases e; rw [dStrs_eq q]; rfl
  | .non :: _, _, e => by cases e
  | .int _ :: _, _, e => by cases e
  | .bl _ :: _, _, e => by cases e
  | .lst _ :: _, _, e => by cases e
  | .tup _ :: _, _, e => by cases e
  | .dct _ :: _, _, e => by cases e
  | .ins _ _ :: _, _, e => by cases e
  | .raw _ :: _, _, e => by cases e
  | .cls _ :: _, _, e => by cases e
theorem RepL.strs {M : Addr → Prop} {H : Hp} : ∀ {ns : List Str} {vs : List V}, RepL C M H vs (ns.map D.str) → vs = ns.map V.str
  | [], _, .nil => rfl
  | _ :: _, _, .cons r t => by rw [RepL.strs t]; cases r; rfl
theorem repL_strs {M : Addr → Prop} {H : Hp} : ∀ ns : List Str, RepL C M H (ns.map V.str) (ns.map D.str)
  | [] => .nil
  | _ :: ns => .cons (.str _) (repL_strs ns)

/-- sum of a tuple of ints -/
theorem sum_rawT {prog : Program} {w : World} {A : Around} {E : Value → Shared → Prop} {s : Shared} {l : Addr} {its : List Value} {ns : List Int} {Q : Value → Shared → Prop} (hh : A.handled = none) (hl : s.heap.IsTuple l its.toArray) (hi : IntsAre its ns)
    (h : ∀ h' tk t', (∀ b o, s.heap.get? b = some o → h'.get? b = some o) → Q (.int ns.sum t') { s with heap := h', toks := tk }) : wpAny (model prog w) A (call (.builtin "sum") [.ref l]) Q E s := by
  obtain ⟨xs, e⟩ := hi.allInts.items
  have hn : numsOf (intItems xs).toList = ns := by rw [← e]; exact hi.numsOf
  rw [nums_intItems] at hn
  rw [e] at hl
  have hlt : l < s.heap.objs.size := by obtain ⟨_, q, _⟩ := hl; exact Heap.lt_size q
  refine call_sum_walkG (wpAny_pyIter_tuple hl ?_)
  refine ⟨_, _, _, _, _, _, numAt xs, rfl, Walks.tuple (A := A.in1) hh s.heap.objs.size l (Nat.ne_of_lt hlt) (intItems xs), ⟨⟨_, Heap.get?_push_size _ rfl, rfl, rfl⟩, hl.push _⟩, fun b hb => ?_, fun _ _ => intItems_at, fun h' tk t' hk => ?_⟩
  · rw [Heap.size_push]
    rcases List.mem_cons.mp hb with q | q
    · rw [q]; exact Nat.lt_succ_self _
    · rcases List.mem_cons.mp q with q | q
      · rw [q]; exact Nat.lt_succ_of_lt hlt
      · cases q
  · have := h h' tk t' fun b o eb => hk b o (fun hb => by
      rcases List.mem_cons.mp hb with q | q
      · rw [q] at eb; exact absurd (Heap.lt_size eb) (Nat.lt_irrefl _)
      · cases q) (Heap.get?_push_of_some _ eb)
    rw [show (intItems xs).size = xs.size by simp [intItems], preSum_eq, List.take_of_length_le (by simp), hn]
    exact this
def rSumT (K : PySem.W.Frag) : List V → Hp → VK → Prop := fun vs H Q => ∃ (a : Addr) (ns : List Int), vs = [V.ref a] ∧ SqT K H a (ns.map V.int) ∧ Q (.int ns.sum) H
theorem cr_sumT (hc : X.calm = true) : CallR X (.builtin "sum") (rSumT X.K) := by
  intro pins s σ H vs us Q I r h
  obtain ⟨a, ns, rfl, hs, q⟩ := h
  obtain ⟨its, rv, hl, _⟩ := I.tuple hs
  rw [Vals.ref1 r]
  exact sum_rawT (I.ok.hd hc) hl rv.ints fun h' tk t' hk => ⟨.int _, H, I.kept hk, ⟨_, rfl⟩, q⟩
def dSum : D → Option D
  | .lst xs => (dInts xs).map fun ns => .int ns.sum
  | .tup xs => (dInts xs).map fun ns => .int ns.sum
  | _ => none
theorem op1_sum : Op1 C (fun x H Q => rSum X.K [x] H Q ∨ rSumT X.K [x] H Q) dSum := fun M H x dx d Q hd sx e k => by
  cases dx with
  | lst xs =>
    simp only [dSum] at e
    cases q : dInts xs with
    | none => rw [q] at e; cases e
    | some ns =>
      rw [q] at e
      cases e
      have eq := dInts_eq q
      subst eq
      obtain ⟨a, vs, rfl, ha, r⟩ := sx.lstH
      rw [r.ints] at ha
      exact .inl ⟨a, ns, rfl, .inl (.inl ha), k _ H (Keep.refl _ _) (.int _)⟩
  | tup xs =>
    simp only [dSum] at e
    cases q : dInts xs with
    | none => rw [q] at e; cases e
    | some ns =>
      rw [q] at e
      cases e
      have eq := dInts_eq q
      subst eq
      obtain ⟨a, vs, rfl, ha, na, r⟩ := sx.tupH
      rw [r.ints] at ha
      exact .inr ⟨a, ns, rfl, .inl (.inl ha), k _ H (Keep.refl _ _) (.int _)⟩
  | _ => cases e
theorem fx_sum (hcm : X.calm = true) (ha : FX C W m p X a fa) (hm : X.mg "sum" = none) (hg : Gl X "sum") (he : starEach [a] X.env = (false, eval a X.env) :: starEach [] X.env := by rfl) (hpl : (backTo pos (starEach [] X.env)).any (·.1) = false := by rfl) : FX C W true p X (.Call (.Name "sum" pn) [a] [] pos) (f1 dSum fa) :=
  fx_b1 ((cr_sum hcm).or (cr_sumT hcm)) op1_sum ha boot_sum hm hg (he := he) (hpl := hpl)
/-- all, any -/
def dAll : D → Option D | .lst xs => (dBls xs).map fun bs => .bl (bs.all _root_.id) | _ => none
def dAny : D → Option D | .lst xs => (dBls xs).map fun bs => .bl (bs.any _root_.id) | _ => none
theorem op1_all : Op1 C (fun x H Q => rAll X.K [x] H Q) dAll := fun M H x dx d Q hd sx e k => by
  cases dx with
  | lst xs =>
    simp only [dAll] at e
    cases q : dBls xs with
    | none => rw [q] at e; cases e
    | some ns =>
      rw [q] at e
      cases e
      have eq := dBls_eq q
      subst eq
      obtain ⟨a, vs, rfl, ha, r⟩ := sx.lstH
      rw [r.bls] at ha
      exact ⟨a, ns, rfl, .inl (.inl ha), k _ H (Keep.refl _ _) (.bl _)⟩
  | _ => cases e
theorem op1_any : Op1 C (fun x H Q => rAny X.K [x] H Q) dAny := fun M H x dx d Q hd sx e k => by
  cases dx with
  | lst xs =>
    simp only [dAny] at e
    cases q : dBls xs with
    | none => rw [q] at e; cases e
    | some ns =>
      rw [q] at e
      cases e
      have eq := dBls_eq q
      subst eq
      obtain ⟨a, vs, rfl, ha, r⟩ := sx.lstH
      rw [r.bls] at ha
      exact ⟨a, ns, rfl, .inl (.inl ha), k _ H (Keep.refl _ _) (.bl _)⟩
  | _ => cases e
theorem fx_all (hcm : X.calm = true) (ha : FX C W m p X a fa) (hm : X.mg "all" = none) (hg : Gl X "all") (he : starEach [a] X.env = (false, eval a X.env) :: starEach [] X.env := by rfl) (hpl : (backTo pos (starEach [] X.env)).any (·.1) = false := by rfl) : FX C W true p X (.Call (.Name "all" pn) [a] [] pos) (f1 dAll fa) :=
  fx_b1 (cr_all hcm) op1_all ha boot_all hm hg (he := he) (hpl := hpl)
theorem fx_any (hcm : X.calm = true) (ha : FX C W m p X a fa) (hm : X.mg "any" = none) (hg : Gl X "any") (he : starEach [a] X.env = (false, eval a X.env) :: starEach [] X.env := by rfl) (hpl : (backTo pos (starEach [] X.env)).any (·.1) = false := by rfl) : FX C W true p X (.Call (.Name "any" pn) [a] [] pos) (f1 dAny fa) :=
  fx_b1 (cr_any hcm) op1_any ha boot_any hm hg (he := he) (hpl := hpl)
/-- min, max of two ints, of a list of ints -/
def dMax2 : D → D → Option D | .int i, .int j => some (.int (if j > i then j else i)) | _, _ => none
def dMin2 : D → D → Option D | .int i, .int j => some (.int (if j < i then j else i)) | _, _ => none
theorem op2_max2 : Op2 C (fun x y H Q => ∃ i j, [x, y] = [V.int i, V.int j] ∧ Q (.int (if j > i then j else i)) H) dMax2 := fun M H x y dx dy d Q hd sx sy e k => by
  cases dx with
  | int i => cases dy with
    | int j => cases e; rw [sx.intH, sy.intH]; exact ⟨i, j, rfl, k _ H (Keep.refl _ _) (.int _)⟩
    | _ => cases e
  | _ => cases dy <;> cases e
theorem op2_min2 : Op2 C (fun x y H Q => ∃ i j, [x, y] = [V.int i, V.int j] ∧ Q (.int (if j < i then j else i)) H) dMin2 := fun M H x y dx dy d Q hd sx sy e k => by
  cases dx with
  | int i => cases dy with
    | int j => cases e; rw [sx.intH, sy.intH]; exact ⟨i, j, rfl, k _ H (Keep.refl _ _) (.int _)⟩
    | _ => cases e
  | _ => cases dy <;> cases e
theorem fx_max2 (hcm : X.calm = true) (ha : FX C W m1 p1 X a fa) (hb : FX C W m2 p2 X b fb) (hm0 : X.mg "max" = none) (hg : Gl X "max") (hm : (m1 || p2) = true := by rfl)
    (he : starEach [a, b] X.env = (false, eval a X.env) :: starEach [b] X.env := by rfl) (he2 : starEach [b] X.env = (false, eval b X.env) :: starEach [] X.env := by rfl) (hpl : (backTo pos (starEach [b] X.env)).any (·.1) = false := by rfl) : FX C W true (p1 && p2) X (.Call (.Name "max" pn) [a, b] [] pos) (f2 dMax2 fa fb) :=
  fx_b2 (call_max2 hcm) op2_max2 ha hb boot_max hm0 hg hm (he := he) (he2 := he2) (hpl := hpl)
theorem fx_min2 (hcm : X.calm = true) (ha : FX C W m1 p1 X a fa) (hb : FX C W m2 p2 X b fb) (hm0 : X.mg "min" = none) (hg : Gl X "min") (hm : (m1 || p2) = true := by rfl)
    (he : starEach [a, b] X.env = (false, eval a X.env) :: starEach [b] X.env := by rfl) (he2 : starEach [b] X.env = (false, eval b X.env) :: starEach [] X.env := by rfl) (hpl : (backTo pos (starEach [b] X.env)).any (·.1) = false := by rfl) : FX C W true (p1 && p2) X (.Call (.Name "min" pn) [a, b] [] pos) (f2 dMin2 fa fb) :=
  fx_b2 (call_min2 hcm) op2_min2 ha hb boot_min hm0 hg hm (he := he) (he2 := he2) (hpl := hpl)
def maxI : List Int → Int
  | [] => 0
  | x :: xs => xs.foldl max x
def minI : List Int → Int
  | [] => 0
  | x :: xs => xs.foldl min x
theorem foldl_max_mem : ∀ (xs : List Int) (x : Int), xs.foldl max x ∈ x :: xs ∧ ∀ y ∈ x :: xs, y ≤ xs.foldl max x
  | [], x => ⟨List.mem_cons_self, fun y hy => by rcases List.mem_cons.mp hy with e | e; exact e ▸ Int.le_refl _; cases e⟩
  | z :: xs, x => by
    obtain ⟨h1, h2⟩ := foldl_max_mem xs (max x z)
    refine ⟨?_, fun y hy => ?_⟩
    · rw [List.foldl_cons]
      rcases List.mem_cons.mp h1 with e | e
      · rw [e]
        by_cases h : x ≤ z
        · rw [Int.max_eq_right h]; exact List.mem_cons_of_mem _ List.mem_cons_self
        · rw [Int.max_eq_left (by omega)]; exact List.mem_cons_self
      · exact List.mem_cons_of_mem _ (List.mem_cons_of_mem _ e)
    · rw [List.foldl_cons]
      have hm := h2 (max x z) List.mem_cons_self
      rcases List.mem_cons.mp hy with e | e
      · rw [e]; exact Int.le_trans (Int.le_max_left _ _) hm
      · rcases List.mem_cons.mp e with e | e
        · rw [e]; exact Int.le_trans (Int.le_max_right _ _) hm
        · exact h2 y (List.mem_cons_of_mem _ e)
theorem foldl_min_mem : ∀ (xs : List Int) (x : Int), xs.foldl min x ∈ x :: xs ∧ ∀ y ∈ x :: xs, xs.foldl min x ≤ y
  | [], x => ⟨List.mem_cons_self, fun y hy => by rcases List.mem_cons.mp hy with e | e; exact e ▸ Int.le_refl _; cases e⟩
  | z :: xs, x => by
    obtain ⟨h1, h2⟩ := foldl_min_mem xs (min x z)
    refine ⟨?_, fun y hy => ?_⟩
    · rw [List.foldl_cons]
      rcases List.mem_cons.mp h1 with e | e
      · rw [e]
        by_cases h : x ≤ z
        · rw [Int.min_eq_left h]; exact List.mem_cons_self
        · rw [Int.min_eq_right (by omega)]; exact List.mem_cons_of_mem _ List.mem_cons_self
      · exact List.mem_cons_of_mem _ (List.mem_cons_of_mem _ e)
    · rw [List.foldl_cons]
      have hm := h2 (min x z) List.mem_cons_self
      rcases List.mem_cons.mp hy with e | e
      · rw [e]; exact Int.le_trans hm (Int.min_le_left _ _)
      · rcases List.mem_cons.mp e with e | e
        · rw [e]; exact Int.le_trans hm (Int.min_le_right _ _)
        · exact h2 y (List.mem_cons_of_mem _ e)
theorem maxI_spec {ns : List Int} (h : ns ≠ []) : maxI ns ∈ ns ∧ ∀ y ∈ ns, y ≤ maxI ns := by
  cases ns with
  | nil => exact absurd rfl h
  | cons x xs => exact foldl_max_mem xs x
theorem minI_spec {ns : List Int} (h : ns ≠ []) : minI ns ∈ ns ∧ ∀ y ∈ ns, minI ns ≤ y := by
  cases ns with
  | nil => exact absurd rfl h
  | cons x xs => exact foldl_min_mem xs x
def dMax1 : D → Option D
  | .lst xs => (dInts xs).bind fun ns => if ns = [] then none else some (.int (maxI ns))
  | _ => none
def dMin1 : D → Option D
  | .lst xs => (dInts xs).bind fun ns => if ns = [] then none else some (.int (minI ns))
  | _ => none
theorem op1_max : Op1 C (fun x H Q => rMax X.K [x] H Q) dMax1 := fun M H x dx d Q hd sx e k => by
  cases dx with
  | lst xs =>
    simp only [dMax1] at e
    cases q : dInts xs with
    | none => rw [q] at e; cases e
    | some ns =>
      rw [q] at e
      simp only [Option.bind_some] at e
      split at e
      · cases e
      · rename_i hne
        cases e
        have eq := dInts_eq q
        subst eq
        obtain ⟨a, vs, rfl, ha, r⟩ := sx.lstH
        rw [r.ints] at ha
        obtain ⟨m1, m2⟩ := maxI_spec hne
        refine ⟨a, ns, rfl, .inl (.inl ha), List.length_pos_iff.mpr hne, fun mm h1 h2 => k _ H (Keep.refl _ _) ?_⟩
        have e1 := h2 _ m1
        have e2 := m2 _ h1
        rw [show mm = maxI ns by omega]
        exact .int _
  | _ => cases e
theorem op1_min : Op1 C (fun x H Q => rMin X.K [x] H Q) dMin1 := fun M H x dx d Q hd sx e k => by
  cases dx with
  | lst xs =>
    simp only [dMin1] at e
    cases q : dInts xs with
    | none => rw [q] at e; cases e
    | some ns =>
      rw [q] at e
      simp only [Option.bind_some] at e
      split at e
      · cases e
      · rename_i hne
        cases e
        have eq := dInts_eq q
        subst eq
        obtain ⟨a, vs, rfl, ha, r⟩ := sx.lstH
        rw [r.ints] at ha
        obtain ⟨m1, m2⟩ := minI_spec hne
        refine ⟨a, ns, rfl, .inl (.inl ha), List.length_pos_iff.mpr hne, fun mm h1 h2 => k _ H (Keep.refl _ _) ?_⟩
        have e1 := h2 _ m1
        have e2 := m2 _ h1
        rw [show mm = minI ns by omega]
        exact .int _
  | _ => cases e
theorem fx_max (hcm : X.calm = true) (ha : FX C W m p X a fa) (hm : X.mg "max" = none) (hg : Gl X "max") (he : starEach [a] X.env = (false, eval a X.env) :: starEach [] X.env := by rfl) (hpl : (backTo pos (starEach [] X.env)).any (·.1) = false := by rfl) : FX C W true p X (.Call (.Name "max" pn) [a] [] pos) (f1 dMax1 fa) :=
  fx_b1 (cr_max hcm) op1_max ha boot_max hm hg (he := he) (hpl := hpl)
theorem fx_min (hcm : X.calm = true) (ha : FX C W m p X a fa) (hm : X.mg "min" = none) (hg : Gl X "min") (he : starEach [a] X.env = (false, eval a X.env) :: starEach [] X.env := by rfl) (hpl : (backTo pos (starEach [] X.env)).any (·.1) = false := by rfl) : FX C W true p X (.Call (.Name "min" pn) [a] [] pos) (f1 dMin1 fa) :=
  fx_b1 (cr_min hcm) op1_min ha boot_min hm hg (he := he) (hpl := hpl)
/-- str(n), tuple(xs), list(xs), int(text) -/
def dStr : D → Option D | .int i => if i.natAbs.log2 < 1920 then some (.str (toString i)) else none | _ => none
theorem fx_strI (ha : FX C W m p X a fa) (hm : X.mg "str" = none) (hg : Gl X "str") (he : starEach [a] X.env = (false, eval a X.env) :: starEach [] X.env := by rfl) (hpl : (backTo pos (starEach [] X.env)).any (·.1) = false := by rfl) : FX C W true p X (.Call (.Name "str" pn) [a] [] pos) (f1 dStr fa) :=
  fx_t1 call_str_int (fun M H x dx d Q hd sx e k => by
    cases dx with
    | int i =>
      simp only [dStr] at e
      split at e
      · rename_i hz; cases e; rw [sx.intH]; exact ⟨i, rfl, hz, k _ H (Keep.refl _ _) (.str _)⟩
      · cases e
    | _ => cases e) ha PyProof.Rows.boot_str hm hg (he := he) (hpl := hpl)
def dTuple : D → Option D | .lst xs => some (.tup xs) | .tup xs => some (.tup xs) | _ => none
theorem fx_tuple (ha : FX C W m p X a fa) (hm : X.mg "tuple" = none) (hg : Gl X "tuple") (he : starEach [a] X.env = (false, eval a X.env) :: starEach [] X.env := by rfl) (hpl : (backTo pos (starEach [] X.env)).any (·.1) = false := by rfl) : FX C W true p X (.Call (.Name "tuple" pn) [a] [] pos) (f1 dTuple fa) :=
  fx_t1 call_tuple_of (fun M H x dx d Q hd sx e k => by
    cases dx with
    | lst xs =>
      cases e
      obtain ⟨a, vs, rfl, ha, r⟩ := sx.lstH
      exact ⟨a, vs, rfl, .inl ⟨.inl (.inl ha), fun q hq => k _ _ (Keep.new hq) (rep_newT hd hq r)⟩⟩
    | tup xs =>
      cases e
      obtain ⟨a, vs, rfl, ha, na, r⟩ := sx.tupH
      exact ⟨a, vs, rfl, .inr ⟨.inl (.inl ha), k _ _ (Keep.refl _ _) (.tup ha na r)⟩⟩
    | _ => cases e) ha PyProof.Rows.boot_tuple hm hg (he := he) (hpl := hpl)
def dList : D → Option (List D) | .lst xs => some xs | .tup xs => some xs | _ => none
theorem fn_list (ha : FX C W m p X a fa) (hm : X.mg "list" = none) (hg : Gl X "list") (he : starEach [a] X.env = (false, eval a X.env) :: starEach [] X.env := by rfl) (hpl : (backTo pos (starEach [] X.env)).any (·.1) = false := by rfl) : FN C W p X (.Call (.Name "list" pn) [a] [] pos) (n1 dList fa) :=
  fn_t1 call_list_of (fun M H x dx xs Q sx e k => by
    cases dx with
    | lst xs =>
      cases e
      obtain ⟨a, vs, rfl, ha, r⟩ := sx.lstH
      exact ⟨a, vs, rfl, .inl (.inl (.inl ha)), fun q hq => k q vs hq r⟩
    | tup xs =>
      cases e
      obtain ⟨a, vs, rfl, ha, na, r⟩ := sx.tupH
      exact ⟨a, vs, rfl, .inr (.inl (.inl ha)), fun q hq => k q vs hq r⟩
    | _ => cases e) ha PyProof.Rows.boot_list hm hg (he := he) (hpl := hpl)
end
end FC

namespace FC
open PySem PySem.Spec PyProof.Rows L2

/-! ### statements -/
inductive RV where
  | val (d : D) | own (o : MO)
inductive Fl where
  | nx | ret (r : RV) | brk | ct
structure StpS (M : Addr → Prop) (σ : L2.St) (γ : Gm) (H : Hp) (M' : Addr → Prop) (σ' : L2.St) (γ' : Gm) (H' : Hp) : Prop where
  keep : Keep (Own γ σ) H H'
  own : ∀ a, Own γ' σ' a → Own γ σ a ∨ H a = none
  up : ∀ a, M a → ¬ Own γ σ a → M' a
  dn : ∀ a, M' a → M a ∨ H a = none
def RVok (C : Ct) (M' : Addr → Prop) (σ : L2.St) (γ : Gm) (H : Hp) (σ' : L2.St) (γ' : Gm) (H' : Hp) (v : V) : RV → Prop
  | .val d => Rep C M' H' v d
  | .own o => ∃ a, v = .ref a ∧ M' a ∧ ORep C M' H' a o ∧ ¬ Own γ' σ' a ∧ (H a = none ∨ Own γ σ a)
def aftS (C : Ct) (W : WX) (pens : Nat → Addr) (M : Addr → Prop) (σ : L2.St) (γ : Gm) (H : Hp) (r : R Fl) (D : Ends) : Prop := match r with
  | .ok .nx γ' => ∀ M' σ' H', EnvRep C pens M' γ' σ' H' → StpS M σ γ H M' σ' γ' H' → D.nx σ' H'
  | .ok .brk γ' => ∀ M' σ' H', EnvRep C pens M' γ' σ' H' → StpS M σ γ H M' σ' γ' H' → D.bk σ' H'
  | .ok .ct γ' => ∀ M' σ' H', EnvRep C pens M' γ' σ' H' → StpS M σ γ H M' σ' γ' H' → D.ct σ' H'
  | .ok (.ret r) γ' => ∀ v M' σ' H', EnvRep C pens M' γ' σ' H' → StpS M σ γ H M' σ' γ' H' → RVok C M' σ γ H σ' γ' H' v r → D.rt v H'
  | .ex e γ' => ∀ cls d M' σ' H', EnvRep C pens M' γ' σ' H' → StpS M σ γ H M' σ' γ' H' → ExRep C M' e cls d H' → W cls d σ' H'
  | .st => False
def tFS (C : Ct) (W : WX) (f : F Fl) : TS := fun D σ H => ∃ pens M γ, EnvRep C pens M γ σ H ∧ aftS C W pens M σ γ H (f γ) D
def FS (C : Ct) (W : WX) (X : Cx) (st : Stmt) (f : F Fl) : Prop := PS X st (tFS C W f)
def FSs (C : Ct) (W : WX) (X : Cx) (st : List Stmt) (f : F Fl) : Prop := PSs X st (tFS C W f)
theorem PS.imp {X : Cx} {st : Stmt} {t t' : TS} (h : PS X st t) (k : ∀ D σ H, t' D σ H → t D σ H) : PS X st t' := ⟨fun pins s σ H D I q => h.run pins s σ H D I (k D σ H q)⟩
theorem PSs.imp {X : Cx} {st : List Stmt} {t t' : TS} (h : PSs X st t) (k : ∀ D σ H, t' D σ H → t D σ H) : PSs X st t' := ⟨fun pins s σ H D I q => h.run pins s σ H D I (k D σ H q)⟩

def sNil : F Fl := fun γ => .ok .nx γ
def sSeq (s t : F Fl) : F Fl := F.bind s fun f => match f with
  | .nx => t
  | f => fun γ => .ok f γ
def sExpr (f : F D) : F Fl := F.bind f fun _ γ => .ok .nx γ
def sRet (f : F D) : F Fl := F.bind f fun d γ => .ok (.ret (.val d)) γ
def sRetN : F Fl := fun γ => .ok (.ret (.val .non)) γ
def sRetNew (f : F MO) : F Fl := F.bind f fun o γ => .ok (.ret (.own o)) γ
def sRetVar (i : Nat) : F Fl := fun γ => match γ[i]? with
  | some (.val d) => .ok (.ret (.val d)) γ
  | some (.own none o) => .ok (.ret (.own o)) (γ.set i .none)
  | _ => .st
def sSet (i : Nat) (f : F D) : F Fl := F.bind f fun d γ => .ok .nx (γ.set i (.val d))
def sSetNew (i : Nat) (f : F MO) : F Fl := F.bind f fun o γ => .ok .nx (γ.set i (.own none o))
def sIf (c : F Bool) (s t : F Fl) : F Fl := F.bind c fun b => if b = true then s else t
def frz (i : Nat) (γ : Gm) : Gm := match γ[i]? with
  | some (.own none o) => γ.set i (.val o.d)
  | _ => γ
def sFrz (i : Nat) (s : F Fl) : F Fl := fun γ => s (frz i γ)

section
variable {C : Ct} {W : WX} {pens : Nat → Addr} {M M1 M2 M' : Addr → Prop} {σ σ1 σ2 : L2.St} {γ γ1 γ2 : Gm} {H H1 H2 : Hp}
theorem StpS.trans (E : EnvRep C pens M γ σ H) (a : StpS M σ γ H M1 σ1 γ1 H1) (b : StpS M1 σ1 γ1 H1 M2 σ2 γ2 H2) : StpS M σ γ H M2 σ2 γ2 H2 where
  keep := fun c o e n => by
    have no1 : ¬ Own γ1 σ1 c := fun z => (a.own c z).elim n fun q => by rw [q] at e; cases e
    cases t : isTbl o with
    | false =>
      have e1 := (a.keep c o e n).1 t
      exact ⟨fun _ => (b.keep c o e1 no1).1 t, fun z => by cases z⟩
    | true =>
      obtain ⟨o1, e1, t1, _⟩ := (a.keep c o e n).2 t
      exact ⟨fun z => (by cases z), fun _ => (b.keep c o1 e1 no1).2 t1⟩
  own := fun c z => by
    rcases b.own c z with q | q
    · exact a.own c q
    · by_cases n : Own γ σ c
      · exact .inl n
      · exact .inr (a.keep.free q n)
  up := fun c m n => b.up c (a.up c m n) fun z => (a.own c z).elim n fun q => by
    obtain ⟨o, e⟩ := E.dom c m
    rw [q] at e
    cases e
  dn := fun c z => by
    rcases b.dn c z with q | q
    · exact a.dn c q
    · by_cases n : Own γ σ c
      · exact .inl (E.ownM n).1
      · exact .inr (a.keep.free q n)
theorem StpS.refl : StpS M σ γ H M σ γ H := ⟨Keep.refl _ _, fun _ z => .inl z, fun _ z _ => z, fun _ z => .inl z⟩
theorem Stp.s (S : Stp C pens M σ γ H γ1 H1) : StpS M σ γ H M σ γ1 H1 := ⟨S.keep, fun _ z => .inl (S.pat.symm.Own z), fun _ z _ => z, fun _ z => .inl z⟩
theorem StpS.fine (E : EnvRep C pens M γ σ H) (S : StpS M σ γ H M1 σ1 γ1 H1) : Fine M M1 H H1 := ⟨fun a o e n t => (S.keep a o e fun z => n (E.ownM z).1).1 t, fun a o e z => (S.dn a z).elim id fun q => by rw [q] at e; cases e⟩
theorem RVok.back (E : EnvRep C pens M γ σ H) (S : StpS M σ γ H M1 σ1 γ1 H1) {v : V} : ∀ {r : RV}, RVok C M2 σ1 γ1 H1 σ2 γ2 H2 v r → RVok C M2 σ γ H σ2 γ2 H2 v r
  | .val _, h => h
  | .own _, ⟨a, e, m, r, n, k⟩ => ⟨a, e, m, r, n, by
    rcases k with q | q
    · by_cases o : Own γ σ a
      · exact .inr o
      · exact .inl (S.keep.free q o)
    · exact (S.own a q).elim .inr .inl⟩
theorem aftS_go {r : R Fl} {D : Ends} (E : EnvRep C pens M γ σ H) (S : StpS M σ γ H M1 σ1 γ1 H1) (h : aftS C W pens M σ γ H r D) : aftS C W pens M1 σ1 γ1 H1 r D := by
  cases r with
  | st => exact h
  | ex e g => exact fun cls d M' σ' H' E' S' re => h cls d M' σ' H' E' (S.trans E S') re
  | ok f g => cases f with
    | nx => exact fun M' σ' H' E' S' => h M' σ' H' E' (S.trans E S')
    | brk => exact fun M' σ' H' E' S' => h M' σ' H' E' (S.trans E S')
    | ct => exact fun M' σ' H' E' S' => h M' σ' H' E' (S.trans E S')
    | ret rv => exact fun v M' σ' H' E' S' k => h v M' σ' H' E' (S.trans E S') (k.back E S)

/-! ### the slots stored -/
theorem Own.set (i : Nat) (x : Option V) (sv : SV) (hsv : ∀ t o, sv ≠ .own t o) {a : Addr} (o : Own (γ.set i sv) (σ.set i x) a) : Own γ σ a := by
  obtain ⟨j, t, u, h1, h2⟩ := o
  by_cases hj : i = j
  · subst hj
    have hl : i < γ.length := by
      have := (List.getElem?_eq_some_iff.mp h1).1
      simpa using this
    rw [List.getElem?_set_self hl] at h1
    exact absurd (Option.some.inj h1) (hsv t u)
  · rw [List.getElem?_set_ne hj] at h1 h2
    exact ⟨j, t, u, h1, h2⟩
theorem Own.setN (i : Nat) (b : Addr) (t0 : Option Nat) (o0 : MO) {a : Addr} (o : Own (γ.set i (.own t0 o0)) (σ.set i (some (.ref b))) a) : Own γ σ a ∨ a = b := by
  obtain ⟨j, t, u, h1, h2⟩ := o
  by_cases hj : i = j
  · subst hj
    have hl : i < σ.length := by
      have := (List.getElem?_eq_some_iff.mp h2).1
      simpa using this
    rw [List.getElem?_set_self hl] at h2
    cases h2
    exact .inr rfl
  · rw [List.getElem?_set_ne hj] at h1 h2
    exact .inl ⟨j, t, u, h1, h2⟩
/-- a slot that is not an own one stored -/
theorem EnvRep.set {i : Nat} {x : Option V} {sv : SV} (E : EnvRep C pens M γ σ H) (hs : SlotOk C pens M H x sv) (hsv : ∀ t o, sv ≠ .own t o) : EnvRep C pens M (γ.set i sv) (σ.set i x) H where
  len := by rw [List.length_set, List.length_set, E.len]
  ok := fun j sv' x' h1 h2 => by
    by_cases hj : i = j
    · subst hj
      have hl : i < γ.length := by
        have := (List.getElem?_eq_some_iff.mp h1).1
        simpa using this
      rw [List.getElem?_set_self hl] at h1
      rw [List.getElem?_set_self (by rw [E.len]; exact hl)] at h2
      cases h1
      cases h2
      exact hs
    · rw [List.getElem?_set_ne hj] at h1 h2
      exact E.ok j sv' x' h1 h2
  inj := fun j k t o t' o' a h1 h2 h3 h4 => by
    have f : ∀ {l : Nat} {t : Option Nat} {o : MO}, (γ.set i sv)[l]? = some (.own t o) → i ≠ l := fun {l t o} h e => by
      subst e
      have hl : i < γ.length := by
        have := (List.getElem?_eq_some_iff.mp h).1
        simpa using this
      rw [List.getElem?_set_self hl] at h
      exact hsv t o (Option.some.inj h)
    have hj := f h1
    have hk := f h2
    rw [List.getElem?_set_ne hj] at h1 h3
    rw [List.getElem?_set_ne hk] at h2 h4
    exact E.inj j k t o t' o' a h1 h2 h3 h4
  dom := E.dom
  tab := E.tab
theorem EnvRep.setN {i : Nat} {b : Addr} {o0 : MO} (E : EnvRep C pens M γ σ H) (hb : M b) (hr : ORep C M H b o0) (nb : ¬ Own γ σ b) : EnvRep C pens M (γ.set i (.own none o0)) (σ.set i (some (.ref b))) H where
  len := by rw [List.length_set, List.length_set, E.len]
  ok := fun j sv' x' h1 h2 => by
    by_cases hj : i = j
    · subst hj
      have hl : i < γ.length := by
        have := (List.getElem?_eq_some_iff.mp h1).1
        simpa using this
      rw [List.getElem?_set_self hl] at h1
      rw [List.getElem?_set_self (by rw [E.len]; exact hl)] at h2
      cases h1
      cases h2
      exact ⟨b, rfl, hb, hr, fun k z => by cases z⟩
    · rw [List.getElem?_set_ne hj] at h1 h2
      exact E.ok j sv' x' h1 h2
  inj := fun j k t o t' o' a h1 h2 h3 h4 => by
    by_cases hj : i = j
    · subst hj
      have hl : i < σ.length := by
        have := (List.getElem?_eq_some_iff.mp h3).1
        simpa using this
      rw [List.getElem?_set_self hl] at h3
      cases h3
      by_cases hk : i = k
      · exact hk
      · rw [List.getElem?_set_ne hk] at h2 h4
        exact absurd ⟨k, t', o', h2, h4⟩ nb
    · rw [List.getElem?_set_ne hj] at h1 h3
      by_cases hk : i = k
      · subst hk
        have hl : i < σ.length := by
          have := (List.getElem?_eq_some_iff.mp h4).1
          simpa using this
        rw [List.getElem?_set_self hl] at h4
        cases h4
        exact absurd ⟨j, t, o, h1, h3⟩ nb
      · rw [List.getElem?_set_ne hk] at h2 h4
        exact E.inj j k t o t' o' a h1 h2 h3 h4
  dom := E.dom
  tab := E.tab
/-- a slot forgotten (its thing handed out) -/
theorem EnvRep.drop {i : Nat} (E : EnvRep C pens M γ σ H) : EnvRep C pens M (γ.set i .none) σ H where
  len := by rw [List.length_set, E.len]
  ok := fun j sv' x' h1 h2 => by
    by_cases hj : i = j
    · subst hj
      have hl : i < γ.length := by
        have := (List.getElem?_eq_some_iff.mp h1).1
        simpa using this
      rw [List.getElem?_set_self hl] at h1
      cases h1
      trivial
    · rw [List.getElem?_set_ne hj] at h1
      exact E.ok j sv' x' h1 h2
  inj := fun j k t o t' o' a h1 h2 h3 h4 => by
    have f : ∀ {l : Nat} {t : Option Nat} {o : MO}, (γ.set i .none)[l]? = some (.own t o) → i ≠ l := fun {l t o} h e => by
      subst e
      have hl : i < γ.length := by
        have := (List.getElem?_eq_some_iff.mp h).1
        simpa using this
      rw [List.getElem?_set_self hl] at h
      cases h
    have hj := f h1
    have hk := f h2
    rw [List.getElem?_set_ne hj] at h1
    rw [List.getElem?_set_ne hk] at h2
    exact E.inj j k t o t' o' a h1 h2 h3 h4
  dom := E.dom
  tab := E.tab
theorem Own.drop {i : Nat} {a : Addr} (o : Own (γ.set i .none) σ a) : Own γ σ a := by
  obtain ⟨j, t, u, h1, h2⟩ := o
  by_cases hj : i = j
  · subst hj
    have hl : i < γ.length := by
      have := (List.getElem?_eq_some_iff.mp h1).1
      simpa using this
    rw [List.getElem?_set_self hl] at h1
    cases h1
  · rw [List.getElem?_set_ne hj] at h1
    exact ⟨j, t, u, h1, h2⟩
end

section
variable {C : Ct} {W : WX} {X : Cx} {m p m1 p1 m2 p2 m3 p3 : Bool} {a b c e' e : Expr} {fa fb fc : F D} {fn : F MO} {gc : F Bool} {s t : F Fl} {pos : Pos} {st : Stmt} {rest : List Stmt} {i : Nat}
theorem fss_nil : FSs C W X [] sNil := PSs.imp pss_nil fun D σ H ⟨pens, M, γ, E, h⟩ => h M σ H E StpS.refl
theorem fss_cons (h1 : FS C W X st s) (h2 : FSs C W X rest t) : FSs C W X (st :: rest) (sSeq s t) := PSs.imp (pss_cons h1 h2) fun D σ H ⟨pens, M, γ, E, h⟩ => by
  refine ⟨pens, M, γ, E, ?_⟩
  unfold sSeq at h
  cases ea : s γ with
  | st => rw [bind_st ea] at h; exact h
  | ex x g => rw [bind_ex ea] at h; exact h
  | ok f g =>
    rw [bind_ok ea] at h
    cases f with
    | nx => exact fun M' σ' H' E' S' => ⟨pens, M', g, E', aftS_go E S' h⟩
    | brk => exact h
    | ct => exact h
    | ret r => exact h
theorem fss_one (h1 : FS C W X st s) : FSs C W X [st] s := PSs.imp (pss_one h1) fun D σ H h => h
theorem fss_freeze (h : FSs C W X rest s) : FSs C W X rest (sFrz i s) := PSs.imp h fun D σ H ⟨pens, M, γ, E, h⟩ => by
  unfold sFrz frz at h
  cases q : γ[i]? with
  | none => rw [q] at h; exact ⟨pens, M, γ, E, h⟩
  | some sv =>
    rw [q] at h
    cases sv with
    | own tg o =>
      cases tg with
      | some k => exact ⟨pens, M, γ, E, h⟩
      | none =>
        simp only at h
        obtain ⟨x, h1, a, h2, ma, ra, _⟩ := E.slot q
        subst h2
        have hil : i < γ.length := (List.getElem?_eq_some_iff.mp q).1
        -- the others do not know a
        have E2 : EnvRep C pens (fun b => M b ∧ b ≠ a) (γ.set i (.val o.d)) σ H := by
          have E1 : EnvRep C pens (fun b => M b ∧ b ≠ a) (γ.set i .none) σ H := E.drop.weak (fun _ z => z.1) fun b ob => ⟨(E.ownM (Own.drop ob)).1, fun e => by
            subst e
            obtain ⟨j, t', o', k1, k2⟩ := ob
            by_cases hj : i = j
            · subst hj
              rw [List.getElem?_set_self hil] at k1
              cases k1
            · rw [List.getElem?_set_ne hj] at k1
              exact hj (E.inj i j _ _ _ _ b q k1 h1 k2)⟩
          have sv : SlotOk C pens (fun b => M b ∧ b ≠ a) H (some (.ref a)) (.val o.d) := by
            refine ⟨.ref a, rfl, ?_⟩
            have fw : Fine M (fun b => M b ∧ b ≠ a) H H := Fine.weak fun _ _ _ z => z.1
            cases o with
            | lst xs => obtain ⟨vs, e1, e2⟩ := ra; exact .lst e1 (fun z => z.2 rfl) (e2.fine fw)
            | ins c fs => obtain ⟨dx, vs, e1, e2⟩ := ra; exact .ins e1 (fun z => z.2 rfl) (e2.fine fw)
          have E3 := E1.set (i := i) sv (fun _ _ z => by cases z)
          rw [List.set_set] at E3
          have es : σ.set i (some (.ref a)) = σ := by
            apply List.ext_getElem?
            intro j
            by_cases hj : i = j
            · subst hj
              rw [List.getElem?_set_self (by rw [E.len]; exact hil), h1]
            · rw [List.getElem?_set_ne hj]
          rw [es] at E3
          exact E3
        refine ⟨pens, _, _, E2, aftS_go E (M1 := fun b => M b ∧ b ≠ a) ⟨Keep.refl _ _, fun b ob => .inl ?_, fun b mb nb => ⟨mb, fun e => nb (by rw [e]; exact ⟨i, none, o, q, h1⟩)⟩, fun b z => .inl z.1⟩ h⟩
        obtain ⟨j, t', o', k1, k2⟩ := ob
        by_cases hj : i = j
        · subst hj
          rw [List.getElem?_set_self hil] at k1
          cases k1
        · rw [List.getElem?_set_ne hj] at k1
          exact ⟨j, t', o', k1, k2⟩
    | none => exact ⟨pens, M, γ, E, h⟩
    | val _ => exact ⟨pens, M, γ, E, h⟩
    | view _ => exact ⟨pens, M, γ, E, h⟩
theorem fs_expr (h : FX C W m p X e fa) (hs : swapsWith e none pos.line X.env = pure false := by rfl) : FS C W X (.Expr e pos) (sExpr fa) := PS.imp (ps_expr h hs) fun D σ H ⟨pens, M, γ, E, h⟩ => by
  refine ⟨pens, M, γ, E, ?_⟩
  unfold sExpr at h
  cases ea : fa γ with
  | st => rw [bind_st ea] at h; exact h
  | ex x g => rw [bind_ex ea] at h; exact fun cls d H' S re => h cls d M σ H' S.env S.s re
  | ok d g => rw [bind_ok ea] at h; exact fun v H' S P r => h M σ H' S.env S.s
theorem fs_ret (h : FX C W true p X e fa) : FS C W X (.Return (some e) pos) (sRet fa) := PS.imp (ps_ret h) fun D σ H ⟨pens, M, γ, E, h⟩ => by
  refine ⟨pens, M, γ, E, ?_⟩
  unfold sRet at h
  cases ea : fa γ with
  | st => rw [bind_st ea] at h; exact h
  | ex x g => rw [bind_ex ea] at h; exact fun cls d H' S re => h cls d M σ H' S.env S.s re
  | ok d g => rw [bind_ok ea] at h; exact fun v H' S P r => h v M σ H' S.env S.s r
theorem fs_retN : FS C W X (.Return none pos) sRetN := PS.imp ps_retN fun D σ H ⟨pens, M, γ, E, h⟩ => h .non M σ H E StpS.refl .non
theorem fs_pass : FS C W X (.Pass pos) sNil := PS.imp ps_pass fun D σ H ⟨pens, M, γ, E, h⟩ => h M σ H E StpS.refl
theorem fs_doc {x j pos'} : FS C W X (.Expr (.Constant (.str x) j pos) pos') sNil := PS.imp ps_doc fun D σ H ⟨pens, M, γ, E, h⟩ => h M σ H E StpS.refl
def sBrk : F Fl := fun γ => .ok .brk γ
def sCt : F Fl := fun γ => .ok .ct γ
def sSt : F Fl := fun _ => .st
theorem fs_break : FS C W X (.Break pos) sBrk := PS.imp ps_break fun D σ H ⟨pens, M, γ, E, h⟩ => h M σ H E StpS.refl
theorem fs_continue : FS C W X (.Continue pos) sCt := PS.imp ps_continue fun D σ H ⟨pens, M, γ, E, h⟩ => h M σ H E StpS.refl
/-- code that is not walked -/
theorem fs_st : FS C W X st sSt := PS.imp ps_never fun D σ H ⟨pens, M, γ, E, h⟩ => h
theorem fss_st : FSs C W X rest sSt := PSs.imp pss_never fun D σ H ⟨pens, M, γ, E, h⟩ => h
/-- a new thing's address behind its making -/
theorem newS {pens : Nat → Addr} {M : Addr → Prop} {σ : L2.St} {γ γ' : Gm} {H H' : Hp} {q : Addr} (E : EnvRep C pens M γ σ H) (hq : H q = none) (k : Keep (Own γ σ) H H') (pt : Pat γ γ') : StpS M σ γ H (adj M q) σ γ' H' :=
  ⟨k, fun _ z => .inl (pt.symm.Own z), fun _ z _ => .inl z, fun b z => z.elim .inl fun e => .inr (by rw [e]; exact hq)⟩
theorem fs_retNew (h : FN C W p X e fn) : FS C W X (.Return (some e) pos) (sRetNew fn) := PS.imp (ps_ret h) fun D σ H ⟨pens, M, γ, E, h⟩ => by
  refine ⟨pens, M, γ, E, ?_⟩
  unfold sRetNew at h
  cases ea : fn γ with
  | st => rw [bind_st ea] at h; exact h
  | ex x g => rw [bind_ex ea] at h; exact fun cls d H' S re => h cls d M σ H' S.env S.s re
  | ok o g => rw [bind_ok ea] at h; exact fun q H' hq E' k pt P r => h (.ref q) (adj M q) σ H' E' (newS E hq k pt) ⟨q, rfl, .inr rfl, r, fun z => Own.tracked E hq (pt.symm.Own z), .inl hq⟩
theorem fs_retVar (h : PE X e (tVar i)) : FS C W X (.Return (some e) pos) (sRetVar i) := PS.imp (ps_ret h) fun D σ H ⟨pens, M, γ, E, h⟩ => by
  unfold sRetVar at h
  cases q : γ[i]? with
  | none => rw [q] at h; exact h.elim
  | some sv =>
    rw [q] at h
    obtain ⟨x, h1, h2⟩ := E.slot q
    cases sv with
    | val d =>
      obtain ⟨v, rfl, r⟩ := h2
      exact ⟨v, h1, h v M σ H E StpS.refl r⟩
    | own tg o =>
      cases tg with
      | some k => exact h.elim
      | none =>
        obtain ⟨a, rfl, ma, ra, _⟩ := h2
        refine ⟨.ref a, h1, h (.ref a) M σ H E.drop ⟨Keep.refl _ _, fun b z => .inl (Own.drop z), fun _ z _ => z, fun _ z => .inl z⟩ ⟨a, rfl, ma, ra, fun z => ?_, .inr ⟨i, none, o, q, h1⟩⟩⟩
        obtain ⟨j, t', o', k1, k2⟩ := z
        have hil : i < γ.length := (List.getElem?_eq_some_iff.mp q).1
        by_cases hj : i = j
        · subst hj
          rw [List.getElem?_set_self hil] at k1
          cases k1
        · rw [List.getElem?_set_ne hj] at k1
          exact hj (E.inj i j _ _ _ _ a q k1 h1 k2)
    | none => exact h.elim
    | view _ => exact h.elim
theorem setS {pens : Nat → Addr} {M : Addr → Prop} {σ : L2.St} {γ : Gm} {H : Hp} {x : Option V} {sv : SV} (hsv : ∀ t o, sv ≠ .own t o) : StpS M σ γ H M (σ.set i x) (γ.set i sv) H :=
  ⟨Keep.refl _ _, fun _ z => .inl (Own.set i x sv hsv z), fun _ z _ => z, fun _ z => .inl z⟩
theorem fs_set {x : Str} {pos' : Pos} (hN : X.N.Nodup) (hi : X.N[i]? = some x) (hx : Loc X.env.scope x) (h : FX C W true p X e fa) (hs : swapsWith e (some (.Name x pos')) pos.line X.env = pure false := by rfl) (hf : X.fn x = true ∨ X.env.scope.names.lookup x = some .local := by first | exact .inl rfl | exact .inr rfl | assumption) :
    FS C W X (.Assign [.Name x pos'] e pos) (sSet i fa) := PS.imp (ps_set hN hi hx h hs hf) fun D σ H ⟨pens, M, γ, E, h⟩ => by
  refine ⟨pens, M, γ, E, ?_⟩
  unfold sSet at h
  cases ea : fa γ with
  | st => rw [bind_st ea] at h; exact h
  | ex x g => rw [bind_ex ea] at h; exact fun cls d H' S re => h cls d M σ H' S.env S.s re
  | ok d g =>
    rw [bind_ok ea] at h
    exact fun v H' S P r => h M _ H' (S.env.set ⟨v, rfl, r⟩ (fun _ _ z => by cases z)) (S.s.trans E (setS (pens := pens) (fun _ _ z => by cases z)))
theorem fs_setNew {x : Str} {pos' : Pos} (hN : X.N.Nodup) (hi : X.N[i]? = some x) (hx : Loc X.env.scope x) (h : FN C W p X e fn) (hs : swapsWith e (some (.Name x pos')) pos.line X.env = pure false := by rfl) (hf : X.fn x = true ∨ X.env.scope.names.lookup x = some .local := by first | exact .inl rfl | exact .inr rfl | assumption) :
    FS C W X (.Assign [.Name x pos'] e pos) (sSetNew i fn) := PS.imp (ps_set hN hi hx h hs hf) fun D σ H ⟨pens, M, γ, E, h⟩ => by
  refine ⟨pens, M, γ, E, ?_⟩
  unfold sSetNew at h
  cases ea : fn γ with
  | st => rw [bind_st ea] at h; exact h
  | ex x g => rw [bind_ex ea] at h; exact fun cls d H' S re => h cls d M σ H' S.env S.s re
  | ok o g =>
    rw [bind_ok ea] at h
    intro q H' hq E' k pt P r
    refine h (adj M q) _ H' (E'.setN (.inr rfl) r fun z => Own.tracked E hq (pt.symm.Own z)) ⟨k, fun b z => ?_, fun _ z _ => .inl z, fun b z => z.elim .inl fun e => .inr (by rw [e]; exact hq)⟩
    rcases Own.setN i q none o z with w | w
    · exact .inl (pt.symm.Own w)
    · exact .inr (by rw [w]; exact hq)
theorem fs_if {l1 l2 : List Stmt} (hc : FT C W p X c gc) (ha : FSs C W X l1 s) (hb : FSs C W X l2 t) : FS C W X (.If c l1 l2 pos) (sIf gc s t) := PS.imp (ps_if hc ha hb) fun D σ H ⟨pens, M, γ, E, h⟩ => by
  refine ⟨pens, M, γ, E, ?_⟩
  unfold sIf at h
  cases ea : gc γ with
  | st => rw [bind_st ea] at h; exact h
  | ex x g => rw [bind_ex ea] at h; exact fun cls d H' S re => h cls d M σ H' S.env S.s re
  | ok k g =>
    rw [bind_ok ea] at h
    intro H' S P
    cases k with
    | true => rw [if_pos rfl]; exact ⟨pens, M, g, S.env, aftS_go E S.s (by simpa using h)⟩
    | false => rw [if_neg Bool.false_ne_true]; exact ⟨pens, M, g, S.env, aftS_go E S.s (by simpa using h)⟩
end
end FC

namespace FC
open PySem PySem.Spec PyProof.Rows L2

/-! ### targets -/
abbrev GD := D → Gm → Option Gm
abbrev GDs := List D → Gm → Option Gm
def tG (C : Ct) (ws : List Nat) (g : GD) : TG := fun v σ H Q => ∃ pens M γ d γ', EnvRep C pens M γ σ H ∧ Rep C M H v d ∧ g d γ = some γ' ∧ ∀ σ', EnvRep C pens M γ' σ' H → StpS M σ γ H M σ' γ' H → σ'.length = σ.length → (∀ j, j ∉ ws → σ'[j]? = σ[j]? ∧ γ'[j]? = γ[j]?) → Q σ' H
def tGs (C : Ct) (ws : List Nat) (g : GDs) : TGs := fun vs σ H Q => ∃ pens M γ ds γ', EnvRep C pens M γ σ H ∧ RepL C M H vs ds ∧ g ds γ = some γ' ∧ ∀ σ', EnvRep C pens M γ' σ' H → StpS M σ γ H M σ' γ' H → σ'.length = σ.length → (∀ j, j ∉ ws → σ'[j]? = σ[j]? ∧ γ'[j]? = γ[j]?) → Q σ' H
def FG (C : Ct) (X : Cx) (tg : Expr) (ws : List Nat) (g : GD) : Prop := PG X tg (tG C ws g)
def FGs (C : Ct) (X : Cx) (tg : List Expr) (ws : List Nat) (g : GDs) : Prop := PGs X tg (tGs C ws g)
theorem PG.imp {X : Cx} {e : Expr} {t t' : TG} (h : PG X e t) (k : ∀ v σ H Q, t' v σ H Q → t v σ H Q) : PG X e t' := ⟨fun pins s σ H v u Q I r q => h.run pins s σ H v u Q I r (k v σ H Q q)⟩
theorem PGs.imp {X : Cx} {e : List Expr} {t t' : TGs} (h : PGs X e t) (k : ∀ v σ H Q, t' v σ H Q → t v σ H Q) : PGs X e t' := ⟨fun pins s σ H v u Q I r q => h.run pins s σ H v u Q I r (k v σ H Q q)⟩
def gNm (i : Nat) : GD := fun d γ => some (γ.set i (.val d))
def gsNil : GDs := fun ds γ => match ds with | [] => some γ | _ => none
def gsCons (g : GD) (gs : GDs) : GDs := fun ds γ => match ds with | d :: ds => (g d γ).bind (gs ds) | [] => none
def gTupD (n : Nat) (gs : GDs) : GD := fun d γ => match d with | .tup ds => if ds.length = n then gs ds γ else none | _ => none
section
variable {C : Ct} {W : WX} {X : Cx} {m p m1 p1 m2 p2 m3 p3 : Bool} {a b c e' e : Expr} {fa fb fc : F D} {fn : F MO} {gc : F Bool} {s t : F Fl} {pos : Pos} {st : Stmt} {rest : List Stmt} {i : Nat}
theorem set_out {σ : L2.St} {γ : Gm} {i : Nat} {x : Option V} {sv : SV} : ∀ j, j ∉ [i] → (σ.set i x)[j]? = σ[j]? ∧ (γ.set i sv)[j]? = γ[j]? := fun j hj => by
  have ne : i ≠ j := fun z => hj (by simp [z])
  exact ⟨List.getElem?_set_ne ne, List.getElem?_set_ne ne⟩
theorem fg_name {x : Str} (hN : X.N.Nodup) (hi : X.N[i]? = some x) (hx : Loc X.env.scope x) (hf : X.fn x = true ∨ X.env.scope.names.lookup x = some .local := by first | exact .inl rfl | exact .inr rfl | assumption) : FG C X (.Name x pos) [i] (gNm i) :=
  PG.imp (pg_name hN hi hx hf) fun v σ H Q ⟨pens, M, γ, d, γ', E, r, eg, k⟩ => by
    cases eg
    exact k _ (E.set ⟨v, rfl, r⟩ (fun _ _ z => by cases z)) (setS (pens := pens) (sv := .val d) (fun _ _ z => by cases z)) (List.length_set ..) set_out
theorem fgs_nil : FGs C X [] [] gsNil := PGs.imp pgs_nil fun vs σ H Q ⟨pens, M, γ, ds, γ', E, r, eg, k⟩ => by
  cases r with
  | nil => cases eg; exact ⟨rfl, k σ E StpS.refl rfl fun _ _ => ⟨rfl, rfl⟩⟩
  | cons _ _ => cases eg
theorem fgs_cons {es : List Expr} {ws vs : List Nat} {g : GD} {gs : GDs} (h1 : FG C X e ws g) (h2 : FGs C X es vs gs) (hs : (assignEach (e :: es) X.env).map (·.2) = assign e X.env :: (assignEach es X.env).map (·.2) := by rfl) : FGs C X (e :: es) (ws ++ vs) (gsCons g gs) :=
  PGs.imp (pgs_cons h1 h2 hs) fun us σ H Q ⟨pens, M, γ, ds, γ', E, r, eg, k⟩ => by
    cases r with
    | nil => cases eg
    | @cons v vr d dr r rr =>
      simp only [gsCons] at eg
      cases e1 : g d γ with
      | none => rw [e1] at eg; cases eg
      | some γ1 =>
        rw [e1] at eg
        refine ⟨v, vr, rfl, pens, M, γ, d, γ1, E, r, e1, fun σ1 E1 S1 l1 o1 => ⟨pens, M, γ1, dr, γ', E1, rr, eg, fun σ2 E2 S2 l2 o2 => k σ2 E2 (S1.trans E S2) (l2.trans l1) fun j hj => ?_⟩⟩
        have a1 := o1 j fun z => hj (List.mem_append_left _ z)
        have a2 := o2 j fun z => hj (List.mem_append_right _ z)
        exact ⟨a2.1.trans a1.1, a2.2.trans a1.2⟩
theorem fg_tup {es : List Expr} {kk : Nat} {ws : List Nat} {gs : GDs} {n : Nat} (hc : X.calm = true) (h : FGs C X es ws gs) (hn : (assignEach es X.env).length = n := by rfl) (hst : (assignEach es X.env).findIdx? (·.1) = none := by rfl) : FG C X (.Tuple es kk pos) ws (gTupD n gs) :=
  PG.imp (pg_tup hc h hn hst) fun v σ H Q ⟨pens, M, γ, d, γ', E, r, eg, k⟩ => by
    cases d with
    | tup ds =>
      simp only [gTupD] at eg
      split at eg
      · rename_i hl
        obtain ⟨a, vs, e1, e2, _, e3⟩ := (SRep.rep r).tupH
        exact ⟨a, vs, e1, .inl (.inl e2), by rw [e3.length, hl], pens, M, γ, ds, γ', E, e3, eg, k⟩
      · cases eg
    | _ => cases eg

/-! ### what is walked -/
def ItOk (C : Ct) (J : It) (xs : List D) (M : Addr → Prop) (H : Hp) : Prop := ∀ M' H', Fine M M' H H' → (∀ a, M' a → ∃ o, H' a = some o) → (∀ i d, xs[i]? = some d → J.go i H' ∧ ∀ x H'', J.yld i H' x H'' → Keep0 H' H'' ∧ Rep C M' H'' x d) ∧ ∀ i, xs.length ≤ i → J.stop i H'
def aftI (C : Ct) (W : WX) (pens : Nat → Addr) (M : Addr → Prop) (σ : L2.St) (γ : Gm) (H : Hp) (p : Bool) (r : R (List D)) (Q : It → Hp → Prop) : Prop := match r with
  | .ok xs γ' => ∀ J H', Stp C pens M σ γ H γ' H' → (p = true → γ' = γ ∧ Keep0 H H') → ItOk C J xs M H' → Q J H'
  | .ex e γ' => ∀ cls d H', Stp C pens M σ γ H γ' H' → ExRep C M e cls d H' → W cls d σ H'
  | .st => False
def tFI (C : Ct) (W : WX) (p : Bool) (f : F (List D)) : TI := fun σ H Q => ∃ pens M γ, EnvRep C pens M γ σ H ∧ aftI C W pens M σ γ H p (f γ) Q
def FI (C : Ct) (W : WX) (p : Bool) (X : Cx) (tg e : Expr) (f : F (List D)) : Prop := PI X tg e (tFI C W p f)
theorem PI.imp {X : Cx} {tg e : Expr} {t t' : TI} (h : PI X tg e t) (k : ∀ σ H Q, t' σ H Q → t σ H Q) : PI X tg e t' := ⟨fun pins s σ H Q I q => h.run pins s σ H Q I (k σ H Q q)⟩
theorem itl_ok {K : PySem.W.Frag} {M : Addr → Prop} {H : Hp} {a : Addr} {vs : List V} {ds : List D} (ha : H a = some (.lst vs)) (na : ¬ M a) (r : RepL C M H vs ds) : ItOk C (Itl K a) ds M H := fun M' H' fn hd => by
  have h' : SqL K H' a vs := .inl (.inl (fn.at_ _ _ ha na rfl))
  refine ⟨fun i d e => ?_, fun i hi => ⟨vs, h', by rw [r.length]; exact hi⟩⟩
  obtain ⟨v, e1, e2⟩ := (r.fine fn).get e
  refine ⟨⟨vs, v, h', e1⟩, fun x H'' y => ?_⟩
  obtain ⟨y1, y2⟩ := y
  subst y1
  have z := y2 vs h'
  rw [e1] at z
  cases z
  exact ⟨Keep.refl _ _, e2⟩
theorem itt_ok {K : PySem.W.Frag} {M : Addr → Prop} {H : Hp} {a : Addr} {vs : List V} {ds : List D} (ha : H a = some (.tup vs)) (na : ¬ M a) (r : RepL C M H vs ds) : ItOk C (Itt K a) ds M H := fun M' H' fn hd => by
  have h' : SqT K H' a vs := .inl (.inl (fn.at_ _ _ ha na rfl))
  refine ⟨fun i d e => ?_, fun i hi => ⟨vs, h', by rw [r.length]; exact hi⟩⟩
  obtain ⟨v, e1, e2⟩ := (r.fine fn).get e
  refine ⟨⟨vs, v, h', e1⟩, fun x H'' y => ?_⟩
  obtain ⟨y1, y2⟩ := y
  subst y1
  have z := y2 vs h'
  rw [e1] at z
  cases z
  exact ⟨Keep.refl _ _, e2⟩
/-- a list, or a tuple -/
def iSeq (K : PySem.W.Frag) (tl : TE) : TI := fun σ H R => tl σ H fun x H1 => ∃ a, x = .ref a ∧ (((∃ xs, SqL K H1 a xs) ∧ R (Itl K a) H1) ∨ ((∃ xs, SqT K H1 a xs) ∧ R (Itt K a) H1))
theorem pi_seq {tg l : Expr} {tl : TE} (hl : PE X l tl) : PI X tg l (iSeq X.K tl) := by
  refine ⟨fun pins s σ H R I h => ?_⟩
  refine thn (hl.run pins s σ H _ I h) fun v s1 ⟨x, H1, I1, r1, q1⟩ => ?_
  obtain ⟨a, e, ⟨⟨xs, hq⟩, q⟩ | ⟨⟨xs, hq⟩, q⟩⟩ := q1
  · subst e
    cases r1
    obtain ⟨its, rv, p, hz⟩ := I1.list hq
    refine wpAny_pyIter_list p.isList ?_
    refine ⟨s1.heap.objs.size, [s1.heap.objs.size], _, _, H1, rfl, I1.kept (t' := s1.toks) fun b o e => Heap.get?_push_of_some _ e, turn_list a _, ⟨_, Heap.get?_push_size _ rfl, rfl, rfl⟩, fun b hb => ?_, q⟩
    have e : b = s1.heap.objs.size := by simpa using hb
    subst e
    exact I1.fpOk (Nat.le_refl _) (I1.hok.fresh (Nat.le_refl _))
  · subst e
    cases r1
    obtain ⟨its, rv, p, hz⟩ := I1.tuple hq
    refine wpAny_pyIter_tuple (show s1.heap.IsTuple a its.toArray from p) ?_
    refine ⟨s1.heap.objs.size, [s1.heap.objs.size], _, _, H1, rfl, I1.kept (t' := s1.toks) fun b o e => Heap.get?_push_of_some _ e, turn_tuple a _, ⟨_, Heap.get?_push_size _ rfl, rfl, rfl⟩, fun b hb => ?_, q⟩
    have e : b = s1.heap.objs.size := by simpa using hb
    subst e
    exact I1.fpOk (Nat.le_refl _) (I1.hok.fresh (Nat.le_refl _))
def iSeqF (fa : F D) : F (List D) := f1 dItems fa
theorem fi_seq {tg : Expr} (ha : FX C W true p X a fa) : FI C W p X tg a (iSeqF fa) := PI.imp (pi_seq ha) fun σ H Q ⟨pens, M, γ, E, h⟩ => by
  refine ⟨pens, M, γ, E, ?_⟩
  unfold iSeqF f1 at h
  cases ea : fa γ with
  | st => rw [bind_st ea] at h; exact h
  | ex x g => rw [bind_ex ea] at h; exact h
  | ok d g =>
    rw [bind_ok ea] at h
    intro v H1 S1 P1 r1
    have r1 : Rep C M H1 v d := r1
    cases d with
    | lst ds =>
      cases r1 with
      | @lst a vs _ e1 n1 r1 => exact ⟨a, rfl, .inl ⟨⟨vs, .inl (.inl e1)⟩, h _ _ S1 P1 (itl_ok e1 n1 r1)⟩⟩
    | tup ds =>
      cases r1 with
      | @tup a vs _ e1 n1 r1 => exact ⟨a, rfl, .inr ⟨⟨vs, .inl (.inl e1)⟩, h _ _ S1 P1 (itt_ok e1 n1 r1)⟩⟩
    | _ => exact h.elim
/-- arguments, then the thing that is walked -/
def iArgs (g : List D → Option (List D)) (fr : F (List AV)) : F (List D) := F.bind fr fun as => F.bind (liftO (allD as)) fun ds => liftO (g ds)
theorem fi_args {tg iter : Expr} {es : List Expr} {fr : F (List AV)} {g : List D → Option (List D)} {r : List V → Hp → (It → Hp → Prop) → Prop} (mk : ∀ ta, PA X es ta → PI X tg iter (fun σ H R => ta σ H fun vs H1 => r vs H1 R)) (hr : FA C W p X es fr)
    (hg : ∀ M H vs ds xs Q, RepL C M H vs ds → g ds = some xs → (∀ J, ItOk C J xs M H → Q J H) → r vs H Q) : FI C W p X tg iter (iArgs g fr) := PI.imp (mk _ hr) fun σ H Q ⟨pens, M, γ, E, h⟩ => by
  refine ⟨pens, M, γ, E, ?_⟩
  unfold iArgs at h
  cases ea : fr γ with
  | st => rw [bind_st ea] at h; exact h
  | ex x g => rw [bind_ex ea] at h; exact aftA_ex E h
  | ok as g1 =>
    rw [bind_ok ea] at h
    cases eb : allD as with
    | none => rw [bind_st (liftO_none eb _)] at h; exact h.elim
    | some ds =>
      rw [bind_ok (liftO_some eb _)] at h
      refine aftA_all E eb fun vs H' S P r => ?_
      cases ec : g ds with
      | none => rw [liftO_none ec] at h; exact h.elim
      | some xs =>
        rw [liftO_some ec] at h
        exact hg M H' vs ds xs Q r ec fun J ok => h J H' S P ok
def rngL (lo c : Int) (n : Nat) : List D := (List.range n).map fun k => D.int (lo + (k : Nat) * c)
theorem rngL_get {lo c : Int} {n i : Nat} {d : D} (e : (rngL lo c n)[i]? = some d) : i < n ∧ d = .int (lo + (i : Nat) * c) := by
  unfold rngL at e
  rw [List.getElem?_map] at e
  by_cases h : i < n
  · rw [List.getElem?_range h] at e
    exact ⟨h, (Option.some.inj e).symm⟩
  · rw [List.getElem?_eq_none (by simpa using h)] at e
    cases e
theorem itr_ok {M : Addr → Prop} {H : Hp} {lo : Int} {n : Nat} : ItOk C (Itr lo n) (rngL lo 1 n) M H := fun M' H' fn hd => by
  refine ⟨fun i d e => ?_, fun i hi => show n ≤ i by simpa [rngL] using hi⟩
  obtain ⟨h1, h2⟩ := rngL_get e
  refine ⟨h1, fun x H'' y => ?_⟩
  obtain ⟨y1, y2⟩ := y
  subst y1 y2 h2
  rw [Int.mul_one]
  exact ⟨Keep.refl _ _, .int _⟩
theorem itc_ok {M : Addr → Prop} {H : Hp} {lo c : Int} {n : Nat} : ItOk C (Itc lo c n) (rngL lo c n) M H := fun M' H' fn hd => by
  refine ⟨fun i d e => ?_, fun i hi => show n ≤ i by simpa [rngL] using hi⟩
  obtain ⟨h1, h2⟩ := rngL_get e
  refine ⟨h1, fun x H'' y => ?_⟩
  obtain ⟨y1, y2⟩ := y
  subst y1 y2 h2
  exact ⟨Keep.refl _ _, .int _⟩
def dRng1 : List D → Option (List D) | [.int j] => if -(2 ^ 62) ≤ j ∧ j < 2 ^ 62 then some (rngL 0 1 j.toNat) else none | _ => none
def dRng2 : List D → Option (List D) | [.int i, .int j] => if -(2 ^ 62) ≤ i ∧ i < 2 ^ 62 ∧ -(2 ^ 62) ≤ j ∧ j < 2 ^ 62 then some (rngL i 1 (j - i).toNat) else none | _ => none
def dRng3 : List D → Option (List D) | [.int i, .int j, .int c] => if c = -1 ∧ -(2 ^ 62) ≤ i ∧ i < 2 ^ 62 ∧ -(2 ^ 62) ≤ j ∧ j < 2 ^ 62 then some (rngL i (-1) (i - j).toNat) else none | _ => none
theorem fi_rng1 {tg : Expr} {fr : F (List AV)} {pn : Pos} (hg : Gl X "range") (hm : X.mg "range" = none) (ha : FA C W p X [a] fr) (hs : starEach [a] X.env = [(false, eval a X.env)] := by rfl) : FI C W p X tg (.Call (.Name "range" pn) [a] [] pos) (iArgs dRng1 fr) :=
  fi_args (fun ta h => pi_range1 hg hm h hs) ha fun M H vs ds xs Q r e k => by
    match ds, r, e with
    | [.int j], .cons r .nil, e =>
      simp only [dRng1] at e
      split at e
      · rename_i hz
        cases e
        cases r
        exact ⟨j, rfl, hz.1, hz.2, k _ itr_ok⟩
      · cases e
theorem fi_rng2 {tg : Expr} {fr : F (List AV)} {pn : Pos} (hg : Gl X "range") (hm : X.mg "range" = none) (ha : FA C W p X [a, b] fr) (hs : starEach [a, b] X.env = [(false, eval a X.env), (false, eval b X.env)] := by rfl) (hs2 : starEach [b] X.env = [(false, eval b X.env)] := by rfl) :
    FI C W p X tg (.Call (.Name "range" pn) [a, b] [] pos) (iArgs dRng2 fr) :=
  fi_args (fun ta h => pi_range2 hg hm h hs hs2) ha fun M H vs ds xs Q r e k => by
    match ds, r, e with
    | [.int i, .int j], .cons r (.cons r2 .nil), e =>
      simp only [dRng2] at e
      split at e
      · rename_i hz
        cases e
        cases r
        cases r2
        exact ⟨i, j, rfl, hz, k _ itr_ok⟩
      · cases e
theorem fi_rng3 {tg : Expr} {fr : F (List AV)} {pn : Pos} (hg : Gl X "range") (hm : X.mg "range" = none) (ha : FA C W p X [a, b, c] fr) (hs : starEach [a, b, c] X.env = (false, eval a X.env) :: starEach [b, c] X.env := by rfl) (hpl : (backTo pos (starEach [b, c] X.env)).any (·.1) = false := by rfl) :
    FI C W p X tg (.Call (.Name "range" pn) [a, b, c] [] pos) (iArgs dRng3 fr) :=
  fi_args (fun ta h => pi_range3 hg hm h hs hpl) ha fun M H vs ds xs Q r e k => by
    match ds, r, e with
    | [.int i, .int j, .int c], .cons r (.cons r2 (.cons r3 .nil)), e =>
      simp only [dRng3] at e
      split at e
      · rename_i hz
        cases e
        cases r
        cases r2
        cases r3
        obtain ⟨rfl, h1, h2, h3, h4⟩ := hz
        exact ⟨i, j, -1, _, rfl, RgC.neg h1 h2 h3 h4, k _ itc_ok⟩
      · cases e
def enumD (ds : List D) : List D := ds.mapIdx fun i d => D.tup [.int (i : Nat), d]
def dEnum : List D → Option (List D) | [.lst ds] => some (enumD ds) | _ => none
theorem fi_enum {fr : F (List AV)} {pn tpos : Pos} {elts : List Expr} {kk : Nat} (hg : Gl X "enumerate") (hm : X.mg "enumerate" = none) (ha : FA C W p X [a] fr) (hs : starEach [a] X.env = [(false, eval a X.env)] := by rfl) : FI C W p X (.Tuple elts kk tpos) (.Call (.Name "enumerate" pn) [a] [] pos) (iArgs dEnum fr) :=
  fi_args (fun ta h => pi_enum hg hm h hs) ha fun M H vs ds xs Q r e k => by
    match ds, r, e with
    | [.lst ys], .cons (.lst (a := a) (vs := us) e1 n1 r1) .nil, e =>
      cases e
      refine ⟨a, us, rfl, .inl (.inl e1), k _ fun M' H' fn hd => ?_⟩
      have h' : SqL X.K H' a us := .inl (.inl (fn.at_ _ _ e1 n1 rfl))
      refine ⟨fun i d e => ?_, fun i hi => ⟨us, h', by rw [r1.length]; simpa [enumD] using hi⟩⟩
      unfold enumD at e
      rw [List.getElem?_mapIdx] at e
      cases ey : ys[i]? with
      | none => rw [ey] at e; cases e
      | some y =>
        rw [ey] at e
        cases e
        obtain ⟨v, g1, g2⟩ := (r1.fine fn).get ey
        refine ⟨⟨us, v, h', g1⟩, fun x H'' yl => ?_⟩
        obtain ⟨T, x', q1, q2, q3, q4⟩ := yl
        subst q1 q3
        have z := q4 us h'
        rw [g1] at z
        cases z
        exact ⟨Keep.new q2, rep_newT hd q2 (.cons (.int _) (.cons g2 .nil))⟩
def zipD (xs ys : List D) : List D := (xs.zip ys).map fun q => D.tup [q.1, q.2]
def dZip : List D → Option (List D) | [.lst xs, .lst ys] => some (zipD xs ys) | [.tup xs, .tup ys] => some (zipD xs ys) | _ => none
theorem zipD_get {xs ys : List D} {i : Nat} {d : D} (e : (zipD xs ys)[i]? = some d) : ∃ x y, xs[i]? = some x ∧ ys[i]? = some y ∧ d = .tup [x, y] := by
  unfold zipD at e
  rw [List.getElem?_map] at e
  cases q : (xs.zip ys)[i]? with
  | none => rw [q] at e; cases e
  | some w =>
    rw [q] at e
    obtain ⟨h1, h2⟩ := List.getElem?_zip_eq_some.mp q
    exact ⟨w.1, w.2, h1, h2, (Option.some.inj e).symm⟩
theorem fi_zip {fr : F (List AV)} {pn tpos : Pos} {elts : List Expr} {kk : Nat} (hg : Gl X "zip") (hm : X.mg "zip" = none) (ha : FA C W p X [a, b] fr) (hs : starEach [a, b] X.env = (false, eval a X.env) :: starEach [b] X.env := by rfl) (hpl : (backTo pos (starEach [b] X.env)).any (·.1) = false := by rfl) :
    FI C W p X (.Tuple elts kk tpos) (.Call (.Name "zip" pn) [a, b] [] pos) (iArgs dZip fr) :=
  fi_args (fun ta h => RZ.pi_zipA hg hm h hs hpl) ha fun M H vs ds xs Q r e k => by
    match ds, r, e with
    | [.lst ys, .lst zs], .cons (.lst (a := a) (vs := us) e1 n1 r1) (.cons (.lst (a := b) (vs := ws) e2 n2 r2) .nil), e =>
      cases e
      refine ⟨a, b, us, ws, rfl, .inl ⟨.inl (.inl e1), .inl (.inl e2), k _ fun M' H' fn hd => ?_⟩⟩
      have h1 : SqL X.K H' a us := .inl (.inl (fn.at_ _ _ e1 n1 rfl))
      have h2 : SqL X.K H' b ws := .inl (.inl (fn.at_ _ _ e2 n2 rfl))
      refine ⟨fun i d e => ?_, fun i hi => ⟨us, ws, h1, h2, ?_⟩⟩
      · obtain ⟨x, y, ex, ey, rfl⟩ := zipD_get e
        obtain ⟨v, g1, g2⟩ := (r1.fine fn).get ex
        obtain ⟨w, k1, k2⟩ := (r2.fine fn).get ey
        refine ⟨⟨us, ws, v, w, h1, h2, g1, k1⟩, fun x H'' yl => ?_⟩
        obtain ⟨T, x', y', q1, q2, q3, q4, q5⟩ := yl
        subst q1 q3
        have z := q4 us h1
        rw [g1] at z
        cases z
        have z := q5 ws h2
        rw [k1] at z
        cases z
        exact ⟨Keep.new q2, rep_newT hd q2 (.cons g2 (.cons k2 .nil))⟩
      · rw [r1.length, r2.length]
        simp only [zipD, List.length_map, List.length_zip] at hi
        omega
    | [.tup ys, .tup zs], .cons (.tup (a := a) (vs := us) e1 n1 r1) (.cons (.tup (a := b) (vs := ws) e2 n2 r2) .nil), e =>
      cases e
      refine ⟨a, b, us, ws, rfl, .inr ⟨.inl (.inl e1), .inl (.inl e2), k _ fun M' H' fn hd => ?_⟩⟩
      have h1 : SqT X.K H' a us := .inl (.inl (fn.at_ _ _ e1 n1 rfl))
      have h2 : SqT X.K H' b ws := .inl (.inl (fn.at_ _ _ e2 n2 rfl))
      refine ⟨fun i d e => ?_, fun i hi => ⟨us, ws, h1, h2, ?_⟩⟩
      · obtain ⟨x, y, ex, ey, rfl⟩ := zipD_get e
        obtain ⟨v, g1, g2⟩ := (r1.fine fn).get ex
        obtain ⟨w, k1, k2⟩ := (r2.fine fn).get ey
        refine ⟨⟨us, ws, v, w, h1, h2, g1, k1⟩, fun x H'' yl => ?_⟩
        obtain ⟨T, x', y', q1, q2, q3, q4, q5⟩ := yl
        subst q1 q3
        have z := q4 us h1
        rw [g1] at z
        cases z
        have z := q5 ws h2
        rw [k1] at z
        cases z
        exact ⟨Keep.new q2, rep_newT hd q2 (.cons g2 (.cons k2 .nil))⟩
      · rw [r1.length, r2.length]
        simp only [zipD, List.length_map, List.length_zip] at hi
        omega
def dSigns (d : D) : Option (List D) := match d with | .str x => some (x.cps.toList.map fun c => D.str ⟨#[c]⟩) | _ => none
def iStrF (fa : F D) : F (List D) := f1 dSigns fa
theorem fi_str {tg : Expr} (ha : FX C W m p X a fa) : FI C W p X tg a (iStrF fa) := PI.imp (pi_str ha) fun σ H Q ⟨pens, M, γ, E, h⟩ => by
  refine ⟨pens, M, γ, E, ?_⟩
  unfold iStrF f1 at h
  cases ea : fa γ with
  | st => rw [bind_st ea] at h; exact h
  | ex x g => rw [bind_ex ea] at h; exact h
  | ok d g =>
    rw [bind_ok ea] at h
    intro v H1 S1 P1 r1
    cases d with
    | str x =>
      refine ⟨x, r1.s.strH, h _ _ S1 P1 fun M' H' fn hd => ⟨fun i d e => ?_, fun i hi => by simpa [Its] using hi⟩⟩
      rw [List.getElem?_map] at e
      cases ey : x.cps.toList[i]? with
      | none => rw [ey] at e; cases e
      | some c =>
        rw [ey] at e
        cases e
        have ey' : x.cps[i]? = some c := by simpa using ey
        refine ⟨(Array.getElem?_eq_some_iff.mp ey').1, fun v H'' yl => ?_⟩
        obtain ⟨q1, c', q2, q3⟩ := yl
        subst q1 q3
        rw [ey'] at q2
        cases q2
        exact ⟨Keep.refl _ _, .str _⟩
    | _ => exact h.elim

/-! ### for -/
def forL (g : GD) (b : F Fl) : List D → F Fl
  | [] => sNil
  | d :: ds => fun γ => match g d γ with
    | none => .st
    | some γ1 => match b γ1 with
      | .ok .nx γ2 => forL g b ds γ2
      | .ok .ct γ2 => forL g b ds γ2
      | .ok .brk γ2 => .ok .nx γ2
      | .ok (.ret r) γ2 => .ok (.ret r) γ2
      | .ex e γ2 => .ex e γ2
      | .st => .st
def sFor (fi : F (List D)) (g : GD) (b : F Fl) : F Fl := F.bind fi fun xs => forL g b xs
theorem fs_for {tg iter : Expr} {fi : F (List D)} {ws : List Nat} {g : GD} {body : List Stmt} (hp : PassesOwn (model X.prog X.w) X.A X.env X.xe) (hc : X.calm = true) (hi : FI C W p X tg iter fi) (hg : FG C X tg ws g) (hb : FSs C W X body s)
    (hs : ∀ x, foldedSetIterable iter X.env x = pure x := by intro _; rfl) : FS C W X (.For tg iter body [] pos) (sFor fi g s) := PS.imp (ps_for hp hc hi hg hb hs) fun D σ H ⟨pens, M, γ, E, h⟩ => by
  refine ⟨pens, M, γ, E, ?_⟩
  unfold sFor at h
  cases ea : fi γ with
  | st => rw [bind_st ea] at h; exact h
  | ex x g => rw [bind_ex ea] at h; exact fun cls d H' S re => h cls d M σ H' S.env S.s re
  | ok xs γ1 =>
    rw [bind_ok ea] at h
    intro J H1 S1 P1 IO
    have h1 : aftS C W pens M σ γ1 H1 (forL g s xs γ1) D := aftS_go E S1.s h
    have E1 := S1.env
    clear h ea P1
    refine ⟨fun i mm σ' H' => mm = xs.length - i ∧ i ≤ xs.length ∧ ∃ M' γ', EnvRep C pens M' γ' σ' H' ∧ StpS M σ γ1 H1 M' σ' γ' H' ∧ aftS C W pens M' σ' γ' H' (forL g s (xs.drop i) γ') D, ⟨xs.length, by simp, Nat.zero_le _, M, γ1, E1, StpS.refl, by simpa using h1⟩, ?_⟩
    rintro i mm σ' H' ⟨rfl, hi, M', γ', E', S', h'⟩
    have io := IO M' H' (S'.fine E1) E'.dom
    by_cases hlt : i < xs.length
    · have ed : xs[i]? = some xs[i] := List.getElem?_eq_getElem hlt
      rw [List.drop_eq_getElem_cons hlt] at h'
      obtain ⟨go, yl⟩ := io.1 i _ ed
      refine .inr ⟨go, fun σ2 H2 => ∃ M2 γ2, EnvRep C pens M2 γ2 σ2 H2 ∧ StpS M σ γ1 H1 M2 σ2 γ2 H2 ∧ aftS C W pens M2 σ2 γ2 H2 (forL g s (xs.drop (i + 1)) γ2) D, fun σ2 H2 q => ⟨xs.length - (i + 1), by omega, rfl, hlt, q⟩, fun x H2 y => ?_⟩
      obtain ⟨k2, r2⟩ := yl x H2 y
      have E2 := E'.keep k2
      have S2 : StpS M' σ' γ' H' M' σ' γ' H2 := ⟨k2.any, fun _ z => .inl z, fun _ z _ => z, fun _ z => .inl z⟩
      simp only [forL] at h'
      cases eg : g xs[i] γ' with
      | none => rw [eg] at h'; exact h'.elim
      | some γ2 =>
        rw [eg] at h'
        refine ⟨pens, M', γ', xs[i], γ2, E2, r2, eg, fun σ3 E3 S3 _ _ => ⟨pens, M', γ2, E3, ?_⟩⟩
        have S13 := (S2.trans E' S3)
        have T3 := S'.trans E1 S13
        simp only at h'
        cases eb : s γ2 with
        | st => rw [eb] at h'; exact h'
        | ex e γ3 => rw [eb] at h'; exact fun cls d M4 σ4 H4 E4 S4 re => h' cls d M4 σ4 H4 E4 (S13.trans E' S4) re
        | ok f γ3 =>
          rw [eb] at h'
          cases f with
          | nx => exact fun M4 σ4 H4 E4 S4 => ⟨M4, γ3, E4, T3.trans E1 S4, aftS_go E' (S13.trans E' S4) h'⟩
          | ct => exact fun M4 σ4 H4 E4 S4 => ⟨M4, γ3, E4, T3.trans E1 S4, aftS_go E' (S13.trans E' S4) h'⟩
          | brk => exact fun M4 σ4 H4 E4 S4 => h' M4 σ4 H4 E4 (S13.trans E' S4)
          | ret rv => exact fun v M4 σ4 H4 E4 S4 k => h' v M4 σ4 H4 E4 (S13.trans E' S4) (k.back E' S13)
    · have e : i = xs.length := by omega
      subst e
      rw [List.drop_eq_nil_of_le (Nat.le_refl _)] at h'
      exact .inl ⟨io.2 _ (Nat.le_refl _), h' M' σ' H' E' StpS.refl⟩
/-- while, by fuel -/
def whL (c : F Bool) (b : F Fl) : Nat → F Fl
  | 0 => sSt
  | n + 1 => fun γ => match c γ with
    | .ok true γ1 => match b γ1 with
      | .ok .nx γ2 => whL c b n γ2
      | .ok .ct γ2 => whL c b n γ2
      | .ok .brk γ2 => .ok .nx γ2
      | .ok (.ret r) γ2 => .ok (.ret r) γ2
      | .ex e γ2 => .ex e γ2
      | .st => .st
    | .ok false γ1 => .ok .nx γ1
    | .ex e γ1 => .ex e γ1
    | .st => .st
theorem fs_while {body : List Stmt} (n : Nat) (hp : PassesOwn (model X.prog X.w) X.A X.env X.xe) (hc : FT C W p X c gc) (hb : FSs C W X body s) : FS C W X (.While c body [] pos) (whL gc s n) := PS.imp (ps_while hp hc hb) fun D σ H ⟨pens, M, γ, E, h⟩ => by
  refine ⟨fun n σ' H' => ∃ M' γ', EnvRep C pens M' γ' σ' H' ∧ StpS M σ γ H M' σ' γ' H' ∧ aftS C W pens M' σ' γ' H' (whL gc s n γ') D, ⟨n, M, γ, E, StpS.refl, h⟩, ?_⟩
  rintro mm σ' H' ⟨M', γ', E', S', h'⟩
  cases mm with
  | zero => exact h'.elim
  | succ mm =>
    refine ⟨pens, M', γ', E', ?_⟩
    simp only [whL] at h'
    cases ec : gc γ' with
    | st => rw [ec] at h'; exact h'
    | ex e γ2 => rw [ec] at h'; exact fun cls d H2 S2 re => h' cls d M' σ' H2 S2.env S2.s re
    | ok k γ2 =>
      rw [ec] at h'
      intro H2 S2 P2
      have T2 := S'.trans E S2.s
      cases k with
      | false =>
        rw [if_neg Bool.false_ne_true]
        exact h' M' σ' H2 S2.env S2.s
      | true =>
        rw [if_pos rfl]
        refine ⟨fun σ2 H2 => ∃ M2 γ2, EnvRep C pens M2 γ2 σ2 H2 ∧ StpS M σ γ H M2 σ2 γ2 H2 ∧ aftS C W pens M2 σ2 γ2 H2 (whL gc s mm γ2) D, fun σ2 H2 q => ⟨mm, Nat.lt_succ_self _, q⟩, pens, M', γ2, S2.env, ?_⟩
        simp only at h'
        cases eb : s γ2 with
        | st => rw [eb] at h'; exact h'
        | ex e γ3 => rw [eb] at h'; exact fun cls d M4 σ4 H4 E4 S4 re => h' cls d M4 σ4 H4 E4 (S2.s.trans E' S4) re
        | ok f γ3 =>
          rw [eb] at h'
          cases f with
          | nx => exact fun M4 σ4 H4 E4 S4 => ⟨M4, γ3, E4, T2.trans E S4, aftS_go E' (S2.s.trans E' S4) h'⟩
          | ct => exact fun M4 σ4 H4 E4 S4 => ⟨M4, γ3, E4, T2.trans E S4, aftS_go E' (S2.s.trans E' S4) h'⟩
          | brk => exact fun M4 σ4 H4 E4 S4 => h' M4 σ4 H4 E4 (S2.s.trans E' S4)
          | ret rv => exact fun v M4 σ4 H4 E4 S4 k => h' v M4 σ4 H4 E4 (S2.s.trans E' S4) (k.back E' S2.s)
end
end FC

namespace FC
open PySem PySem.Spec PyProof.Rows L2

/-! ### an own thing written -/
section
variable {C : Ct} {pens : Nat → Addr} {M M' : Addr → Prop} {γ : Gm} {σ : L2.St} {H : Hp} {i : Nat} {t : Option Nat}
theorem Fine.poke {a : Addr} {o : HO} (m : M a) : Fine M M H (upd H a o) := ⟨fun b u e n _ => by
  rw [upd_ne (fun z => n (by rw [z]; exact m))]
  exact e, fun _ _ _ z => z⟩
theorem Keep.poke {N : Addr → Prop} {a : Addr} {o : HO} (n : N a) : Keep (.of N) H (upd H a o) := fun b u e nb => by
  have ne : b ≠ a := fun z => nb (by rw [z]; exact n)
  rw [upd_ne ne]
  exact ⟨fun _ => e, fun q => ⟨u, e, q, trivial⟩⟩
/-- a list, an instance -/
def isPl : HO → Bool
  | .lst _ => true
  | .ins _ _ _ => true
  | _ => false
theorem tabs_poke {T : List (Addr × Str)} {a : Addr} {u u' : HO} (t : LamX.Tabs T H) (e : H a = some u) (hp : isPl u = true) : LamX.Tabs T (upd H a u') := fun p hp' => by
  obtain ⟨ps, h1, h2, h3⟩ := t p hp'
  refine ⟨ps, ?_, h2, fun pos cv hc => ?_⟩
  · rw [upd_ne (fun z => by rw [z, e] at h1; cases h1; cases hp)]
    exact h1
  · obtain ⟨c, e1, e2⟩ := h3 pos cv hc
    refine ⟨c, e1, ?_⟩
    rw [upd_ne (fun z => by
      rw [z, e] at e2
      unfold LamX.CodeO at e2
      cases e2
      cases hp)]
    exact e2
theorem Seen.poke {a b : Addr} {vs : List V} {o o' : HO} (s : Seen C H b vs) (e : H a = some o) (hn : ∀ q u, o ≠ .frz q u) : Seen C (upd H a o') b vs := by
  rcases s with ⟨q, h⟩ | s
  · have ne : b ≠ a := fun z => by
      subst z
      rw [h] at e
      cases e
      exact hn _ _ rfl
    exact .inl ⟨q, by rw [upd_ne ne]; exact h⟩
  · exact .inr s
/-- a tracked thing that no slot names is written -/
theorem EnvRep.poke {a : Addr} {o o' : HO} (E : EnvRep C pens M γ σ H) (m : M a) (e : H a = some o) (hn : ∀ q u, o ≠ .frz q u) (no : ¬ Own γ σ a) (hpl : isPl o = true := by rfl) : EnvRep C pens M γ σ (upd H a o') where
  len := E.len
  ok := fun j sv x h1 h2 => (E.ok j sv x h1 h2).fine (Fine.poke m) (fun _ z => z) (fun _ _ s => s.poke e hn) fun t o b q1 q2 u hu _ => by
    have ne : b ≠ a := fun z => no ⟨j, t, o, by rw [h1, q1], by rw [h2, q2, z]⟩
    rw [upd_ne ne]
    exact hu
  inj := E.inj
  dom := fun b mb => by
    by_cases z : b = a
    · rw [z]; exact ⟨_, upd_same⟩
    · rw [upd_ne z]; exact E.dom b mb
  tab := tabs_poke E.tab e hpl
theorem Pat.put {o o' : MO} (h : γ[i]? = some (.own t o)) : Pat γ (γ.set i (.own t o')) := by
  unfold Pat
  apply List.ext_getElem?
  intro j
  rw [List.getElem?_map, List.getElem?_map]
  by_cases hj : i = j
  · subst hj
    rw [List.getElem?_set_self (List.getElem?_eq_some_iff.mp h).1, h]
    rfl
  · rw [List.getElem?_set_ne hj]
/-- an own thing written -/
theorem EnvRep.wr {a : Addr} {o o' : MO} {u u' : HO} (E : EnvRep C pens M γ σ H) (hi : γ[i]? = some (.own t o)) (hs : σ[i]? = some (some (.ref a))) (e : H a = some u) (hn : ∀ q w, u ≠ .frz q w) (hr : ORep C M (upd H a u') a o') (hpl : isPl u = true := by rfl) : Stp C pens M σ γ H (γ.set i (.own t o')) (upd H a u') := by
  have ow : Own γ σ a := ⟨i, t, o, hi, hs⟩
  have hil : i < γ.length := (List.getElem?_eq_some_iff.mp hi).1
  obtain ⟨x0, h1, a0, h2, m, _, tg⟩ := E.slot hi
  subst h2
  rw [hs] at h1
  cases h1
  refine ⟨⟨?_, fun j sv x h1 h2 => ?_, fun j k t1 o1 t2 o2 b q1 q2 q3 q4 => ?_, fun b mb => ?_, tabs_poke E.tab e hpl⟩, Keep.poke ow, Pat.put hi⟩
  · rw [List.length_set, E.len]
  · by_cases hj : i = j
    · subst hj
      rw [List.getElem?_set_self hil] at h1
      cases h1
      rw [hs] at h2
      cases h2
      exact ⟨a, rfl, m, hr, tg⟩
    · rw [List.getElem?_set_ne hj] at h1
      refine (E.ok j sv x h1 h2).fine (Fine.poke m) (fun _ z => z) (fun _ _ s => s.poke e hn) fun t3 o3 b q1 q2 w hw _ => ?_
      have ne : b ≠ a := fun z => by
        subst z
        exact hj (E.inj i j _ _ _ _ b hi (by rw [h1, q1]) hs (by rw [h2, q2]))
      rw [upd_ne ne]
      exact hw
  · have f : ∀ {l : Nat} {t' : Option Nat} {o4 : MO}, (γ.set i (.own t o'))[l]? = some (.own t' o4) → ∃ o5, γ[l]? = some (.own t' o5) := fun {l t' o4} h => by
      by_cases hl : i = l
      · subst hl
        rw [List.getElem?_set_self hil] at h
        cases h
        exact ⟨_, hi⟩
      · rw [List.getElem?_set_ne hl] at h
        exact ⟨_, h⟩
    obtain ⟨o5, k1⟩ := f q1
    obtain ⟨o6, k2⟩ := f q2
    exact E.inj j k _ _ _ _ b k1 k2 q3 q4
  · by_cases z : b = a
    · rw [z]; exact ⟨_, upd_same⟩
    · rw [upd_ne z]; exact E.dom b mb
/-- the list of an own slot -/
theorem EnvRep.ownL {xs : List D} (E : EnvRep C pens M γ σ H) (hi : γ[i]? = some (.own t (.lst xs))) : ∃ a vs, σ[i]? = some (some (.ref a)) ∧ H a = some (.lst vs) ∧ RepL C M H vs xs ∧ M a := by
  obtain ⟨x, h1, a, h2, m, ⟨vs, e, r⟩, _⟩ := E.slot hi
  subst h2
  exact ⟨a, vs, h1, e, r, m⟩
/-- it is written -/
theorem EnvRep.wrL {a : Addr} {vs : List V} {xs ys : List D} {ws : List V} (E : EnvRep C pens M γ σ H) (hi : γ[i]? = some (.own t (.lst xs))) (hs : σ[i]? = some (some (.ref a))) (e : H a = some (.lst vs)) (m : M a) (r : RepL C M H ws ys) : Stp C pens M σ γ H (γ.set i (.own t (.lst ys))) (upd H a (.lst ws)) :=
  E.wr hi hs e (fun _ _ z => by cases z) ⟨ws, upd_same, r.fine (Fine.poke m)⟩
end

section
variable {C : Ct} {W : WX} {X : Cx} {m p m1 p1 m2 p2 m3 p3 : Bool} {a b c e' e : Expr} {fa fb fc : F D} {fn : F MO} {gc : F Bool} {s t : F Fl} {pos : Pos} {st : Stmt} {rest : List Stmt} {i : Nat}
/-- own lists, by the slot -/
def oList (i : Nat) (γ : Gm) : Option (Option Nat × List D) := match γ[i]? with
  | some (.own t (.lst xs)) => some (t, xs)
  | _ => none
theorem oList_eq {γ : Gm} {q : Option Nat × List D} (h : oList i γ = some q) : γ[i]? = some (.own q.1 (.lst q.2)) := by
  unfold oList at h
  split at h
  · rename_i e
    cases h
    exact e
  · cases h
/-- a method of an own list with one argument -/
def fM1 (i : Nat) (g : List D → D → Option (D × List D)) (fa : F D) : F D := fun γ => match oList i γ with
  | none => .st
  | some _ => F.bind fa (fun d γ1 => match oList i γ1 with
    | some (t, xs) => (match g xs d with
      | some (r, ys) => .ok r (γ1.set i (.own t (.lst ys)))
      | none => .st)
    | none => .st) γ
theorem oList_pat {γ γ' : Gm} {σ : L2.St} {pens : Nat → Addr} {M : Addr → Prop} {H : Hp} (pt : Pat γ γ') {q : Option Nat × List D} (h : oList i γ = some q) : True := trivial
theorem fx_m1 {r : V → List V → Hp → VK → Prop} {g : List D → D → Option (D × List D)} {name : Str} {apos : Pos} {id : String} (slot : Slot "list" name id) (hty : typeOf (.builtin id) = pure (.type "method_descriptor")) (hm : MtR X id r) (ho : PE X e (tVar i)) (ha : FX C W true p X a fa)
    (hg : ∀ M H l vs xs v d rd ys Q, H l = some (.lst vs) → RepL C M H vs xs → Rep C M H v d → M l → g xs d = some (rd, ys) → (∀ w ws, Rep C M H w rd → RepL C M H ws ys → Q w (upd H l (.lst ws))) → r (.ref l) [v] H Q)
    (hbase : attributeBase e name X.env (eval e X.env) = eval e X.env := by rfl)
    (hfew : ((backTo pos (starEach [a] X.env)).all (fun x => !x.1) && (backToKw pos (keywordEach [] X.env)).all (fun x => x.1.isSome)
      && decide ([a].length + ([] : List Keyword).length + (if ([] : List Keyword).isEmpty then 0 else 1) < 30)) = true := by rfl)
    (hline : (apos.endLine == pos.line) = true := by rfl) (hs : starEach [a] X.env = (false, eval a X.env) :: starEach [] X.env := by rfl) (hplain : (backTo pos (starEach [] X.env)).any (·.1) = false := by rfl) :
    FX C W true false X (.Call (.Attribute e name apos) [a] [] pos) (fM1 i g fa) := PE.imp (pe_bm PySem.F.plainAttrs_list slot hty hm ho (pa_cons ha pa_nil hs) hbase hfew hline hs hplain) fun σ H Q ⟨pens, M, γ, E, h⟩ => by
  unfold fM1 at h
  cases eo : oList i γ with
  | none => rw [eo] at h; exact h.elim
  | some q =>
    rw [eo] at h
    have hi := oList_eq eo
    obtain ⟨l, vs, hs1, hl, rl, ml⟩ := E.ownL hi
    refine ⟨.ref l, hs1, .inl ⟨rfl, vs, .inl (.inl hl)⟩, pens, M, γ, E, ?_⟩
    simp only at h
    cases ea : fa γ with
    | st => rw [bind_st ea] at h; exact h
    | ex x g => rw [bind_ex ea] at h; exact h
    | ok d γ1 =>
      rw [bind_ok ea] at h
      intro v H1 S1 P1 r1
      cases e1 : oList i γ1 with
      | none => rw [e1] at h; exact h.elim
      | some q1 =>
        obtain ⟨t1, xs1⟩ := q1
        rw [e1] at h
        simp only at h
        have hi1 := oList_eq e1
        obtain ⟨l1, vs1, hs2, hl1, rl1, ml1⟩ := S1.env.ownL hi1
        rw [hs1] at hs2
        cases hs2
        cases eg : g xs1 d with
        | none => rw [eg] at h; exact h.elim
        | some w =>
          obtain ⟨rd, ys⟩ := w
          rw [eg] at h
          refine hg M H1 l vs1 xs1 v d rd ys Q hl1 rl1 r1 ml1 eg fun w ws rw' rs => ?_
          have S2 := S1.env.wrL hi1 hs1 hl1 ml1 rs
          exact h w _ (S1.trans S2) (fun z => by cases z) (show Rep C M _ w rd from rw'.fine (Fine.poke ml1))
def gApp (xs : List D) (d : D) : Option (D × List D) := if xs.length < sizeLine then some (.non, xs ++ [d]) else none
def gExt (xs : List D) (d : D) : Option (D × List D) := match d with | .lst ys => if xs.length + ys.length ≤ sizeLine then some (.non, xs ++ ys) else none | _ => none
theorem fx_append {apos : Pos} (hm : MtR X "list.append" rAppend) (ho : PE X e (tVar i)) (ha : FX C W true p X a fa) (hbase : attributeBase e "append" X.env (eval e X.env) = eval e X.env := by rfl)
    (hfew : ((backTo pos (starEach [a] X.env)).all (fun x => !x.1) && (backToKw pos (keywordEach [] X.env)).all (fun x => x.1.isSome)
      && decide ([a].length + ([] : List Keyword).length + (if ([] : List Keyword).isEmpty then 0 else 1) < 30)) = true := by rfl)
    (hline : (apos.endLine == pos.line) = true := by rfl) (hs : starEach [a] X.env = (false, eval a X.env) :: starEach [] X.env := by rfl) (hplain : (backTo pos (starEach [] X.env)).any (·.1) = false := by rfl) :
    FX C W true false X (.Call (.Attribute e "append" apos) [a] [] pos) (fM1 i gApp fa) := fx_m1 PySem.F.slot_list_append PySem.F.type_list_append hm ho ha (fun M H l vs xs v d rd ys Q hl rl rv ml eg k => by
  unfold gApp at eg
  split at eg
  · rename_i hz
    cases eg
    exact ⟨l, vs, v, rfl, rfl, hl, by rw [rl.length]; exact hz, k .non _ .non (rl.append (.cons rv .nil))⟩
  · cases eg) hbase hfew hline hs hplain
theorem fx_extend {apos : Pos} (hm : MtR X "list.extend" rExtend) (ho : PE X e (tVar i)) (ha : FX C W true p X a fa) (hbase : attributeBase e "extend" X.env (eval e X.env) = eval e X.env := by rfl)
    (hfew : ((backTo pos (starEach [a] X.env)).all (fun x => !x.1) && (backToKw pos (keywordEach [] X.env)).all (fun x => x.1.isSome)
      && decide ([a].length + ([] : List Keyword).length + (if ([] : List Keyword).isEmpty then 0 else 1) < 30)) = true := by rfl)
    (hline : (apos.endLine == pos.line) = true := by rfl) (hs : starEach [a] X.env = (false, eval a X.env) :: starEach [] X.env := by rfl) (hplain : (backTo pos (starEach [] X.env)).any (·.1) = false := by rfl) :
    FX C W true false X (.Call (.Attribute e "extend" apos) [a] [] pos) (fM1 i gExt fa) := fx_m1 PySem.F.slot_list_extend PySem.F.type_list_extend hm ho ha (fun M H l vs xs v d rd ys Q hl rl rv ml eg k => by
  unfold gExt at eg
  cases d with
  | lst zs =>
    simp only at eg
    split at eg
    · rename_i hz
      cases eg
      cases rv with
      | @lst b ws _ e1 n1 r1 => exact ⟨l, b, vs, ws, rfl, rfl, hl, e1, by rw [rl.length, r1.length]; exact hz, k .non _ .non (rl.append r1)⟩
    · cases eg
  | _ => cases eg) hbase hfew hline hs hplain
/-- x.pop() -/
def fPop (i : Nat) : F D := fun γ => match oList i γ with
  | some (t, xs) => (match xs[xs.length - 1]? with
    | some d => .ok d (γ.set i (.own t (.lst xs.dropLast)))
    | none => .st)
  | none => .st
theorem RepL.dropLast {M : Addr → Prop} {H : Hp} {vs : List V} {ds : List D} (r : RepL C M H vs ds) : RepL C M H vs.dropLast ds.dropLast := by
  rw [List.dropLast_eq_take, List.dropLast_eq_take, r.length]
  exact r.take _
theorem fx_pop {apos : Pos} (ho : PE X e (tVar i)) (hbase : attributeBase e "pop" X.env (eval e X.env) = eval e X.env := by rfl) (hline : (apos.endLine == pos.line) = true := by rfl) : FX C W true false X (.Call (.Attribute e "pop" apos) [] [] pos) (fPop i) :=
  PE.imp (pe_bm0 PySem.F.plainAttrs_list PySem.F.slot_list_pop PySem.F.type_list_pop mt_pop ho hbase hline) fun σ H Q ⟨pens, M, γ, E, h⟩ => by
  unfold fPop at h
  cases eo : oList i γ with
  | none => rw [eo] at h; exact h.elim
  | some q =>
    obtain ⟨t, xs⟩ := q
    rw [eo] at h
    simp only at h
    have hi := oList_eq eo
    obtain ⟨l, vs, hs1, hl, rl, ml⟩ := E.ownL hi
    cases ed : xs[xs.length - 1]? with
    | none => rw [ed] at h; exact h.elim
    | some d =>
      rw [ed] at h
      obtain ⟨v, e1, r1⟩ := rl.get ed
      refine ⟨.ref l, hs1, .inl ⟨rfl, vs, .inl (.inl hl)⟩, l, vs, v, rfl, rfl, hl, by rw [rl.length]; exact e1, ?_⟩
      exact h v _ (E.wrL hi hs1 hl ml rl.dropLast) (fun z => by cases z) (show Rep C M _ v d from r1.fine (Fine.poke ml))
/-- x[k] = e -/
def sSetIx (i : Nat) (fk fe : F D) : F Fl := F.bind fe fun d γ => match oList i γ with
  | none => .st
  | some _ => F.bind fk (fun k γ1 => match oList i γ1, k with
    | some (t, xs), .int j => (match ixN xs.length j with
      | some n => .ok .nx (γ1.set i (.own t (.lst (xs.set n d))))
      | none => .st)
    | _, _ => .st) γ
theorem fs_setIx {ipos : Pos} (ho : PE X a (tVar i)) (hk : FX C W m1 p1 X b fb) (he : FX C W true p X e fa) (hs : swapsWithSole [.Subscript a b ipos] e pos.line X.env = pure false := by rfl) (hw : swappedStores [.Subscript a b ipos] e X.env = pure none := by rfl)
    (h1 : (assignEach [.Subscript a b ipos] X.env).map (·.2) = [assign (.Subscript a b ipos) X.env] := by rfl)
    (hga : ∀ v, assign (.Subscript a b ipos) X.env v = (do
      let ov ← holding [v] (eval a X.env)
      let iv ← holding [v, ov] (eval b X.env)
      standAt ipos
      holding [v, ov, iv] (setItem ov iv v)
      release [v, ov, iv] []) := by intro _; rfl) :
    FS C W X (.Assign [.Subscript a b ipos] e pos) (sSetIx i fb fa) := PS.imp (ps_asg he (pg_sub ho hk set_list hga) hs hw h1) fun D σ H ⟨pens, M, γ, E, h⟩ => by
  refine ⟨pens, M, γ, E, ?_⟩
  unfold sSetIx at h
  cases ea : fa γ with
  | st => rw [bind_st ea] at h; exact h
  | ex x g => rw [bind_ex ea] at h; exact fun cls d H' S re => h cls d M σ H' S.env S.s re
  | ok d γ1 =>
    rw [bind_ok ea] at h
    intro v H1 S1 P1 r1
    have r1 : Rep C M H1 v d := r1
    cases eo : oList i γ1 with
    | none => rw [eo] at h; exact h.elim
    | some q =>
      rw [eo] at h
      simp only at h
      obtain ⟨l, vs, hs1, hl, rl, ml⟩ := S1.env.ownL (oList_eq eo)
      refine ⟨.ref l, hs1, pens, M, γ1, S1.env, ?_⟩
      cases ek : fb γ1 with
      | st => rw [bind_st ek] at h; exact h
      | ex x g => rw [bind_ex ek] at h; exact fun cls d H' S re => h cls d M σ H' S.env (S1.s.trans E S.s) re
      | ok k γ2 =>
        rw [bind_ok ek] at h
        intro y H2 S2 P2 r2
        cases e1 : oList i γ2 with
        | none => rw [e1] at h; exact h.elim
        | some q1 =>
          obtain ⟨t1, xs1⟩ := q1
          rw [e1] at h
          cases k with
          | int j =>
            simp only at h
            cases en : ixN xs1.length j with
            | none => rw [en] at h; exact h.elim
            | some n =>
              rw [en] at h
              have hi1 := oList_eq e1
              obtain ⟨l1, vs1, hs2, hl1, rl1, ml1⟩ := S2.env.ownL hi1
              rw [hs1] at hs2
              cases hs2
              refine ⟨l, vs1, j, n, rfl, r2.s.intH, hl1, by rw [rl1.length]; exact en, ?_⟩
              have r1' : Rep C M H2 v d := S2.rep S1.env r1
              have S3 := S2.env.wrL hi1 hs1 hl1 ml1 (rl1.set n r1')
              exact h M σ _ S3.env ((S1.trans S2).trans S3).s
          | _ => exact h.elim

/-! ### names stored at once -/
def putA (i : Nat) (av : AV) (γ : Gm) : Option Gm := match av with
  | .d x => some (γ.set i (.val x))
  | .n o => some (γ.set i (.own none o))
  | .w xs => some (γ.set i (.view xs))
  | .s _ => none
def putAll : List Nat → List AV → Gm → Option Gm
  | [], [], γ => some γ
  | i :: is, a :: as, γ => (putA i a γ).bind (putAll is as)
  | _, _, _ => none
def setAll : List Nat → List V → L2.St → L2.St
  | i :: is, v :: vs, σ => setAll is vs (σ.set i (some v))
  | _, _, σ => σ
def sPar (is : List Nat) (fr : F (List AV)) : F Fl := F.bind fr fun as γ => match putAll is as γ with
  | some γ' => .ok .nx γ'
  | none => .st
theorem putAll_ok {pens : Nat → Addr} {M : Addr → Prop} {H : Hp} : ∀ {is : List Nat} {vs : List V} {as : List AV} {γ γ' γ0 : Gm} {σ σ0 : L2.St}, EnvRep C pens M γ σ H → Paired (AOk C M H σ0 γ0) vs as → (freshA vs as).Nodup → (∀ a ∈ freshA vs as, ¬ Own γ σ a) → putAll is as γ = some γ' →
    is.length = vs.length ∧ EnvRep C pens M γ' (setAll is vs σ) H ∧ ∀ a, Own γ' (setAll is vs σ) a → Own γ σ a ∨ a ∈ freshA vs as
  | [], [], [], γ, γ', _, σ, _, E, _, _, _, e => by cases e; exact ⟨rfl, E, fun _ z => .inl z⟩
  | [], _ :: _, _ :: _, _, _, _, _, _, _, _, _, _, e => by cases e
  | _ :: _, [], [], _, _, _, _, _, _, _, _, _, e => by cases e
  | i :: is, v :: vs, av :: as, γ, γ', γ0, σ, σ0, E, .cons a0 ar, nd, fr, e => by
    simp only [putAll] at e
    cases av with
    | d x =>
      have ef : freshA (v :: vs) (.d x :: as) = freshA vs as := by cases v <;> rfl
      rw [ef] at nd fr ⊢
      have E1 := E.set (i := i) (x := some v) (sv := .val x) ⟨v, rfl, a0⟩ (fun _ _ z => by cases z)
      have ow : ∀ {b}, Own (γ.set i (.val x)) (σ.set i (some v)) b → Own γ σ b := fun z => Own.set i _ _ (fun _ _ z => by cases z) z
      obtain ⟨h1, h2, h3⟩ := putAll_ok (is := is) E1 ar nd (fun b hb z => fr b hb (ow z)) e
      exact ⟨by simp [h1], h2, fun b z => (h3 b z).imp ow id⟩
    | n o =>
      obtain ⟨b, rfl, mb, rb⟩ := a0
      have ef : freshA (.ref b :: vs) (.n o :: as) = b :: freshA vs as := rfl
      rw [ef] at nd fr ⊢
      have nb := fr b List.mem_cons_self
      have E1 := E.setN (i := i) mb rb nb
      have ow : ∀ {c}, Own (γ.set i (.own none o)) (σ.set i (some (.ref b))) c → Own γ σ c ∨ c = b := fun z => Own.setN i b none o z
      obtain ⟨h1, h2, h3⟩ := putAll_ok (is := is) E1 ar (List.nodup_cons.mp nd).2 (fun c hc z => (ow z).elim (fr c (List.mem_cons_of_mem _ hc)) fun q => by
        subst q
        exact (List.nodup_cons.mp nd).1 hc) e
      refine ⟨by simp [h1], h2, fun c z => ?_⟩
      rcases h3 c z with q | q
      · exact (ow q).imp id fun q => by rw [q]; exact List.mem_cons_self
      · exact .inr (List.mem_cons_of_mem _ q)
    | w xs =>
      have ef : freshA (v :: vs) (.w xs :: as) = freshA vs as := by cases v <;> rfl
      rw [ef] at nd fr ⊢
      obtain ⟨b, us, rfl, sb, rb⟩ := a0
      have E1 := E.set (i := i) (x := some (.ref b)) (sv := .view xs) ⟨b, us, rfl, sb, rb⟩ (fun _ _ z => by cases z)
      have ow : ∀ {c}, Own (γ.set i (.view xs)) (σ.set i (some (.ref b))) c → Own γ σ c := fun z => Own.set i _ _ (fun _ _ z => by cases z) z
      obtain ⟨h1, h2, h3⟩ := putAll_ok (is := is) E1 ar nd (fun c hc z => fr c hc (ow z)) e
      exact ⟨by simp [h1], h2, fun c z => (h3 c z).imp ow id⟩
    | s k => cases e
theorem aftPar {pens : Nat → Addr} {M : Addr → Prop} {σ : L2.St} {γ : Gm} {H : Hp} {fr : F (List AV)} {is : List Nat} {D : Ends} {Q : List V → Hp → Prop} (E : EnvRep C pens M γ σ H) (h : aftS C W pens M σ γ H (sPar is fr γ) D)
    (k : ∀ vs H', is.length = vs.length → (∀ H2, Keep0 H' H2 → D.nx (setAll is vs σ) H2) → Q vs H') : aftA C W pens M σ γ H p (fr γ) Q := by
  unfold sPar at h
  cases ea : fr γ with
  | st => rw [bind_st ea] at h; exact h
  | ex x g => rw [bind_ex ea] at h; exact fun cls d H' M' E' k' pt up dn re => h cls d M' σ H' E' ⟨k', fun a z => .inl (pt.symm.Own z), fun a z _ => up a z, dn⟩ re
  | ok as γ1 =>
    rw [bind_ok ea] at h
    intro vs H' M' E' kp pt P up dn A
    cases ep : putAll is as γ1 with
    | none => rw [ep] at h; exact h.elim
    | some γ2 =>
      rw [ep] at h
      obtain ⟨h1, h2, h3⟩ := putAll_ok E' A.ok A.nd (fun a ha z => Own.tracked E (A.fr a ha) (pt.symm.Own z)) ep
      refine k vs H' h1 fun H2 k2 => h M' _ H2 (h2.keep k2) ⟨kp.trans k2.any, fun a z => ?_, fun a z _ => up a z, fun a z => (dn a z).imp id (A.fr a)⟩
      rcases h3 a z with q | q
      · exact .inl (pt.symm.Own q)
      · exact .inr (A.fr a q)
theorem fs_par {x y : Str} {i j : Nat} {px py pt : Pos} {kt k2 pt2} {fr : F (List AV)} (hc : X.calm = true) (hN : X.N.Nodup) (hi : X.N[i]? = some x) (hj : X.N[j]? = some y) (hij : i ≠ j)
    (hx : X.env.scope.names.lookup x = some .local) (hy : X.env.scope.names.lookup y = some .local) (ha : FA C W p X [a, b] fr)
    (hw : swappedStores [.Tuple [.Name x px, .Name y py] kt pt] (.Tuple [a, b] k2 pt2) X.env = pure (some [x, y]))
    (hs : swapsWithSole [.Tuple [.Name x px, .Name y py] kt pt] (.Tuple [a, b] k2 pt2) pos.line X.env = pure false := by rfl) :
    FS C W X (.Assign [.Tuple [.Name x px, .Name y py] kt pt] (.Tuple [a, b] k2 pt2) pos) (sPar [i, j] fr) := PS.imp (ps_par hc hN hi hj hij hx hy ha hw hs) fun D σ H ⟨pens, M, γ, E, h⟩ => by
  refine ⟨pens, M, γ, E, aftPar E h fun vs H' hl k => ?_⟩
  match vs, hl, k with
  | [v, w], _, k => exact ⟨v, w, rfl, k H' (Keep.refl _ _)⟩
theorem fs_par3 {x y z : Str} {i j l : Nat} {px py pz pt : Pos} {kt k2 pt2} {fr : F (List AV)} (hc : X.calm = true) (hN : X.N.Nodup) (hi : X.N[i]? = some x) (hj : X.N[j]? = some y) (hl : X.N[l]? = some z) (hij : i ≠ j) (hil : i ≠ l) (hjl : j ≠ l)
    (hx : X.env.scope.names.lookup x = some .local) (hy : X.env.scope.names.lookup y = some .local) (hz : X.env.scope.names.lookup z = some .local) (ha : FA C W p X [a, b, c] fr)
    (hw : swappedStores [.Tuple [.Name x px, .Name y py, .Name z pz] kt pt] (.Tuple [a, b, c] k2 pt2) X.env = pure (some [x, y, z]))
    (hs : swapsWithSole [.Tuple [.Name x px, .Name y py, .Name z pz] kt pt] (.Tuple [a, b, c] k2 pt2) pos.line X.env = pure false := by rfl) :
    FS C W X (.Assign [.Tuple [.Name x px, .Name y py, .Name z pz] kt pt] (.Tuple [a, b, c] k2 pt2) pos) (sPar [i, j, l] fr) := PS.imp (ps_par3 hc hN hi hj hl hij hil hjl hx hy hz ha hw hs) fun D σ H ⟨pens, M, γ, E, h⟩ => by
  refine ⟨pens, M, γ, E, aftPar E h fun vs H' hl k => ?_⟩
  match vs, hl, k with
  | [u, v, w], _, k => exact ⟨u, v, w, rfl, k H' (Keep.refl _ _)⟩
def gNs : List Nat → TGs
  | [] => gNil
  | i :: is => gCons (gName i) (gNs is)
theorem gNs_ok {Q : L2.St → Hp → Prop} {H : Hp} : ∀ {is : List Nat} {vs : List V} {σ : L2.St}, is.length = vs.length → Q (setAll is vs σ) H → gNs is vs σ H Q
  | [], [], _, _, h => ⟨rfl, h⟩
  | i :: is, v :: vs, σ, hl, h => ⟨v, vs, rfl, gNs_ok (is := is) (by simpa using hl) h⟩
theorem fs_parN {ts es : List Expr} {is : List Nat} {pt : Pos} {kt k2 pt2} {fr : F (List AV)} (hc : X.calm = true) (hg : PGs X ts (gNs is)) (ha : FA C W p X es fr) (hsz : is.length ≤ sizeLine := by decide) (hs : swapsWithSole [.Tuple ts kt pt] (.Tuple es k2 pt2) pos.line X.env = pure false := by rfl) (hw : swappedStores [.Tuple ts kt pt] (.Tuple es k2 pt2) X.env = pure none := by rfl)
    (hn : (assignEach ts X.env).length = is.length := by rfl) (hst : (assignEach ts X.env).findIdx? (·.1) = none := by rfl)
    (h1 : (assignEach [.Tuple ts kt pt] X.env).map (·.2) = [assign (.Tuple ts kt pt) X.env] := by rfl) :
    FS C W X (.Assign [.Tuple ts kt pt] (.Tuple es k2 pt2) pos) (sPar is fr) := PS.imp (ps_asg (pe_tup ha) (pg_tup hc hg hn hst) hs hw h1) fun D σ H ⟨pens, M, γ, E, h⟩ => by
  refine ⟨pens, M, γ, E, aftPar E h fun vs H' hl k => ⟨by rw [← hl]; exact hsz, fun q hq => ?_⟩⟩
  exact ⟨q, vs, rfl, .inl (.inl upd_same), hl.symm, gNs_ok hl (k _ (Keep.new hq))⟩
/-- a target of any form, by data -/
def sAsg (fa : F D) (g : GD) : F Fl := F.bind fa fun d γ => match g d γ with
  | some γ' => .ok .nx γ'
  | none => .st
theorem fs_asg {tg : Expr} {ws : List Nat} {g : GD} (he : FX C W true p X e fa) (hg : FG C X tg ws g) (hs : swapsWithSole [tg] e pos.line X.env = pure false := by rfl) (hw : swappedStores [tg] e X.env = pure none := by rfl)
    (h1 : (assignEach [tg] X.env).map (·.2) = [assign tg X.env] := by rfl) : FS C W X (.Assign [tg] e pos) (sAsg fa g) := PS.imp (ps_asg he hg hs hw h1) fun D σ H ⟨pens, M, γ, E, h⟩ => by
  refine ⟨pens, M, γ, E, ?_⟩
  unfold sAsg at h
  cases ea : fa γ with
  | st => rw [bind_st ea] at h; exact h
  | ex x g => rw [bind_ex ea] at h; exact fun cls d H' S re => h cls d M σ H' S.env S.s re
  | ok d γ1 =>
    rw [bind_ok ea] at h
    intro v H1 S1 P1 r1
    cases eg : g d γ1 with
    | none => rw [eg] at h; exact h.elim
    | some γ2 =>
      rw [eg] at h
      exact ⟨pens, M, γ1, d, γ2, S1.env, r1, eg, fun σ' E' S' _ _ => h M σ' H1 E' (S1.s.trans E S')⟩
end
end FC

namespace FC
open PySem PySem.Spec PyProof.Rows L2

/-! ### list comprehensions -/
def wipeG (γ : Gm) : List Nat → Gm
  | [] => γ
  | v :: vs => (wipeG γ vs).set v .none
def unw (γ1 γ2 : Gm) : List Nat → Gm
  | [] => γ2
  | v :: vs => match γ1[v]? with
    | some sv => (unw γ1 γ2 vs).set v sv
    | none => unw γ1 γ2 vs
def notOwn : Option SV → Bool
  | some (.own _ _) => false
  | _ => true
def okW (γ : Gm) (vs : List Nat) : Bool := vs.all fun v => notOwn γ[v]?
def lcL (g : GD) (c : F Bool) (e : F D) (vs : List Nat) : List D → List D → F (List D)
  | [], acc => fun γ => .ok acc γ
  | d :: ds, acc => fun γ => match g d γ with
    | none => .st
    | some γ3 => match c γ3 with
      | .ok true γ4 => (match e γ4 with
        | .ok y γ5 => lcL g c e vs ds (acc ++ [y]) (wipeG γ5 vs)
        | _ => .st)
      | .ok false γ4 => lcL g c e vs ds acc (wipeG γ4 vs)
      | _ => .st
def nLc (fi : F (List D)) (g : GD) (c : F Bool) (e : F D) (vs : List Nat) : F MO := F.bind fi fun xs γ1 =>
  if xs.length ≤ sizeLine ∧ okW γ1 vs = true then (match lcL g c e vs xs [] (wipeG γ1 vs) with
    | .ok acc γ2 => .ok (.lst acc) (unw γ1 γ2 vs)
    | _ => .st) else .st
theorem wipeG_length (γ : Gm) : ∀ vs : List Nat, (wipeG γ vs).length = γ.length
  | [] => rfl
  | v :: vs => by unfold wipeG; rw [List.length_set, wipeG_length γ vs]
theorem wipeG_out {γ : Gm} {j : Nat} : ∀ {vs : List Nat}, j ∉ vs → (wipeG γ vs)[j]? = γ[j]?
  | [], _ => rfl
  | v :: vs, h => by
    unfold wipeG
    rw [List.getElem?_set_ne (fun z => h (by rw [z]; exact List.mem_cons_self))]
    exact wipeG_out fun z => h (List.mem_cons_of_mem _ z)
theorem wipeG_in {γ : Gm} {j : Nat} (hj : j < γ.length) : ∀ {vs : List Nat}, j ∈ vs → (wipeG γ vs)[j]? = some .none
  | v :: vs, h => by
    unfold wipeG
    by_cases z : v = j
    · subst z
      rw [List.getElem?_set_self (by rw [wipeG_length]; exact hj)]
    · rw [List.getElem?_set_ne z]
      exact wipeG_in hj ((List.mem_cons.mp h).resolve_left fun q => z q.symm)
theorem wipe_in {σ : L2.St} {j : Nat} (hj : j < σ.length) : ∀ {vs : List Nat}, j ∈ vs → (wipe σ vs)[j]? = some none
  | v :: vs, h => by
    unfold wipe
    by_cases z : v = j
    · subst z
      rw [List.getElem?_set_self (by rw [wipe_length]; exact hj)]
    · rw [List.getElem?_set_ne z]
      exact wipe_in hj ((List.mem_cons.mp h).resolve_left fun q => z q.symm)
theorem wipe_same {σ σ2 : L2.St} {vs : List Nat} (hl : σ2.length = σ.length) (h : ∀ j, j ∉ vs → σ2[j]? = σ[j]?) : wipe σ2 vs = wipe σ vs := by
  apply List.ext_getElem?
  intro j
  by_cases hj : j ∈ vs
  · by_cases hl2 : j < σ.length
    · rw [wipe_in hl2 hj, wipe_in (by rw [hl]; exact hl2) hj]
    · rw [List.getElem?_eq_none (by rw [wipe_length]; omega), List.getElem?_eq_none (by rw [wipe_length]; omega)]
  · rw [wipe_out hj, wipe_out hj, h j hj]
theorem unw_length (γ1 γ2 : Gm) : ∀ vs : List Nat, (unw γ1 γ2 vs).length = γ2.length
  | [] => rfl
  | v :: vs => by
    unfold unw
    split
    · rw [List.length_set, unw_length γ1 γ2 vs]
    · exact unw_length γ1 γ2 vs
theorem unw_out {γ1 γ2 : Gm} {j : Nat} : ∀ {vs : List Nat}, j ∉ vs → (unw γ1 γ2 vs)[j]? = γ2[j]?
  | [], _ => rfl
  | v :: vs, h => by
    unfold unw
    have h2 : j ∉ vs := fun z => h (List.mem_cons_of_mem _ z)
    split
    · rw [List.getElem?_set_ne (fun z => h (by rw [z]; exact List.mem_cons_self))]
      exact unw_out h2
    · exact unw_out h2
theorem unw_in {γ1 γ2 : Gm} {j : Nat} (hl : γ2.length = γ1.length) : ∀ {vs : List Nat}, j ∈ vs → (unw γ1 γ2 vs)[j]? = γ1[j]?
  | v :: vs, h => by
    unfold unw
    by_cases z : v = j
    · subst z
      split
      · rename_i sv e
        rw [List.getElem?_set_self (by rw [unw_length, hl]; exact (List.getElem?_eq_some_iff.mp e).1), e]
      · rename_i e
        rw [e]
        exact List.getElem?_eq_none (by rw [unw_length, hl]; simpa using e)
    · have h2 := (List.mem_cons.mp h).resolve_left fun q => z q.symm
      split
      · rw [List.getElem?_set_ne z]
        exact unw_in hl h2
      · exact unw_in hl h2
section
variable {C : Ct} {pens : Nat → Addr} {M : Addr → Prop} {γ γ1 γ2 : Gm} {σ σ2 : L2.St} {H H1 : Hp}
theorem EnvRep.wipe (E : EnvRep C pens M γ σ H) : ∀ vs : List Nat, EnvRep C pens M (wipeG γ vs) (wipe σ vs) H
  | [] => E
  | v :: vs => (EnvRep.wipe E vs).set (i := v) (x := none) (sv := .none) trivial fun _ _ z => by cases z
theorem Own.wipe {a : Addr} : ∀ {vs : List Nat}, Own (wipeG γ vs) (wipe σ vs) a → Own γ σ a
  | [], h => h
  | v :: vs, h => Own.wipe (vs := vs) (Own.set v none .none (fun _ _ z => by cases z) h)
theorem okW_at {vs : List Nat} {j : Nat} {t : Option Nat} {o : MO} (h : okW γ vs = true) (hj : j ∈ vs) (e : γ[j]? = some (.own t o)) : False := by
  unfold okW at h
  have := List.all_eq_true.mp h j hj
  rw [e] at this
  cases this
theorem unw_own {vs : List Nat} (hl : γ2.length = γ1.length) (ok : okW γ1 vs = true) {j : Nat} {t : Option Nat} {o : MO} (e : (unw γ1 γ2 vs)[j]? = some (.own t o)) : j ∉ vs ∧ γ2[j]? = some (.own t o) := by
  by_cases hj : j ∈ vs
  · rw [unw_in hl hj] at e
    exact (okW_at ok hj e).elim
  · rw [unw_out hj] at e
    exact ⟨hj, e⟩
/-- behind the comprehension -/
theorem EnvRep.unw {M' : Addr → Prop} {H' : Hp} {vs : List Nat} (E1 : EnvRep C pens M γ1 σ H1) (E2 : EnvRep C pens M' γ2 (L2.wipe σ vs) H') (ok : okW γ1 vs = true) (hm : ∀ a, M a → M' a) (fn : Fine M M' H1 H') (hs : ∀ a vs, Seen C H1 a vs → Seen C H' a vs) : EnvRep C pens M' (FC.unw γ1 γ2 vs) σ H' := by
  have hl : γ2.length = γ1.length := by rw [← E2.len, ← E1.len, wipe_length]
  refine ⟨by rw [unw_length, hl, E1.len], fun j sv x h1 h2 => ?_, fun j k t o t' o' a h1 h2 h3 h4 => ?_, E2.dom, E2.tab⟩
  · by_cases hj : j ∈ vs
    · rw [unw_in hl hj] at h1
      exact (E1.ok j sv x h1 h2).fine fn hm hs fun t o a q _ _ _ _ => (okW_at ok hj (by rw [h1, q])).elim
    · rw [unw_out hj] at h1
      exact E2.ok j sv x h1 (by rw [wipe_out hj]; exact h2)
  · obtain ⟨n1, e1⟩ := unw_own hl ok h1
    obtain ⟨n2, e2⟩ := unw_own hl ok h2
    exact E2.inj j k t o t' o' a e1 e2 (by rw [wipe_out n1]; exact h3) (by rw [wipe_out n2]; exact h4)
theorem Pat.unw {vs : List Nat} (p : Pat (wipeG γ1 vs) γ2) : Pat γ1 (FC.unw γ1 γ2 vs) := by
  have hl : γ2.length = γ1.length := by rw [← p.length, wipeG_length]
  unfold Pat
  apply List.ext_getElem?
  intro j
  rw [List.getElem?_map, List.getElem?_map]
  by_cases hj : j ∈ vs
  · rw [unw_in hl hj]
  · rw [unw_out hj, ← p.at j, wipeG_out hj]
theorem Seen.keepN {N : Addr → Prop} {H' : Hp} {a : Addr} {vs : List V} (s : Seen C H a vs) (k : Keep N H H') (n : ∀ b o u, H b = some (.frz o u) → ¬ N b) : Seen C H' a vs := by
  rcases s with ⟨o, h⟩ | s
  · exact .inl ⟨o, (k a _ h (n _ _ _ h)).1 rfl⟩
  · exact .inr s
theorem EnvRep.ownNF (E : EnvRep C pens M γ σ H) : ∀ b o u, H b = some (.frz o u) → ¬ Own γ σ b := fun b q u h ⟨i, t, o, h1, h2⟩ => by
  obtain ⟨c, e, m, r, _⟩ := E.ok i _ _ h1 h2
  cases e
  cases o with
  | lst xs => obtain ⟨vs, e, _⟩ := r; rw [h] at e; cases e
  | ins c fs => obtain ⟨dx, vs, e, _⟩ := r; rw [h] at e; cases e
end
theorem PTs.imp {X : Cx} {ifs : List Expr} {t t' : TT} (h : PTs X ifs t) (k : ∀ σ H Q, t' σ H Q → t σ H Q) : PTs X ifs t' := ⟨fun pins s σ H Q I q => h.run pins s σ H Q I (k σ H Q q)⟩
def FTs (C : Ct) (p : Bool) (X : Cx) (ifs : List Expr) (c : F Bool) : Prop := PTs X ifs (tFB C (fun _ _ _ _ => False) p c)
abbrev W0 : WX := fun _ _ _ _ => False
def tTrue : F Bool := fun γ => .ok true γ
section
variable {C : Ct} {W : WX} {X : Cx} {m p m1 p1 m2 p2 m3 p3 : Bool} {a b c e' e : Expr} {fa fb fc : F D} {fn : F MO} {gc : F Bool} {s t : F Fl} {pos : Pos} {st : Stmt} {rest : List Stmt} {i : Nat}
theorem fts_nil : FTs C true X [] tTrue := PTs.imp pts_nil fun σ H Q ⟨pens, M, γ, E, h⟩ => h H (Stp.pure E (Keep.refl _ _)) fun _ => ⟨rfl, Keep.refl _ _⟩
theorem fts_one (h : FT C W0 p X c gc) : FTs C p X [c] gc := PTs.imp (pts_one h) fun σ H Q h => h
theorem lc_te {fi : F (List D)} {g : GD} {fe : F D} {vs ws : List Nat} {σ : L2.St} {H : Hp} {Q : VK} (hws : ∀ j ∈ ws, j ∈ vs) (h : tFN C W false (nLc fi g gc fe vs) σ H Q) : tLc (tFI C W p fi) (tG C ws g) (tFB C W0 p1 gc) (tF C W0 true p2 fe) vs σ H Q := by
  obtain ⟨pens, M, γ, E, h⟩ := h
  refine ⟨pens, M, γ, E, ?_⟩
  unfold nLc at h
  cases ea : fi γ with
  | st => rw [bind_st ea] at h; exact h
  | ex x γ' => rw [bind_ex ea] at h; exact h
  | ok xs γ1 =>
    rw [bind_ok ea] at h
    intro J H1 S1 P1 IO D hD
    split at h
    case isFalse => exact h.elim
    rename_i hz
    obtain ⟨hz, okw⟩ := hz
    have E1 := S1.env
    cases el : lcL g gc fe vs xs [] (wipeG γ1 vs) with
    | st => rw [el] at h; exact h.elim
    | ex _ _ => rw [el] at h; exact h.elim
    | ok accF γF =>
      rw [el] at h
      simp only at h
      have nD : ¬ Own γ1 σ D := fun z => Own.tracked E1 hD z
      refine ⟨fun i mm H' => mm = xs.length - i ∧ i ≤ xs.length ∧ ∃ acc us γ', EnvRep C pens (adj M D) γ' (wipe σ vs) H' ∧ Keep (Own γ1 σ) H1 H' ∧ Pat (wipeG γ1 vs) γ' ∧ H' D = some (.lst us) ∧ RepL C (adj M D) H' us acc ∧ acc.length ≤ i ∧ lcL g gc fe vs (xs.drop i) acc γ' = .ok accF γF,
        ⟨xs.length, by simp, Nat.zero_le _, [], [], wipeG γ1 vs, (E1.wipe vs).plus hD ⟨_, upd_same⟩ (Keep.new hD), Keep.new hD, Pat.refl _, upd_same, .nil, Nat.zero_le _, by simpa using el⟩, ?_⟩
      rintro i mm H' ⟨rfl, hi, acc, us, γ', E', k', pt', hD', rs', hla, el'⟩
      have fn' : Fine M (adj M D) H1 H' := ⟨fun b o eb nb tb => (k' b o eb fun z => nb (E1.ownM z).1).1 tb, fun b o eb z => z.elim id fun q => by rw [q, hD] at eb; cases eb⟩
      have io := IO _ H' fn' E'.dom
      have oo : ∀ b, Own γ' (wipe σ vs) b → Own γ1 σ b := fun b z => Own.wipe (pt'.symm.Own z)
      by_cases hlt : i < xs.length
      · have ed : xs[i]? = some xs[i] := List.getElem?_eq_getElem hlt
        rw [List.drop_eq_getElem_cons hlt] at el'
        obtain ⟨go, yl⟩ := io.1 i _ ed
        refine .inr ⟨go, fun H2 => ∃ acc us γ', EnvRep C pens (adj M D) γ' (wipe σ vs) H2 ∧ Keep (Own γ1 σ) H1 H2 ∧ Pat (wipeG γ1 vs) γ' ∧ H2 D = some (.lst us) ∧ RepL C (adj M D) H2 us acc ∧ acc.length ≤ i + 1 ∧ lcL g gc fe vs (xs.drop (i + 1)) acc γ' = .ok accF γF,
          fun H2 q => ⟨xs.length - (i + 1), by omega, rfl, hlt, q⟩, fun x H2 y => ?_⟩
        obtain ⟨k2, r2⟩ := yl x H2 y
        have E2 := E'.keep k2
        simp only [lcL] at el'
        cases eg : g xs[i] γ' with
        | none => rw [eg] at el'; cases el'
        | some γ3 =>
          rw [eg] at el'
          simp only at el'
          refine ⟨pens, adj M D, γ', xs[i], γ3, E2, r2, eg, fun σ3 E3 S3 l3 o3 => ⟨?_, ?_⟩⟩
          · refine wipe_same (by rw [l3, wipe_length]) fun j hj => ?_
            rw [(o3 j fun z => hj (hws j z)).1, wipe_out hj]
          · have hw3 : wipe σ3 vs = wipe σ vs := wipe_same (by rw [l3, wipe_length]) fun j hj => by rw [(o3 j fun z => hj (hws j z)).1, wipe_out hj]
            have o31 : ∀ b, Own γ3 σ3 b → Own γ1 σ b := fun b z => by
              rcases S3.own b z with q | q
              · exact oo b q
              · obtain ⟨_, u, eu, _⟩ := E3.ownM z
                rw [q] at eu
                cases eu
            have hD2 : H2 D = some (.lst us) := k2.at hD'
            have rs2 := rs'.fine (Fine.keep0 k2)
            have k12 : Keep (Own γ1 σ) H1 H2 := k'.trans k2.any
            -- the patterns
            have pts : ∀ γ9, Pat γ3 γ9 → Pat (wipeG γ1 vs) (wipeG γ9 vs) := fun γ9 pq => by
              unfold Pat
              apply List.ext_getElem?
              intro j
              rw [List.getElem?_map, List.getElem?_map]
              by_cases hj : j ∈ vs
              · have l1 : (wipeG γ1 vs).length = γ9.length := by rw [← pq.length, ← E3.len, l3, wipe_length, wipeG_length, E1.len]
                rw [wipeG_length] at l1
                by_cases hl : j < γ1.length
                · rw [wipeG_in hl hj, wipeG_in (by rw [← l1]; exact hl) hj]
                · rw [List.getElem?_eq_none (by rw [wipeG_length]; omega), List.getElem?_eq_none (by rw [wipeG_length]; omega)]
              · rw [wipeG_out (γ := γ9) hj, ← pq.at j, (o3 j fun z => hj (hws j z)).2, pt'.at j]
            refine ⟨pens, adj M D, γ3, E3, ?_⟩
            cases ec : gc γ3 with
            | st => rw [ec] at el'; cases el'
            | ex _ _ => rw [ec] at el'; cases el'
            | ok k γ4 =>
              rw [ec] at el'
              intro H4 S4 P4
              have E4 := S4.env
              have nD4 : ∀ {γ9 : Gm}, Pat γ3 γ9 → ¬ Own γ9 σ3 D := fun pq z => nD (o31 D (pq.symm.Own z))
              have hD4 : H4 D = some (.lst us) := (S4.keep D _ hD2 (nD4 (Pat.refl _))).1 rfl
              have fk4 : Fine (adj M D) (adj M D) H2 H4 := Fine.keep S4.keep fun _ z => (E3.ownM z).1
              have rs4 := rs2.fine fk4
              have k14 : Keep (Own γ1 σ) H1 H4 := k12.trans (S4.keep.mono o31)
              cases k with
              | false =>
                rw [if_neg Bool.false_ne_true]
                have Ew := E4.wipe vs
                rw [hw3] at Ew
                exact ⟨acc, us, _, Ew, k14, pts _ S4.pat, hD4, rs4, Nat.le_succ_of_le hla, el'⟩
              | true =>
                rw [if_pos rfl]
                refine ⟨pens, adj M D, γ4, E4, ?_⟩
                simp only at el'
                cases ee : fe γ4 with
                | st => rw [ee] at el'; cases el'
                | ex _ _ => rw [ee] at el'; cases el'
                | ok yd γ5 =>
                  rw [ee] at el'
                  intro y H5 S5 P5 r5
                  have E5 := S5.env
                  have p35 := S4.pat.trans S5.pat
                  have hD5 : H5 D = some (.lst us) := (S5.keep D _ hD4 (nD4 S4.pat)).1 rfl
                  have fk5 : Fine (adj M D) (adj M D) H4 H5 := Fine.keep S5.keep fun _ z => (E4.ownM z).1
                  have rs5 := rs4.fine fk5
                  have k15 : Keep (Own γ1 σ) H1 H5 := k14.trans (S5.keep.mono fun b z => o31 b (S4.pat.symm.Own z))
                  have Ew := E5.wipe vs
                  rw [hw3] at Ew
                  refine ⟨us, hD5, by rw [rs5.length]; omega, acc ++ [yd], us ++ [y], _, Ew.poke (.inr rfl) hD5 (fun _ _ z => by cases z) (fun z => nD (Own.wipe (by
                    have := (pts _ p35).symm.Own z
                    exact this))), ?_, pts _ p35, upd_same, (rs5.append (.cons (show Rep C (adj M D) H5 y yd from r5) .nil)).fine (Fine.poke (.inr rfl)), by rw [List.length_append]; exact Nat.succ_le_succ hla, el'⟩
                  intro b u eb nb
                  have ne : b ≠ D := fun z => by rw [z, hD] at eb; cases eb
                  rw [upd_ne ne]
                  exact k15 b u eb nb
      · have e : i = xs.length := by omega
        subst e
        rw [List.drop_eq_nil_of_le (Nat.le_refl _)] at el'
        cases el'
        refine .inl ⟨io.2 _ (Nat.le_refl _), ?_⟩
        have hD0 : H D = none := S1.keep.free hD fun z => nD (S1.pat.Own z)
        refine h D H' hD0 (E1.unw E' okw (fun _ z => .inl z) fn' fun b ws sn => sn.keepN k' fun b' o' u' hb => E1.ownNF b' o' u' hb) (S1.keep.trans (k'.mono fun _ z => S1.pat.symm.Own z)) (S1.pat.trans pt'.unw) (fun z => by cases z) ⟨us, hD', rs'⟩
theorem fn_lc {elt tg iter : Expr} {ifs : List Expr} {scope : Scope} {own : List (Str × Nat)} {fi : F (List D)} {g : GD} {ws : List Nat} {fe : F D} (hc : X.calm = true) (hN : X.N.Nodup) (hi : FI C W p X tg iter fi) (ok : BlkOk X.N X.env.scope scope own)
    (hg : ∀ (s : Shared) (H : Hp) (Cd : Addr) (cl : List (Str × Addr)) (fp : List Addr), FG C (X.blk s H scope (compEnvC scope cl Cd X.env) fp) tg ws g) (ht : ∀ (s : Shared) (H : Hp) (Cd : Addr) (cl : List (Str × Addr)) (fp : List Addr), FTs C p1 (X.blk s H scope (compEnvC scope cl Cd X.env) fp) ifs gc)
    (he : ∀ (s : Shared) (H : Hp) (Cd : Addr) (cl : List (Str × Addr)) (fp : List Addr), FX C W0 true p2 (X.blk s H scope (compEnvC scope cl Cd X.env) fp) elt fe) (hws : ∀ j ∈ ws, j ∈ own.map (·.2) := by decide) (hs : ∀ x, foldedSetIterable iter X.env x = pure x := by intro _; rfl) :
    FN C W false X (.ListComp elt [⟨tg, iter, ifs, 0⟩] scope pos) (nLc fi g gc fe (own.map (·.2))) := PE.imp (pe_lc hc hN hi ok hg ht he hs) fun σ H Q h => lc_te hws h
theorem fs_setLc {y : Str} {py spos : Pos} {elt tg iter : Expr} {ifs : List Expr} {scope : Scope} {own : List (Str × Nat)} {fi : F (List D)} {g : GD} {ws : List Nat} {fe : F D} (hc : X.calm = true) (hN : X.N.Nodup) (hy : X.N[i]? = some y) (hyl : X.env.scope.names.lookup y = some .local)
    (hsw : swapsWith (.ListComp elt [⟨tg, iter, ifs, 0⟩] scope pos) (some (.Name y py)) spos.line X.env = pure true) (hi : FI C W p X tg iter fi) (ok : BlkOk X.N X.env.scope scope own)
    (hg : ∀ (s : Shared) (H : Hp) (Cd : Addr) (cl : List (Str × Addr)) (fp : List Addr), FG C (X.blk s H scope (compEnvC scope cl Cd X.env) fp) tg ws g) (ht : ∀ (s : Shared) (H : Hp) (Cd : Addr) (cl : List (Str × Addr)) (fp : List Addr), FTs C p1 (X.blk s H scope (compEnvC scope cl Cd X.env) fp) ifs gc)
    (he : ∀ (s : Shared) (H : Hp) (Cd : Addr) (cl : List (Str × Addr)) (fp : List Addr), FX C W0 true p2 (X.blk s H scope (compEnvC scope cl Cd X.env) fp) elt fe) (hws : ∀ j ∈ ws, j ∈ own.map (·.2) := by decide) (hs : ∀ x, foldedSetIterable iter X.env x = pure x := by intro _; rfl) :
    FS C W X (.Assign [.Name y py] (.ListComp elt [⟨tg, iter, ifs, 0⟩] scope pos) spos) (sSetNew i (nLc fi g gc fe (own.map (·.2)))) := PS.imp (ps_setLc hc hN hy hyl hsw hi ok hg ht he hs) fun D σ H ⟨pens, M, γ, E, h⟩ => by
  refine lc_te hws (W := W) ⟨pens, M, γ, E, ?_⟩
  unfold sSetNew at h
  cases ea : nLc fi g gc fe (own.map (·.2)) γ with
  | st => rw [bind_st ea] at h; exact h
  | ex x g => rw [bind_ex ea] at h; exact fun cls d H' S re => h cls d M σ H' S.env S.s re
  | ok o g =>
    rw [bind_ok ea] at h
    intro q H' hq E' k pt P r
    refine h (adj M q) _ H' (E'.setN (.inr rfl) r fun z => Own.tracked E hq (pt.symm.Own z)) ⟨k, fun b z => ?_, fun _ z _ => .inl z, fun b z => z.elim .inl fun e => .inr (by rw [e]; exact hq)⟩
    rcases Own.setN i q none o z with w | w
    · exact .inl (pt.symm.Own w)
    · exact .inr (by rw [w]; exact hq)
end
end FC

namespace FC
open PySem PySem.Spec PyProof.Rows L2

/-! ### calls of defs -/
def slotsOf : List AV → List Nat
  | [] => []
  | .s i :: as => i :: slotsOf as
  | _ :: as => slotsOf as
def bindA (γ : Gm) : Nat → List AV → Option (List SV)
  | _, [] => some []
  | k, .d x :: as => (bindA γ (k + 1) as).map (.val x :: ·)
  | k, .n o :: as => (bindA γ (k + 1) as).map (.own (some k) o :: ·)
  | k, .w xs :: as => (bindA γ (k + 1) as).map (.view xs :: ·)
  | k, .s i :: as => match γ[i]? with
    | some (.own _ o) => if i ∈ slotsOf as then none else (bindA γ (k + 1) as).map (.own (some k) o :: ·)
    | _ => none
def backG (g : Gm) : Nat → List AV → Gm → Option Gm
  | _, [], γ => some γ
  | k, .s i :: as, γ => match g[k]?, γ[i]? with
    | some (.own (some k') o'), some (.own t _) => if k' = k then backG g (k + 1) as (γ.set i (.own t o')) else none
    | _, _ => none
  | k, .d _ :: as, γ => backG g (k + 1) as γ
  | k, .n _ :: as, γ => backG g (k + 1) as γ
  | k, .w _ :: as, γ => backG g (k + 1) as γ
def padG (n : Nat) (svs : List SV) : Gm := svs ++ List.replicate (n - svs.length) .none
def penOf (vs : List V) : Nat → Addr := fun k => match vs[k]? with
  | some (.ref a) => a
  | _ => 0
theorem bindA_length {γ : Gm} : ∀ {as : List AV} {k : Nat} {svs : List SV}, bindA γ k as = some svs → svs.length = as.length
  | [], _, _, e => by cases e; rfl
  | .d x :: as, k, svs, e => by
    simp only [bindA, Option.map_eq_some_iff] at e
    obtain ⟨r, e1, rfl⟩ := e
    simp [bindA_length e1]
  | .n x :: as, k, svs, e => by
    simp only [bindA, Option.map_eq_some_iff] at e
    obtain ⟨r, e1, rfl⟩ := e
    simp [bindA_length e1]
  | .w x :: as, k, svs, e => by
    simp only [bindA, Option.map_eq_some_iff] at e
    obtain ⟨r, e1, rfl⟩ := e
    simp [bindA_length e1]
  | .s i :: as, k, svs, e => by
    simp only [bindA] at e
    split at e
    · split at e
      · cases e
      · simp only [Option.map_eq_some_iff] at e
        obtain ⟨r, e1, rfl⟩ := e
        simp [bindA_length e1]
    · cases e
/-- what the j-th argument becomes -/
theorem bindA_at {γ : Gm} : ∀ {as : List AV} {k : Nat} {svs : List SV}, bindA γ k as = some svs → ∀ {j : Nat} {sv : SV}, svs[j]? = some sv →
    (∃ x, as[j]? = some (.d x) ∧ sv = .val x) ∨ (∃ o, as[j]? = some (.n o) ∧ sv = .own (some (k + j)) o) ∨ (∃ xs, as[j]? = some (.w xs) ∧ sv = .view xs) ∨ ∃ (i : Nat) (t : Option Nat) (o : MO), as[j]? = some (.s i) ∧ γ[i]? = some (.own t o) ∧ sv = .own (some (k + j)) o
  | [], _, _, e, j, sv, h => by cases e; simp at h
  | .d x :: as, k, svs, e, j, sv, h => by
    simp only [bindA, Option.map_eq_some_iff] at e
    obtain ⟨r, e1, rfl⟩ := e
    cases j with
    | zero => cases h; exact .inl ⟨x, rfl, rfl⟩
    | succ j =>
      have q := bindA_at e1 (j := j) (sv := sv) (by simpa using h)
      rw [show k + 1 + j = k + (j + 1) by omega] at q
      simpa using q
  | .n x :: as, k, svs, e, j, sv, h => by
    simp only [bindA, Option.map_eq_some_iff] at e
    obtain ⟨r, e1, rfl⟩ := e
    cases j with
    | zero => cases h; exact .inr (.inl ⟨x, rfl, rfl⟩)
    | succ j =>
      have q := bindA_at e1 (j := j) (sv := sv) (by simpa using h)
      rw [show k + 1 + j = k + (j + 1) by omega] at q
      simpa using q
  | .w x :: as, k, svs, e, j, sv, h => by
    simp only [bindA, Option.map_eq_some_iff] at e
    obtain ⟨r, e1, rfl⟩ := e
    cases j with
    | zero => cases h; exact .inr (.inr (.inl ⟨x, rfl, rfl⟩))
    | succ j =>
      have q := bindA_at e1 (j := j) (sv := sv) (by simpa using h)
      rw [show k + 1 + j = k + (j + 1) by omega] at q
      simpa using q
  | .s i :: as, k, svs, e, j, sv, h => by
    simp only [bindA] at e
    split at e
    · rename_i t o eo
      split at e
      · cases e
      · simp only [Option.map_eq_some_iff] at e
        obtain ⟨r, e1, rfl⟩ := e
        cases j with
        | zero => cases h; exact .inr (.inr (.inr ⟨i, t, o, rfl, eo, rfl⟩))
        | succ j =>
          have q := bindA_at e1 (j := j) (sv := sv) (by simpa using h)
          rw [show k + 1 + j = k + (j + 1) by omega] at q
          simpa using q
    · cases e
theorem slotsOf_mem : ∀ {as : List AV} {i : Nat}, i ∈ slotsOf as ↔ ∃ j : Nat, as[j]? = some (.s i)
  | [], i => by simp [slotsOf]
  | a :: as, i => by
    have ih := slotsOf_mem (as := as) (i := i)
    have e : (∃ j : Nat, (a :: as)[j]? = some (.s i)) ↔ a = .s i ∨ ∃ j : Nat, as[j]? = some (.s i) := by
      constructor
      · rintro ⟨j, h⟩
        cases j with
        | zero => exact .inl (by simpa using h)
        | succ j => exact .inr ⟨j, by simpa using h⟩
      · rintro (h | ⟨j, h⟩)
        · exact ⟨0, by rw [h]; rfl⟩
        · exact ⟨j + 1, by simpa using h⟩
    rw [e]
    cases a with
    | s k => simp only [slotsOf, List.mem_cons, ih, AV.s.injEq, eq_comm]
    | d _ => simp [slotsOf, ih]
    | n _ => simp [slotsOf, ih]
    | w _ => simp [slotsOf, ih]
/-- two arguments are two slots -/
theorem bindA_inj {γ : Gm} : ∀ {as : List AV} {k : Nat} {svs : List SV}, bindA γ k as = some svs → ∀ {j l i : Nat}, as[j]? = some (.s i) → as[l]? = some (.s i) → j = l
  | [], _, _, _, j, l, i, h, _ => by simp at h
  | a :: as, k, svs, e, j, l, i, h1, h2 => by
    have rest : ∃ r, bindA γ (k + 1) as = some r := by
      cases a with
      | s m =>
        simp only [bindA] at e
        split at e
        · split at e
          · cases e
          · simp only [Option.map_eq_some_iff] at e
            obtain ⟨r, e1, _⟩ := e
            exact ⟨r, e1⟩
        · cases e
      | d _ => simp only [bindA, Option.map_eq_some_iff] at e; obtain ⟨r, e1, _⟩ := e; exact ⟨r, e1⟩
      | n _ => simp only [bindA, Option.map_eq_some_iff] at e; obtain ⟨r, e1, _⟩ := e; exact ⟨r, e1⟩
      | w _ => simp only [bindA, Option.map_eq_some_iff] at e; obtain ⟨r, e1, _⟩ := e; exact ⟨r, e1⟩
    obtain ⟨r, er⟩ := rest
    have no : ∀ l : Nat, a = .s i → as[l]? = some (.s i) → False := fun l ea el => by
      subst ea
      simp only [bindA] at e
      split at e
      · split at e
        · cases e
        · rename_i hn
          exact hn (slotsOf_mem.mpr ⟨l, el⟩)
      · cases e
    cases j with
    | zero =>
      cases l with
      | zero => rfl
      | succ l => exact (no l (by simpa using h1) (by simpa using h2)).elim
    | succ j =>
      cases l with
      | zero => exact (no j (by simpa using h2) (by simpa using h1)).elim
      | succ l => exact congrArg (· + 1) (bindA_inj er (by simpa using h1) (by simpa using h2))
/-- the slots behind the call -/
theorem backG_at {g : Gm} : ∀ {as : List AV} {k : Nat} {γ γ2 : Gm}, backG g k as γ = some γ2 → Pat γ γ2 ∧ (∀ j, j ∉ slotsOf as → γ2[j]? = γ[j]?) ∧ ∀ j i, as[j]? = some (.s i) → (∀ l, as[l]? = some (.s i) → l = j) → ∃ t o', g[k + j]? = some (.own (some (k + j)) o') ∧ γ2[i]? = some (.own t o') ∧ ∃ o, γ[i]? = some (.own t o)
  | [], _, γ, γ2, e => by
    cases e
    exact ⟨rfl, fun _ _ => rfl, fun j i h => by simp at h⟩
  | a :: as, k, γ, γ2, e => by
    by_cases hs : ∃ m, a = .s m
    · obtain ⟨m, rfl⟩ := hs
      simp only [backG] at e
      split at e
      · rename_i k' o' t o e1 e2
        split at e
        · rename_i hk
          subst hk
          obtain ⟨p1, p2, p3⟩ := backG_at e
          refine ⟨(Pat.put e2).trans p1, fun j hj => ?_, fun j i h hu => ?_⟩
          · simp only [slotsOf, List.mem_cons, not_or] at hj
            rw [p2 j hj.2, List.getElem?_set_ne fun z => hj.1 z.symm]
          · cases j with
            | zero =>
              have hm : m = i := by simpa using h
              subst hm
              have hn : m ∉ slotsOf as := fun z => by
                obtain ⟨l, hl⟩ := slotsOf_mem.mp z
                have := hu (l + 1) (by simpa using hl)
                omega
              exact ⟨t, o', by simpa using e1, by rw [p2 m hn, List.getElem?_set_self (List.getElem?_eq_some_iff.mp e2).1], o, e2⟩
            | succ j =>
              have h' : as[j]? = some (.s i) := by simpa using h
              obtain ⟨t3, o3, q1, q2, o4, q3⟩ := p3 j i h' fun l hl => by
                have := hu (l + 1) (by simpa using hl)
                omega
              have ne : m ≠ i := fun z => by
                subst z
                have := hu 0 (by simp)
                omega
              rw [List.getElem?_set_ne ne] at q3
              rw [show k' + 1 + j = k' + (j + 1) by omega] at q1
              exact ⟨t3, o3, q1, q2, o4, q3⟩
        · cases e
      · cases e
    · have e' : backG g (k + 1) as γ = some γ2 := by
        cases a with
        | s m => exact (hs ⟨m, rfl⟩).elim
        | d _ => exact e
        | n _ => exact e
        | w _ => exact e
      have es : slotsOf (a :: as) = slotsOf as := by
        cases a with
        | s m => exact (hs ⟨m, rfl⟩).elim
        | d _ => rfl
        | n _ => rfl
        | w _ => rfl
      obtain ⟨p1, p2, p3⟩ := backG_at e'
      refine ⟨p1, fun j hj => p2 j (by rw [← es]; exact hj), fun j i h hu => ?_⟩
      cases j with
      | zero => exact (hs ⟨i, by simpa using h⟩).elim
      | succ j =>
        obtain ⟨t3, o3, q1, q2, q3⟩ := p3 j i (by simpa using h) fun l hl => by
          have := hu (l + 1) (by simpa using hl)
          omega
        rw [show k + 1 + j = k + (j + 1) by omega] at q1
        exact ⟨t3, o3, q1, q2, q3⟩
theorem paired_at {α β : Type} {G : α → β → Prop} {l₁ : List α} {l₂ : List β} (h : Paired G l₁ l₂) : ∀ {i : Nat} {b : β}, l₂[i]? = some b → ∃ a, l₁[i]? = some a ∧ G a b := by
  induction h with
  | nil => intro i b e; simp at e
  | cons g r ih =>
    intro i b e
    cases i with
    | zero => cases e; exact ⟨_, rfl, g⟩
    | succ i => exact ih (i := i) (by simpa using e)
theorem fresh_at : ∀ {vs : List V} {as : List AV} {j : Nat} {a : Addr} {o : MO}, vs[j]? = some (.ref a) → as[j]? = some (.n o) → a ∈ freshA vs as
  | [], _, j, _, _, h, _ => by simp at h
  | _ :: _, [], j, _, _, _, h => by simp at h
  | v :: vs, av :: as, 0, a, o, h1, h2 => by
    cases h1
    cases h2
    exact List.mem_cons_self
  | v :: vs, av :: as, j + 1, a, o, h1, h2 => by
    have ih := fresh_at (vs := vs) (as := as) (j := j) (by simpa using h1) (by simpa using h2)
    cases v with
    | ref b => cases av with
      | n o' => exact List.mem_cons_of_mem _ ih
      | d _ => exact ih
      | s _ => exact ih
      | w _ => exact ih
    | _ => cases av <;> exact ih
theorem of_fresh : ∀ {vs : List V} {as : List AV} {a : Addr}, a ∈ freshA vs as → ∃ (j : Nat) (o : MO), vs[j]? = some (.ref a) ∧ as[j]? = some (.n o)
  | [], as, a, h => by cases as <;> cases h
  | v :: vs, [], a, h => by cases v <;> cases h
  | v :: vs, av :: as, a, h => by
    have down : a ∈ freshA vs as → ∃ (j : Nat) (o : MO), (v :: vs)[j]? = some (.ref a) ∧ (av :: as)[j]? = some (.n o) := fun h => by
      obtain ⟨j, o, h1, h2⟩ := of_fresh h
      exact ⟨j + 1, o, by simpa using h1, by simpa using h2⟩
    cases v with
    | ref b => cases av with
      | n o' =>
        rcases List.mem_cons.mp h with q | q
        · subst q; exact ⟨0, o', rfl, rfl⟩
        · exact down q
      | d _ => exact down h
      | s _ => exact down h
      | w _ => exact down h
    | _ => cases av <;> exact down h
theorem fresh_inj : ∀ {vs : List V} {as : List AV}, (freshA vs as).Nodup → ∀ {j l : Nat} {a : Addr} {o o' : MO}, vs[j]? = some (.ref a) → as[j]? = some (.n o) → vs[l]? = some (.ref a) → as[l]? = some (.n o') → j = l
  | [], as, _, j, l, a, o, o', h, _, _, _ => by simp at h
  | v :: vs, [], _, j, l, a, o, o', _, h, _, _ => by simp at h
  | v :: vs, av :: as, nd, j, l, a, o, o', h1, h2, h3, h4 => by
    have nd' : (freshA vs as).Nodup := by
      cases v with
      | ref b => cases av with
        | n _ => exact (List.nodup_cons.mp nd).2
        | d _ => exact nd
        | s _ => exact nd
        | w _ => exact nd
      | _ => cases av <;> exact nd
    have no : ∀ {l : Nat} {o o' : MO}, v = .ref a → av = .n o → vs[l]? = some (.ref a) → as[l]? = some (.n o') → False := fun e1 e2 e3 e4 => by
      subst e1 e2
      exact (List.nodup_cons.mp nd).1 (fresh_at e3 e4)
    cases j with
    | zero => cases l with
      | zero => rfl
      | succ l => exact (no (by simpa using h1) (by simpa using h2) (by simpa using h3) (by simpa using h4)).elim
    | succ j => cases l with
      | zero => exact (no (by simpa using h3) (by simpa using h4) (by simpa using h1) (by simpa using h2)).elim
      | succ l => exact congrArg (· + 1) (fresh_inj nd' (by simpa using h1) (by simpa using h2) (by simpa using h3) (by simpa using h4))
theorem start_at {N : List Str} {vs : List V} {j : Nat} {v : V} (h : vs[j]? = some v) : (L2.start N vs)[j]? = some (some v) := by
  unfold L2.start
  have hl : j < vs.length := (List.getElem?_eq_some_iff.mp h).1
  rw [List.getElem?_append_left (by simpa using hl), List.getElem?_map, h]
  rfl
theorem padG_at {n : Nat} {svs : List SV} {j : Nat} {sv : SV} (h : (padG n svs)[j]? = some sv) : svs[j]? = some sv ∨ (svs.length ≤ j ∧ sv = .none) := by
  unfold padG at h
  by_cases hl : j < svs.length
  · rw [List.getElem?_append_left hl] at h
    exact .inl h
  · rw [List.getElem?_append_right (by omega), List.getElem?_replicate] at h
    split at h
    · exact .inr ⟨by omega, (Option.some.inj h).symm⟩
    · cases h

section
variable {C : Ct} {W : WX} {pens : Nat → Addr} {M M1 M' : Addr → Prop} {γ γ1 γ2 g : Gm} {σ σ' : L2.St} {H H1 H' : Hp} {vs : List V} {as : List AV} {svs : List SV} {N : List Str}
theorem bind_at (E1 : EnvRep C pens M1 γ1 σ H1) (hb : bindA γ1 0 as = some svs) (A : AsOk C M1 H H1 σ γ1 vs as) {j : Nat} {t : Option Nat} {o : MO} (h : (padG N.length svs)[j]? = some (.own t o)) :
    (∃ a, vs[j]? = some (.ref a) ∧ as[j]? = some (.n o) ∧ t = some j ∧ M1 a ∧ ORep C M1 H1 a o ∧ a ∈ freshA vs as) ∨
    ∃ (i : Nat) (t' : Option Nat) (a : Addr), as[j]? = some (.s i) ∧ γ1[i]? = some (.own t' o) ∧ t = some j ∧ vs[j]? = some (.ref a) ∧ σ[i]? = some (some (.ref a)) ∧ M1 a ∧ ORep C M1 H1 a o := by
  rcases padG_at h with q | q
  · rcases bindA_at hb q with ⟨x, _, e⟩ | ⟨o', e1, e⟩ | ⟨xs, _, e⟩ | ⟨i, t', o', e1, e2, e⟩
    · cases e
    · cases e
      obtain ⟨v, e2, a, rfl, m, r⟩ := paired_at A.ok e1
      rw [Nat.zero_add]
      exact .inl ⟨a, e2, e1, rfl, m, r, fresh_at e2 e1⟩
    · cases e
    · cases e
      obtain ⟨v, e3, e4, _⟩ := paired_at A.ok e1
      rw [Nat.zero_add]
      obtain ⟨x, h1, a, h2, m, r, _⟩ := E1.slot e2
      rw [h2] at h1
      rw [h1] at e4
      cases e4
      exact .inr ⟨i, t', a, e1, e2, rfl, e3, h1, m, r⟩
  · cases q.2
theorem own_vs (E1 : EnvRep C pens M1 γ1 σ H1) (hb : bindA γ1 0 as = some svs) (A : AsOk C M1 H H1 σ γ1 vs as) {c : Addr} (h : Own (padG N.length svs) (L2.start N vs) c) :
    (c ∈ freshA vs as) ∨ ∃ (i j : Nat) (t' : Option Nat) (o : MO), as[j]? = some (.s i) ∧ γ1[i]? = some (.own t' o) ∧ σ[i]? = some (some (.ref c)) ∧ vs[j]? = some (.ref c) := by
  obtain ⟨j, t, o, h1, h2⟩ := h
  rcases bind_at E1 hb A h1 with ⟨a, e1, e2, rfl, m, r, fr⟩ | ⟨i, t', a, e1, e2, e3, e4, e5, m, r⟩
  · rw [start_at e1] at h2
    cases h2
    exact .inl fr
  · rw [start_at e4] at h2
    cases h2
    exact .inr ⟨i, j, t', o, e1, e2, e5, e4⟩
theorem bind_env (E1 : EnvRep C pens M1 γ1 σ H1) (hb : bindA γ1 0 as = some svs) (A : AsOk C M1 H H1 σ γ1 vs as) (E : EnvRep C pens M γ σ H) (pt : Pat γ γ1) (hN : as.length ≤ N.length) : EnvRep C (penOf vs) M1 (padG N.length svs) (L2.start N vs) H1 := by
  have hlv : vs.length = as.length := Paired.length A.ok
  have hls := bindA_length hb
  refine ⟨?_, fun j sv x h1 h2 => ?_, fun j l t o t' o' a h1 h2 h3 h4 => ?_, E1.dom, E1.tab⟩
  · unfold L2.start padG
    simp only [List.length_append, List.length_map, List.length_replicate]
    omega
  · rcases padG_at h1 with q | q
    · rcases bindA_at hb q with ⟨y, e1, rfl⟩ | ⟨o', e1, rfl⟩ | ⟨xs, e1, rfl⟩ | ⟨i, t', o', e1, e2, rfl⟩
      · obtain ⟨v, e2, r⟩ := paired_at A.ok e1
        rw [start_at e2] at h2
        cases h2
        exact ⟨v, rfl, r⟩
      · obtain ⟨v, e2, a, rfl, m, r⟩ := paired_at A.ok e1
        rw [start_at e2] at h2
        cases h2
        refine ⟨a, rfl, m, r, fun k z => ?_⟩
        cases z
        rw [Nat.zero_add]
        unfold penOf
        rw [e2]
      · obtain ⟨v, e2, a, us, rfl, s, r⟩ := paired_at A.ok e1
        rw [start_at e2] at h2
        cases h2
        exact ⟨a, us, rfl, s, r⟩
      · rcases bind_at (N := N) E1 hb A h1 with ⟨a, z1, z2, _⟩ | ⟨i', t'', a, z1, z2, z3, z4, z5, m, r⟩
        · rw [e1] at z2
          cases z2
        · rw [start_at z4] at h2
          cases h2
          refine ⟨a, rfl, m, r, fun k z => ?_⟩
          cases z
          rw [Nat.zero_add]
          unfold penOf
          rw [z4]
    · rw [q.2]; trivial
  · rcases bind_at E1 hb A h1 with ⟨a1, e1, e2, rfl, m, r, fr⟩ | ⟨i, t'', a1, e1, e2, e3, e4, e5, m, r⟩
    · rw [start_at e1] at h3
      cases h3
      rcases bind_at E1 hb A h2 with ⟨a2, k1, k2, rfl, _, _, _⟩ | ⟨i, t'', a2, k1, k2, k3, k4, k5, _⟩
      · rw [start_at k1] at h4
        cases h4
        exact fresh_inj A.nd e1 e2 k1 k2
      · rw [start_at k4] at h4
        cases h4
        exact (Own.tracked E (A.fr _ fr) (pt.symm.Own ⟨i, t'', o', k2, k5⟩)).elim
    · rw [start_at e4] at h3
      cases h3
      rcases bind_at E1 hb A h2 with ⟨a2, k1, k2, rfl, _, _, fr⟩ | ⟨i', t3, a2, k1, k2, k3, k4, k5, _⟩
      · rw [start_at k1] at h4
        cases h4
        exact (Own.tracked E (A.fr _ fr) (pt.symm.Own ⟨i, t'', o, e2, e5⟩)).elim
      · rw [start_at k4] at h4
        cases h4
        have ei := E1.inj i i' _ _ _ _ _ e2 k2 e5 k5
        subst ei
        exact bindA_inj hb e1 k1
/-- the caller's slots behind the call -/
theorem call_core (E : EnvRep C pens M γ σ H) (E1 : EnvRep C pens M1 γ1 σ H1) (k1 : Keep (Own γ σ) H H1) (pt : Pat γ γ1) (up1 : ∀ a, M a → M1 a) (dn1 : ∀ a, M1 a → M a ∨ a ∈ freshA vs as) (A : AsOk C M1 H H1 σ γ1 vs as)
    (hN : as.length ≤ N.length) (hb : bindA γ1 0 as = some svs) (hk : backG g 0 as γ1 = some γ2) (E' : EnvRep C (penOf vs) M' g σ' H') (S : StpS M1 (L2.start N vs) (padG N.length svs) H1 M' σ' g H') {M2 : Addr → Prop} (u2 : ∀ c, M c → M2 c) (d2 : ∀ c, M2 c → M c ∨ (M' c ∧ H c = none)) :
    EnvRep C pens M2 γ2 σ H' ∧ Keep (Own γ σ) H H' ∧ Pat γ γ2 ∧ (∀ c o, H' c = some o → M2 c → M' c) := by
  obtain ⟨p1, p2, p3⟩ := backG_at hk
  -- the callee's own things
  have ow : ∀ c, Own (padG N.length svs) (L2.start N vs) c → c ∈ freshA vs as ∨ Own γ σ c := fun c z => (own_vs E1 hb A z).imp id fun ⟨i, j, t', o, e1, e2, e3, e4⟩ => pt.symm.Own ⟨i, t', o, e2, e3⟩
  have back : ∀ {i j : Nat} {c : Addr}, as[j]? = some (.s i) → σ[i]? = some (some (.ref c)) → ∃ t o' o, γ2[i]? = some (.own t o') ∧ γ1[i]? = some (.own t o) ∧ M' c ∧ ORep C M' H' c o' ∧ Own g σ' c := fun {i j c} e1 e2 => by
    obtain ⟨t, o', q1, q2, o, q3⟩ := p3 j i e1 fun l hl => bindA_inj hb hl e1
    rw [Nat.zero_add] at q1
    obtain ⟨x, h1, b, h2, m, r, tg⟩ := E'.slot q1
    have hv : vs[j]? = some (.ref c) := by
      obtain ⟨v, e3, e4, _⟩ := paired_at A.ok e1
      rw [e2] at e4
      cases e4
      exact e3
    have hp : penOf vs j = c := by unfold penOf; rw [hv]
    have hbc : c = b := by rw [← hp]; exact tg j rfl
    subst hbc
    subst h2
    exact ⟨t, o', o, q2, q3, m, r, j, _, _, q1, h1⟩
  have m2m' : ∀ c o, H' c = some o → M2 c → M' c := fun c o e z => by
    rcases d2 c z with q | q
    · by_cases oc : Own (padG N.length svs) (L2.start N vs) c
      · rcases own_vs E1 hb A oc with fr | ⟨i, j, t', o2, e1, e2, e3, e4⟩
        · obtain ⟨u, eu⟩ := E.dom c q
          rw [A.fr c fr] at eu
          cases eu
        · obtain ⟨_, _, _, _, _, m, _⟩ := back e1 e3
          exact m
      · exact S.up c (up1 c q) oc
    · exact q.1
  have fk : Fine M1 M2 H1 H' := ⟨fun c o e n t => (S.keep c o e fun z => n ((bind_env E1 hb A E pt hN).ownM z).1).1 t, fun c o e z => by
    rcases d2 c z with q | q
    · exact up1 c q
    · exact (S.dn c q.1).elim id fun q => by rw [q] at e; cases e⟩
  have kk : Keep (Own γ σ) H H' := fun c o e n => by
    have n1 : ¬ Own (padG N.length svs) (L2.start N vs) c := fun z => (ow c z).elim (fun q => by rw [A.fr c q] at e; cases e) n
    cases t : isTbl o with
    | false =>
      have e1 := (k1 c o e n).1 t
      exact ⟨fun _ => (S.keep c o e1 n1).1 t, fun z => by cases z⟩
    | true =>
      obtain ⟨o1, e1, t1, _⟩ := (k1 c o e n).2 t
      exact ⟨fun z => (by cases z), fun _ => (S.keep c o1 e1 n1).2 t1⟩
  have wk : Fine M' M2 H' H' := Fine.weak m2m'
  refine ⟨⟨by rw [← p1.length, E1.len], fun j sv x h1 h2 => ?_, fun j l t o t' o' a h1 h2 h3 h4 => ?_, fun c z => ?_, E'.tab⟩, kk, pt.trans p1, m2m'⟩
  · by_cases hj : j ∈ slotsOf as
    · obtain ⟨k, ek⟩ := slotsOf_mem.mp hj
      obtain ⟨t, o', q1, q2, o, q3⟩ := p3 k j ek fun l hl => bindA_inj hb hl ek
      obtain ⟨y, y1, a, y2, ma, ra, tg⟩ := E1.slot q3
      rw [h2] at y1
      cases y1
      subst y2
      obtain ⟨t2, o2, o3, w1, w2, m, r, _⟩ := back ek h2
      rw [h1] at w1
      cases w1
      rw [q3] at w2
      cases w2
      exact ⟨a, rfl, u2 a (E.ownM (pt.symm.Own ⟨j, t, o, q3, h2⟩)).1, r.fine wk (fun _ e _ => e), tg⟩
    · rw [p2 j hj] at h1
      have q := E1.ok j sv x h1 h2
      cases sv with
      | none => trivial
      | val d => obtain ⟨v, e, r⟩ := q; exact ⟨v, e, r.fine fk⟩
      | view xs =>
        obtain ⟨a, us, e, s, r⟩ := q
        refine ⟨a, us, e, s.keepN S.keep fun b o u hb' z => ?_, r.fine fk⟩
        exact (bind_env E1 hb A E pt hN).ownNF b o u hb' z
      | own t o =>
        obtain ⟨a, e, m, r, tg⟩ := q
        subst e
        have oa : Own γ σ a := pt.symm.Own ⟨j, t, o, h1, h2⟩
        refine ⟨a, rfl, u2 a (E.ownM oa).1, r.fine fk fun u hu ht => (S.keep a u hu fun z => ?_).1 ht, tg⟩
        rcases own_vs E1 hb A z with fr | ⟨i, k, t', o2, e1, e2, e3, e4⟩
        · exact Own.tracked E (A.fr a fr) oa
        · have ei := E1.inj j i _ _ _ _ _ h1 e2 h2 e3
          subst ei
          exact hj (slotsOf_mem.mpr ⟨k, e1⟩)
  · obtain ⟨o3, k3⟩ := p1.symm.own h1
    obtain ⟨o4, k4⟩ := p1.symm.own h2
    exact E1.inj j l _ _ _ _ a k3 k4 h3 h4
  · rcases d2 c z with q | q
    · obtain ⟨o, e⟩ := E1.dom c (up1 c q)
      by_cases n : Own (padG N.length svs) (L2.start N vs) c
      · rcases own_vs E1 hb A n with fr | ⟨i, j, t', o2, e1, e2, e3, e4⟩
        · obtain ⟨u, eu⟩ := E.dom c q
          rw [A.fr c fr] at eu
          cases eu
        · obtain ⟨_, _, _, _, _, m, _⟩ := back e1 e3
          exact E'.dom c m
      · exact S.keep.there e n
    · exact E'.dom c q.1
end
end FC

namespace FC
open PySem PySem.Spec PyProof.Rows L2

/-! ### what a def promises -/
abbrev WofE (E : XK) : WX := fun cls d _ H => E cls d H
def spF (C : Ct) (N : List Str) (n : Nat) (b : F Fl) : Sp := fun vs H Q E => vs.length = n ∧ ∃ pens M γ, EnvRep C pens M γ (L2.start N vs) H ∧ aftS C (WofE E) pens M (L2.start N vs) γ H (b γ) { nx := fun _ H' => Q .non H', rt := Q }
section
variable {P : Program} {w : World} {K : PySem.W.Frag} {mg : Str → Option Value} {base : Heap} {x qual : Str} {params : Arguments} {body : List Stmt} {scope : Scope} {f : Addr} {fd : FuncData} {N ps : List Str} {k : Nat} {b : F Fl} {C : Ct}
/-- a def keeps its promise -/
def FnF (P : Program) (w : World) (K : PySem.W.Frag) (mg : Str → Option Value) (base : Heap) (C : Ct) (k : Nat) (f : Addr) (fd : FuncData) (ps N : List Str) (b : F Fl) : Prop := FnOk P w K mg base (L2.CX P w) k f fd ps (spF C N ps.length b)
theorem FnF.mono {j : Nat} (F : FnF P w K mg base C j f fd ps N b) (h : j ≤ k) : FnF P w K mg base C k f fd ps N b := FnOk.mono F h
/-- the context of a body -/
abbrev bcx (P : Program) (w : World) (K : PySem.W.Frag) (mg : Str → Option Value) (base : Heap) (N : List Str) (qual : Str) (scope : Scope) (f : Addr) (cdv : Value) (A : Around) (outer : List Env) (s : Shared) (H : Hp) (E : XK) : Cx := cxOf (L2.CX P w) P w K mg base N qual scope f cdv A outer s H E
theorem fnF_ok (F : FunD K x qual params body scope [] [] f fd) (S : FnScope N ps scope)
    (hbody : ∀ (cdv : Value) (A : Around) (outer : List Env) (s : Shared) (H : Hp) (E : XK), Room k (A.deeper (envOfC qual scope s.heap.objs.size f cdv)) → FSs C (WofE E) (bcx P w K mg base N qual scope f cdv A outer s H E) body b) : FnF P w K mg base C (k + 1) f fd ps N b :=
  F.ok S (fun vs H Q E h => h.1) fun cdv A outer s H vs Q E hr h => ⟨_, hbody cdv A outer s H E hr, h.2⟩
theorem take_bcx {cdv : Value} {A : Around} {outer : List Env} {s : Shared} {H : Hp} {E : XK} : Takes (bcx P w K mg base N qual scope f cdv A outer s H E) (WofE E) := takes_of rfl rfl rfl rfl
theorem pass_bcx {cdv : Value} {A : Around} {outer : List Env} {s : Shared} {H : Hp} {E : XK} : PassesOwn (model P w) (bcx P w K mg base N qual scope f cdv A outer s H E).A (bcx P w K mg base N qual scope f cdv A outer s H E).env (bcx P w K mg base N qual scope f cdv A outer s H E).xe := passes_of rfl
end

/-! ### the calls -/
/-- the outcome of a call: what comes back, the callee's slots, the caller's -/
def callR (N : Nat) (b : F Fl) (as : List AV) (γ : Gm) : R (RV × Gm) := match bindA γ 0 as with
  | none => .st
  | some svs => match b (padG N svs) with
    | .ok .nx g => (match backG g 0 as γ with | some γ2 => .ok (.val .non, g) γ2 | none => .st)
    | .ok (.ret r) g => (match backG g 0 as γ with | some γ2 => .ok (r, g) γ2 | none => .st)
    | .ex e g => (match backG g 0 as γ with | some γ2 => .ex e γ2 | none => .st)
    | _ => .st
def RV.d : RV → D
  | .val d => d
  | .own o => o.d
def rvO : RV → Option MO
  | .own o => some o
  | _ => none
def fCall (N : Nat) (b : F Fl) (fr : F (List AV)) : F D := F.bind fr fun as => F.bind (callR N b as) fun r γ => .ok r.1.d γ
def nCall (N : Nat) (b : F Fl) (fr : F (List AV)) : F MO := F.bind fr fun as => F.bind (callR N b as) fun r => liftO (rvO r.1)
def RVn (C : Ct) (M' : Addr → Prop) (H' H : Hp) (v : V) : RV → Prop
  | .val d => Rep C M' H' v d
  | .own o => ∃ a, v = .ref a ∧ M' a ∧ ORep C M' H' a o ∧ H a = none
/-- what is known behind a call -/
structure Aft (C : Ct) (pens : Nat → Addr) (M : Addr → Prop) (σ : L2.St) (γ : Gm) (H : Hp) (vs : List V) (g γ2 : Gm) (M' : Addr → Prop) (H' : Hp) : Prop where
  env : ∀ M2 : Addr → Prop, (∀ c, M c → M2 c) → (∀ c, M2 c → M c ∨ (M' c ∧ H c = none)) → EnvRep C pens M2 γ2 σ H' ∧ Keep (Own γ σ) H H' ∧ Pat γ γ2 ∧ (∀ c o, H' c = some o → M2 c → M' c)
  arg : ∀ (j : Nat) (o' : MO) (a : Addr), g[j]? = some (.own (some j) o') → vs[j]? = some (.ref a) → M' a ∧ ORep C M' H' a o'
/-- behind the arguments: the callee's promise is met, whatever is wished of the outcome -/
theorem call_sp {C : Ct} {W : WX} {pens : Nat → Addr} {M M1 : Addr → Prop} {γ γ1 : Gm} {σ : L2.St} {H H1 : Hp} {vs : List V} {as : List AV} {N : List Str} {n : Nat} {b : F Fl} {Q : VK} (hn : n = as.length) (hN : as.length ≤ N.length)
    (E : EnvRep C pens M γ σ H) (E1 : EnvRep C pens M1 γ1 σ H1) (k1 : Keep (Own γ σ) H H1) (pt : Pat γ γ1) (up1 : ∀ a, M a → M1 a) (dn1 : ∀ a, M1 a → M a ∨ a ∈ freshA vs as) (A : AsOk C M1 H H1 σ γ1 vs as)
    (h : match callR N.length b as γ1 with
      | .ok r γ2 => ∀ v H' M', Aft C pens M σ γ H vs r.2 γ2 M' H' → RVn C M' H' H v r.1 → Q v H'
      | .ex e γ2 => ∀ cls d H', Stp C pens M σ γ H γ2 H' → ExRep C M e cls d H' → W cls d σ H'
      | .st => False) : spF C N n b vs H1 Q (WE W σ) := by
  have hlv : vs.length = as.length := Paired.length A.ok
  refine ⟨hlv.trans hn.symm, ?_⟩
  unfold callR at h
  cases hb : bindA γ1 0 as with
  | none => rw [hb] at h; exact h.elim
  | some svs =>
    rw [hb] at h
    simp only at h
    have Ec := bind_env E1 hb A E pt hN
    refine ⟨penOf vs, M1, padG N.length svs, Ec, ?_⟩
    have arg : ∀ {M' : Addr → Prop} {σ' : L2.St} {g : Gm} {H' : Hp}, EnvRep C (penOf vs) M' g σ' H' → ∀ (j : Nat) (o' : MO) (a : Addr), g[j]? = some (.own (some j) o') → vs[j]? = some (.ref a) → M' a ∧ ORep C M' H' a o' ∧ Own g σ' a := fun {M' σ' g H'} E' j o' a q1 q2 => by
      obtain ⟨x, h1, b', h2, m, r, tg⟩ := E'.slot q1
      have hp : penOf vs j = a := by unfold penOf; rw [q2]
      have hbc : a = b' := by rw [← hp]; exact tg j rfl
      subst hbc
      subst h2
      exact ⟨m, r, j, _, _, q1, h1⟩
    -- what comes back
    have rv : ∀ {v : V} {r : RV} {M' : Addr → Prop} {σ' : L2.St} {g γ2 : Gm} {H' : Hp}, EnvRep C (penOf vs) M' g σ' H' → backG g 0 as γ1 = some γ2 → RVok C M' (L2.start N vs) (padG N.length svs) H1 σ' g H' v r → RVn C M' H' H v r := fun {v r M' σ' g γ2 H'} E' hk k => by
      cases r with
      | val d => exact k
      | own o =>
        obtain ⟨a, ev, ma, ra, no, q⟩ := k
        refine ⟨a, ev, ma, ra, ?_⟩
        rcases q with q | q
        · exact k1.free q fun z => Own.tracked E1 q (pt.Own z)
        · rcases own_vs E1 hb A q with fr | ⟨i, j, t', o2, e1, e2, e3, e4⟩
          · exact A.fr a fr
          · obtain ⟨p1, p2, p3⟩ := backG_at hk
            obtain ⟨t, o', q1, q2, o, q3⟩ := p3 j i e1 fun l hl => bindA_inj hb hl e1
            rw [Nat.zero_add] at q1
            exact (no (arg E' j _ a q1 e4).2.2).elim
    have af : ∀ {M' : Addr → Prop} {σ' : L2.St} {g γ2 : Gm} {H' : Hp}, EnvRep C (penOf vs) M' g σ' H' → StpS M1 (L2.start N vs) (padG N.length svs) H1 M' σ' g H' → backG g 0 as γ1 = some γ2 → Aft C pens M σ γ H vs g γ2 M' H' := fun {M' σ' g γ2 H'} E' S' hk =>
      ⟨fun M2 a1 a2 => call_core E E1 k1 pt up1 dn1 A hN hb hk E' S' a1 a2, fun j o' a q1 q2 => let z := arg E' j o' a q1 q2; ⟨z.1, z.2.1⟩⟩
    cases ec : b (padG N.length svs) with
    | st => rw [ec] at h; exact h
    | ex e g =>
      rw [ec] at h
      simp only at h
      cases hk : backG g 0 as γ1 with
      | none => rw [hk] at h; exact h.elim
      | some γ2 =>
        rw [hk] at h
        intro cls d M' σ' H' E' S' re
        obtain ⟨c1, c2, c3, c4⟩ := call_core E E1 k1 pt up1 dn1 A hN hb hk E' S' (M2 := M) (fun _ z => z) (fun _ z => .inl z)
        exact h cls d H' ⟨c1, c2, c3⟩ ⟨re.1, re.2.imp id fun ⟨dx, vs, a1, a2, a3⟩ => ⟨dx, vs, a1, a2, a3.fine (Fine.weak c4)⟩⟩
    | ok fl g =>
      rw [ec] at h
      cases fl with
      | brk => exact h.elim
      | ct => exact h.elim
      | nx =>
        simp only at h
        cases hk : backG g 0 as γ1 with
        | none => rw [hk] at h; exact h.elim
        | some γ2 =>
          rw [hk] at h
          exact fun M' σ' H' E' S' => h .non H' M' (af E' S' hk) .non
      | ret r =>
        simp only at h
        cases hk : backG g 0 as γ1 with
        | none => rw [hk] at h; exact h.elim
        | some γ2 =>
          rw [hk] at h
          exact fun v M' σ' H' E' S' k => h v H' M' (af E' S' hk) (rv E' hk k)
/-- behind a call, as data -/
theorem Aft.rep {C : Ct} {pens : Nat → Addr} {M : Addr → Prop} {σ : L2.St} {γ : Gm} {H : Hp} {vs : List V} {g γ2 : Gm} {M' : Addr → Prop} {H' : Hp} (A : Aft C pens M σ γ H vs g γ2 M' H') (E : EnvRep C pens M γ σ H) {v : V} {r : RV} (k : RVn C M' H' H v r) : Stp C pens M σ γ H γ2 H' ∧ Rep C M H' v r.d := by
  obtain ⟨c1, c2, c3, c4⟩ := A.env M (fun _ z => z) fun _ z => .inl z
  refine ⟨⟨c1, c2, c3⟩, ?_⟩
  cases r with
  | val d => exact Rep.fine (Fine.weak c4) (show Rep C M' H' v d from k)
  | own o =>
    obtain ⟨a, rfl, ma, ra, ha0⟩ := k
    have na : ¬ M a := notM E.dom ha0
    cases o with
    | lst xs => obtain ⟨vs, e1, e2⟩ := ra; exact .lst e1 na (e2.fine (Fine.weak c4))
    | ins c fs => obtain ⟨dx, vs, e1, e2⟩ := ra; exact .ins e1 na (e2.fine (Fine.weak c4))
/-- an expression that is a call: as data -/
theorem fx_of_call {C : Ct} {W : WX} {X : Cx} {e : Expr} {N : List Str} {n : Nat} {b : F Fl} {p : Bool} {fr : F (List AV)} {es : List Expr} (mk : ∀ ta, PA X es ta → PE X e (fun σ H Q => ta σ H fun vs H1 => spF C N n b vs H1 Q (WE W σ))) (ha : FA C W p X es fr) (hn : ∀ γ as γ1, fr γ = .ok as γ1 → n = as.length) (hN : n ≤ N.length) : FX C W true false X e (fCall N.length b fr) :=
  PE.imp (mk _ ha) fun σ H Q ⟨pens, M, γ, E, h⟩ => by
  refine ⟨pens, M, γ, E, ?_⟩
  unfold fCall at h
  cases ea : fr γ with
  | st => rw [bind_st ea] at h; exact h
  | ex x γ' => rw [bind_ex ea] at h; exact aftA_ex E h
  | ok as γ1 =>
    rw [bind_ok ea] at h
    intro vs H1 M1 E1 k1 pt P1 up1 dn1 A
    have hl := hn _ _ _ ea
    refine call_sp hl (by rw [← hl]; exact hN) E E1 k1 pt up1 dn1 A ?_
    cases ec : callR N.length b as γ1 with
    | st => rw [bind_st ec] at h; exact h
    | ex e γ2 => rw [bind_ex ec] at h; exact h
    | ok r γ2 =>
      rw [bind_ok ec] at h
      intro v H' M' af rr
      obtain ⟨S, r2⟩ := af.rep E rr
      exact h v H' S (fun z => by cases z) r2
theorem fn_of_call {C : Ct} {W : WX} {X : Cx} {e : Expr} {N : List Str} {n : Nat} {b : F Fl} {p : Bool} {fr : F (List AV)} {es : List Expr} (mk : ∀ ta, PA X es ta → PE X e (fun σ H Q => ta σ H fun vs H1 => spF C N n b vs H1 Q (WE W σ))) (ha : FA C W p X es fr) (hn : ∀ γ as γ1, fr γ = .ok as γ1 → n = as.length) (hN : n ≤ N.length) : FN C W false X e (nCall N.length b fr) :=
  PE.imp (mk _ ha) fun σ H Q ⟨pens, M, γ, E, h⟩ => by
  refine ⟨pens, M, γ, E, ?_⟩
  unfold nCall at h
  cases ea : fr γ with
  | st => rw [bind_st ea] at h; exact h
  | ex x γ' => rw [bind_ex ea] at h; exact aftA_ex E h
  | ok as γ1 =>
    rw [bind_ok ea] at h
    intro vs H1 M1 E1 k1 pt P1 up1 dn1 A
    have hl := hn _ _ _ ea
    refine call_sp hl (by rw [← hl]; exact hN) E E1 k1 pt up1 dn1 A ?_
    cases ec : callR N.length b as γ1 with
    | st => rw [bind_st ec] at h; exact h
    | ex e γ2 => rw [bind_ex ec] at h; exact h
    | ok r γ2 =>
      obtain ⟨r, g⟩ := r
      rw [bind_ok ec] at h
      intro v H' M' af rr
      cases r with
      | val d => exact h.elim
      | own o =>
        obtain ⟨a, rfl, ma, ra, ha0⟩ := rr
        obtain ⟨c1, c2, c3, c4⟩ := af.env (adj M a) (fun _ z => .inl z) fun c z => z.imp id fun q => by rw [q]; exact ⟨ma, ha0⟩
        exact h a H' ha0 c1 c2 c3 (fun z => by cases z) (ra.fine (Fine.weak c4) fun _ e _ => e)
/-- the number of arguments -/
def ArgsN (n : Nat) (fr : F (List AV)) : Prop := ∀ γ as γ1, fr γ = .ok as γ1 → n = as.length
theorem an_nil : ArgsN 0 aNil := fun γ as γ1 e => by cases e; rfl
theorem an_val {n : Nat} {fa : F D} {fr : F (List AV)} (h : ArgsN n fr) : ArgsN (n + 1) (aVal fa fr) := fun γ as γ1 e => by
  unfold aVal F.bind at e
  split at e
  · rename_i d γ' _
    simp only at e
    split at e
    · rename_i as' γ'' q
      cases e
      rw [h _ _ _ q]
      rfl
    · cases e
    · cases e
  · cases e
  · cases e
theorem an_new {n : Nat} {fa : F MO} {fr : F (List AV)} (h : ArgsN n fr) : ArgsN (n + 1) (aNew fa fr) := fun γ as γ1 e => by
  unfold aNew F.bind at e
  split at e
  · rename_i d γ' _
    simp only at e
    split at e
    · rename_i as' γ'' q
      cases e
      rw [h _ _ _ q]
      rfl
    · cases e
    · cases e
  · cases e
  · cases e
theorem an_var {n i : Nat} {fr : F (List AV)} (h : ArgsN n fr) : ArgsN (n + 1) (aVar i fr) := fun γ as γ1 e => by
  unfold aVar at e
  have go : ∀ av : AV, F.bind fr (fun as γ => .ok (av :: as) γ) γ = .ok as γ1 → n + 1 = as.length := fun av e => by
    unfold F.bind at e
    split at e
    · rename_i as' γ'' q
      cases e
      rw [h _ _ _ q]
      rfl
    · cases e
    · cases e
  split at e
  · exact go _ e
  · exact go _ e
  · exact go _ e
  · cases e
section
variable {C : Ct} {W : WX} {X : Cx} {p : Bool} {fr : F (List AV)} {x : Str} {pn pos : Pos} {e : Expr} {es : List Expr} {k : Nat} {f : Addr} {fd : FuncData} {ps N : List Str} {b : F Fl}
theorem fx_call (Fn : FnF X.prog X.w X.K X.mg X.base C k f fd ps N b) (hr : Room k X.A) (hg : Gl X x) (hm : X.mg x = some (.ref f)) (hk : PySem.W.keepIn X.K (.ref f) = true) (hb : Binds X.K fd ps []) (tk : Takes X W)
    (ha : FA C W p X (e :: es) fr) (hn : ArgsN ps.length fr) (hN : ps.length ≤ N.length := by decide) (hdb : (x == ("__debug__" : Str)) = false := by decide) (he : starEach (e :: es) X.env = (false, eval e X.env) :: starEach es X.env := by rfl) (hpl : (backTo pos (starEach es X.env)).any (·.1) = false := by rfl) :
    FX C W true false X (.Call (.Name x pn) (e :: es) [] pos) (fCall N.length b fr) := fx_of_call (fun ta h => pe_callS Fn hr hg hm hk hb (fun σ => passAt tk σ) h hdb he hpl) ha hn hN
theorem fn_call (Fn : FnF X.prog X.w X.K X.mg X.base C k f fd ps N b) (hr : Room k X.A) (hg : Gl X x) (hm : X.mg x = some (.ref f)) (hk : PySem.W.keepIn X.K (.ref f) = true) (hb : Binds X.K fd ps []) (tk : Takes X W)
    (ha : FA C W p X (e :: es) fr) (hn : ArgsN ps.length fr) (hN : ps.length ≤ N.length := by decide) (hdb : (x == ("__debug__" : Str)) = false := by decide) (he : starEach (e :: es) X.env = (false, eval e X.env) :: starEach es X.env := by rfl) (hpl : (backTo pos (starEach es X.env)).any (·.1) = false := by rfl) :
    FN C W false X (.Call (.Name x pn) (e :: es) [] pos) (nCall N.length b fr) := fn_of_call (fun ta h => pe_callS Fn hr hg hm hk hb (fun σ => passAt tk σ) h hdb he hpl) ha hn hN
end
end FC

namespace FC
open PySem PySem.Spec PyProof.Rows L2

/-! ### objects -/
section
variable {C : Ct} {W : WX} {X : Cx} {m p m1 p1 m2 p2 : Bool} {a b e' e : Expr} {es : List Expr} {fa fb : F D} {fr : F (List AV)} {x : Str} {pn pos : Pos} {i : Nat}
theorem SRep.insH {M : Addr → Prop} {H : Hp} {x : V} {c : Nat} {fs : List (Str × D)} (s : SRep C M H x (.ins c fs)) : ∃ a dx vfs, x = .ref a ∧ H a = some (.ins (C.cl c) dx vfs) ∧ RepF C M H vfs fs := by
  cases s with
  | rep r => cases r with
    | ins e n r => exact ⟨_, _, _, rfl, e, r⟩
  | ins e r => exact ⟨_, _, _, rfl, e, r⟩
/-- e.f, a field of an instance of one of these classes -/
def dFld (cs : List Nat) (f : Str) : D → Option D
  | .ins c fs => if c ∈ cs then fs.lookup f else none
  | _ => none
theorem fx_fld {cs : List Nat} {f : Str} (hc : ∀ c ∈ cs, Cls X.K (C.cl c) ∧ NoAttr X.K (C.cl c) f) (ha : FX C W m p X e fa) (hb : attributeBase e f X.env (eval e X.env) = eval e X.env := by rfl) : FX C W true p X (.Attribute e f pos) (f1 (dFld cs f) fa) :=
  fx1 (r := fun x H1 Q => ∃ a C dx fs v, x = .ref a ∧ H1 a = some (.ins C dx fs) ∧ Cls X.K C ∧ NoAttr X.K C f ∧ fs.lookup f = some v ∧ Q v H1) ha (fun ta h => pe_fld h hb) fun M H x dx d Q hd sx eg k => by
    cases dx with
    | ins c fs =>
      simp only [dFld] at eg
      split at eg
      · rename_i hm
        obtain ⟨a, dx, vfs, e1, e2, r⟩ := sx.insH
        obtain ⟨v, g1, g2⟩ := r.lookup eg
        exact ⟨a, _, dx, vfs, v, e1, e2, (hc c hm).1, (hc c hm).2, g1, k v H (Keep.refl _ _) g2⟩
      · cases eg
    | _ => cases eg
def putD (f : Str) (v : D) : List (Str × D) → List (Str × D)
  | [] => [(f, v)]
  | (g, x) :: r => if g = f then (g, v) :: r else (g, x) :: putD f v r
theorem repF_put {M : Addr → Prop} {H : Hp} {f : Str} {v : V} {d : D} (r : Rep C M H v d) : ∀ {ds : List (Str × D)} {vs : List (Str × V)}, RepF C M H vs ds → RepF C M H (putF f v vs) (putD f d ds)
  | [], _, .nil => .cons r .nil
  | (g, _) :: _, _, .cons q t => by
    simp only [putF, putD]
    split
    · exact .cons r t
    · exact .cons q (repF_put r t)
/-- own instances, by the slot -/
def oIns (cs : List Nat) (i : Nat) (γ : Gm) : Option (Option Nat × Nat × List (Str × D)) := match γ[i]? with
  | some (.own t (.ins c fs)) => if c ∈ cs ∧ fs.length < 1000 then some (t, c, fs) else none
  | _ => none
theorem oIns_eq {cs : List Nat} {γ : Gm} {q : Option Nat × Nat × List (Str × D)} (h : oIns cs i γ = some q) : γ[i]? = some (.own q.1 (.ins q.2.1 q.2.2)) ∧ q.2.1 ∈ cs ∧ q.2.2.length < 1000 := by
  unfold oIns at h
  split at h
  · rename_i e
    split at h
    · rename_i hz
      cases h
      exact ⟨e, hz⟩
    · cases h
  · cases h
def sSetF (cs : List Nat) (i : Nat) (f : Str) (fe : F D) : F Fl := F.bind fe fun d γ => match oIns cs i γ with
  | some (t, c, fs) => .ok .nx (γ.set i (.own t (.ins c (putD f d fs))))
  | none => .st
theorem fs_setF {cs : List Nat} {f : Str} {pos' : Pos} (hc : ∀ c ∈ cs, Cls X.K (C.cl c) ∧ NoAttr X.K (C.cl c) f) (ho : PE X a (tVar i)) (he : FX C W true p X e fa) (hs : swapsWith e (some (.Attribute a f pos')) pos.line X.env = pure false := by rfl) :
    FS C W X (.Assign [.Attribute a f pos'] e pos) (sSetF cs i f fa) := PS.imp (ps_fld ho he hs) fun D σ H ⟨pens, M, γ, E, h⟩ => by
  refine ⟨pens, M, γ, E, ?_⟩
  unfold sSetF at h
  cases ea : fa γ with
  | st => rw [bind_st ea] at h; exact h
  | ex x g => rw [bind_ex ea] at h; exact fun cls d H' S re => h cls d M σ H' S.env S.s re
  | ok d γ1 =>
    rw [bind_ok ea] at h
    intro v H1 S1 P1 r1
    cases eo : oIns cs i γ1 with
    | none => rw [eo] at h; exact h.elim
    | some q =>
      obtain ⟨t, c, fs⟩ := q
      rw [eo] at h
      obtain ⟨hi, hm, hl⟩ := oIns_eq eo
      obtain ⟨y, h1, o, h2, mo, ⟨dx, vfs, eh, rf⟩, _⟩ := S1.env.slot hi
      subst h2
      have hl2 : vfs.length < 1000 := by rw [rf.length]; exact hl
      refine ⟨.ref o, h1, o, C.cl c, dx, vfs, rfl, eh, (hc c hm).1, (hc c hm).2, hl2, ?_⟩
      have S2 := S1.env.wr (o' := .ins c (putD f d fs)) hi h1 eh (fun _ _ z => by cases z) (u' := .ins (C.cl c) dx (putF f v vfs)) ⟨dx, _, upd_same, (repF_put (show Rep C M H1 v d from r1) rf).fine (Fine.poke mo)⟩
      exact h M σ _ S2.env (S1.trans S2).s

/-! ### an expression as an argument: data, or a name of the frame -/
def aftV (C : Ct) (W : WX) (pens : Nat → Addr) (M : Addr → Prop) (σ : L2.St) (γ : Gm) (H : Hp) (p : Bool) (r : R AV) (Q : VK) : Prop := match r with
  | .ok av γ' => (∀ o, av ≠ .n o) ∧ ∀ v H', Stp C pens M σ γ H γ' H' → (p = true → γ' = γ ∧ Keep0 H H') → AOk C M H' σ γ' v av → Q v H'
  | .ex e γ' => ∀ cls d H', Stp C pens M σ γ H γ' H' → ExRep C M e cls d H' → W cls d σ H'
  | .st => False
def tFV (C : Ct) (W : WX) (p : Bool) (f : F AV) : TE := fun σ H Q => ∃ pens M γ, EnvRep C pens M γ σ H ∧ aftV C W pens M σ γ H p (f γ) Q
def FV (C : Ct) (W : WX) (p : Bool) (X : Cx) (e : Expr) (f : F AV) : Prop := PE X e (tFV C W p f)
def vVar (i : Nat) : F AV := fun γ => match γ[i]? with
  | some (.own _ _) => .ok (.s i) γ
  | some (.val d) => .ok (.d d) γ
  | some (.view xs) => .ok (.w xs) γ
  | _ => .st
def vVal (f : F D) : F AV := F.bind f fun d γ => .ok (.d d) γ
theorem fv_val (h : FX C W true p X e fa) : FV C W p X e (vVal fa) := PE.imp h fun σ H Q ⟨pens, M, γ, E, h⟩ => by
  refine ⟨pens, M, γ, E, ?_⟩
  unfold vVal at h
  cases ea : fa γ with
  | st => rw [bind_st ea] at h; exact h
  | ex x g => rw [bind_ex ea] at h; exact h
  | ok d g => rw [bind_ok ea] at h; exact fun v H' S P r => h.2 v H' S P r
theorem fv_var (h : PE X e (tVar i)) : FV C W true X e (vVar i) := PE.imp h fun σ H Q ⟨pens, M, γ, E, h⟩ => by
  unfold vVar at h
  cases q : γ[i]? with
  | none => rw [q] at h; exact h.elim
  | some sv =>
    rw [q] at h
    obtain ⟨x, h1, h2⟩ := E.slot q
    cases sv with
    | none => exact h.elim
    | val d => obtain ⟨v, rfl, r⟩ := h2; exact ⟨v, h1, h.2 v H (Stp.pure E (Keep.refl _ _)) (fun _ => ⟨rfl, Keep.refl _ _⟩) r⟩
    | own t o => obtain ⟨a, rfl, m, r, _⟩ := h2; exact ⟨.ref a, h1, h.2 _ H (Stp.pure E (Keep.refl _ _)) (fun _ => ⟨rfl, Keep.refl _ _⟩) ⟨h1, t, o, q⟩⟩
    | view xs => obtain ⟨a, us, rfl, s, r⟩ := h2; exact ⟨.ref a, h1, h.2 _ H (Stp.pure E (Keep.refl _ _)) (fun _ => ⟨rfl, Keep.refl _ _⟩) ⟨a, us, rfl, s, r⟩⟩
/-- it stays so while other arguments come -/
theorem AOk.later {pens : Nat → Addr} {M M' : Addr → Prop} {H H' : Hp} {σ : L2.St} {γ γ' : Gm} {v : V} {vs : List V} {as : List AV} (E : EnvRep C pens M γ σ H) (k : Keep (Own γ σ) H H') (pt : Pat γ γ') (dn : ∀ a, M' a → M a ∨ a ∈ freshA vs as) (fr : ∀ a ∈ freshA vs as, H a = none) :
    ∀ {av : AV}, (∀ o, av ≠ .n o) → AOk C M H σ γ v av → AOk C M' H' σ γ' v av
  | .d _, _, r => Rep.fine (stepM E k dn fr) r
  | .n o, hn, _ => (hn o rfl).elim
  | .s _, _, ⟨h1, t, o, h2⟩ => ⟨h1, t, by obtain ⟨o', e⟩ := pt.own h2; exact ⟨o', e⟩⟩
  | .w _, _, ⟨a, us, e, s, r⟩ => ⟨a, us, e, s.keepN k fun b o u hb => E.ownNF b o u hb, r.fine (stepM E k dn fr)⟩
theorem freshA_skip {v : V} {vs : List V} {av : AV} {as : List AV} (h : ∀ o, av ≠ .n o) : freshA (v :: vs) (av :: as) = freshA vs as := by
  cases av with
  | n o => exact (h o rfl).elim
  | d _ => cases v <;> rfl
  | s _ => cases v <;> rfl
  | w _ => cases v <;> rfl
/-- the class of a thing as an argument -/
def avC (γ : Gm) : AV → Option (Nat × List (Str × D))
  | .d (.ins c fs) => some (c, fs)
  | .s i => match γ[i]? with
    | some (.own _ (.ins c fs)) => some (c, fs)
    | _ => none
  | _ => none
theorem avC_ok {pens : Nat → Addr} {M : Addr → Prop} {H : Hp} {σ : L2.St} {γ : Gm} {v : V} {av : AV} {c : Nat} {fs : List (Str × D)} (E : EnvRep C pens M γ σ H) (r : AOk C M H σ γ v av) (e : avC γ av = some (c, fs)) : ∃ a dx vfs, v = .ref a ∧ H a = some (.ins (C.cl c) dx vfs) ∧ RepF C M H vfs fs := by
  cases av with
  | d x =>
    cases x with
    | ins c' fs' =>
      cases e
      exact SRep.insH (.rep r)
    | _ => cases e
  | s i =>
    simp only [avC] at e
    split at e
    · rename_i t c' fs' q
      cases e
      obtain ⟨x, h1, a, h2, _, ⟨dx, vfs, eh, rf⟩, _⟩ := E.slot q
      obtain ⟨h3, _⟩ := r
      subst h2
      rw [h1] at h3
      cases h3
      exact ⟨a, dx, vfs, rfl, eh, rf⟩
    · cases e
  | n o => cases e
  | w xs => cases e

/-! ### methods -/
/-- what a method call asks: the thing, the arguments, the promise -/
def fMth (c : Nat) (nm : Str) (N : Nat) (b : F Fl) (fo : F AV) (fr : F (List AV)) : F D := F.bind fo fun av γ => match avC γ av with
  | some (c', fs) => if c' = c ∧ fs.lookup nm = none then F.bind fr (fun as γ2 => if (avC γ2 av).map (·.1) = some c then F.bind (callR N b (av :: as)) (fun r γ => .ok r.1.d γ) γ2 else .st) γ else .st
  | none => .st
theorem meth_te {N : List Str} {n c : Nat} {b : F Fl} {fo : F AV} {nm : Str} {σ : L2.St} {H : Hp} {Q : VK} {q : Bool} (hn : ArgsN n fr) (hN : n + 1 ≤ N.length) (h : tF C W true false (fMth c nm N.length b fo fr) σ H Q) :
    tFV C W q fo σ H fun x H1 => ∃ a dx fs, x = .ref a ∧ H1 a = some (.ins (C.cl c) dx fs) ∧ fs.lookup nm = none ∧ tFA C W p fr σ H1 fun vs H2 => (∃ dx' fs', H2 a = some (.ins (C.cl c) dx' fs')) ∧ spF C N (n + 1) b (x :: vs) H2 Q (WE W σ) := by
  obtain ⟨pens, M, γ, E, h⟩ := h
  refine ⟨pens, M, γ, E, ?_⟩
  unfold fMth at h
  cases eo : fo γ with
  | st => rw [bind_st eo] at h; exact h
  | ex x g => rw [bind_ex eo] at h; exact h
  | ok av γ1 =>
    rw [bind_ok eo] at h
    cases ec : avC γ1 av with
    | none => rw [ec] at h; exact h.elim
    | some q =>
      obtain ⟨c', fs⟩ := q
      rw [ec] at h
      simp only at h
      split at h
      case isFalse => exact h.elim
      rename_i hz
      obtain ⟨rfl, hl⟩ := hz
      have nn : ∀ o, av ≠ .n o := fun o z => by subst z; cases ec
      refine ⟨nn, fun v H1 S1 P1 r1 => ?_⟩
      obtain ⟨a, dx, vfs, rfl, eh, rf⟩ := avC_ok S1.env r1 ec
      refine ⟨a, dx, vfs, rfl, eh, rf.lookupN hl, pens, M, γ1, S1.env, ?_⟩
      cases ea : fr γ1 with
      | st => rw [bind_st ea] at h; exact h
      | ex x γ' => rw [bind_ex ea] at h; exact aftA_ex S1.env fun cls d H' S2 re => h cls d H' (S1.trans S2) re
      | ok as γ2 =>
        rw [bind_ok ea] at h
        intro vs H2 M2 E2 k2 pt2 P2 up2 dn2 A
        have hl := hn _ _ _ ea
        have r2 : AOk C M2 H2 σ γ2 (.ref a) av := r1.later S1.env k2 pt2 dn2 A.fr nn
        have ef : freshA (.ref a :: vs) (av :: as) = freshA vs as := freshA_skip nn
        have k02 : Keep (Own γ σ) H H2 := S1.keep.trans (k2.mono fun _ z => S1.pat.symm.Own z)
        have A2 : AsOk C M2 H H2 σ γ2 (.ref a :: vs) (av :: as) := ⟨.cons r2 A.ok, by rw [ef]; exact A.nd, fun b hb => by
          rw [ef] at hb
          exact S1.keep.free (A.fr b hb) fun z => Own.tracked S1.env (A.fr b hb) (S1.pat.Own z)⟩
        split at h
        case isFalse => exact h.elim
        rename_i hz2
        refine ⟨?_, call_sp (by rw [List.length_cons, ← hl]) (by rw [List.length_cons, ← hl]; exact hN) E E2 k02 (S1.pat.trans pt2) up2 (fun b z => by rw [ef]; exact dn2 b z) A2 ?_⟩
        · cases ec2 : avC γ2 av with
          | none => rw [ec2] at hz2; cases hz2
          | some q2 =>
            rw [ec2] at hz2
            cases hz2
            obtain ⟨a2, dx2, vf2, e1, e2, _⟩ := avC_ok E2 r2 ec2
            cases e1
            exact ⟨dx2, vf2, e2⟩
        · cases ek : callR N.length b (av :: as) γ2 with
          | st => rw [bind_st ek] at h; exact h
          | ex e γ3 => rw [bind_ex ek] at h; exact h
          | ok r γ3 =>
            rw [bind_ok ek] at h
            intro v H' M' af rr
            obtain ⟨S, r2⟩ := af.rep E rr
            exact h v H' S (fun z => by cases z) r2
/-! ### room, with no repr under way -/
structure RoomG (k : Nat) (A : Around) : Prop where
  r : Room k A
  g : A.guards = some []
theorem RoomG.mono {j k : Nat} {A : Around} (x : RoomG k A) (h : j ≤ k) : RoomG j A := ⟨x.r.mono h, x.g⟩
theorem RoomG.deeper {k : Nat} {A : Around} (x : RoomG (k + 1) A) (env : Env) : RoomG k (A.deeper env) := ⟨x.r.deeper env, x.g⟩
theorem RoomG.in1 {k : Nat} {A : Around} (x : RoomG (k + 1) A) : RoomG k A.in1 := ⟨x.r.in1, x.g⟩
theorem RoomG.make {k : Nat} {A : Around} (x : RoomG (k + 1) A) (c : Addr) (us : List Value) (kw : List (Str × Value)) : RoomG k (A.under (.builtin "type.__call__" ⟨.ref c :: us, kw⟩)) := ⟨x.r.make c us kw, by
  have e := x.g
  show pushGuards (Code.guards (.builtin "type.__call__" ⟨.ref c :: us, kw⟩)) A.guards = some []
  rw [e]
  rfl⟩
/-- what a def promises of its positional arguments where no repr is under way -/
def FnG (P : Program) (w : World) (K : PySem.W.Frag) (mg : Str → Option Value) (base : Heap) (CX : CXT) (k : Nat) (f : Addr) (sp : Sp) : Prop :=
  ∀ (A : Around) (out : List Env) (s : Shared) (H : Hp) (us : List Value) (vs : List V) (Q : VK) (E : XK), RoomG k A → Env0 P w K mg base A out s H → Vals vs us → sp vs H Q E → codeAny (model P w) A (.call (.ref f) ⟨us, []⟩) (CR CX out P w H s Q E) s
theorem FnR.toG {P : Program} {w : World} {K : PySem.W.Frag} {mg : Str → Option Value} {base : Heap} {CX : CXT} {k : Nat} {f : Addr} {sp : Sp} (F : FnR P w K mg base CX k f sp) : FnG P w K mg base CX k f sp := fun A out s H us vs Q E hr => F A out s H us vs Q E hr.r
/-- the callee runs, at the slots -/
theorem run_fnRS {CX : CXT} {k : Nat} {f : Addr} {sp : Sp} {E : L2.St → XK} {Q : VK} {us : List Value} {vs : List V} {pins : List (Addr × Obj)} {σ : L2.St} {H : Hp} {s : Shared} (F : FnG X.prog X.w X.K X.mg X.base CX k f sp) (hr : RoomG k X.A) (hx : PassesAt CX X σ (E σ)) (I : Inv X pins σ H s) (r : Vals vs us) (h : sp vs H Q (E σ)) :
    codeAny (model X.prog X.w) X.A (.call (.ref f) ⟨us, []⟩) (fun r s' => match r with | .ok (.ret v) => EP X pins σ Q v s' | .ok _ => False | .error e => X.xe e s') s := by
  refine codeAny_mono (F X.A X.stack s H us vs Q (E σ) hr I.env0 r h) fun r s' hq => ?_
  match r, hq with
  | .error e, hq => exact hx pins H s e s' I hq
  | .ok (.ret u), hq => exact I.after hq
  | .ok .next, hq => exact hq.elim
  | .ok .brk, hq => exact hq.elim
  | .ok .cont, hq => exact hq.elim
/-- a def of the program by what it promises of its positional arguments -/
abbrev FnP (X : Cx) (C : Ct) (k : Nat) (f : Addr) (N : List Str) (n : Nat) (b : F Fl) : Prop := FnG X.prog X.w X.K X.mg X.base (L2.CX X.prog X.w) k f (spF C N n b)
theorem pe_methRS {k c n : Nat} {f : Addr} {nm : Str} {N : List Str} {b : F Fl} {to : TE} {ta : TA} {apos : Pos} {pl : Sem Bool} (he : PE X e to) (cl : Cls X.K (C.cl c)) (hm : Meth X.K (C.cl c) nm f) (Fn : FnP X C k f N n b) (hr : RoomG k X.A) (tk : Takes X W)
    (ha : PA X (a :: es) ta) (hst : starEach (a :: es) X.env = (false, eval a X.env) :: starEach es X.env := by rfl) (hpl : (backTo pos (starEach es X.env)).any (·.1) = false := by rfl)
    (ht : eval (.Call (.Attribute e nm apos) (a :: es) [] pos) X.env = (do
      let ov ← eval e X.env
      standAt apos.atName
      let (f, first) ← holding [ov] (getMethod ov nm pl)
      callWith pos f first (backTo pos (starEach (a :: es) X.env)) (backToKw pos (keywordEach [] X.env))) := by rfl) :
    PE X (.Call (.Attribute e nm apos) (a :: es) [] pos) (fun σ H Q => to σ H fun x H1 => ∃ a dx fs, x = .ref a ∧ H1 a = some (.ins (C.cl c) dx fs) ∧ fs.lookup nm = none ∧ ta σ H1 fun vs H2 => spF C N n b (x :: vs) H2 Q (WE W σ)) := by
  refine ⟨fun pins s σ H Q I h => ?_⟩
  refine PySem.W.methodCall_KW (pl := pl) (thn (he.run pins s σ H _ I h) fun u s1 ⟨x, H1, I1, rx, o, dx, fs, ex, eo, l, q⟩ => ?_) ht
  subst ex
  have eu : u = Value.ref o := rx
  subst eu
  refine getmeth_ok I1 eo cl hm l ?_
  refine PySem.W.callWith_K (first := [.ref o]) (h₀ := X.base) I.ok.mod.kin hm.kp (thn (ha.run pos pins s1 σ H1 _ I1 q) fun us s2 ⟨vs, H2, I2, r, q2⟩ => ⟨I2.kIn, ?_⟩) hst hpl
  exact wpAny_call (run_fnRS (us := .ref o :: us) (vs := .ref o :: vs) (E := WE W) Fn hr (passAt tk σ) I2 (.cons rfl r) q2)
theorem pe_methRS0 {k c n : Nat} {f : Addr} {nm : Str} {N : List Str} {b : F Fl} {to : TE} {apos : Pos} {pl : Sem Bool} (he : PE X e to) (cl : Cls X.K (C.cl c)) (hm : Meth X.K (C.cl c) nm f) (Fn : FnP X C k f N n b) (hr : RoomG k X.A) (tk : Takes X W)
    (ht : eval (.Call (.Attribute e nm apos) [] [] pos) X.env = (do
      let ov ← eval e X.env
      standAt apos.atName
      let (f, first) ← holding [ov] (getMethod ov nm pl)
      callWith pos f first (backTo pos (starEach [] X.env)) (backToKw pos (keywordEach [] X.env))) := by rfl) :
    PE X (.Call (.Attribute e nm apos) [] [] pos) (fun σ H Q => to σ H fun x H1 => ∃ a dx fs, x = .ref a ∧ H1 a = some (.ins (C.cl c) dx fs) ∧ fs.lookup nm = none ∧ spF C N n b [x] H1 Q (WE W σ)) := by
  refine ⟨fun pins s σ H Q I h => ?_⟩
  refine PySem.W.methodCall_KW (pl := pl) (thn (he.run pins s σ H _ I h) fun u s1 ⟨x, H1, I1, rx, o, dx, fs, ex, eo, l, q⟩ => ?_) ht
  subst ex
  have eu : u = Value.ref o := rx
  subst eu
  refine getmeth_ok I1 eo cl hm l ?_
  exact PySem.W.callWith_K0 (first := [.ref o]) I1.kIn hm.kp (wpAny_call (run_fnRS (us := [.ref o]) (vs := [.ref o]) (E := WE W) Fn hr (passAt tk σ) I1 (.cons rfl .nil) q))
theorem tFV.mono {q : Bool} {fo : F AV} {σ : L2.St} {H : Hp} {Q Q' : VK} (h : tFV C W q fo σ H Q) (k : ∀ v H, Q v H → Q' v H) : tFV C W q fo σ H Q' := by
  obtain ⟨pens, M, γ, E, h⟩ := h
  refine ⟨pens, M, γ, E, ?_⟩
  cases ea : fo γ with
  | st => rw [ea] at h; exact h
  | ex x g => rw [ea] at h; exact h
  | ok d g => rw [ea] at h; exact ⟨h.1, fun v H' S P r => k v H' (h.2 v H' S P r)⟩
theorem tFA.mono {σ : L2.St} {H : Hp} {Q Q' : List V → Hp → Prop} (h : tFA C W p fr σ H Q) (k : ∀ v H, Q v H → Q' v H) : tFA C W p fr σ H Q' := by
  obtain ⟨pens, M, γ, E, h⟩ := h
  refine ⟨pens, M, γ, E, ?_⟩
  cases ea : fr γ with
  | st => rw [ea] at h; exact h
  | ex x g => rw [ea] at h; exact h
  | ok d g => rw [ea] at h; exact fun v H' M' a1 a2 a3 a4 a5 a6 a7 => k v H' (h v H' M' a1 a2 a3 a4 a5 a6 a7)
theorem tFA.nil {σ : L2.St} {H : Hp} {Q : List V → Hp → Prop} (h : tFA C W p aNil σ H Q) : Q [] H := by
  obtain ⟨pens, M, γ, E, h⟩ := h
  exact h [] H M E (Keep.refl _ _) rfl (fun _ => ⟨rfl, Keep.refl _ _⟩) (fun _ z => z) (fun _ z => .inl z) ⟨.nil, List.nodup_nil, fun _ z => nomatch z⟩
theorem pe_callOS {k c n : Nat} {f : Addr} {N : List Str} {b : F Fl} {to : TE} {ta : TA} (he : PE X e to) (cl : StX.CallO X.K (C.cl c) f) (Fn : FnP X C k f N n b) (hr : RoomG k X.A) (tk : Takes X W) (ha : PA X (a :: es) ta)
    (ht : eval (.Call e (a :: es) [] pos) X.env = (do callWith pos (← eval e X.env) [] (backTo pos (starEach (a :: es) X.env)) (backToKw pos (keywordEach [] X.env))) := by rfl)
    (hst : starEach (a :: es) X.env = (false, eval a X.env) :: starEach es X.env := by rfl) (hpl : (backTo pos (starEach es X.env)).any (·.1) = false := by rfl) :
    PE X (.Call e (a :: es) [] pos) (fun σ H Q => to σ H fun y H1 => ∃ o, y = .ref o ∧ ta σ H1 fun vs H2 => StX.InsC X H2 o (C.cl c) ∧ spF C N n b (.ref o :: vs) H2 Q (WE W σ)) := by
  refine ⟨fun pins s σ H Q I h => Call_ (thn (he.run pins s σ H _ I h) fun u s1 ⟨y, H1, I1, ry, o, ey, q⟩ => ?_) ht⟩
  subst ey
  have eu : u = Value.ref o := ry
  subst eu
  refine StX.callO_with (thn (ha.run pos pins s1 σ H1 _ I1 q) fun us s2 ⟨vs, H2, I2, r, hi, q2⟩ => ?_) hst hpl
  obtain ⟨ox, od, J, hd⟩ := StX.insC_at I2 hi
  exact ⟨⟨_, ox, od, J, hd⟩, wpAny_call (PySem.W.kco_code I2.kIn J hd cl.at_ cl.fn cl.fi (run_fnRS (us := .ref o :: us) (vs := .ref o :: vs) (E := WE W) Fn hr (passAt tk σ) I2 (.cons rfl r) q2))⟩
/-- o.m(e, ..) -/
theorem fx_meth {k c n : Nat} {f : Addr} {nm : Str} {N : List Str} {b : F Fl} {fo : F AV} {q : Bool} {apos : Pos} {pl : Sem Bool} (he : FV C W q X e fo) (cl : Cls X.K (C.cl c)) (hm : Meth X.K (C.cl c) nm f) (Fn : FnP X C k f N (n + 1) b) (hr : RoomG k X.A) (tk : Takes X W)
    (ha : FA C W p X (a :: es) fr) (hn : ArgsN n fr) (hN : n + 1 ≤ N.length := by decide) (hst : starEach (a :: es) X.env = (false, eval a X.env) :: starEach es X.env := by rfl) (hpl : (backTo pos (starEach es X.env)).any (·.1) = false := by rfl)
    (ht : eval (.Call (.Attribute e nm apos) (a :: es) [] pos) X.env = (do
      let ov ← eval e X.env
      standAt apos.atName
      let (f, first) ← holding [ov] (getMethod ov nm pl)
      callWith pos f first (backTo pos (starEach (a :: es) X.env)) (backToKw pos (keywordEach [] X.env))) := by rfl) :
    FX C W true false X (.Call (.Attribute e nm apos) (a :: es) [] pos) (fMth c nm N.length b fo fr) := PE.imp (pe_methRS he cl hm Fn hr tk ha hst hpl ht) fun σ H Q h =>
  tFV.mono (meth_te (p := p) hn hN h) fun v H1 ⟨a, dx, fs, e1, e2, e3, t⟩ => ⟨a, dx, fs, e1, e2, e3, tFA.mono t fun _ _ z => z.2⟩
/-- o.m() -/
theorem fx_meth0 {k c : Nat} {f : Addr} {nm : Str} {N : List Str} {b : F Fl} {fo : F AV} {q : Bool} {apos : Pos} {pl : Sem Bool} (he : FV C W q X e fo) (cl : Cls X.K (C.cl c)) (hm : Meth X.K (C.cl c) nm f) (Fn : FnP X C k f N 1 b) (hr : RoomG k X.A) (tk : Takes X W)
    (hN : 1 ≤ N.length := by decide)
    (ht : eval (.Call (.Attribute e nm apos) [] [] pos) X.env = (do
      let ov ← eval e X.env
      standAt apos.atName
      let (f, first) ← holding [ov] (getMethod ov nm pl)
      callWith pos f first (backTo pos (starEach [] X.env)) (backToKw pos (keywordEach [] X.env))) := by rfl) :
    FX C W true false X (.Call (.Attribute e nm apos) [] [] pos) (fMth c nm N.length b fo aNil) := PE.imp (pe_methRS0 he cl hm Fn hr tk ht) fun σ H Q h =>
  tFV.mono (meth_te (p := true) an_nil hN h) fun v H1 ⟨a, dx, fs, e1, e2, e3, t⟩ => ⟨a, dx, fs, e1, e2, e3, (tFA.nil t).2⟩
/-- o(e, ..), o an instance that is called -/
theorem fx_callO {k c n : Nat} {f : Addr} {N : List Str} {b : F Fl} {fo : F AV} {q : Bool} (he : FV C W q X e fo) (cl : StX.CallO X.K (C.cl c) f) (Fn : FnP X C k f N (n + 1) b) (hr : RoomG k X.A) (tk : Takes X W)
    (ha : FA C W p X (a :: es) fr) (hn : ArgsN n fr) (hN : n + 1 ≤ N.length := by decide)
    (ht : eval (.Call e (a :: es) [] pos) X.env = (do callWith pos (← eval e X.env) [] (backTo pos (starEach (a :: es) X.env)) (backToKw pos (keywordEach [] X.env))) := by rfl)
    (hst : starEach (a :: es) X.env = (false, eval a X.env) :: starEach es X.env := by rfl) (hpl : (backTo pos (starEach es X.env)).any (·.1) = false := by rfl) :
    FX C W true false X (.Call e (a :: es) [] pos) (fMth c ("" : Str) N.length b fo fr) := PE.imp (pe_callOS he cl Fn hr tk ha ht hst hpl) fun σ H Q h =>
  tFV.mono (meth_te (p := p) hn hN h) fun v H1 ⟨a, dx, fs, e1, e2, e3, t⟩ => ⟨a, e1, tFA.mono t fun _ _ z => ⟨.inr z.1, by rw [← e1]; exact z.2⟩⟩
/-- a def by its name -/
theorem pe_callRS {k n : Nat} {f : Addr} {N : List Str} {b : F Fl} {ta : TA} (Fn : FnP X C k f N n b) (hr : RoomG k X.A) (hg : Gl X x) (hm : X.mg x = some (.ref f)) (hk : PySem.W.keepIn X.K (.ref f) = true) (tk : Takes X W)
    (ha : PA X (e :: es) ta) (hdb : (x == ("__debug__" : Str)) = false := by decide) (hst : starEach (e :: es) X.env = (false, eval e X.env) :: starEach es X.env := by rfl) (hpl : (backTo pos (starEach es X.env)).any (·.1) = false := by rfl) :
    PE X (.Call (.Name x pn) (e :: es) [] pos) (fun σ H Q => ta σ H fun vs H1 => spF C N n b vs H1 Q (WE W σ)) := by
  refine ⟨fun pins s σ H Q I h => wpAny_Call_Name_kw (ld_glob I hg hm ?_ hdb)⟩
  refine PySem.W.callWith_K (h₀ := X.base) I.ok.mod.kin hk (thn (ha.run pos pins s σ H _ I h) fun us s1 ⟨vs, H1, I1, r, q⟩ => ⟨I1.kIn, ?_⟩) hst hpl
  exact wpAny_call (run_fnRS (E := WE W) Fn hr (passAt tk σ) I1 r q)
theorem fx_def {k n : Nat} {f : Addr} {N : List Str} {b : F Fl} (Fn : FnP X C k f N n b) (hr : RoomG k X.A) (hg : Gl X x) (hm : X.mg x = some (.ref f)) (hk : PySem.W.keepIn X.K (.ref f) = true) (tk : Takes X W)
    (ha : FA C W p X (e :: es) fr) (hn : ArgsN n fr) (hN : n ≤ N.length := by decide) (hdb : (x == ("__debug__" : Str)) = false := by decide) (hst : starEach (e :: es) X.env = (false, eval e X.env) :: starEach es X.env := by rfl) (hpl : (backTo pos (starEach es X.env)).any (·.1) = false := by rfl) :
    FX C W true false X (.Call (.Name x pn) (e :: es) [] pos) (fCall N.length b fr) := fx_of_call (fun ta h => pe_callRS Fn hr hg hm hk tk h hdb hst hpl) ha hn hN
theorem fn_def {k n : Nat} {f : Addr} {N : List Str} {b : F Fl} (Fn : FnP X C k f N n b) (hr : RoomG k X.A) (hg : Gl X x) (hm : X.mg x = some (.ref f)) (hk : PySem.W.keepIn X.K (.ref f) = true) (tk : Takes X W)
    (ha : FA C W p X (e :: es) fr) (hn : ArgsN n fr) (hN : n ≤ N.length := by decide) (hdb : (x == ("__debug__" : Str)) = false := by decide) (hst : starEach (e :: es) X.env = (false, eval e X.env) :: starEach es X.env := by rfl) (hpl : (backTo pos (starEach es X.env)).any (·.1) = false := by rfl) :
    FN C W false X (.Call (.Name x pn) (e :: es) [] pos) (nCall N.length b fr) := fn_of_call (fun ta h => pe_callRS Fn hr hg hm hk tk h hdb hst hpl) ha hn hN
end
end FC

namespace FC
open PySem PySem.Spec PyProof.Rows L2

/-! ### instances made -/
section
variable {C : Ct} {W : WX} {X : Cx} {m p m1 p1 m2 p2 : Bool} {a b e' e : Expr} {es : List Expr} {fa fb : F D} {fr : F (List AV)} {x : Str} {pn pos : Pos} {i : Nat}
theorem ORep.plus {M : Addr → Prop} {H H' : Hp} {a o : Addr} (ho : H o = none) (k : Keep0 H H') {u : MO} (r : ORep C M H a u) : ORep C (adj M o) H' a u :=
  r.fine (Fine.trans (Fine.plus ho) (Fine.keep0 k) fun a u e _ z => z.elim id fun q => by rw [q, ho] at e; cases e) fun u e t => k.at e t
theorem AOk.plus {M : Addr → Prop} {H H' : Hp} {σ : L2.St} {γ : Gm} {o : Addr} {v : V} (ho : H o = none) (k : Keep0 H H') : ∀ {av : AV}, AOk C M H σ γ v av → AOk C (adj M o) H' σ γ v av
  | .d _, r => Rep.fine (Fine.trans (Fine.plus ho) (Fine.keep0 k) fun a u e _ z => z.elim id fun q => by rw [q, ho] at e; cases e) r
  | .n _, ⟨a, e, m, r⟩ => ⟨a, e, .inl m, r.plus ho k⟩
  | .s _, r => r
  | .w _, ⟨a, us, e, s, r⟩ => ⟨a, us, e, s.keep k, r.fine (Fine.trans (Fine.plus ho) (Fine.keep0 k) fun a u e _ z => z.elim id fun q => by rw [q, ho] at e; cases e)⟩
theorem paired_imp {α β : Type} {G G' : α → β → Prop} (h : ∀ a b, G a b → G' a b) : ∀ {l₁ : List α} {l₂ : List β}, Paired G l₁ l₂ → Paired G' l₁ l₂
  | _, _, .nil => .nil
  | _, _, .cons g r => .cons (h _ _ g) (paired_imp h r)
theorem fresh_there {M : Addr → Prop} {H0 H : Hp} {σ : L2.St} {γ : Gm} {vs : List V} {as : List AV} (A : AsOk C M H0 H σ γ vs as) {c : Addr} (h : c ∈ freshA vs as) : ∃ u, H c = some u := by
  obtain ⟨j, o, h1, h2⟩ := of_fresh h
  obtain ⟨v, e1, a, e2, _, r⟩ := paired_at A.ok h2
  rw [h1] at e1
  cases e1
  cases e2
  obtain ⟨u, e, _⟩ := r.there
  exact ⟨u, e⟩
/-- one more argument ahead: a new thing just laid -/
theorem AsOk.ahead {M : Addr → Prop} {H0 H H' : Hp} {σ : L2.St} {γ : Gm} {vs : List V} {as : List AV} {o : Addr} {u : MO} (A : AsOk C M H0 H σ γ vs as) (ho : H o = none) (h0 : H0 o = none) (k : Keep0 H H') (r : ORep C (adj M o) H' o u) : AsOk C (adj M o) H0 H' σ γ (.ref o :: vs) (.n u :: as) :=
  ⟨.cons ⟨o, rfl, .inr rfl, r⟩ (paired_imp (fun _ _ z => z.plus ho k) A.ok), List.nodup_cons.mpr ⟨fun z => (by
    obtain ⟨w, e⟩ := fresh_there A z
    rw [ho] at e
    cases e), A.nd⟩, fun c hc => (List.mem_cons.mp hc).elim (fun q => by rw [q]; exact h0) (A.fr c)⟩
/-- what a class's making gives -/
def mkO (r : RV × Gm) : Option MO := match r.1, (show List SV from r.2)[0]? with
  | RV.val D.non, some (SV.own (some 0) o) => some o
  | _, _ => none
/-- C(e, ..) -/
def nMake (c : Nat) (N : Nat) (b : F Fl) (fr : F (List AV)) : F MO := F.bind fr fun as => F.bind (callR N b (.n (.ins c []) :: as)) fun r => liftO (mkO r)
/-- C(e, ..), __init__ with a star parameter alone -/
def nMakeS (c : Nat) (N : Nat) (b : F Fl) (fr : F (List AV)) : F MO := F.bind fr fun as => F.bind (liftO (allD as)) fun ds => if ds.length ≤ sizeLine then F.bind (callR N b [.n (.ins c []), .d (.tup ds)]) fun r => liftO (mkO r) else fun _ => .st
theorem make_core {pens : Nat → Addr} {M M1 : Addr → Prop} {γ γ1 : Gm} {σ : L2.St} {H H1 : Hp} {o : Addr} {vs : List V} {as : List AV} {N : List Str} {n c : Nat} {b : F Fl} {Q : VK} (hn : n = as.length + 1) (hN : n ≤ N.length)
    (E : EnvRep C pens M γ σ H) (E1 : EnvRep C pens M1 γ1 σ H1) (k1 : Keep (Own γ σ) H H1) (pt : Pat γ γ1) (up1 : ∀ a, M a → M1 a) (dn1 : ∀ a, M1 a → M a ∨ a ∈ freshA (.ref o :: vs) (.n (.ins c []) :: as)) (A : AsOk C M1 H H1 σ γ1 (.ref o :: vs) (.n (.ins c []) :: as)) (h0 : H o = none)
    (h : aftN C W pens M σ γ H false (F.bind (callR N.length b (.n (.ins c []) :: as)) (fun r => liftO (mkO r)) γ1) Q) : spF C N n b (.ref o :: vs) H1 (fun v H2 => v = .non ∧ Q (.ref o) H2) (WE W σ) := by
  refine call_sp (by rw [hn, List.length_cons]) (by rw [List.length_cons, ← hn]; exact hN) E E1 k1 pt up1 dn1 A ?_
  cases ec : callR N.length b (.n (.ins c []) :: as) γ1 with
  | st => rw [bind_st ec] at h; exact h
  | ex e γ2 => rw [bind_ex ec] at h; exact h
  | ok r γ2 =>
    obtain ⟨rv, g⟩ := r
    rw [bind_ok ec] at h
    intro v H' M' af rr
    cases em : mkO (rv, g) with
    | none => rw [liftO_none em] at h; exact h.elim
    | some u =>
      rw [liftO_some em] at h
      have hz : rv = .val .non ∧ g[0]? = some (.own (some 0) u) := by
        unfold mkO at em
        split at em
        · rename_i e1 e2
          cases em
          exact ⟨e1, e2⟩
        · cases em
      obtain ⟨rfl, hg⟩ := hz
      obtain ⟨mo, ro⟩ := af.arg 0 u o hg rfl
      obtain ⟨c1, c2, c3, c4⟩ := af.env (adj M o) (fun _ z => .inl z) fun c z => z.imp id fun q => by rw [q]; exact ⟨mo, h0⟩
      refine ⟨?_, h o H' h0 c1 c2 c3 (fun z => by cases z) (ro.fine (Fine.weak c4) fun _ e _ => e)⟩
      cases (show Rep C M' H' v .non from rr)
      rfl
theorem keep_two {H : Hp} {o dx : Addr} {u1 u2 : HO} (ho : H o = none) (hd : H dx = none) (ne : dx ≠ o) : Keep0 H (upd (upd H dx u1) o u2) := (Keep.new hd).trans (Keep.new (by rw [upd_ne (Ne.symm ne)]; exact ho))
theorem make_te {N : List Str} {n c : Nat} {b : F Fl} {σ : L2.St} {H : Hp} {Q : VK} (hn : ArgsN n fr) (hN : n + 1 ≤ N.length) (h : tFN C W false (nMake c N.length b fr) σ H Q) :
    tFA C W p fr σ H fun vs H1 => ∀ o dx, H1 o = none → H1 dx = none → dx ≠ o → spF C N (n + 1) b (.ref o :: vs) (upd (upd H1 dx (.own o)) o (.ins (C.cl c) dx [])) (fun v H2 => v = .non ∧ Q (.ref o) H2) (WE W σ) := by
  obtain ⟨pens, M, γ, E, h⟩ := h
  refine ⟨pens, M, γ, E, ?_⟩
  unfold nMake at h
  cases ea : fr γ with
  | st => rw [bind_st ea] at h; exact h
  | ex x γ' => rw [bind_ex ea] at h; exact aftA_ex E h
  | ok as γ1 =>
    rw [bind_ok ea] at h
    intro vs H1 M1 E1 k1 pt P1 up1 dn1 A o dx ho hd ne
    have k0 : Keep0 H1 (upd (upd H1 dx (.own o)) o (.ins (C.cl c) dx [])) := keep_two ho hd ne
    have h0 : H o = none := k1.free ho fun z => Own.tracked E1 ho (pt.Own z)
    refine make_core (by rw [hn _ _ _ ea]) hN E (E1.plus ho ⟨_, upd_same⟩ k0) (k1.trans k0.any) pt (fun a z => .inl (up1 a z)) (fun a z => ?_) (A.ahead ho h0 k0 ⟨dx, [], upd_same, .nil⟩) h0 h
    have ef : freshA (.ref o :: vs) (.n (.ins c []) :: as) = o :: freshA vs as := rfl
    rw [ef]
    rcases z with z | z
    · exact (dn1 a z).imp id fun q => List.mem_cons_of_mem _ q
    · exact .inr (by rw [z]; exact List.mem_cons_self)
/-- the promise of a def with one parameter and a star parameter -/
def spStar (C : Ct) (N : List Str) (b : F Fl) : Sp := fun vs H Q E => ∃ ws rest, vs = ws ++ rest ∧ ws.length = 1 ∧ rest.length ≤ sizeLine ∧ ∀ q, H q = none → spF C N 2 b (ws ++ [V.ref q]) (upd H q (.tup rest)) Q E
theorem makeS_te {N : List Str} {c : Nat} {b : F Fl} {σ : L2.St} {H : Hp} {Q : VK} (hN : 2 ≤ N.length) (h : tFN C W false (nMakeS c N.length b fr) σ H Q) :
    tFA C W p fr σ H fun vs H1 => ∀ o dx, H1 o = none → H1 dx = none → dx ≠ o → spStar C N b (.ref o :: vs) (upd (upd H1 dx (.own o)) o (.ins (C.cl c) dx [])) (fun v H2 => v = .non ∧ Q (.ref o) H2) (WE W σ) := by
  obtain ⟨pens, M, γ, E, h⟩ := h
  refine ⟨pens, M, γ, E, ?_⟩
  unfold nMakeS at h
  cases ea : fr γ with
  | st => rw [bind_st ea] at h; exact h
  | ex x γ' => rw [bind_ex ea] at h; exact aftA_ex E h
  | ok as γ1 =>
    rw [bind_ok ea] at h
    cases eb : allD as with
    | none => rw [bind_st (liftO_none eb _)] at h; exact h.elim
    | some ds =>
      rw [bind_ok (liftO_some eb _)] at h
      refine aftA_all E eb fun vs H1 S1 P1 r1 o dx ho hd ne => ?_
      split at h
      case isFalse => exact h.elim
      rename_i hz
      have E1 := S1.env
      have k0 : Keep0 H1 (upd (upd H1 dx (.own o)) o (.ins (C.cl c) dx [])) := keep_two ho hd ne
      have h0 : H o = none := S1.keep.free ho fun z => Own.tracked E1 ho (S1.pat.Own z)
      refine ⟨[.ref o], vs, rfl, rfl, by rw [r1.length]; exact hz, fun q hq => ?_⟩
      have k3 : Keep0 (upd (upd H1 dx (.own o)) o (.ins (C.cl c) dx [])) (upd (upd (upd H1 dx (.own o)) o (.ins (C.cl c) dx [])) q (.tup vs)) := Keep.new hq
      have E2 : EnvRep C pens (adj M o) γ1 σ (upd (upd H1 dx (.own o)) o (.ins (C.cl c) dx [])) := E1.plus ho ⟨_, upd_same⟩ k0
      have E3 := E2.keep k3
      have rt : Rep C (adj M o) (upd (upd (upd H1 dx (.own o)) o (.ins (C.cl c) dx [])) q (.tup vs)) (.ref q) (.tup ds) :=
        rep_newT E2.dom hq (r1.fine (Fine.trans (Fine.plus ho) (Fine.keep0 k0) fun a u e _ z => z.elim id fun q => by rw [q, ho] at e; cases e))
      have A0 : AsOk C M H H1 σ γ1 [] [] := ⟨.nil, List.nodup_nil, fun _ z => nomatch z⟩
      have A1 : AsOk C (adj M o) H (upd (upd (upd H1 dx (.own o)) o (.ins (C.cl c) dx [])) q (.tup vs)) σ γ1 [.ref o, .ref q] [.n (.ins c []), .d (.tup ds)] := by
        refine ⟨.cons ⟨o, rfl, .inr rfl, dx, [], k3.at upd_same, .nil⟩ (.cons rt .nil), by show [o].Nodup; simp, fun c hc => ?_⟩
        have : c = o := List.mem_singleton.mp hc
        rw [this]; exact h0
      refine make_core (vs := [.ref q]) rfl hN E E3 (S1.keep.trans (Keep0.any (k0.trans k3))) S1.pat (fun a z => .inl z) (fun a z => ?_) A1 h0 h
      rcases z with z | z
      · exact .inl z
      · exact .inr (by rw [z]; show o ∈ [o]; simp)
theorem run_makeRS {k : Nat} {f Ca : Addr} {sp : Sp} {E : L2.St → XK} {pins : List (Addr × Obj)} {σ : L2.St} {H : Hp} {s : Shared} {Q : VK} {us : List Value} {vs : List V} (Mm : Mk X.K Ca f) (Fn : FnG X.prog X.w X.K X.mg X.base (L2.CX X.prog X.w) k f sp) (hr : RoomG (k + 1) X.A) (hx : PassesAt (L2.CX X.prog X.w) X σ (E σ)) (I : Inv X pins σ H s) (r : Vals vs us)
    (h : ∀ o dx, H o = none → H dx = none → dx ≠ o → sp (.ref o :: vs) (upd (upd H dx (.own o)) o (.ins Ca dx [])) (fun v H2 => v = .non ∧ Q (.ref o) H2) (E σ)) : wpAny (model X.prog X.w) X.A (call (.ref Ca) us) (EP X pins σ Q) X.xe s := by
  have I2 := Inv.made (C := Ca) I
  have h2 := h (s.heap.objs.size + 1) s.heap.objs.size (I.hok.fresh (Nat.le_succ _)) (I.hok.fresh (Nat.le_refl _)) (Nat.ne_of_lt (Nat.lt_succ_self _))
  have go := Fn _ X.stack _ _ (Value.ref (s.heap.objs.size + 1) :: us) (V.ref (s.heap.objs.size + 1) :: vs) _ _ (hr.make Ca us []) (I2.env0.make Ca us []) (.cons rfl r) h2
  refine wpAny_call (make_map (f := f) I.kIn Mm.makes Mm.init (beq_iff_eq.mp Mm.fn) (codeAny_mono go fun r s' hq => ?_))
  match r, hq with
  | .error e, hq => exact hx pins _ _ e s' I2 hq
  | .ok (.ret u), hq =>
    obtain ⟨v, H', I3, rv, ev, q3⟩ := I2.after hq
    subst ev
    exact ⟨rv, .ref (s.heap.objs.size + 1), H', I3, rfl, q3⟩
  | .ok .next, hq => exact hq.elim
  | .ok .brk, hq => exact hq.elim
  | .ok .cont, hq => exact hq.elim
theorem fn_make {k n c : Nat} {f : Addr} {N : List Str} {b : F Fl} (Mm : Mk X.K (C.cl c) f) (Fn : FnP X C k f N (n + 1) b) (hr : RoomG (k + 1) X.A) (hg : Gl X x) (hm : X.mg x = some (.ref (C.cl c))) (tk : Takes X W)
    (ha : FA C W p X (e :: es) fr) (hn : ArgsN n fr) (hN : n + 1 ≤ N.length := by decide) (hdb : (x == ("__debug__" : Str)) = false := by decide) (hst : starEach (e :: es) X.env = (false, eval e X.env) :: starEach es X.env := by rfl) (hpl : (backTo pos (starEach es X.env)).any (·.1) = false := by rfl) :
    FN C W false X (.Call (.Name x pn) (e :: es) [] pos) (nMake c N.length b fr) := ⟨fun pins s σ H Q I h => wpAny_Call_Name_kw (ld_glob I hg hm (PySem.W.callWith_K (h₀ := X.base) I.ok.mod.kin Mm.kp (thn (ha.run pos pins s σ H _ I (make_te (p := p) hn hN h)) fun us s1 ⟨vs, H1, I1, r, q⟩ => ⟨I1.kIn, run_makeRS (E := WE W) Mm Fn hr (passAt tk σ) I1 r q⟩) hst hpl) hdb)⟩
theorem fn_makeS {k c : Nat} {f : Addr} {N : List Str} {b : F Fl} (Mm : Mk X.K (C.cl c) f) (Fn : FnG X.prog X.w X.K X.mg X.base (L2.CX X.prog X.w) k f (spStar C N b)) (hr : RoomG (k + 1) X.A) (hg : Gl X x) (hm : X.mg x = some (.ref (C.cl c))) (tk : Takes X W)
    (ha : FA C W p X (e :: es) fr) (hN : 2 ≤ N.length := by decide) (hdb : (x == ("__debug__" : Str)) = false := by decide) (hst : starEach (e :: es) X.env = (false, eval e X.env) :: starEach es X.env := by rfl) (hpl : (backTo pos (starEach es X.env)).any (·.1) = false := by rfl) :
    FN C W false X (.Call (.Name x pn) (e :: es) [] pos) (nMakeS c N.length b fr) := ⟨fun pins s σ H Q I h => wpAny_Call_Name_kw (ld_glob I hg hm (PySem.W.callWith_K (h₀ := X.base) I.ok.mod.kin Mm.kp (thn (ha.run pos pins s σ H _ I (makeS_te (p := p) hN h)) fun us s1 ⟨vs, H1, I1, r, q⟩ => ⟨I1.kIn, run_makeRS (E := WE W) Mm Fn hr (passAt tk σ) I1 r q⟩) hst hpl) hdb)⟩
theorem fn_makeS0 {k c : Nat} {f : Addr} {N : List Str} {b : F Fl} (Mm : Mk X.K (C.cl c) f) (Fn : FnG X.prog X.w X.K X.mg X.base (L2.CX X.prog X.w) k f (spStar C N b)) (hr : RoomG (k + 1) X.A) (hg : Gl X x) (hm : X.mg x = some (.ref (C.cl c))) (tk : Takes X W)
    (hN : 2 ≤ N.length := by decide) (hdb : (x == ("__debug__" : Str)) = false := by decide) :
    FN C W false X (.Call (.Name x pn) [] [] pos) (nMakeS c N.length b aNil) := ⟨fun pins s σ H Q I h => wpAny_Call_Name_kw (ld_glob I hg hm (PySem.W.callWith_K0 I.kIn Mm.kp (run_makeRS (us := []) (vs := []) (E := WE W) Mm Fn hr (passAt tk σ) I .nil (tFA.nil (makeS_te (p := true) hN h)))) hdb)⟩
/-- plain binding by position lays nothing -/
theorem bnd_pos {CX : CXT} {P : Program} {w : World} {K : PySem.W.Frag} {mg : Str → Option Value} {base : Heap} {fd : FuncData} {ps : List Str} {A : Around} {out : List Env} {s : Shared} {H : Hp} {E : XK} {us : List Value} {vs : List V} (hb : Binds K fd ps []) (e0 : Env0 P w K mg base A out s H) (r : Vals vs us) (hl : vs.length = ps.length) :
    StX.Bnd CX P w K mg base fd ⟨us, []⟩ ps A out s H E fun xs H2 => xs = vs ∧ H2 = H := by
  intro A' Ex Q q
  have hl2 : (us ++ []).length = ps.length := by rw [List.append_nil, ← r.length]; exact hl
  have z := hb s us (e0.mod.kin.keeps fun b o e => (e0.bs b o e).1) hl2
  rw [List.append_nil] at z
  exact z _ A' Ex Q (q s H vs us e0 Un.refl rfl (fun _ _ x => x) r hl ⟨rfl, rfl⟩)
/-- a def with self and a star parameter keeps its promise -/
theorem starF_ok {P : Program} {w : World} {K : PySem.W.Frag} {mg : Str → Option Value} {base : Heap} {y qual : Str} {params : Arguments} {body : List Stmt} {scope : Scope} {f : Addr} {fd : FuncData} {N : List Str} {p1 pv : Str} {k : Nat} {b : F Fl} (Fd : FunD K y qual params body scope [] [] f fd) (S : FnScope N [p1, pv] scope)
    (hb : ∀ (kV doc pm : Value) (an : Option Addr) (cdv ct : Value), ∀ us rest : List Value, us.length = [p1].length → bindArgs (PySem.W.fnOf y qual params body scope .none kV doc pm an cdv ct) ⟨us ++ rest, []⟩ = (newTuple rest >>= fun t => pure ([p1].zip us ++ [(pv, t)])))
    (hbody : ∀ (cdv : Value) (A : Around) (outer : List Env) (s : Shared) (H : Hp) (E : XK), RoomG k (A.deeper (envOfC qual scope s.heap.objs.size f cdv)) → FSs C (WofE E) (bcx P w K mg base N qual scope f cdv A outer s H E) body b) :
    FnG P w K mg base (L2.CX P w) (k + 1) f (spStar C N b) := by
  obtain ⟨oc, od, dV, kV, doc, pm, an, cdv, ct, osl, rfl, lk, hcd, hD, _⟩ := Fd.ex
  have eD : dV = .none := hD.elim (fun z => z.2) fun z => (z.1 rfl).elim
  subst eD
  intro A out s H us vs Q E hr e0 r hsp
  obtain ⟨ws, rest, rfl, lw, lr, hq⟩ := hsp
  obtain ⟨ua, ub, rfl, r1, r2⟩ := StX.vals_split r
  have hn : H s.heap.objs.size = none := e0.hok.fresh (Nat.le_refl _)
  have la : ua.length = [p1].length := r1.length.symm.trans lw
  have lb : ub.length ≤ sizeLine := r2.length ▸ lr
  refine StX.run_bnd lk hcd S hr.r e0 (G := fun xs H2 => ∃ q, H q = none ∧ xs = ws ++ [V.ref q] ∧ H2 = upd H q (.tup rest)) (fun A' Ex Q' go => ?_) fun s2 H2 xs ⟨q, n, ex, eh⟩ hr2 => ?_
  · rw [hb kV doc pm an cdv ct ua ub la]
    refine wpAny_bind (wpAny_newTuple (wpAny_pure ?_) lb)
    have up := StX.un_laid (fs := frs out) (s := s) (o := ⟨.type "tuple", none, .seq ub.toArray, #[]⟩) (u := .tup rest) hn
    have nw : ObjOk P w (upd H s.heap.objs.size (.tup rest)) (s.heap.push ⟨.type "tuple", none, .seq ub.toArray, #[]⟩) s.heap.objs.size (.tup rest) := ⟨lr, ub, r2, _, Heap.get?_push_size _ rfl, rfl, _, rfl⟩
    have z := go _ _ (ws ++ [V.ref s.heap.objs.size]) (ua ++ [Value.ref s.heap.objs.size]) (StX.env0_laid e0 nw) up rfl (fun e t => StX.cxUp out s H _ _ E e t up (fun _ _ x => Heap.get?_push_of_some _ x) rfl) (r1.append (.cons rfl .nil)) (by simp [lw]) ⟨_, hn, rfl, rfl⟩
    have ez : [p1, pv].zip (ua ++ [Value.ref s.heap.objs.size]) = [p1].zip ua ++ [(pv, Value.ref s.heap.objs.size)] := by
      match ua, la with
      | [_], _ => rfl
    rw [ez] at z
    exact z
  · subst ex eh
    exact ⟨_, hbody cdv A out s2 _ E ⟨hr2, hr.g⟩, (hq q n).2⟩
/-- what a def promises, by position -/
theorem fnP_ok {P : Program} {w : World} {K : PySem.W.Frag} {mg : Str → Option Value} {base : Heap} {y qual : Str} {params : Arguments} {body : List Stmt} {scope : Scope} {f : Addr} {fd : FuncData} {N ps : List Str} {k : Nat} {b : F Fl} (Fd : FunD K y qual params body scope [] [] f fd) (S : FnScope N ps scope) (hb : Binds K fd ps [])
    (hbody : ∀ (cdv : Value) (A : Around) (outer : List Env) (s : Shared) (H : Hp) (E : XK), RoomG k (A.deeper (envOfC qual scope s.heap.objs.size f cdv)) → FSs C (WofE E) (bcx P w K mg base N qual scope f cdv A outer s H E) body b) :
    FnG P w K mg base (L2.CX P w) (k + 1) f (spF C N ps.length b) := by
  obtain ⟨oc, od, dV, kV, doc, pm, an, cdv, ct, osl, rfl, lk, hcd, _⟩ := Fd.ex
  intro A out s H us vs Q E hr e0 r hsp
  refine StX.run_bnd lk hcd S hr.r e0 (bnd_pos hb e0 r hsp.1) fun s2 H2 xs ⟨ex, eh⟩ hr2 => ?_
  subst ex eh
  exact ⟨_, hbody cdv A out s2 _ E ⟨hr2, hr.g⟩, hsp.2⟩

/-! ### properties -/
def fProp (c : Nat) (N : Nat) (b : F Fl) (fo : F AV) : F D := F.bind fo fun av γ => match avC γ av with
  | some (c', _) => if c' = c then (match callR N b [av] γ with
    | .ok r γ2 => .ok r.1.d γ2
    | _ => .st) else .st
  | none => .st
theorem prop_te {N : List Str} {c : Nat} {b : F Fl} {fo : F AV} {σ : L2.St} {H : Hp} {Q : VK} {q : Bool} (hN : 1 ≤ N.length) (h : tF C W true false (fProp c N.length b fo) σ H Q) :
    tFV C W q fo σ H fun x H1 => ∃ a dx fs, x = .ref a ∧ H1 a = some (.ins (C.cl c) dx fs) ∧ spF C N 1 b [.ref a] H1 Q E0 := by
  obtain ⟨pens, M, γ, E, h⟩ := h
  refine ⟨pens, M, γ, E, ?_⟩
  unfold fProp at h
  cases eo : fo γ with
  | st => rw [bind_st eo] at h; exact h
  | ex x g => rw [bind_ex eo] at h; exact h
  | ok av γ1 =>
    rw [bind_ok eo] at h
    cases ec : avC γ1 av with
    | none => rw [ec] at h; exact h.elim
    | some q =>
      obtain ⟨c', fs⟩ := q
      rw [ec] at h
      simp only at h
      split at h
      case isFalse => exact h.elim
      rename_i hz
      subst hz
      have nn : ∀ o, av ≠ .n o := fun o z => by subst z; cases ec
      refine ⟨nn, fun v H1 S1 P1 r1 => ?_⟩
      obtain ⟨a, dx, vfs, rfl, eh, rf⟩ := avC_ok S1.env r1 ec
      have ef : freshA [V.ref a] [av] = [] := freshA_skip nn
      have A : AsOk C M H H1 σ γ1 [.ref a] [av] := ⟨.cons r1 .nil, by rw [ef]; exact List.nodup_nil, fun b hb => by rw [ef] at hb; cases hb⟩
      refine ⟨a, dx, vfs, rfl, eh, ?_⟩
      have z : spF C N 1 b [.ref a] H1 Q (WE (fun _ _ _ _ => False) σ) := call_sp (as := [av]) rfl hN E S1.env S1.keep S1.pat (fun _ z => z) (fun _ z => .inl z) A (by
        cases ek : callR N.length b [av] γ1 with
        | st => rw [ek] at h; exact h
        | ex e γ3 => rw [ek] at h; exact h.elim
        | ok r γ3 =>
          rw [ek] at h
          intro v H' M' af rr
          obtain ⟨S, r2⟩ := af.rep E rr
          exact h v H' S (fun z => by cases z) r2)
      exact z
theorem fx_prop {k c : Nat} {g pr : Addr} {nm : Str} {N : List Str} {b : F Fl} {fo : F AV} {q : Bool} (he : FV C W q X e fo) (cl : Cls X.K (C.cl c)) (hp : PropOf X.K (C.cl c) nm pr g) (Fn : FnP X C k g N 1 b) (hr : RoomG (k + 1) X.A) (hN : 1 ≤ N.length := by decide)
    (hab : attributeBase e nm X.env (eval e X.env) = eval e X.env := by rfl) : FX C W true false X (.Attribute e nm pos) (fProp c N.length b fo) := by
  refine ⟨fun pins s σ H Q I h => attr_of hab (thn (he.run pins s σ H _ I (prop_te (q := q) hN h)) fun u s1 ⟨y, H1, I1, rx, o, dx, fs, ex, ea, z⟩ => ?_)⟩
  subst ex
  have eu : u = Value.ref o := rx
  subst eu
  obtain ⟨mA, O, _⟩ := ins_get I1.hok ea
  obtain ⟨od, J, _⟩ := O.look
  obtain ⟨rest, hrec⟩ := hp.rec_
  have I2 := I1.tok (s1.toks + 1)
  have hc : (PySem.W.clsIn X.K (C.cl c)).isSome = true := by
    obtain ⟨cd, hc, _⟩ := PySem.W.any_some cl.hd
    rw [hc] <;> rfl
  refine PySem.W.get_bind I1.kIn J (PySem.W.plainGet_of (cl.get nm)).1 (PySem.W.findObj_data hc hp.at_ hp.get hp.tak) (PySem.W.plainGet_of (cl.get nm)).2 (wpAny_call (PySem.W.prop_get (s := { s1 with toks := s1.toks + 1 }) I1.kIn hrec ?_))
  refine codeAny_mono (Fn X.A.in1 X.stack { s1 with toks := s1.toks + 1 } H1 [.ref o] [.ref o] Q E0 hr.in1 I2.env0.in1 (.cons rfl .nil) z) fun r s' hq => ?_
  match r, hq with
  | .error er, hq => exact (passL (X := X.nox) pins σ H1 { s1 with toks := s1.toks + 1 } er s' (I2.wish _) hq).elim
  | .ok (.ret u), hq =>
    obtain ⟨v, H', I3, rv, q3⟩ := I2.after hq
    show wpAny _ _ (handedOut u) _ _ _
    rw [PySem.W.handedOut_of (handed_of rv)]
    exact wpAny_pure ⟨v, H', I3, rv, q3⟩
  | .ok .next, hq => exact hq.elim
  | .ok .brk, hq => exact hq.elim
  | .ok .cont, hq => exact hq.elim
end
end FC

namespace FC
open PySem PySem.Spec PyProof.Rows L2

/-! ### set(x), x a tuple of tuples of ints -/
abbrev set0 (w : World) : Obj := { cls := .type "set", dict := none, data := .set #[] 0 (.fresh 0 0 (!w.params.followText "set-order")) }
section
variable {P : Program} {w : World} {A : Around} {E : Value → Shared → Prop} {s : Shared}
theorem beyond {h : Heap} {b : Addr} (hb : h.objs.size ≤ b) : h.get? b = none := by
  cases q : h.get? b with
  | none => rfl
  | some o => exact absurd (Heap.lt_size q) (Nat.not_lt_of_le hb)
theorem mkset_tup {l : Addr} {items : Array Value} (ks : List (Addr × List Int)) {Q : Value → Shared → Prop} (hh : A.handled = none) (ht : s.heap.IsTuple l items) (hi : items.toList = ks.map fun q => Value.ref q.1)
    (hk : ∀ q ∈ ks, IsT P w s.heap q.2 q.1) (hf : ks.length < 64) (hu : A.units + 3 < cLine)
    (fin : ∀ (h' : Heap) (tk : Nat) L es ep t, SetTR P w h' s.heap.objs.size L es ep t → Got ks ks.length L → (∀ b o, s.heap.get? b = some o → h'.get? b = some o) → Q (.ref s.heap.objs.size) { s with heap := h', toks := tk }) :
    wpAny (model P w) A (call (.type "set") [.ref l]) Q E s := by
  have num : items.size = ks.length := by
    rw [← Array.length_toList, hi, List.length_map]
  obtain ⟨mro, above, isMro⟩ := F.called_set.mro
  have w1 := F.called_set.made
  have w2 := F.called_set.sub
  have w3 := F.called_set.notType
  have w4 := F.called_set.canCreate
  have w5 := F.typeCall_set_1 (.ref l)
  refine wpAny_call (codeAny_of_tree ?_)
  show wpAny _ _ (callAny (.type "set") _) _ _ _
  refine wpAny_pure ⟨Code.quiet_builtin _ (by decide +kernel), codeAny_builtin F.entry_type_call ?_⟩
  rw [Around.under_plain (weight_type_call_type "set" [.ref l] []) rfl]
  repeat (any_goals (first | assumption | wp_step))
  -- the new object
  refine codeAny_mono (code_set_led1 (.ref l) (E := E) (Q₁ := fun v z => v = .ref s.heap.objs.size ∧ z = { s with heap := s.heap.push (set0 w) }) ⟨rfl, rfl⟩) fun r z hz => ?_
  match r, hz with
  | .error e, hz => exact hz
  | .ok .next, hz => exact hz.elim
  | .ok .brk, hz => exact hz.elim
  | .ok .cont, hz => exact hz.elim
  | .ok (.ret v), hz =>
    obtain ⟨rfl, rfl⟩ := hz
    have at0 : (s.heap.push (set0 w)).get? s.heap.objs.size = some (set0 w) := Heap.get?_push_size _ rfl
    have ty0 : Shared.TypeIs { s with heap := s.heap.push (set0 w) } (.ref s.heap.objs.size) "set" := ⟨_, at0, rfl⟩
    have i1 := F.called_set.init.lookup
    have i2 := F.called_set.init.bind (.ref s.heap.objs.size)
    repeat (any_goals (first | assumption | wp_step))
    -- its __init__
    refine codeAny_mono (codeAny_call_builtin (R := wants (fun r z => r = .none ∧ ∃ h' tk L es ep t, z = { s with heap := h', toks := tk } ∧ SetTR P w h' s.heap.objs.size L es ep t ∧ Got ks ks.length L ∧ (∀ b o, s.heap.get? b = some o → h'.get? b = some o)) E)
      F.called_set.init.plain F.entry_set_init (check_set_init_1 ty0 ?_)) fun r z hz => ?_
    · obtain ⟨ob, hob, cob, nob, dob⟩ := ht
      obtain ⟨c0, d0, dat0, sl0⟩ := ob
      simp only at cob dob
      subst cob dob
      have at1 : (s.heap.push (set0 w)).get? l = some { cls := .type "tuple", dict := d0, data := .seq items nob, slots := sl0 } := Heap.get?_push_of_some _ hob
      have s1 := F.sub_tuple_set
      have s2 := F.sub_tuple_frozenset
      have s3 : (Value.type "tuple" == Value.type "dict") = false := by decide
      have tup1 : (s.heap.push (set0 w)).IsTuple l items := ⟨_, at1, rfl, nob, rfl⟩
      have low : l < s.heap.objs.size := Heap.lt_size hob
      have sz1 : (s.heap.push (set0 w)).objs.size = s.heap.objs.size + 1 := Heap.size_push ..
      unfold Builtin.«set.__init__» noKeywords Builtin.Frozenset.updateFrom
      generalize ePI : pyIter = PI
      wp_walk
      subst ePI
      refine wpAny_pyIter_tuple tup1 (wpAny_bind (wpAny_runValue ?_))
      have hn3 : A.in1.in1.in1.handled = none := by simp [hh]
      have apart1 : l ≠ (s.heap.push (set0 w)).objs.size := by rw [sz1]; exact Nat.ne_of_lt (Nat.lt_succ_of_lt low)
      have apart2 : s.heap.objs.size ∉ [(s.heap.push (set0 w)).objs.size, l] := by
        rw [sz1]
        simp only [List.mem_cons, List.not_mem_nil, or_false, not_or]
        exact ⟨Nat.ne_of_lt (Nat.lt_succ_self _), Nat.ne_of_gt low⟩
      have each : ∀ (i : Nat) (v : Value), items[i]? = some v → ∃ q, ks[i]? = some q ∧ v = .ref q.1 := fun i v hv => by
        have e1 : (ks.map fun q => Value.ref q.1)[i]? = some v := by rw [← hi, Array.getElem?_toList]; exact hv
        rw [List.getElem?_map] at e1
        obtain ⟨q, e2, e3⟩ := Option.map_eq_some_iff.mp e1
        exact ⟨q, e2, e3.symm⟩
      refine set_update_tups ((Walks.tuple hn3 _ l apart1 items).toS) s.heap.objs.size apart2 ks num hf each s.heap hk (beyond (Nat.le_refl _)) (fun b hb => beyond ?_) hu (items.size - 0) 0 _ (by omega) (Nat.zero_le _) ⟨⟨_, Heap.get?_push_size _ rfl, rfl, rfl⟩, tup1.push _⟩ (fun b o e => Heap.get?_push_of_some _ (Heap.get?_push_of_some _ e)) ⟨[], #[], 0, _, setTR_fresh (Heap.get?_push_of_some _ at0), Got.zero ks⟩ ?_
      · rw [List.mem_singleton.mp hb, sz1]
        exact Nat.le_succ _
      · intro z L es ep t mv hS got kp
        obtain ⟨h', g', d', tk', os'⟩ := z
        have e1 : g' = s.gens := mv.gens
        have e2 : d' = s.drawn := mv.drawn
        have e3 : os' = s.os := mv.os
        subst e1 e2 e3
        rw [num] at got
        show wpAny _ _ _ _ _ _
        refine wpAny_pure ?_
        show wpAny _ _ (ret Value.none) _ _ _
        exact wpAny_pure ⟨rfl, h', tk', L, es, ep, t, rfl, hS, got, kp⟩
    · match r, hz with
      | .error e, hz => exact hz
      | .ok .next, hz => exact hz.elim
      | .ok .brk, hz => exact hz.elim
      | .ok .cont, hz => exact hz.elim
      | .ok (.ret v), hz =>
        obtain ⟨rfl, h', tk, L, es, ep, t, rfl, hS, got, kp⟩ := hz
        repeat (any_goals (first | assumption | wp_step))
        exact fin _ _ _ _ _ _ hS got kp
end
end FC

namespace FC
open PySem PySem.Spec PyProof.Rows L2

/-! ### isinstance -/
def tyNs : List String := ["NoneType", "bool", "int", "str", "list", "tuple"]
def isiB (T t : String) : Option Bool := if t ∈ tyNs ∧ T ∈ ["int", "bool", "str", "tuple", "list"] then some (decide (t = T) || (decide (t = "bool") && decide (T = "int"))) else none
theorem isiB_ok {K : PySem.W.Frag} {T t : String} {r : Bool} (h : isiB T t = some r) : PySem.W.kitOne K (.type t) (.type T) = some r := by
  refine kit_ty ?_
  have all : ∀ t ∈ tyNs, ∀ T ∈ ["int", "bool", "str", "tuple", "list"], kitB t T = some (decide (t = T) || (decide (t = "bool") && decide (T = "int"))) := by decide +kernel
  unfold isiB at h
  split at h
  · rename_i hz
    cases h
    exact all t hz.1 T hz.2
  · cases h
/-- what of a class isinstance asks -/
structure InsTy (K : PySem.W.Frag) (Ca : Addr) : Prop where
  cl : Cls K Ca
  ha : PySem.W.findIn K (.ref Ca) "__class__" = some (some (.builtin "object.__class__"))
  hn : PySem.W.specialIn K (.builtin "object.__class__") "__get__" = some (some (.builtin "getset_descriptor.__get__"))
  htk : PySem.W.takesIn K (.builtin "object.__class__") = some true
  hm : PySem.W.mroIn K Ca (.type "object") = some true
def dIsi (fb : String → Option Bool) (fc : Nat → Option Bool) : D → Option Bool
  | .non => fb "NoneType"
  | .bl _ => fb "bool"
  | .int _ => fb "int"
  | .str _ => fb "str"
  | .lst _ => fb "list"
  | .tup _ => fb "tuple"
  | .ins c _ => fc c
  | _ => none
section
variable {C : Ct} {W : WX} {X : Cx} {m p m1 p1 m2 p2 : Bool} {a b e' e : Expr} {es : List Expr} {fa fb : F D} {fr : F (List AV)} {x : Str} {pn pos : Pos} {i : Nat}
theorem fx_isi {ce : Expr} {cv : V} {cu : Value} {gb : String → Option Bool} {gc : Nat → Option Bool} (hce : PE X ce (tC cv)) (hk : ClsV cv cu) (hb : ∀ t r, gb t = some r → PySem.W.kitOne X.K (.type t) cu = some r) (hc : ∀ c r, gc c = some r → InsTy X.K (C.cl c) ∧ PySem.W.kitOne X.K (.ref (C.cl c)) cu = some r)
    (ha : FX C W m p X a fa) (hm : X.mg "isinstance" = none) (hg : Gl X "isinstance") (hs : starEach [a, ce] X.env = (false, eval a X.env) :: starEach [ce] X.env := by rfl) (hs2 : starEach [ce] X.env = (false, eval ce X.env) :: starEach [] X.env := by rfl) (hpl : (backTo pos (starEach [ce] X.env)).any (·.1) = false := by rfl) :
    FX C W true p X (.Call (.Name "isinstance" pn) [a, ce] [] pos) (f1 (fun d => (dIsi gb gc d).map D.bl) fa) :=
  fx1 (r := fun x H Q => rIsi X.K [x, cv] H Q) ha (fun ta h => pe_callB call_isi hg hm (by rfl) (pa_cons h (pa_cons hce pa_nil hs2) hs) (by decide) (by decide) hs hpl) fun M H x dx d Q hd sx eg k => by
    obtain ⟨r, e1, rfl⟩ := Option.map_eq_some_iff.mp eg
    have fin : ∀ t, TyX X.K H x t → PySem.W.kitOne X.K t cu = some r → rIsi X.K [x, cv] H Q := fun t h1 h2 => ⟨x, cv, t, cu, r, rfl, hk, h1, h2, k _ H (Keep.refl _ _) (.bl _)⟩
    cases dx with
    | non => rw [sx.nonH] at fin ⊢; exact fin _ (.base .non) (hb _ _ e1)
    | bl b => rw [sx.blH] at fin ⊢; exact fin _ (.base (.bl b)) (hb _ _ e1)
    | int i => rw [sx.intH] at fin ⊢; exact fin _ (.base (.int i)) (hb _ _ e1)
    | str i => rw [sx.strH] at fin ⊢; exact fin _ (.base (.str i)) (hb _ _ e1)
    | lst xs => obtain ⟨a, vs, rfl, h1, _⟩ := sx.lstH; exact fin _ (.base (.lst h1)) (hb _ _ e1)
    | tup xs => obtain ⟨a, vs, rfl, h1, _⟩ := sx.tupH; exact fin _ (.base (.tup h1)) (hb _ _ e1)
    | ins c fs =>
      obtain ⟨a, dx, vfs, rfl, h1, _⟩ := sx.insH
      obtain ⟨z, e2⟩ := hc c r e1
      exact fin _ (.base (.ins h1 z.cl z.ha z.hn z.htk z.hm)) e2
    | dct _ => cases e1
    | raw _ => cases e1
    | cls _ => cases e1
/-! ### repr of an int -/
def dReprI : D → Option D | .int i => if i.natAbs.log2 < 1920 then some (.str (toString i)) else none | _ => none
theorem fx_reprI (ha : FX C W m p X a fa) (hm : X.mg "repr" = none) (hg : Gl X "repr") (he : starEach [a] X.env = (false, eval a X.env) :: starEach [] X.env := by rfl) (hpl : (backTo pos (starEach [] X.env)).any (·.1) = false := by rfl) : FX C W true p X (.Call (.Name "repr" pn) [a] [] pos) (f1 dReprI fa) :=
  fx_b1 SkE.call_repr_int (fun M H x dx d Q hd sx e k => by
    cases dx with
    | int i =>
      simp only [dReprI] at e
      split at e
      · rename_i hz
        cases e
        exact ⟨i, by rw [sx.intH], hz, k _ H (Keep.refl _ _) (.str _)⟩
      · cases e
    | _ => cases e) ha (by rfl) hm hg (he := he) (hpl := hpl)

/-! ### len(set(x)) -/
def ded : List (List Int) → List (List Int)
  | [] => []
  | x :: r => if x ∈ ded r then ded r else x :: ded r
theorem ded_mem : ∀ (l : List (List Int)) (x : List Int), x ∈ ded l ↔ x ∈ l
  | [], x => Iff.rfl
  | y :: r, x => by
    have ih := ded_mem r
    simp only [ded]
    split
    · rename_i h
      rw [ih x, List.mem_cons]
      exact ⟨.inr, fun z => z.elim (fun q => by rw [q]; exact (ih y).mp h) id⟩
    · rw [List.mem_cons, List.mem_cons, ih x]
theorem ded_nodup : ∀ l : List (List Int), (ded l).Nodup
  | [] => List.nodup_nil
  | y :: r => by
    simp only [ded]
    split
    · exact ded_nodup r
    · rename_i h
      exact List.nodup_cons.mpr ⟨h, ded_nodup r⟩
theorem ded_of_nodup : ∀ {l : List (List Int)}, l.Nodup → ded l = l
  | [], _ => rfl
  | y :: r, h => by
    obtain ⟨h1, h2⟩ := List.nodup_cons.mp h
    simp only [ded, ded_of_nodup h2]
    rw [if_neg h1]
theorem len_le {α : Type} [DecidableEq α] : ∀ {l m : List α}, l.Nodup → (∀ x ∈ l, x ∈ m) → l.length ≤ m.length
  | [], _, _, _ => Nat.zero_le _
  | x :: r, m, nd, h => by
    obtain ⟨h1, h2⟩ := List.nodup_cons.mp nd
    have hx := h x List.mem_cons_self
    have ih := len_le (l := r) (m := m.erase x) h2 fun y hy => (List.mem_erase_of_ne (fun e => h1 (by rw [← e]; exact hy))).mpr (h y (List.mem_cons_of_mem _ hy))
    rw [List.length_erase_of_mem hx] at ih
    have : 0 < m.length := List.length_pos_of_mem hx
    rw [List.length_cons]
    omega
theorem len_eq {α : Type} [DecidableEq α] {l m : List α} (h1 : l.Nodup) (h2 : m.Nodup) (h : ∀ x, x ∈ l ↔ x ∈ m) : l.length = m.length := Nat.le_antisymm (len_le h1 fun x hx => (h x).mp hx) (len_le h2 fun x hx => (h x).mpr hx)
def dTI : D → Option (List Int)
  | .tup xs => dInts xs
  | _ => none
def dTIs : List D → Option (List (List Int))
  | [] => some []
  | d :: r => (dTI d).bind fun x => (dTIs r).map (x :: ·)
def dLenSet (d : D) : Option D := (dItems d).bind fun xs => (dTIs xs).bind fun ks => if ks.length < 64 then some (.int (ded ks).length) else none
theorem dTIs_rep {K : PySem.W.Frag} {M : Addr → Prop} {H : Hp} : ∀ {xs : List D} {vs : List V} {ks : List (List Int)}, RepL C M H vs xs → dTIs xs = some ks → ∃ qs : List (Addr × List Int), vs = qs.map (fun q => V.ref q.1) ∧ qs.map (·.2) = ks ∧ ∀ q ∈ qs, SqT K H q.1 (q.2.map V.int)
  | [], _, _, .nil, e => by cases e; exact ⟨[], rfl, rfl, fun _ z => nomatch z⟩
  | d :: r, _, ks, .cons (v := v) r1 r2, e => by
    simp only [dTIs, Option.bind_eq_some_iff, Option.map_eq_some_iff] at e
    obtain ⟨x, e1, ks', e2, rfl⟩ := e
    obtain ⟨qs, h1, h2, h3⟩ := dTIs_rep (K := K) r2 e2
    cases d with
    | tup ys =>
      obtain ⟨a, us, rfl, ha, _, ru⟩ := (SRep.rep r1).tupH
      have ey := dInts_eq (show dInts ys = some x from e1)
      subst ey
      have eu := ru.ints
      subst eu
      exact ⟨(a, x) :: qs, by rw [h1]; rfl, by rw [← h2]; rfl, fun q hq => (List.mem_cons.mp hq).elim (fun z => by rw [z]; exact .inl (.inl ha)) (h3 q)⟩
    | _ => cases e1
theorem pe_lenSet {ta : TE} {p2' q : Pos} (hc : X.calm = true) (hu : X.A.units + 64 < cLine) (hg : Gl X "len") (hm : X.mg "len" = none) (hg2 : Gl X "set") (hm2 : X.mg "set" = none) (ha : PE X a ta) (na : starEach [a] X.env = (false, eval a X.env) :: starEach [] X.env := by rfl) :
    PE X (.Call (.Name "len" pn) [.Call (.Name "set" p2') [a] [] q] [] pos) (fun σ H Q => ta σ H fun x H1 => ∃ (l : Addr) (ks : List (Addr × List Int)), x = .ref l ∧ (SqL X.K H1 l (ks.map fun q => V.ref q.1) ∨ SqT X.K H1 l (ks.map fun q => V.ref q.1)) ∧ (∀ q ∈ ks, SqT X.K H1 q.1 (q.2.map V.int)) ∧ ks.length < 64 ∧ Q (.int (ded (ks.map (·.2))).length) H1) := by
  refine ⟨fun pins s σ H Q I h => Call_ (ld_blt I hg hm PySem.boot_len (PyProof.Rows.callWith_builtin1 (PyProof.Rows.args_cons ?_ rfl) rfl rfl))⟩
  refine Call_ (ld_blt I hg2 hm2 PyProof.Rows.boot_set ?_)
  refine PyProof.Rows.callWith_type1 (PyProof.Rows.args_cons (thn (ha.run pins s σ H _ I h) fun v s1 ⟨x, H1, I1, r1, q1⟩ => PyProof.Rows.args_nil ?_) na) na rfl
  obtain ⟨l, ks, rfl, hq, hk, hf, q1⟩ := q1
  have ev : v = Value.ref l := r1
  subst ev
  have fin : ∀ (h' : Heap) (tk : Nat) L es ep t, SetTR X.prog X.w h' s1.heap.objs.size L es ep t → Got ks ks.length L → (∀ b o, s1.heap.get? b = some o → h'.get? b = some o) → wpAny (model X.prog X.w) X.A (call (.builtin "len") [.ref s1.heap.objs.size]) (EP X pins σ Q) X.xe { s1 with heap := h', toks := tk } := fun h' tk L es ep t R g k => by
    obtain ⟨o, ho, hex, hd⟩ := R.ob
    have I2 : Inv X pins σ H1 { s1 with heap := h', toks := tk } := I1.kept k
    have hl : L.length = (ded (ks.map (·.2))).length := by
      rw [← List.length_map (f := fun q : Addr × List Int => q.2)]
      refine len_eq R.nd (ded_nodup _) fun y => ?_
      rw [ded_mem]
      constructor
      · intro z
        obtain ⟨q, e1, e2⟩ := List.mem_map.mp z
        exact List.mem_map.mpr ⟨q, List.mem_of_mem_take (g.sub q e1), e2⟩
      · intro z
        obtain ⟨q, e1, e2⟩ := List.mem_map.mp z
        rw [← e2]
        exact g.all q (by rw [List.take_length]; exact e1)
    have few := R.few
    have hsz : es.size = L.length := SetTR.size (s := { s1 with heap := h', toks := tk }) R
    refine call_len_set ho hex hd (SetTR.fits (s := { s1 with heap := h', toks := tk }) R) (by omega) ⟨.int (ded (ks.map (·.2))).length, H1, I2.tok _, ⟨_, by rw [← hl, hsz]⟩, q1⟩
  rcases hq with hq | hq
  · obtain ⟨its, rv, pl, hz⟩ := I1.list hq
    exact call_set_tups (P := X.prog) (w := X.w) ks (I1.ok.hd hc) pl.isList (by simpa using refs_of_vals rv) (fun q hq => I1.isT (hk q hq)) hf (by omega) fun h' tk L es ep t R g k => PyProof.Rows.args_nil (fin h' tk L es ep t R g k)
  · obtain ⟨its, rv, pl, hz⟩ := I1.tuple hq
    exact mkset_tup (P := X.prog) (w := X.w) ks (I1.ok.hd hc) (show s1.heap.IsTuple l its.toArray from pl) (by simpa using refs_of_vals rv) (fun q hq => I1.isT (hk q hq)) hf (by omega) fun h' tk L es ep t R g k => PyProof.Rows.args_nil (fin h' tk L es ep t R g k)
/-- as a value -/
theorem fx_lenSet {p2' q : Pos} (hc : X.calm = true) (hu : X.A.units + 64 < cLine) (hg : Gl X "len") (hm : X.mg "len" = none) (hg2 : Gl X "set") (hm2 : X.mg "set" = none) (ha : FX C W m p X a fa) (na : starEach [a] X.env = (false, eval a X.env) :: starEach [] X.env := by rfl) :
    FX C W true p X (.Call (.Name "len" pn) [.Call (.Name "set" p2') [a] [] q] [] pos) (f1 dLenSet fa) :=
  fx1 (r := fun x H1 Q => ∃ (l : Addr) (ks : List (Addr × List Int)), x = .ref l ∧ (SqL X.K H1 l (ks.map fun q => V.ref q.1) ∨ SqT X.K H1 l (ks.map fun q => V.ref q.1)) ∧ (∀ q ∈ ks, SqT X.K H1 q.1 (q.2.map V.int)) ∧ ks.length < 64 ∧ Q (.int (ded (ks.map (·.2))).length) H1) ha (fun ta h => pe_lenSet hc hu hg hm hg2 hm2 h na) fun M H x dx d Q hd sx eg k => by
    unfold dLenSet at eg
    simp only [Option.bind_eq_some_iff] at eg
    obtain ⟨xs, e1, ks, e2, e3⟩ := eg
    split at e3
    case isFalse => cases e3
    rename_i hl
    cases e3
    have sq : ∃ l us, x = .ref l ∧ (SqL X.K H l us ∨ SqT X.K H l us) ∧ RepL C M H us xs := by
      cases dx with
      | lst ys => cases e1; obtain ⟨l, us, h1, h2, h3⟩ := sx.lstH; exact ⟨l, us, h1, .inl (.inl (.inl h2)), h3⟩
      | tup ys => cases e1; obtain ⟨l, us, h1, h2, _, h3⟩ := sx.tupH; exact ⟨l, us, h1, .inr (.inl (.inl h2)), h3⟩
      | _ => cases e1
    obtain ⟨l, us, rfl, h2, h3⟩ := sq
    obtain ⟨qs, rfl, rfl, h6⟩ := dTIs_rep (K := X.K) h3 e2
    exact ⟨l, qs, rfl, h2, h6, by simpa using hl, k _ H (Keep.refl _ _) (.int _)⟩
end
end FC

namespace FC
open PySem PySem.Spec PyProof.Rows L2

/-! ### the head: defs wherever they stand, Bool facts -/
structure DefP where
  ad : PySem.W.Frag → Addr
  name : Str
  qual : Str
  params : Arguments
  body : List Stmt
  scope : Scope
def fnWA (K : PySem.W.Frag) (a : Addr) : He.FnW := match K.lookup a with
  | some ⟨_, _, .func fd, _⟩ => some (fd.name, fd.qualname, fd.params, fd.body, fd.scope, fd.globals, fd.closure, fd.builtins)
  | _ => none
def DefP.val (d : DefP) : He.FnW := some (d.name, d.qual, d.params, .stmts d.body, d.scope, mainGlobals, [], builtinsNs)
def DefP.ok (K : PySem.W.Frag) (d : DefP) : Bool := PySem.W.keepIn K (.ref (d.ad K)) && (match K.lookup (d.ad K) with
  | some ⟨_, _, .func fd, _⟩ => PySem.W.codeIn K fd.code d.qual && (He.dflB K fd.defaults [] && He.kwdB K fd.kwdefaults [])
  | _ => false)
theorem DefP.funD {K : PySem.W.Frag} {d : DefP} (e : fnWA K (d.ad K) = d.val) (c : d.ok K = true) : ∃ fd, FunD K d.name d.qual d.params d.body d.scope [] [] (d.ad K) fd := by
  obtain ⟨kp, c2⟩ := He.ba c
  unfold fnWA at e
  cases q : K.lookup (d.ad K) with
  | none => rw [q] at c2; cases c2
  | some o =>
    obtain ⟨oc, od, dt, osl⟩ := o
    rw [q] at c2 e
    cases dt with
    | func fd =>
      obtain ⟨a1, a2, a3, a4, a5, a6, a7, a8, a9, a10, a11, a12, a13, a14, a15⟩ := fd
      have e2 : (some (a1, a2, a3, a4, a5, a6, a7, a15) : He.FnW) = some (d.name, d.qual, d.params, .stmts d.body, d.scope, mainGlobals, [], builtinsNs) := e
      simp only [Option.some.injEq, Prod.mk.injEq] at e2
      obtain ⟨h1, h2, h3, h4, h5, h6, h7, h8⟩ := e2
      subst h1 h2 h3 h4 h5 h6 h7 h8
      have c3 : (PySem.W.codeIn K a13 d.qual && (He.dflB K a8 [] && He.kwdB K a9 [])) = true := c2
      obtain ⟨k1, k2⟩ := He.ba c3
      obtain ⟨k3, k4⟩ := He.ba k2
      exact ⟨_, ⟨oc, od, a8, a9, a10, a11, a12, a13, a14, osl, rfl, q, k1, He.dflB_ok k3, He.kwdB_ok k4⟩, kp⟩
    | _ => cases c2
/-- the code object of the def at a, its table -/
def codeA (K : PySem.W.Frag) (a : Addr) : Addr := match K.lookup a with
  | some ⟨_, _, .func fd, _⟩ => (match fd.code with
    | .ref c => c
    | _ => 0)
  | _ => 0
def tabA (K : PySem.W.Frag) (a : Addr) : Addr := He.tabOf K (codeA K a)
/-- the tables of the defs that hold lambdas: empty, each its own -/
def tabsL (g : Addr → Option Obj) (lf : List DefP) (K : PySem.W.Frag) : Bool := (lf.all fun d => PySem.W.codeHdIn K (codeA K (d.ad K)) (tabA K (d.ad K)) && (match g (tabA K (d.ad K)) with
  | some o => He.emptyTab o
  | none => false)) && decide ((lf.map fun d => tabA K (d.ad K)).Nodup)
structure Tab0 (lf : List DefP) (K : PySem.W.Frag) (h : Heap) : Prop where
  hd : ∀ d ∈ lf, PySem.W.codeHdIn K (codeA K (d.ad K)) (tabA K (d.ad K)) = true
  out : ∀ d ∈ lf, K.lookup (tabA K (d.ad K)) = none
  emp : ∀ d ∈ lf, h.get? (tabA K (d.ad K)) = some { cls := .none, data := .fields #[] }
  nd : (lf.map fun d => tabA K (d.ad K)).Nodup
theorem tab0_of {lf : List DefP} {h : Heap} {as : List Addr} (e : tabsL h.get? lf (He.frT h.get? as) = true) : Tab0 lf (He.frT h.get? as) h := by
  obtain ⟨e1, e2⟩ := He.ba e
  have key : ∀ d ∈ lf, PySem.W.codeHdIn (He.frT h.get? as) (codeA (He.frT h.get? as) (d.ad (He.frT h.get? as))) (tabA (He.frT h.get? as) (d.ad (He.frT h.get? as))) = true ∧ ∃ o, h.get? (tabA (He.frT h.get? as) (d.ad (He.frT h.get? as))) = some o ∧ He.emptyTab o = true := fun d hd => by
    obtain ⟨k1, k2⟩ := He.ba (List.all_eq_true.mp e1 d hd)
    refine ⟨k1, ?_⟩
    split at k2
    · rename_i o q; exact ⟨o, q, k2⟩
    · cases k2
  exact ⟨fun d hd => (key d hd).1, fun d hd => let ⟨_, _, q, z⟩ := key d hd; He.frT_none q z, fun d hd => by
    obtain ⟨_, o, q, z⟩ := key d hd
    rw [q, He.emptyTab_eq z], of_decide_eq_true e2⟩
abbrev AlP : Type := Bool × List He.FnW
def obsK (ex : PySem.W.Frag → Bool) (fn : List DefP) (K : PySem.W.Frag) : AlP := (ex K && fn.all fun d => d.ok K, fn.map fun d => fnWA K (d.ad K))
def valP (fn : List DefP) : AlP := (true, fn.map DefP.val)
def obsP (n : Nat) (ex : PySem.W.Frag → Bool) (fn lf : List DefP) (g : Addr → Option Obj) : AlP × Bool := (obsK ex fn (He.frT g (He.asD g n ++ [cStatics])), tabsL g lf (He.frT g (He.asD g n ++ [cStatics])))
def hookP (n : Nat) (ex : PySem.W.Frag → Bool) (fn lf : List DefP) : PySem.W.Hook where
  α := AlP × Bool
  obs := fun s => obsP n ex fn lf s.heap.get?
  val := fun _ => (valP fn, true)
  says := fun _ h => ∃ K : PySem.W.Frag, K.In h ∧ obsK ex fn K = valP fn ∧ Tab0 lf K h
  of := fun _ _ e => ⟨_, He.frT_in, congrArg (fun z : AlP × Bool => z.1) e, tab0_of (congrArg (fun z : AlP × Bool => z.2) e)⟩
  keeps := fun _ _ _ ⟨K, hK, c, t⟩ k => ⟨K, PySem.W.Frag.In.keeps hK k, c, t.hd, t.out, fun d hd => k _ _ (t.emp d hd), t.nd⟩
theorem obsP_eq {n : Nat} {ex : PySem.W.Frag → Bool} {fn lf : List DefP} {g : Addr → Option Obj} {s : Shared} (h : ∀ a, g a = s.heap.get? a) : obsP n ex fn lf g = (hookP n ex fn lf).obs s := by
  have e : g = s.heap.get? := funext h
  rw [e] <;> rfl
theorem saysP_ex {ex : PySem.W.Frag → Bool} {fn : List DefP} {K : PySem.W.Frag} (c : obsK ex fn K = valP fn) : ex K = true := (He.ba (congrArg (fun z : AlP => z.1) c : (ex K && fn.all fun d => d.ok K) = true)).1
theorem saysP_def {ex : PySem.W.Frag → Bool} {fn : List DefP} {K : PySem.W.Frag} (c : obsK ex fn K = valP fn) (i : Nat) {d : DefP} (h : fn[i]? = some d) : ∃ fd, FunD K d.name d.qual d.params d.body d.scope [] [] (d.ad K) fd := by
  have c2 := (He.ba (congrArg (fun z : AlP => z.1) c : (ex K && fn.all fun d => d.ok K) = true)).2
  have e : (fn.map fun d => fnWA K (d.ad K)) = fn.map DefP.val := congrArg (fun z : AlP => z.2) c
  have e2 : (fn.map fun d => fnWA K (d.ad K))[i]? = (fn.map DefP.val)[i]? := by rw [e]
  rw [List.getElem?_map, List.getElem?_map, h] at e2
  exact DefP.funD (Option.some.inj e2) (List.all_eq_true.mp c2 d (List.mem_of_getElem? h))
/-- further facts -/
inductive Fb where
  | fa (f : He.Fa)
  | isi (x : Str)
  | kit (x y : Str) (b : Bool)
  | kitT (x : Str) (T : String)
  | kitN (t : String) (x : Str)
  | call (x : Str)
  | prop (x f : Str)
  | spec (x m : Str)
  | bf (f : PySem.W.Frag → Bool)
def prG (K : PySem.W.Frag) (Ca : Addr) (f : Str) : Addr := match PySem.W.recIn K (He.ma K Ca f) "property" with
  | some (.ref g :: _) => g
  | _ => 0
def Fb.ok (K : PySem.W.Frag) : Fb → Bool
  | .fa f => f.ok K
  | .isi x => (He.Fa.cls x).ok K && (He.eqO (PySem.W.findIn K (.ref (He.ga K x)) "__class__") (some (some (.builtin "object.__class__"))) && (He.eqO (PySem.W.specialIn K (.builtin "object.__class__") "__get__") (some (some (.builtin "getset_descriptor.__get__"))) && (decide (PySem.W.takesIn K (.builtin "object.__class__") = some true) && decide (PySem.W.mroIn K (He.ga K x) (.type "object") = some true))))
  | .kit x y b => decide (PySem.W.kitOne K (.ref (He.ga K x)) (.ref (He.ga K y)) = some b)
  | .kitT x T => decide (PySem.W.kitOne K (.ref (He.ga K x)) (.type T) = some false)
  | .kitN t x => decide (PySem.W.kitOne K (.type t) (.ref (He.ga K x)) = some false)
  | .call x => He.eqO (PySem.W.findIn K (.ref (He.ga K x)) "__call__") (some (some (.ref (He.ma K (He.ga K x) "__call__")))) && (PySem.W.isFn K (.ref (He.ma K (He.ga K x) "__call__")) && PySem.W.fnIn K (He.ma K (He.ga K x) "__call__"))
  | .prop x f => He.eqO (PySem.W.findIn K (.ref (He.ga K x)) f) (some (some (.ref (He.ma K (He.ga K x) f)))) && (He.eqO (PySem.W.specialIn K (.ref (He.ma K (He.ga K x) f)) "__get__") (some (some (.builtin "property.__get__"))) && (decide (PySem.W.takesIn K (.ref (He.ma K (He.ga K x) f)) = some true) && (match PySem.W.recIn K (He.ma K (He.ga K x) f) "property" with
    | some (.ref _ :: _) => true
    | _ => false)))
  | .spec x m => He.eqO (PySem.W.findIn K (.ref (He.ga K x)) m) (some (some (.ref (He.ma K (He.ga K x) m)))) && (PySem.W.isFn K (.ref (He.ma K (He.ga K x) m)) && PySem.W.fnIn K (He.ma K (He.ga K x) m))
  | .bf f => f K
/-- a special method of a class -/
structure Spe (K : PySem.W.Frag) (Ca : Addr) (m : Str) (g : Addr) : Prop where
  at_ : PySem.W.findIn K (.ref Ca) m = some (some (.ref g))
  fn : PySem.W.isFn K (.ref g) = true
  fi : PySem.W.fnIn K g = true
/-- what stands behind the top -/
structure Sy (fb : List Fb) (fn lf : List DefP) (K : PySem.W.Frag) (mg : Str → Option Value) (base : Heap) : Prop where
  ex : ∃ h : Heap, K.In h ∧ h.Ns mainGlobals mg
  ok : obsK (fun K => fb.all fun f => f.ok K) fn K = valP fn
  tb : ∀ d ∈ lf, LamX.TabB base mg (codeA K (d.ad K)) (tabA K (d.ad K))
  nd : (lf.map fun d => tabA K (d.ad K)).Nodup
section
variable {fb : List Fb} {fn lf : List DefP} {K : PySem.W.Frag} {mg : Str → Option Value} {base : Heap}
theorem Sy.fact (S : Sy fb fn lf K mg base) (i : Nat) {f : Fb} (h : fb[i]? = some f) : f.ok K = true := List.all_eq_true.mp (saysP_ex S.ok) f (List.mem_of_getElem? h)
theorem Sy.def_ (S : Sy fb fn lf K mg base) (i : Nat) {d : DefP} (h : fn[i]? = some d) : ∃ fd, FunD K d.name d.qual d.params d.body d.scope [] [] (d.ad K) fd := saysP_def S.ok i h
theorem Sy.glo (S : Sy fb fn lf K mg base) (i : Nat) {x : Str} (h : fb[i]? = some (.fa (.glo x)) := by rfl) : mg x = some (.ref (He.ga K x)) := by obtain ⟨h0, X, G⟩ := S.ex; exact He.glo_ok X G (S.fact i h)
theorem Sy.free (S : Sy fb fn lf K mg base) (i : Nat) {x : Str} (h : fb[i]? = some (.fa (.free x)) := by rfl) : mg x = none := by obtain ⟨h0, X, G⟩ := S.ex; exact He.free_ok X G (S.fact i h)
theorem Sy.int (S : Sy fb fn lf K mg base) (i : Nat) {x : Str} {z : Int} (h : fb[i]? = some (.fa (.int x z)) := by rfl) : ∃ t, mg x = some (.int z t) := by obtain ⟨h0, X, G⟩ := S.ex; exact He.int_ok X G (S.fact i h)
theorem Sy.str (S : Sy fb fn lf K mg base) (i : Nat) {x z : Str} (h : fb[i]? = some (.fa (.str x z)) := by rfl) : ∃ t, mg x = some (.str z t) := by obtain ⟨h0, X, G⟩ := S.ex; exact He.str_ok X G (S.fact i h)
theorem Sy.keep (S : Sy fb fn lf K mg base) (i : Nat) {x : Str} (h : fb[i]? = some (.fa (.keep x)) := by rfl) : PySem.W.keepIn K (.ref (He.ga K x)) = true := He.keep_ok (S.fact i h)
theorem Sy.cls (S : Sy fb fn lf K mg base) (i : Nat) {x : Str} (h : fb[i]? = some (.fa (.cls x)) := by rfl) : Cls K (He.ga K x) := He.cls_ok (S.fact i h)
theorem Sy.noat (S : Sy fb fn lf K mg base) (i : Nat) {x f : Str} (h : fb[i]? = some (.fa (.noat x f)) := by rfl) : NoAttr K (He.ga K x) f := He.noat_ok (S.fact i h)
theorem Sy.meth (S : Sy fb fn lf K mg base) (i : Nat) {x m : Str} (h : fb[i]? = some (.fa (.meth x m)) := by rfl) : Meth K (He.ga K x) m (He.ma K (He.ga K x) m) := He.meth_ok (S.fact i h)
theorem Sy.mkr (S : Sy fb fn lf K mg base) (i : Nat) {x : Str} (h : fb[i]? = some (.fa (.mkr x)) := by rfl) : Mk K (He.ga K x) (He.ma K (He.ga K x) "__init__") := He.mkr_ok (S.fact i h)
theorem Sy.isi (S : Sy fb fn lf K mg base) (i : Nat) {x : Str} (h : fb[i]? = some (.isi x) := by rfl) : InsTy K (He.ga K x) := by
  obtain ⟨c1, c⟩ := He.ba (S.fact i h)
  obtain ⟨c2, c⟩ := He.ba c
  obtain ⟨c3, c⟩ := He.ba c
  obtain ⟨c4, c5⟩ := He.ba c
  exact ⟨He.cls_ok c1, He.eqO_ok c2, He.eqO_ok c3, of_decide_eq_true c4, of_decide_eq_true c5⟩
theorem Sy.kit (S : Sy fb fn lf K mg base) (i : Nat) {x y : Str} {b : Bool} (h : fb[i]? = some (.kit x y b) := by rfl) : PySem.W.kitOne K (.ref (He.ga K x)) (.ref (He.ga K y)) = some b := of_decide_eq_true (S.fact i h)
theorem Sy.kitT (S : Sy fb fn lf K mg base) (i : Nat) {x : Str} {T : String} (h : fb[i]? = some (.kitT x T) := by rfl) : PySem.W.kitOne K (.ref (He.ga K x)) (.type T) = some false := of_decide_eq_true (S.fact i h)
theorem Sy.kitN (S : Sy fb fn lf K mg base) (i : Nat) {x : Str} {T : String} (h : fb[i]? = some (.kitN T x) := by rfl) : PySem.W.kitOne K (.type T) (.ref (He.ga K x)) = some false := of_decide_eq_true (S.fact i h)
theorem Sy.call (S : Sy fb fn lf K mg base) (i : Nat) {x : Str} (h : fb[i]? = some (.call x) := by rfl) : StX.CallO K (He.ga K x) (He.ma K (He.ga K x) "__call__") := by
  obtain ⟨c1, c⟩ := He.ba (S.fact i h)
  obtain ⟨c2, c3⟩ := He.ba c
  exact ⟨He.eqO_ok c1, c2, c3⟩
theorem Sy.spec (S : Sy fb fn lf K mg base) (i : Nat) {x m : Str} (h : fb[i]? = some (.spec x m) := by rfl) : Spe K (He.ga K x) m (He.ma K (He.ga K x) m) := by
  obtain ⟨c1, c⟩ := He.ba (S.fact i h)
  obtain ⟨c2, c3⟩ := He.ba c
  exact ⟨He.eqO_ok c1, c2, c3⟩
theorem Sy.bool (S : Sy fb fn lf K mg base) (i : Nat) {f : PySem.W.Frag → Bool} (h : fb[i]? = some (.bf f) := by rfl) : f K = true := S.fact i h
theorem Sy.prop (S : Sy fb fn lf K mg base) (i : Nat) {x f : Str} (h : fb[i]? = some (.prop x f) := by rfl) : PropOf K (He.ga K x) f (He.ma K (He.ga K x) f) (prG K (He.ga K x) f) := by
  obtain ⟨c1, c⟩ := He.ba (S.fact i h)
  obtain ⟨c2, c⟩ := He.ba c
  obtain ⟨c3, c4⟩ := He.ba c
  refine ⟨He.eqO_ok c1, He.eqO_ok c2, of_decide_eq_true c3, ?_⟩
  unfold prG
  split at c4
  · rename_i g r e
    rw [e]
    exact ⟨r, rfl⟩
  · cases c4
end

/-! ### the law -/
/-- how the script stands at the law's entry -/
def SvScript (ns : List Int) (sv : SV) : Prop := sv = .view (ns.map D.int) ∨ sv = .val (.lst (ns.map D.int))
theorem law_sp {C : Ct} {N : List Str} {b : F Fl} {H : Hp} {a : Addr} {ns : List Int} (hN : 1 ≤ N.length) (hT : LamX.Tabs C.T H) (hS : SqL C.K H a (ns.map V.int)) (hb : ∀ sv, SvScript ns sv → ∃ g, b (padG N.length [sv]) = .ok (.ret (.val (.bl true))) g) :
    spF C N 1 b [.ref a] H (fun v _ => v = .bl true) fun _ _ _ => False := by
  have go : ∀ sv, SvScript ns sv → SlotOk C (fun _ => 0) Nope H (some (.ref a)) sv → spF C N 1 b [.ref a] H (fun v _ => v = .bl true) fun _ _ _ => False := fun sv h1 h2 => by
    obtain ⟨g, e⟩ := hb sv h1
    have nt : ∀ {j : Nat} {t : Option Nat} {o : MO}, (padG N.length [sv])[j]? = some (.own t o) → False := fun {j t o} z => by
      rcases padG_at z with q | ⟨_, q⟩
      · cases j with
        | zero => rcases h1 with h1 | h1 <;> (rw [h1] at q; cases q)
        | succ j => simp at q
      · cases q
    refine ⟨rfl, fun _ => 0, Nope, padG N.length [sv], ⟨?_, fun j s x e1 e2 => ?_, fun j k t o t' o' c z => (nt z).elim, fun _ z => z.elim, hT⟩, ?_⟩
    · unfold L2.start padG
      simp only [List.length_append, List.length_map, List.length_replicate, List.length_cons, List.length_nil]
    · rcases padG_at e1 with q | ⟨_, q⟩
      · cases j with
        | zero =>
          cases q
          rw [start_at (v := .ref a) rfl] at e2
          cases e2
          exact h2
        | succ j => simp at q
      · rw [q]; trivial
    · rw [e]
      intro v M' σ' H' E' S' r
      cases (show Rep C M' H' v (.bl true) from r)
      rfl
  rcases hS with (h | ⟨o, h⟩) | h
  · exact go _ (.inr rfl) ⟨.ref a, rfl, .lst h id (repL_ints ns)⟩
  · exact go _ (.inl rfl) ⟨a, _, rfl, .inl ⟨o, h⟩, repL_ints ns⟩
  · exact go _ (.inl rfl) ⟨a, _, rfl, .inr (.inr h), repL_ints ns⟩
/-- the law's def is called at the heap behind the top, no repr under way; cs: code objects with their tables -/
theorem law_callG {P : Program} {w : World} {K : PySem.W.Frag} {mg mb : Str → Option Value} {CX : CXT} {k : Nat} {fa a : Addr} {cs : List (Addr × Addr)} {sp : Sp} {t : Shared} {us : List Value} {ns : List Int}
    (inK : K.In t.heap) (nG : t.heap.Ns mainGlobals mg) (nB : t.heap.Ns builtinsNs mb) (eB : ∀ x : Str, x ≠ "__name__" → mb x = bootBuiltins x) (nL : t.heap.NoLimit) (eg : t.gens = #[])
    (tE : ∀ p ∈ cs, t.heap.get? p.2 = some { cls := .none, data := .fields #[] }) (tK : ∀ p ∈ cs, K.lookup p.2 = none) (tH : ∀ p ∈ cs, PySem.W.codeHdIn K p.1 p.2 = true)
    (tM : ∃ (bm : Addr) (ob : Obj), mg "__builtins__" = some (.ref bm) ∧ bm ≠ builtinsNs ∧ t.heap.get? bm = some ob ∧ ob.cls = .type "module" ∧ ob.dict = some builtinsNs ∧ ob.data = .plain)
    (ea : t.heap.get? a = some { cls := .type "list", data := .seq us.toArray }) (ri : IntsAre us ns) (lz : ns.length ≤ sizeLine) (room : RoomG k callerA)
    (F : ∀ b : Heap, K.In b → b.Ns mainGlobals mg → (∀ p ∈ cs, LamX.TabB b mg p.1 p.2) → FnG P w K mg b CX k fa sp)
    (go : ∀ H : Hp, (∀ p ∈ cs, H p.2 = some (.tbl #[])) → SqL K H a (ns.map V.int) → sp [.ref a] H (fun v _ => v = .bl true) fun _ _ _ => False)
    (noX : ∀ H e t', CX [] H t (fun _ _ _ => False) e t' → False) :
    codeAny (model P w) callerA (.call (.ref fa) ⟨[.ref a], []⟩) (fun r t' => r = .ok (.ret (.bool true)) ∧ OldK t.heap t'.heap ∧ t'.os = t.os ∧ AllBare t'.gens) t := by
  have vi := vals_ints ri
  have main : ∀ H : Hp, (∀ b u, H b = some u → (b = a ∧ K.lookup a = none ∧ u = .frz { cls := .type "list", data := .seq us.toArray } (.lst (ns.map V.int))) ∨ ((∃ p ∈ cs, p.2 = b) ∧ u = .tbl #[])) → (∀ p ∈ cs, H p.2 = some (.tbl #[])) → SqL K H a (ns.map V.int) →
      codeAny (model P w) callerA (.call (.ref fa) ⟨[.ref a], []⟩) (fun r t' => r = .ok (.ret (.bool true)) ∧ OldK t.heap t'.heap ∧ t'.os = t.os ∧ AllBare t'.gens) t := by
    intro H hH hC hS
    have hok : HOk P w H t.heap := fun b u z => by
      rcases hH b u z with ⟨e1, _, e2⟩ | ⟨⟨p, hp, e1⟩, e2⟩
      · subst e1 e2
        exact ⟨ea, by rw [List.length_map]; exact lz, us, _, vi, ea⟩
      · subst e1 e2
        exact tE p hp
    have clear : ∀ {b : Addr}, (b = a → K.lookup a = none → False) → (∀ p ∈ cs, p.2 = b → False) → H b = none := fun {b} n1 n2 => by
      cases z : H b with
      | none => rfl
      | some u =>
        rcases hH b u z with ⟨e1, e2, _⟩ | ⟨⟨p, hp, e1⟩, _⟩
        · exact (n1 e1 e2).elim
        · exact (n2 p hp e1).elim
    have ns2 : ∀ {b : Addr} {m : Str → Option Value}, t.heap.Ns b m → (hidT t.heap H).Ns b m := fun {b m} ⟨o, es, ep, e, d, r⟩ => ⟨o, es, ep, hidT_get e (clear (fun q _ => by
      rw [q, ea] at e
      cases e
      cases d) fun p hp q => by
      rw [← q, tE p hp] at e
      cases e
      cases d), d, r⟩
    have inB : K.In (hidT t.heap H) := fun b o e => hidT_get (inK b o e) (clear (fun q z => by
      rw [q, z] at e
      cases e) fun p hp q => by
      rw [← q, tK p hp] at e
      cases e)
    have md : Mod K mg (hidT t.heap H) := ⟨inB, ns2 nG, ⟨mb, ns2 nB, eB⟩, nL.elim fun c z => ⟨c, ns2 z.1, z.2⟩⟩
    have e0 : Env0 P w K mg (hidT t.heap H) callerA [] t H := ⟨rfl, md, fun _ _ e => of_hidT e, Nat.le_of_eq (hidT_size _ _), trivial, fun b z => absurd (show b ∈ ([] : List Addr) from z) List.not_mem_nil, hok, .of_eq eg⟩
    have tB : ∀ p ∈ cs, LamX.TabB (hidT t.heap H) mg p.1 p.2 := fun p hp => by
      obtain ⟨bm, ob, m1, m2, m3, m4, m5, m6⟩ := tM
      have notG : ∀ {b : Addr} {m : Str → Option Value}, t.heap.Ns b m → bm ≠ b ∧ b ≠ p.2 := fun {b m} ⟨o, es, ep, e, d, _⟩ => by
        constructor
        · intro q
          rw [q, e] at m3
          cases m3
          rw [d] at m6
          cases m6
        · intro q
          rw [q, tE p hp] at e
          cases e
          cases d
      refine NdefX.tabB_of_K inB (tH p hp) ⟨bm, ob, m1, m2, (notG nG).1, fun q => ?_, hidT_get m3 (clear (fun q _ => ?_) fun r hr q => ?_), m4, m5, m6⟩ (notG nG).2
      · rw [q, tE p hp] at m3
        cases m3
        cases m6
      · rw [q, ea] at m3
        cases m3
        cases m6
      · rw [← q, tE r hr] at m3
        cases m3
        cases m6
    refine codeAny_mono (F _ inB (ns2 nG) tB callerA [] t H [.ref a] [.ref a] _ _ room e0 (.cons rfl .nil) (go H hC hS)) fun r t' h => ?_
    match r, h with
    | .error e, h => exact (noX H e t' h).elim
    | .ok .next, h => exact h.elim
    | .ok .brk, h => exact h.elim
    | .ok .cont, h => exact h.elim
    | .ok (.ret u), ⟨v, H', os, bare, un, hok', r', q⟩ =>
      have q2 : v = .bl true := q
      subst q2
      obtain rfl : u = Value.bool true := r'
      have stay : ∀ b o, t.heap.get? b = some o → t'.heap.get? b = some o ∨ ∃ p ∈ cs, p.2 = b := fun b o e => by
        cases z : H b with
        | none => exact .inl (un.keep b o e z (fun y => absurd (show b ∈ ([] : List Addr) from y) List.not_mem_nil) (by simp))
        | some u =>
          rcases hH b u z with ⟨_, _, e2⟩ | ⟨p, _⟩
          · rw [e2] at z
            have z2 := un.frzs b _ _ z
            obtain ⟨e3, _⟩ := hok b _ z
            obtain ⟨e4, _⟩ := hok' b _ z2
            rw [e] at e3
            cases e3
            exact .inl e4
          · exact .inr p
      have grow : ∀ p ∈ cs, ∃ more : Array Value, t'.heap.get? p.2 = some { cls := .none, data := .fields more } := fun p hp => by
        obtain ⟨more, z⟩ := un.tbls p.2 #[] (hC p hp)
        exact ⟨_, hok' p.2 _ z⟩
      refine ⟨rfl, ⟨fun b o e => ?_, fun b o e => ?_⟩, os, bare⟩
      · rcases stay b o e with y | ⟨p, hp, y⟩
        · exact .inl y
        · subst y
          obtain ⟨more, y⟩ := grow p hp
          rw [tE p hp] at e
          cases e
          exact .inr (.inl ⟨((PySem.W.codeHd_of_K inK (tH p hp)).tab (tE p hp)).isCodeTable, rfl, #[], more, rfl, by rw [Array.empty_append]; exact y⟩)
      · rcases stay b o e with y | ⟨p, hp, y⟩
        · exact ⟨o, y⟩
        · subst y
          obtain ⟨more, y⟩ := grow p hp
          exact ⟨_, y⟩
  cases hk : K.lookup a with
  | some o =>
    have e := inK a o hk
    rw [ea] at e
    cases e
    refine main (fun b => if ∃ p ∈ cs, p.2 = b then some (.tbl #[]) else none) (fun b u z => ?_) (fun p hp => if_pos ⟨p, hp, rfl⟩) (.inr ⟨_, us.toArray, _, hk, rfl, rfl, rfl, by rw [List.size_toArray, ri.length]; exact lz, by simpa using vi⟩)
    by_cases q : ∃ p ∈ cs, p.2 = b
    · have z2 := (if_pos q).symm.trans z
      cases z2
      exact .inr ⟨q, rfl⟩
    · cases (if_neg q).symm.trans z
  | none =>
    have na : ∀ p ∈ cs, p.2 ≠ a := fun p hp q => by
      have e := tE p hp
      rw [q, ea] at e
      cases e
    refine main (fun b => if b = a then some (.frz { cls := .type "list", data := .seq us.toArray } (.lst (ns.map V.int))) else if ∃ p ∈ cs, p.2 = b then some (.tbl #[]) else none) (fun b u z => ?_) (fun p hp => (if_neg (na p hp)).trans (if_pos ⟨p, hp, rfl⟩)) (.inl (.inr ⟨_, if_pos rfl⟩))
    by_cases q : b = a
    · have z2 := (if_pos q).symm.trans z
      cases z2
      exact .inl ⟨q, hk, rfl⟩
    · have z1 := (if_neg q).symm.trans z
      by_cases q2 : ∃ p ∈ cs, p.2 = b
      · have z2 := (if_pos q2).symm.trans z1
        cases z2
        exact .inr ⟨q2, rfl⟩
      · cases (if_neg q2).symm.trans z1
/-- what the law's def promises -/
def LawG (l : PySem.W.OpenLaw) (w : World) (K : PySem.W.Frag) (k n : Nat) (mg : Str → Option Value) (fa : Addr) (h : Heap) : Prop :=
  ∃ (sp : Sp) (cs : List (Addr × Addr)), ((∀ p ∈ cs, h.get? p.2 = some { cls := .none, data := .fields #[] }) ∧ (∀ p ∈ cs, K.lookup p.2 = none) ∧ (∀ p ∈ cs, PySem.W.codeHdIn K p.1 p.2 = true)) ∧
    (∀ (H : Hp) (a : Addr) (ns : List Int), ns.length ≤ n → (∀ z ∈ ns, Builtin.Int.intBits z ≤ 1048576) → (∀ p ∈ cs, H p.2 = some (.tbl #[])) → SqL K H a (ns.map V.int) → sp [.ref a] H (fun v _ => v = .bl true) fun _ _ _ => False) ∧
    ∀ b : Heap, K.In b → b.Ns mainGlobals mg → (∀ p ∈ cs, LamX.TabB b mg p.1 p.2) → FnG l.prog w K mg b (L2.CX l.prog w) k fa sp
theorem no_cx {P : Program} {w : World} {H : Hp} {s : Shared} {e : Value} {s' : Shared} : L2.CX P w [] H s (fun _ _ _ => False) e s' → False := by
  rintro ⟨_, _, _, _, _, _, _, _, _, _, _, _, z⟩
  exact z
theorem walk_G {l : PySem.W.OpenLaw} {n k : Nat} {q : Program} {loose : List Str} {XP : (Str → Option Value) → Heap → Prop} {YP : World → Heap → Prop} {d : DefRec}
    (hn : l.most = some n) (hz : n ≤ sizeLine) (hd : d.params.defaults = []) (room : RoomG k callerA)
    (F : ∀ (w : World) (mg : Str → Option Value) (fa : Addr) (h : Heap), YP w h → h.Ns mainGlobals mg → mg d.name = some (.ref fa) → ∃ K : PySem.W.Frag, K.In h ∧ LawG l w K k n mg fa h) : PySem.W.WalkO q loose XP YP l.row.toRowW d [] (fun f vs => PySem.call f vs) :=
  Att.attach_callB hn hd fun w s₀ s₁ mg mb fa o pm cd doc a vs ns G Y ho h1 h2 hm hobj hi hlen hbits hg => by
    obtain ⟨K, KX, sp, cs, ⟨t1, t2, t3⟩, go, hF⟩ := F w mg fa _ Y G.T.g hm
    exact law_callG KX G.T.g G.T.b G.T.builtins G.T.nolimit hg t1 t2 t3 G.T.bmain hobj hi (Nat.le_trans hlen hz) room hF (fun H => go H a ns hlen hbits) fun _ _ _ => no_cx
/-- the names of a def's lambdas -/
def lamQ (d : DefP) : Str := (envOfC d.qual d.scope 0 0 .none).qual ++ "<lambda>"
theorem lawG_of {l : PySem.W.OpenLaw} {w : World} {K : PySem.W.Frag} {C : Ct} {lf : List DefP} {h : Heap} (hC : C.K = K) (hC2 : C.T = lf.map fun d => (tabA K (d.ad K), lamQ d)) (t : Tab0 lf K h) {k n : Nat} {mg : Str → Option Value} {fa : Addr} {N : List Str} {b : F Fl} (hN : 1 ≤ N.length)
    (hF : ∀ base : Heap, K.In base → base.Ns mainGlobals mg → (∀ d ∈ lf, LamX.TabB base mg (codeA K (d.ad K)) (tabA K (d.ad K))) → FnG l.prog w K mg base (L2.CX l.prog w) k fa (spF C N 1 b)) (hb : ∀ (ns : List Int), ns.length ≤ n → (∀ z ∈ ns, Builtin.Int.intBits z ≤ 1048576) → ∀ sv, SvScript ns sv → ∃ g, b (padG N.length [sv]) = .ok (.ret (.val (.bl true))) g) : LawG l w K k n mg fa h := by
  subst hC
  have un : ∀ p ∈ lf.map (fun d => (codeA C.K (d.ad C.K), tabA C.K (d.ad C.K))), ∃ d ∈ lf, p = (codeA C.K (d.ad C.K), tabA C.K (d.ad C.K)) := fun p hp => by
    obtain ⟨d, hd, e⟩ := List.mem_map.mp hp
    exact ⟨d, hd, e.symm⟩
  refine ⟨_, lf.map (fun d => (codeA C.K (d.ad C.K), tabA C.K (d.ad C.K))), ⟨fun p hp => ?_, fun p hp => ?_, fun p hp => ?_⟩, fun H a ns h1 h2 h3 h4 => law_sp hN (fun p hp => ?_) h4 (hb ns h1 h2), fun base i1 i2 i3 => hF base i1 i2 fun d hd => i3 _ (List.mem_map.mpr ⟨d, hd, rfl⟩)⟩
  · obtain ⟨d, hd, rfl⟩ := un p hp; exact t.emp d hd
  · obtain ⟨d, hd, rfl⟩ := un p hp; exact t.out d hd
  · obtain ⟨d, hd, rfl⟩ := un p hp; exact t.hd d hd
  · rw [hC2] at hp
    obtain ⟨d, hd, rfl⟩ := List.mem_map.mp hp
    exact LamX.TabS.nil (h3 _ (List.mem_map.mpr ⟨d, hd, rfl⟩))
end FC

namespace FC
open PySem PySem.Spec PyProof.Rows L2

/-! ### what the mirrors do: common facts -/
theorem isi1 : isiB "int" "int" = some true := by decide
theorem isi2 : isiB "bool" "int" = some false := by decide
theorem isi3 : isiB "tuple" "tuple" = some true := by decide
section
variable {N : Nat} {b : F Fl} {x y z u : D} {γ g : Gm} {r : RV}
theorem call1 (h : b (padG N [.val x]) = .ok (.ret r) g) : callR N b [.d x] γ = .ok (r, g) γ := by simp [callR, bindA, h, backG]
theorem call2 (h : b (padG N [.val x, .val y]) = .ok (.ret r) g) : callR N b [.d x, .d y] γ = .ok (r, g) γ := by simp [callR, bindA, h, backG]
theorem call3 (h : b (padG N [.val x, .val y, .val z]) = .ok (.ret r) g) : callR N b [.d x, .d y, .d z] γ = .ok (r, g) γ := by simp [callR, bindA, h, backG]
end
theorem beqI (i j : Int) : (i == j) = decide (i = j) := by
  by_cases h : i = j
  · subst h; simp
  · simp [h]
theorem dEq_int (i j : Int) : dEq (.int i) (.int j) = some (.bl (decide (i = j))) := by
  simp only [dEq, D.data]
  rw [if_pos (by simp [PyData.depth])]
  simp [PyData.eqv, beqI]
theorem dNe_int (i j : Int) : dNe (.int i) (.int j) = some (.bl (!decide (i = j))) := by
  simp only [dNe, D.data]
  rw [if_pos (by simp [PyData.depth])]
  simp [PyData.eqv, beqI]
/-- a pair, pairs -/
def limD (p : Int × Int) : D := .tup [.int p.1, .int p.2]
def limsD (ps : List (Int × Int)) : List D := ps.map limD
def limY (p : Int × Int) : PyData := .tuple [.int p.1, .int p.2]
theorem limD_data (p : Int × Int) : (limD p).data = some (limY p) := by simp [limD, limY, D.data, D.dataL]
theorem limsD_data : ∀ ps : List (Int × Int), D.dataL (limsD ps) = some (ps.map limY)
  | [] => rfl
  | p :: ps => by
    have ih := limsD_data ps
    unfold limsD at ih ⊢
    simp only [List.map_cons, D.dataL, limD_data, ih]
theorem limsD_length (ps : List (Int × Int)) : (limsD ps).length = ps.length := List.length_map ..
theorem limY_eqv (p q : Int × Int) : PyData.eqv (limY p) (limY q) = decide (p = q) := by
  obtain ⟨a, b⟩ := p
  obtain ⟨c, d⟩ := q
  simp [limY, PyData.eqv, PyData.eqvAll, beqI, Bool.decide_and, Prod.mk.injEq]
theorem prYs_lay : ∀ ps : List (Int × Int), PyData.canLayAll0 (ps.map limY) = true ∧ PyData.depthAll (ps.map limY) ≤ 1
  | [] => ⟨rfl, Nat.zero_le _⟩
  | p :: ps => by
    obtain ⟨h1, h2⟩ := prYs_lay ps
    refine ⟨?_, ?_⟩
    · simp only [List.map_cons, PyData.canLayAll0, h1, Bool.and_true]; rfl
    · simp only [List.map_cons, PyData.depthAll]
      have : PyData.depth (limY p) = 1 := rfl
      rw [this]
      omega
theorem limY_any (p : Int × Int) (ps : List (Int × Int)) : ((ps.map limY).any fun z => PyData.eqv z (limY p)) = decide (p ∈ ps) := by
  induction ps with
  | nil => simp
  | cons q ps ih =>
    rw [List.map_cons, List.any_cons, ih, limY_eqv]
    by_cases h : q = p
    · subst h; simp
    · have h2 : ¬ p = q := fun e => h e.symm
      simp [h, h2]
theorem dNotIn_pr (p : Int × Int) (ps : List (Int × Int)) : dNotIn (limD p) (.lst (limsD ps)) = some (.bl (!decide (p ∈ ps))) := by
  simp only [dNotIn, limD_data, limsD_data]
  rw [if_pos (Nat.le_trans (Nat.min_le_right _ _) (show (limY p).depth ≤ 64 by simp [limY, PyData.depth, PyData.depthAll])), limY_any]
theorem dTIs_pr : ∀ ps : List (Int × Int), dTIs (limsD ps) = some (ps.map fun p => [p.1, p.2])
  | [] => rfl
  | p :: ps => by
    have ih := dTIs_pr ps
    unfold limsD at ih ⊢
    simp only [List.map_cons, dTIs, ih, limD, dTI, dInts]
    rfl
theorem nodup_pr {ps : List (Int × Int)} (h : ps.Nodup) : (ps.map fun p => [p.1, p.2]).Nodup := by
  refine List.Pairwise.map _ (fun a b hne e => hne ?_) h
  simp only [List.cons.injEq, and_true] at e
  exact Prod.ext e.1 e.2
theorem dLenSet_pr {ps : List (Int × Int)} (h : ps.Nodup) (hl : ps.length < 64) : dLenSet (.tup (limsD ps)) = some (.int ps.length) := by
  simp only [dLenSet, dItems, Option.bind_some, dTIs_pr, List.length_map]
  rw [if_pos hl, ded_of_nodup (nodup_pr h), List.length_map]

/-! ### the combinators, applied -/
section
variable {α β δ : Type}
theorem bindA_ (f : F α) (k : α → F β) (γ : Gm) : F.bind f k γ = match f γ with | .ok a g => k a g | .ex e g => .ex e g | .st => .st := rfl
theorem f0A (d : D) (γ : Gm) : f0 d γ = .ok d γ := rfl
theorem f1A (k : α → Option β) (fa : F α) (γ : Gm) : f1 k fa γ = match fa γ with | .ok x g => liftO (k x) g | .ex e g => .ex e g | .st => .st := by
  unfold f1 F.bind
  cases fa γ <;> rfl
theorem f2A (k : α → β → Option δ) (fa : F α) (fb : F β) (γ : Gm) : f2 k fa fb γ = match fa γ with | .ok x g => (match fb g with | .ok y g2 => liftO (k x y) g2 | .ex e g2 => .ex e g2 | .st => .st) | .ex e g => .ex e g | .st => .st := by
  unfold f2 F.bind
  cases fa γ with
  | ok x g => simp only [F.bind] <;> cases fb g <;> rfl
  | _ => rfl
theorem liftS (a : α) (γ : Gm) : liftO (some a) γ = .ok a γ := rfl
theorem liftN (γ : Gm) : liftO (none : Option α) γ = .st := rfl
theorem seqA (s t : F Fl) (γ : Gm) : sSeq s t γ = match s γ with | .ok .nx g => t g | .ok f g => .ok f g | .ex e g => .ex e g | .st => .st := by
  unfold sSeq F.bind
  cases s γ with
  | ok f g => cases f <;> rfl
  | _ => rfl
theorem ifA (c : F Bool) (s t : F Fl) (γ : Gm) : sIf c s t γ = match c γ with | .ok true g => s g | .ok false g => t g | .ex e g => .ex e g | .st => .st := by
  unfold sIf F.bind
  cases c γ with
  | ok b g => cases b <;> rfl
  | _ => rfl
theorem retA (f : F D) (γ : Gm) : sRet f γ = match f γ with | .ok d g => .ok (.ret (.val d)) g | .ex e g => .ex e g | .st => .st := by
  unfold sRet F.bind
  cases f γ <;> rfl
theorem setA (i : Nat) (f : F D) (γ : Gm) : sSet i f γ = match f γ with | .ok d g => .ok .nx (g.set i (.val d)) | .ex e g => .ex e g | .st => .st := by
  unfold sSet F.bind
  cases f γ <;> rfl
theorem setNA (i : Nat) (f : F MO) (γ : Gm) : sSetNew i f γ = match f γ with | .ok o g => .ok .nx (g.set i (.own none o)) | .ex e g => .ex e g | .st => .st := by
  unfold sSetNew F.bind
  cases f γ <;> rfl
theorem exprA (f : F D) (γ : Gm) : sExpr f γ = match f γ with | .ok _ g => .ok .nx g | .ex e g => .ex e g | .st => .st := by
  unfold sExpr F.bind
  cases f γ <;> rfl
theorem nilA (γ : Gm) : sNil γ = .ok .nx γ := rfl
theorem aNilA (γ : Gm) : aNil γ = .ok [] γ := rfl
theorem aValA (f : F D) (r : F (List AV)) (γ : Gm) : aVal f r γ = match f γ with | .ok x g => (match r g with | .ok as g2 => .ok (.d x :: as) g2 | .ex e g2 => .ex e g2 | .st => .st) | .ex e g => .ex e g | .st => .st := by
  unfold aVal F.bind
  cases f γ with
  | ok x g => simp only [F.bind] <;> cases r g <;> rfl
  | _ => rfl
theorem aNewA (f : F MO) (r : F (List AV)) (γ : Gm) : aNew f r γ = match f γ with | .ok x g => (match r g with | .ok as g2 => .ok (.n x :: as) g2 | .ex e g2 => .ex e g2 | .st => .st) | .ex e g => .ex e g | .st => .st := by
  unfold aNew F.bind
  cases f γ with
  | ok x g => simp only [F.bind] <;> cases r g <;> rfl
  | _ => rfl
theorem callA (N : Nat) (b : F Fl) (r : F (List AV)) (γ : Gm) : fCall N b r γ = match r γ with | .ok as g => (match callR N b as g with | .ok v g2 => .ok v.1.d g2 | .ex e g2 => .ex e g2 | .st => .st) | .ex e g => .ex e g | .st => .st := by
  unfold fCall F.bind
  cases r γ with
  | ok x g => simp only [F.bind] <;> cases callR N b x g <;> rfl
  | _ => rfl
theorem nCallA (N : Nat) (b : F Fl) (r : F (List AV)) (γ : Gm) : nCall N b r γ = match r γ with | .ok as g => (match callR N b as g with | .ok v g2 => liftO (rvO v.1) g2 | .ex e g2 => .ex e g2 | .st => .st) | .ex e g => .ex e g | .st => .st := by
  unfold nCall F.bind
  cases r γ with
  | ok x g => simp only [F.bind] <;> cases callR N b x g <;> rfl
  | _ => rfl
theorem fDA (f : F MO) (γ : Gm) : fD f γ = match f γ with | .ok o g => .ok o.d g | .ex e g => .ex e g | .st => .st := by
  unfold fD F.bind
  cases f γ <;> rfl
theorem vAndA (fa fb : F D) (γ : Gm) : vAnd fa fb γ = match fa γ with | .ok (.bl true) g => fb g | .ok (.bl false) g => .ok (.bl false) g | .ex e g => .ex e g | _ => .st := by
  unfold vAnd F.bind
  cases fa γ with
  | ok d g => cases d with
    | bl b => cases b <;> rfl
    | _ => rfl
  | _ => rfl
theorem tAndA (fa fb : F Bool) (γ : Gm) : tAndF fa fb γ = match fa γ with | .ok true g => fb g | .ok false g => .ok false g | .ex e g => .ex e g | .st => .st := by
  unfold tAndF F.bind
  cases fa γ with
  | ok b g => cases b <;> rfl
  | _ => rfl
theorem tOrA (fa fb : F Bool) (γ : Gm) : tOrF fa fb γ = match fa γ with | .ok true g => .ok true g | .ok false g => fb g | .ex e g => .ex e g | .st => .st := by
  unfold tOrF F.bind
  cases fa γ with
  | ok b g => cases b <;> rfl
  | _ => rfl
theorem tNotA (fa : F Bool) (γ : Gm) : tNotF fa γ = match fa γ with | .ok b g => .ok (!b) g | .ex e g => .ex e g | .st => .st := by
  unfold tNotF F.bind
  cases fa γ <;> rfl
theorem fTupA (r : F (List AV)) (γ : Gm) : fTup r γ = match r γ with | .ok as g => (match allD as with | some xs => liftO (dTup xs) g | none => .st) | .ex e g => .ex e g | .st => .st := by
  unfold fTup F.bind liftO
  cases r γ with
  | ok as g => simp only <;> cases allD as <;> rfl
  | _ => rfl
theorem nLstA (r : F (List AV)) (γ : Gm) : nLst r γ = match r γ with | .ok as g => (match allD as with | some xs => liftO (dLst xs) g | none => .st) | .ex e g => .ex e g | .st => .st := by
  unfold nLst F.bind liftO
  cases r γ with
  | ok as g => simp only <;> cases allD as <;> rfl
  | _ => rfl
theorem iArgsA (k : List D → Option (List D)) (r : F (List AV)) (γ : Gm) : iArgs k r γ = match r γ with | .ok as g => (match allD as with | some xs => liftO (k xs) g | none => .st) | .ex e g => .ex e g | .st => .st := by
  unfold iArgs F.bind liftO
  cases r γ with
  | ok as g => simp only <;> cases allD as <;> rfl
  | _ => rfl
theorem forA (fi : F (List D)) (gt : GD) (b : F Fl) (γ : Gm) : sFor fi gt b γ = match fi γ with | .ok xs g => forL gt b xs g | .ex e g => .ex e g | .st => .st := by
  unfold sFor F.bind
  cases fi γ <;> rfl
theorem parA (is : List Nat) (r : F (List AV)) (γ : Gm) : sPar is r γ = match r γ with | .ok as g => (match putAll is as g with | some g2 => .ok .nx g2 | none => .st) | .ex e g => .ex e g | .st => .st := by
  unfold sPar F.bind
  cases r γ with
  | ok x g => simp only <;> cases putAll is x g <;> rfl
  | _ => rfl
theorem nMakeSA (c N : Nat) (b : F Fl) (r : F (List AV)) (γ : Gm) : nMakeS c N b r γ = match r γ with | .ok as g => (match allD as with | some ds => (if ds.length ≤ sizeLine then F.bind (callR N b [.n (.ins c []), .d (.tup ds)]) (fun r => liftO (mkO r)) g else .st) | none => .st) | .ex e g => .ex e g | .st => .st := by
  unfold nMakeS
  rw [bindA_]
  cases r γ with
  | ok as g =>
    cases h : allD as with
    | none => simp only [F.bind, liftO, h]
    | some ds =>
      simp only [bindA_, liftO, h]
      split <;> rfl
  | _ => rfl
end

/-! ### one step each -/
section
variable {α β δ : Type} {γ g g2 g3 : Gm}
theorem oCall {N : Nat} {b : F Fl} {r : F (List AV)} {as : List AV} {v : RV × Gm} (h1 : r γ = .ok as g) (h2 : callR N b as g = .ok v g2) : fCall N b r γ = .ok v.1.d g2 := by rw [callA, h1]; simp only [h2]
theorem onCall {N : Nat} {b : F Fl} {r : F (List AV)} {as : List AV} {v : RV × Gm} {o : MO} (h1 : r γ = .ok as g) (h2 : callR N b as g = .ok v g2) (h3 : rvO v.1 = some o) : nCall N b r γ = .ok o g2 := by rw [nCallA, h1]; simp only [h2, h3, liftS]
theorem oF1 {k : α → Option β} {fa : F α} {x : α} {y : β} (h1 : fa γ = .ok x g) (h2 : k x = some y) : f1 k fa γ = .ok y g := by rw [f1A, h1]; simp only [h2, liftS]
theorem oF2 {k : α → β → Option δ} {fa : F α} {fb : F β} {x : α} {y : β} {z : δ} (h1 : fa γ = .ok x g) (h2 : fb g = .ok y g2) (h3 : k x y = some z) : f2 k fa fb γ = .ok z g2 := by rw [f2A, h1]; simp only [h2, h3, liftS]
theorem oVal {f : F D} {r : F (List AV)} {x : D} {as : List AV} (h1 : f γ = .ok x g) (h2 : r g = .ok as g2) : aVal f r γ = .ok (.d x :: as) g2 := by rw [aValA, h1]; simp only [h2]
theorem oNew {f : F MO} {r : F (List AV)} {x : MO} {as : List AV} (h1 : f γ = .ok x g) (h2 : r g = .ok as g2) : aNew f r γ = .ok (.n x :: as) g2 := by rw [aNewA, h1]; simp only [h2]
theorem oVarD {i : Nat} {r : F (List AV)} {x : D} {as : List AV} (h1 : γ[i]? = some (.val x)) (h2 : r γ = .ok as g) : aVar i r γ = .ok (.d x :: as) g := by unfold aVar; rw [h1]; simp only [bindA_, h2]
theorem oVarS {i : Nat} {r : F (List AV)} {t : Option Nat} {x : MO} {as : List AV} (h1 : γ[i]? = some (.own t x)) (h2 : r γ = .ok as g) : aVar i r γ = .ok (.s i :: as) g := by unfold aVar; rw [h1]; simp only [bindA_, h2]
theorem oLook {i : Nat} {x : D} (h1 : γ[i]? = some (.val x)) : fLook i γ = .ok x γ := by unfold fLook; rw [h1]
theorem oVar {i : Nat} {x : D} (h1 : γ[i]? = some (.val x)) : fVar i γ = .ok x γ := by unfold fVar; rw [h1]
theorem oSeq {s t : F Fl} {r : R Fl} (h1 : s γ = .ok .nx g) (h2 : t g = r) : sSeq s t γ = r := by rw [seqA, h1]; exact h2
theorem oSeqR {s t : F Fl} {v : RV} (h1 : s γ = .ok (.ret v) g) : sSeq s t γ = .ok (.ret v) g := by rw [seqA, h1]
theorem oIfT {c : F Bool} {s t : F Fl} {r : R Fl} (h1 : c γ = .ok true g) (h2 : s g = r) : sIf c s t γ = r := by rw [ifA, h1]; exact h2
theorem oIfF {c : F Bool} {s t : F Fl} {r : R Fl} (h1 : c γ = .ok false g) (h2 : t g = r) : sIf c s t γ = r := by rw [ifA, h1]; exact h2
theorem oRet {f : F D} {d : D} (h1 : f γ = .ok d g) : sRet f γ = .ok (.ret (.val d)) g := by rw [retA, h1]
theorem oSet {i : Nat} {f : F D} {d : D} (h1 : f γ = .ok d g) : sSet i f γ = .ok .nx (g.set i (.val d)) := by rw [setA, h1]
theorem oSetN {i : Nat} {f : F MO} {d : MO} (h1 : f γ = .ok d g) : sSetNew i f γ = .ok .nx (g.set i (.own none d)) := by rw [setNA, h1]
theorem oExpr {f : F D} {d : D} (h1 : f γ = .ok d g) : sExpr f γ = .ok .nx g := by rw [exprA, h1]
theorem oNotT {f : F Bool} (h1 : f γ = .ok true g) : tNotF f γ = .ok false g := by rw [tNotA, h1]; rfl
theorem oNotF {f : F Bool} (h1 : f γ = .ok false g) : tNotF f γ = .ok true g := by rw [tNotA, h1]; rfl
theorem oNot {f : F Bool} {b : Bool} (h1 : f γ = .ok b g) : tNotF f γ = .ok (!b) g := by rw [tNotA, h1]
theorem oAndT {fa fb : F Bool} {r : R Bool} (h1 : fa γ = .ok true g) (h2 : fb g = r) : tAndF fa fb γ = r := by rw [tAndA, h1]; exact h2
theorem oAndF {fa fb : F Bool} (h1 : fa γ = .ok false g) : tAndF fa fb γ = .ok false g := by rw [tAndA, h1]
theorem oOrF {fa fb : F Bool} {r : R Bool} (h1 : fa γ = .ok false g) (h2 : fb g = r) : tOrF fa fb γ = r := by rw [tOrA, h1]; exact h2
theorem oOrT {fa fb : F Bool} (h1 : fa γ = .ok true g) : tOrF fa fb γ = .ok true g := by rw [tOrA, h1]
theorem oFor {fi : F (List D)} {gt : GD} {b : F Fl} {xs : List D} {r : R Fl} (h1 : fi γ = .ok xs g) (h2 : forL gt b xs g = r) : sFor fi gt b γ = r := by rw [forA, h1]; exact h2
theorem oTup {r : F (List AV)} {xs : List D} (h1 : r γ = .ok (xs.map AV.d) g) (h2 : xs.length ≤ sizeLine) : fTup r γ = .ok (.tup xs) g := by
  have h : ∀ ds : List D, allD (ds.map AV.d) = some ds := fun ds => by
    induction ds with
    | nil => rfl
    | cons d ds ih => simp [allD, ih]
  rw [fTupA, h1]
  simp only [h]
  unfold dTup
  rw [if_pos h2]
  rfl
theorem oArgs {k : List D → Option (List D)} {r : F (List AV)} {xs ys : List D} (h1 : r γ = .ok (xs.map AV.d) g) (h2 : k xs = some ys) : iArgs k r γ = .ok ys g := by
  have h : ∀ ds : List D, allD (ds.map AV.d) = some ds := fun ds => by
    induction ds with
    | nil => rfl
    | cons d ds ih => simp [allD, ih]
  rw [iArgsA, h1]
  simp only [h, h2, liftS]
theorem oPar {is : List Nat} {r : F (List AV)} {as : List AV} (h1 : r γ = .ok as g) (h2 : putAll is as g = some g2) : sPar is r γ = .ok .nx g2 := by rw [parA, h1]; simp only [h2]
theorem oMth {c N : Nat} {nm : Str} {b : F Fl} {fo : F AV} {r : F (List AV)} {av : AV} {as : List AV} {fs : List (Str × D)} {v : RV × Gm} (h1 : fo γ = .ok av g) (h2 : avC g av = some (c, fs)) (h3 : fs.lookup nm = none) (h4 : r g = .ok as g2) (h5 : (avC g2 av).map (·.1) = some c) (h6 : callR N b (av :: as) g2 = .ok v g3) : fMth c nm N b fo r γ = .ok v.1.d g3 := by
  unfold fMth
  rw [bindA_, h1]
  simp only [h2, h3, and_self, if_true, bindA_, h4, h5, h6]
theorem oProp {c N : Nat} {b : F Fl} {fo : F AV} {av : AV} {fs : List (Str × D)} {v : RV × Gm} (h1 : fo γ = .ok av g) (h2 : avC g av = some (c, fs)) (h6 : callR N b [av] g = .ok v g3) : fProp c N b fo γ = .ok v.1.d g3 := by
  unfold fProp
  rw [bindA_, h1]
  simp only [h2, if_true, h6]
end

/-! ### comprehensions, loops -/
theorem lcL_gen {gt : GD} {c : F Bool} {e : F D} {vs : List Nat} {f : D → D} {γ : Gm} : ∀ (xs acc : List D), (∀ d ∈ xs, ∃ γ3 γ5, gt d γ = some γ3 ∧ c γ3 = .ok true γ3 ∧ e γ3 = .ok (f d) γ5 ∧ wipeG γ5 vs = γ) → lcL gt c e vs xs acc γ = .ok (acc ++ xs.map f) γ
  | [], acc, _ => by simp [lcL]
  | d :: xs, acc, h => by
    obtain ⟨γ3, γ5, h1, h2, h3, h4⟩ := h d List.mem_cons_self
    simp only [lcL, h1, h2, h3, h4]
    rw [lcL_gen xs (acc ++ [f d]) fun d hd => h d (List.mem_cons_of_mem _ hd), List.append_assoc]
    rfl
theorem forL_ok {gt : GD} {b : F Fl} (P : List D → Gm → Prop) (hs : ∀ d ds γ, P (d :: ds) γ → ∃ γ1 γ2, gt d γ = some γ1 ∧ (b γ1 = .ok .nx γ2 ∨ b γ1 = .ok .ct γ2) ∧ P ds γ2) : ∀ (xs : List D) (γ : Gm), P xs γ → ∃ γ', forL gt b xs γ = .ok .nx γ' ∧ P [] γ'
  | [], γ, h => ⟨γ, rfl, h⟩
  | d :: ds, γ, h => by
    obtain ⟨γ1, γ2, h1, h2, h3⟩ := hs d ds γ h
    obtain ⟨γ', h4, h5⟩ := forL_ok P hs ds γ2 h3
    refine ⟨γ', ?_, h5⟩
    rcases h2 with h2 | h2 <;> simp only [forL, h1, h2, h4]
theorem rngL_succ (lo : Int) (n : Nat) : rngL lo 1 (n + 1) = rngL lo 1 n ++ [.int (lo + n)] := by
  simp [rngL, List.range_succ]
theorem rngL_cons (lo : Int) (n : Nat) : rngL lo 1 (n + 1) = .int lo :: rngL (lo + 1) 1 n := by
  unfold rngL
  rw [List.range_succ_eq_map, List.map_cons, List.map_map]
  simp only [Function.comp_def, List.cons.injEq, D.int.injEq, List.map_inj_left]
  refine ⟨by simp, fun k _ => ?_⟩
  push_cast
  omega
theorem atI_nat {xs : List D} {i : Int} {k : Nat} {d : D} (h : i = k) (e : xs[k]? = some d) : atI xs i = some d := by
  have hk : k < xs.length := (List.getElem?_eq_some_iff.mp e).1
  subst h
  unfold atI ixN
  rw [if_pos (by omega), if_pos (by omega)]
  simpa using e
end FC

namespace FC
open PySem PySem.Spec PyProof.Rows L2

/-! ### repr of data -/
mutual
theorem data_noDict : ∀ {d : D} {p : PyData}, d.data = some p → p.hasDict = false
  | .non, _, e => by simp only [D.data] at e; cases e; simp only [PyData.hasDict]
  | .bl _, _, e => by simp only [D.data] at e; cases e; simp only [PyData.hasDict]
  | .int _, _, e => by simp only [D.data] at e; cases e; simp only [PyData.hasDict]
  | .str _, _, e => by simp only [D.data] at e; cases e; simp only [PyData.hasDict]
  | .lst xs, _, e => by
    simp only [D.data] at e
    obtain ⟨ps, q, rfl⟩ := Option.map_eq_some_iff.mp e
    simp only [PyData.hasDict]
    exact dataL_noDict q
  | .tup xs, _, e => by
    simp only [D.data] at e
    obtain ⟨ps, q, rfl⟩ := Option.map_eq_some_iff.mp e
    simp only [PyData.hasDict]
    exact dataL_noDict q
  | .dct _, _, e => by simp only [D.data] at e; cases e
  | .ins _ _, _, e => by simp only [D.data] at e; cases e
  | .raw _, _, e => by simp only [D.data] at e; cases e
  | .cls _, _, e => by simp only [D.data] at e; cases e
theorem dataL_noDict : ∀ {ds : List D} {ps : List PyData}, D.dataL ds = some ps → PyData.hasDictAll ps = false
  | [], _, e => by simp only [D.dataL] at e; cases e; simp only [PyData.hasDictAll]
  | x :: xs, _, e => by
    simp only [D.dataL] at e
    cases q : D.data x with
    | none => rw [q] at e; cases e
    | some p =>
      cases q2 : D.dataL xs with
      | none => rw [q, q2] at e; cases e
      | some ps =>
        rw [q, q2] at e
        cases e
        simp only [PyData.hasDictAll, data_noDict q, dataL_noDict q2, Bool.or_self]
end
/-- whether repr of it is told here, and what it is -/
def shownD (p : PyData) : Option Str := if p.showable = true ∧ p.depth ≤ 100 ∧ p.shown.length ≤ sizeLine then some p.shown else none
def dRepr (d : D) : Option D := d.data.bind fun p => (shownD p).map D.str
section
variable {C : Ct} {W : WX} {X : Cx} {m p m1 p1 m2 p2 : Bool} {a b e' e : Expr} {es : List Expr} {fa fb : F D} {fr : F (List AV)} {x : Str} {pn pos : Pos} {i : Nat}
theorem call_reprD {k : Nat} (hr : RoomG k X.A) : CallR X (.builtin "repr") (fun xs H Q => ∃ v p y, xs = [v] ∧ Dp X.K H v p ∧ p.hasDict = false ∧ shownD p = some y ∧ Q (.str y) H) := by
  intro pins s σ H xs us Q I r h
  obtain ⟨v, p, y, rfl, hd, nd, hs, q⟩ := h
  obtain ⟨u, rfl, ru⟩ := vals1 r
  obtain ⟨as, rr⟩ := Dp.reads I p v u hd ru
  unfold shownD at hs
  split at hs
  case isFalse => cases hs
  rename_i hz
  cases hs
  obtain ⟨z1, z2, z3⟩ := hz
  have hu : X.A.units + (p.depth + 1) < cLine := by have := hr.r.un; omega
  have fin : ∀ {t : Nat}, EP X pins σ Q (.str p.shown t) { s with toks := s.toks + 1 } := fun {t} => ⟨.str _, H, I.tok _, ⟨_, rfl⟩, q⟩
  cases rr with
  | none => exact PySem.P.repr_of_none (by simpa only [PyData.shown] using fin (t := s.toks))
  | bool b => exact PySem.P.repr_of_bool (by simpa only [PyData.shown] using fin (t := s.toks))
  | int i t => exact PySem.P.repr_of_int (by simpa [PyData.showable] using z1) (by simpa only [PyData.shown] using fin (t := s.toks))
  | str x t => exact PySem.P.repr_of_str (hsz := by simpa only [PyData.shown] using z3) (by simpa only [PyData.shown] using fin (t := s.toks))
  | list h1 h2 h3 h4 => exact repr_of_reads' (.list h1 h2 h3 h4) z1 (PyData.noDict_hsm nd) hr.g hu (fun _ _ e => e) (fun h' t tk hk => ⟨.str _, H, I.kept (t' := tk) hk, ⟨_, rfl⟩, q⟩) z3
  | tuple h1 h2 h3 h4 => exact repr_of_reads' (.tuple h1 h2 h3 h4) z1 (PyData.noDict_hsm nd) hr.g hu (fun _ _ e => e) (fun h' t tk hk => ⟨.str _, H, I.kept (t' := tk) hk, ⟨_, rfl⟩, q⟩) z3
  | dict _ _ _ _ _ => simp [PyData.hasDict] at nd
theorem fx_repr {k : Nat} (hr : RoomG k X.A) (ha : FX C W m p X a fa) (hm : X.mg "repr" = none) (hg : Gl X "repr") (he : starEach [a] X.env = (false, eval a X.env) :: starEach [] X.env := by rfl) (hpl : (backTo pos (starEach [] X.env)).any (·.1) = false := by rfl) : FX C W true p X (.Call (.Name "repr" pn) [a] [] pos) (f1 dRepr fa) :=
  fx_b1 (call_reprD hr) (fun M H x dx d Q hd sx e k => by
    obtain ⟨q, e1, e2⟩ := Option.bind_eq_some_iff.mp e
    obtain ⟨y, e3, rfl⟩ := Option.map_eq_some_iff.mp e2
    exact ⟨x, q, y, rfl, sx.dp e1, data_noDict e1, e3, k _ H (Keep.refl _ _) (.str _)⟩) ha (by rfl) hm hg (he := he) (hpl := hpl)
end
end FC

namespace FC
open PySem PySem.Spec PyProof.Rows L2

/-! ### what is wished behind a step -/
def WpD {α : Type} (m : R α) (Q : α → Gm → Prop) (E : Ex → Gm → Prop) : Prop := match m with
  | .ok a g => Q a g
  | .ex e g => E e g
  | .st => False
structure Wp {α : Type} (m : R α) (Q : α → Gm → Prop) (E : Ex → Gm → Prop) : Prop where
  run : WpD m Q E
abbrev E0 : Ex → Gm → Prop := fun _ _ => False
/-- what follows a statement in a block -/
def sqK (t : F Fl) (Q : Fl → Gm → Prop) (E : Ex → Gm → Prop) : Fl → Gm → Prop
  | .nx, g => Wp (t g) Q E
  | .ret v, g => Q (.ret v) g
  | .brk, g => Q .brk g
  | .ct, g => Q .ct g
/-- what follows a turn -/
def lpK (I : Gm → Prop) (Q : Fl → Gm → Prop) : Fl → Gm → Prop
  | .nx, g => I g
  | .ct, g => I g
  | .ret v, g => Q (.ret v) g
  | .brk, g => Q .nx g
/-- as data -/
def dK (Q : D → Gm → Prop) (v : RV) (g : Gm) : Prop := Q v.d g
def oK (Q : D → Gm → Prop) (o : MO) (g : Gm) : Prop := Q o.d g
theorem dk_val {Q : D → Gm → Prop} {d : D} {g : Gm} (h : Q d g) : dK Q (.val d) g := h
theorem dk_lst {Q : D → Gm → Prop} {xs : List D} {g : Gm} (h : Q (.lst xs) g) : dK Q (.own (.lst xs)) g := h
theorem dk_ins {Q : D → Gm → Prop} {c : Nat} {fs : List (Str × D)} {g : Gm} (h : Q (.ins c fs) g) : dK Q (.own (.ins c fs)) g := h
theorem ok_lst {Q : D → Gm → Prop} {xs : List D} {g : Gm} (h : Q (.lst xs) g) : oK Q (.lst xs) g := h
theorem ok_ins {Q : D → Gm → Prop} {c : Nat} {fs : List (Str × D)} {g : Gm} (h : Q (.ins c fs) g) : oK Q (.ins c fs) g := h
/-- what follows a call -/
def clK (Q : RV → Gm → Prop) : Fl → Gm → Prop
  | .nx, g => Q (.val .non) g
  | .ret v, g => Q v g
  | _, _ => False
section
variable {α β δ : Type} {γ g : Gm} {E : Ex → Gm → Prop}
theorem wp_ok {m : R α} {a : α} {Q : α → Gm → Prop} (h : m = .ok a g) (q : Q a g) : Wp m Q E := by rw [h]; exact ⟨q⟩
theorem Wp.out {m : R α} {Q : α → Gm → Prop} (h : Wp m Q E0) : ∃ a g, m = .ok a g ∧ Q a g := by
  cases m with
  | ok a g => exact ⟨a, g, rfl, h.run⟩
  | ex _ _ => exact h.run.elim
  | st => exact h.run.elim
theorem Wp.imp {m : R α} {Q Q' : α → Gm → Prop} {E' : Ex → Gm → Prop} (h : Wp m Q E) (k : ∀ a g, Q a g → Q' a g) (ke : ∀ e g, E e g → E' e g := by exact fun _ _ z => z) : Wp m Q' E' := by
  cases m with
  | ok a g => exact ⟨k a g h.run⟩
  | ex e g => exact ⟨ke e g h.run⟩
  | st => exact h.run.elim
theorem wp_bind {f : F α} {k : α → F β} {Q : β → Gm → Prop} (h : Wp (f γ) (fun a g => Wp (k a g) Q E) E) : Wp (F.bind f k γ) Q E := by
  unfold F.bind
  cases q : f γ <;> rw [q] at h
  · exact h.run
  · exact ⟨h.run⟩
  · exact h.run.elim
theorem wp_lift {o : Option α} {a : α} {Q : α → Gm → Prop} (h : o = some a) (q : Q a γ) : Wp (liftO o γ) Q E := by subst h; exact ⟨q⟩
theorem wp_liftE {o : Option α} {Q : α → Gm → Prop} (h : ∃ a, o = some a ∧ Q a γ) : Wp (liftO o γ) Q E := by obtain ⟨a, e, q⟩ := h; exact wp_lift e q
end
/-! ### expressions -/
section
variable {α β δ : Type} {γ g : Gm} {E : Ex → Gm → Prop}
variable {Q : D → Gm → Prop} {fa fb fc : F D} {d : D} {i : Nat}
theorem wp_f0 (h : Q d γ) : Wp (f0 d γ) Q E := ⟨h⟩
theorem wp_var (e : γ[i]? = some (.val d)) (h : Q d γ) : Wp (fVar i γ) Q E := by unfold fVar; rw [e]; exact ⟨h⟩
theorem wp_look (e : γ[i]? = some (.val d)) (h : Q d γ) : Wp (fLook i γ) Q E := by unfold fLook; rw [e]; exact ⟨h⟩
theorem wp_lookL {t : Option Nat} {xs : List D} (e : γ[i]? = some (.own t (.lst xs))) (h : Q (.lst xs) γ) : Wp (fLook i γ) Q E := by unfold fLook; rw [e]; exact ⟨h⟩
theorem wp_lookI {t : Option Nat} {c : Nat} {xs : List (Str × D)} (e : γ[i]? = some (.own t (.ins c xs))) (h : Q (.ins c xs) γ) : Wp (fLook i γ) Q E := by unfold fLook; rw [e]; exact ⟨h⟩
theorem wp_f1 {k : α → Option β} {fa : F α} {Q : β → Gm → Prop} (h : Wp (fa γ) (fun x g => ∃ y, k x = some y ∧ Q y g) E) : Wp (f1 k fa γ) Q E := wp_bind (h.imp fun _ _ z => wp_liftE z)
theorem wp_f2 {k : α → β → Option δ} {fa : F α} {fb : F β} {Q : δ → Gm → Prop} (h : Wp (fa γ) (fun x g => Wp (fb g) (fun y g2 => ∃ z, k x y = some z ∧ Q z g2) E) E) : Wp (f2 k fa fb γ) Q E :=
  wp_bind (h.imp fun _ _ z => wp_bind (z.imp fun _ _ z => wp_liftE z))
theorem wp_sl2 (h : Wp (fa γ) (fun x g => Wp (fb g) (fun y g2 => ∃ i, dInt y = some i ∧ Wp (fc g2) (fun z g3 => ∃ j, dInt z = some j ∧ ∃ r, dSl x (some i) (some j) = some r ∧ Q r g3) E) E) E) : Wp (fSl2 fa fb fc γ) Q E := by
  unfold fSl2
  refine wp_bind (h.imp fun x g h => ?_)
  refine wp_bind (wp_f1 (h.imp fun y g h => ?_))
  obtain ⟨i, e1, h⟩ := h
  refine ⟨i, e1, wp_bind (wp_f1 (h.imp fun z g h => ?_))⟩
  obtain ⟨j, e2, r, e3, q⟩ := h
  exact ⟨j, e2, wp_lift e3 q⟩
theorem wp_and (h : Wp (fa γ) (fun x g => ∃ b, x = .bl b ∧ ((b = true → Wp (fb g) Q E) ∧ (b = false → Q (.bl false) g))) E) : Wp (vAnd fa fb γ) Q E := by
  rw [vAndA]
  generalize fa γ = m at h
  cases m with
  | ok d g =>
    obtain ⟨b, rfl, h1, h2⟩ := h.run
    cases b with
    | true => exact h1 rfl
    | false => exact ⟨h2 rfl⟩
  | ex e g => exact ⟨h.run⟩
  | st => exact h.run.elim
/-! the same while the outcome is a Bool known as a whole -/
theorem wp_tand {fa fb : F Bool} {Q : Bool → Gm → Prop} (h : Wp (fa γ) (fun b g => (b = true → Wp (fb g) Q E) ∧ (b = false → Q false g)) E) : Wp (tAndF fa fb γ) Q E := by
  rw [tAndA]
  generalize fa γ = m at h
  cases m with
  | ok b g => cases b with
    | true => exact h.run.1 rfl
    | false => exact ⟨h.run.2 rfl⟩
  | ex e g => exact ⟨h.run⟩
  | st => exact h.run.elim
theorem wp_tor {fa fb : F Bool} {Q : Bool → Gm → Prop} (h : Wp (fa γ) (fun b g => (b = true → Q true g) ∧ (b = false → Wp (fb g) Q E)) E) : Wp (tOrF fa fb γ) Q E := by
  rw [tOrA]
  generalize fa γ = m at h
  cases m with
  | ok b g => cases b with
    | true => exact ⟨h.run.1 rfl⟩
    | false => exact h.run.2 rfl
  | ex e g => exact ⟨h.run⟩
  | st => exact h.run.elim
theorem wp_tnot {fa : F Bool} {Q : Bool → Gm → Prop} (h : Wp (fa γ) (fun b g => Q (!b) g) E) : Wp (tNotF fa γ) Q E := by
  rw [tNotA]
  generalize fa γ = m at h
  cases m <;> exact ⟨h.run⟩
theorem wp_fIf {c : F Bool} (h : Wp (c γ) (fun b g => (b = true → Wp (fa g) Q E) ∧ (b = false → Wp (fb g) Q E)) E) : Wp (fIf c fa fb γ) Q E := by
  unfold fIf
  refine wp_bind (h.imp fun b g h => ?_)
  cases b with
  | true => exact h.1 rfl
  | false => exact h.2 rfl
end
/-! ### arguments, displays, what is walked -/
section
variable {α β δ : Type} {γ g : Gm} {E : Ex → Gm → Prop} {i : Nat}
theorem wp_aNil {Q : List AV → Gm → Prop} (h : Q [] γ) : Wp (aNil γ) Q E := ⟨h⟩
theorem wp_aVal {f : F D} {r : F (List AV)} {Q : List AV → Gm → Prop} (h : Wp (f γ) (fun x g => Wp (r g) (fun as g2 => Q (.d x :: as) g2) E) E) : Wp (aVal f r γ) Q E := wp_bind (h.imp fun _ _ z => wp_bind (z.imp fun _ _ z => ⟨z⟩))
theorem wp_aNew {f : F MO} {r : F (List AV)} {Q : List AV → Gm → Prop} (h : Wp (f γ) (fun x g => Wp (r g) (fun as g2 => Q (.n x :: as) g2) E) E) : Wp (aNew f r γ) Q E := wp_bind (h.imp fun _ _ z => wp_bind (z.imp fun _ _ z => ⟨z⟩))
theorem wp_aVar {r : F (List AV)} {Q : List AV → Gm → Prop} {x : D} (e : γ[i]? = some (.val x)) (h : Wp (r γ) (fun as g2 => Q (.d x :: as) g2) E) : Wp (aVar i r γ) Q E := by unfold aVar; rw [e]; exact wp_bind (h.imp fun _ _ z => ⟨z⟩)
theorem wp_aVarS {r : F (List AV)} {Q : List AV → Gm → Prop} {t : Option Nat} {x : MO} (e : γ[i]? = some (.own t x)) (h : Wp (r γ) (fun as g2 => Q (.s i :: as) g2) E) : Wp (aVar i r γ) Q E := by unfold aVar; rw [e]; exact wp_bind (h.imp fun _ _ z => ⟨z⟩)
theorem wp_aVarW {r : F (List AV)} {Q : List AV → Gm → Prop} {x : List D} (e : γ[i]? = some (.view x)) (h : Wp (r γ) (fun as g2 => Q (.w x :: as) g2) E) : Wp (aVar i r γ) Q E := by unfold aVar; rw [e]; exact wp_bind (h.imp fun _ _ z => ⟨z⟩)
theorem wp_aStar {f : F D} {r : F (List AV)} {Q : List AV → Gm → Prop} (h : Wp (f γ) (fun x g => ∃ xs, dItems x = some xs ∧ Wp (r g) (fun as g2 => Q (xs.map .d ++ as) g2) E) E) : Wp (aStar f r γ) Q E := by
  unfold aStar
  refine wp_bind (h.imp fun x g h => ?_)
  obtain ⟨xs, e, h⟩ := h
  exact wp_bind (wp_lift e (wp_bind (h.imp fun _ _ z => ⟨z⟩)))
theorem wp_tup {r : F (List AV)} {Q : D → Gm → Prop} (h : Wp (r γ) (fun as g => ∃ xs, allD as = some xs ∧ xs.length ≤ sizeLine ∧ Q (.tup xs) g) E) : Wp (fTup r γ) Q E := by
  unfold fTup
  refine wp_bind (h.imp fun as g h => ?_)
  obtain ⟨xs, e, hs, q⟩ := h
  refine wp_bind (wp_lift e (wp_lift ?_ q))
  unfold dTup
  rw [if_pos hs]
theorem wp_nLst {r : F (List AV)} {Q : MO → Gm → Prop} (h : Wp (r γ) (fun as g => ∃ xs, allD as = some xs ∧ xs.length ≤ sizeLine ∧ Q (.lst xs) g) E) : Wp (nLst r γ) Q E := by
  unfold nLst
  refine wp_bind (h.imp fun as g h => ?_)
  obtain ⟨xs, e, hs, q⟩ := h
  refine wp_bind (wp_lift e (wp_lift ?_ q))
  unfold dLst
  rw [if_pos hs]
theorem wp_fD {f : F MO} {Q : D → Gm → Prop} (h : Wp (f γ) (oK Q) E) : Wp (fD f γ) Q E := wp_bind (h.imp fun _ _ z => ⟨z⟩)
theorem wp_iArgs {k : List D → Option (List D)} {r : F (List AV)} {Q : List D → Gm → Prop} (h : Wp (r γ) (fun as g => ∃ xs, allD as = some xs ∧ ∃ ys, k xs = some ys ∧ Q ys g) E) : Wp (iArgs k r γ) Q E := by
  unfold iArgs
  refine wp_bind (h.imp fun as g h => ?_)
  obtain ⟨xs, e, ys, e2, q⟩ := h
  exact wp_bind (wp_lift e (wp_lift e2 q))
theorem wp_iSeq {f : F D} {Q : List D → Gm → Prop} (h : Wp (f γ) (fun x g => ∃ xs, dItems x = some xs ∧ Q xs g) E) : Wp (iSeqF f γ) Q E := wp_f1 h
theorem unw_wipe (g : Gm) (vs : List Nat) : unw g (wipeG g vs) vs = g := by
  refine List.ext_getElem? fun j => ?_
  by_cases h : j ∈ vs
  · exact unw_in (wipeG_length g vs) h
  · rw [unw_out h, wipeG_out h]
theorem wipe_ext {g g3 : Gm} {vs : List Nat} (hl : g3.length = g.length) (h : ∀ j, j ∉ vs → g3[j]? = g[j]?) : wipeG g3 vs = wipeG g vs := by
  refine List.ext_getElem? fun j => ?_
  by_cases hj : j ∈ vs
  · by_cases hlt : j < g.length
    · rw [wipeG_in (by rw [hl]; exact hlt) hj, wipeG_in hlt hj]
    · rw [List.getElem?_eq_none (by rw [wipeG_length, hl]; omega), List.getElem?_eq_none (by rw [wipeG_length]; omega)]
  · rw [wipeG_out hj, wipeG_out hj, h j hj]
theorem wipe_wipe {g : Gm} {vs : List Nat} : wipeG (wipeG g vs) vs = wipeG g vs := wipe_ext (wipeG_length g vs) fun j hj => wipeG_out hj
theorem wipe1 {g : Gm} {v : Nat} {x : SV} : wipeG ((wipeG g [v]).set v x) [v] = wipeG g [v] := wipe_ext (by rw [List.length_set, wipeG_length]) fun j hj => by
  rw [List.getElem?_set_ne (fun z => hj (by rw [z]; exact List.mem_cons_self)), wipeG_out hj]
theorem wipe2 {g : Gm} {u v : Nat} {x y : SV} : wipeG (((wipeG g [u, v]).set u x).set v y) [u, v] = wipeG g [u, v] := wipe_ext (by rw [List.length_set, List.length_set, wipeG_length]) fun j hj => by
  rw [List.getElem?_set_ne (fun z => hj (by rw [z]; simp)), List.getElem?_set_ne (fun z => hj (by rw [z]; simp)), wipeG_out hj]
/-- a comprehension: each item is kept or not, and gives its value -/
theorem wp_lc {fi : F (List D)} {gt : GD} {c : F Bool} {e : F D} {vs : List Nat} {Q : MO → Gm → Prop} (pf : D → Bool) (f : D → D)
    (h : Wp (fi γ) (fun xs g => xs.length ≤ sizeLine ∧ okW g vs = true ∧ (∀ d ∈ xs, ∃ g1, gt d (wipeG g vs) = some g1 ∧ Wp (c g1) (fun b g2 => b = pf d ∧ (b = true → Wp (e g2) (fun y g3 => y = f d ∧ wipeG g3 vs = wipeG g vs) E0) ∧ (b = false → wipeG g2 vs = wipeG g vs)) E0) ∧ Q (.lst ((xs.filter pf).map f)) g) E) : Wp (nLc fi gt c e vs γ) Q E := by
  unfold nLc
  refine wp_bind (h.imp fun xs g h => ?_)
  obtain ⟨h1, h2, h3, q⟩ := h
  rw [if_pos ⟨h1, h2⟩]
  have lc : lcL gt c e vs xs [] (wipeG g vs) = .ok ([] ++ (xs.filter pf).map f) (wipeG g vs) := by
    clear q h1
    generalize ([] : List D) = acc
    induction xs generalizing acc with
    | nil => simp [lcL]
    | cons d xs ih =>
      obtain ⟨g1, e1, w⟩ := h3 d List.mem_cons_self
      obtain ⟨b, g2, e2, eb, k1, k2⟩ := w.out
      have ih := fun acc => ih (fun d hd => h3 d (List.mem_cons_of_mem _ hd)) acc
      unfold lcL
      simp only [e1, e2]
      cases b with
      | true =>
        obtain ⟨y, g3, e3, ey, e4⟩ := (k1 rfl).out
        simp only [e3, e4, ey, ih]
        rw [List.filter_cons_of_pos eb.symm, List.map_cons, List.append_assoc]
        rfl
      | false =>
        simp only [k2 rfl, ih]
        rw [List.filter_cons_of_neg (by rw [← eb]; exact Bool.false_ne_true)]
  rw [lc]
  refine ⟨?_⟩
  show Q (.lst ([] ++ (xs.filter pf).map f)) (unw g (wipeG g vs) vs)
  rw [unw_wipe]
  exact q
/-- all items are kept -/
theorem wp_lcA {fi : F (List D)} {gt : GD} {e : F D} {vs : List Nat} {Q : MO → Gm → Prop} (f : D → D)
    (h : Wp (fi γ) (fun xs g => xs.length ≤ sizeLine ∧ okW g vs = true ∧ (∀ d ∈ xs, ∃ g1, gt d (wipeG g vs) = some g1 ∧ Wp (e g1) (fun y g3 => y = f d ∧ wipeG g3 vs = wipeG g vs) E0) ∧ Q (.lst (xs.map f)) g) E) : Wp (nLc fi gt tTrue e vs γ) Q E := by
  refine wp_lc (fun _ => true) f (h.imp fun xs g h => ?_)
  obtain ⟨h1, h2, h3, q⟩ := h
  refine ⟨h1, h2, fun d hd => ?_, by rw [List.filter_eq_self.mpr fun _ _ => rfl]; exact q⟩
  obtain ⟨g1, e1, w⟩ := h3 d hd
  exact ⟨g1, e1, (show Wp (.ok true g1) _ _ from ⟨rfl, fun _ => w, fun z => nomatch z⟩)⟩
end
/-! ### statements -/
section
variable {γ g : Gm} {E : Ex → Gm → Prop} {i : Nat} {Q : Fl → Gm → Prop} {s t : F Fl}
theorem wp_seq (h : Wp (s γ) (sqK t Q E) E) : Wp (sSeq s t γ) Q E := by
  rw [seqA]
  generalize s γ = m at h
  cases m with
  | ok f g =>
    have h := h.run
    cases f with
    | nx => exact h
    | ret v => exact ⟨h⟩
    | brk => exact ⟨h⟩
    | ct => exact ⟨h⟩
  | ex e g => exact ⟨h.run⟩
  | st => exact h.run.elim
theorem wp_nx (h : Wp (t g) Q E) : sqK t Q E .nx g := h
theorem wp_rt {v : RV} (h : Q (.ret v) g) : sqK t Q E (.ret v) g := h
theorem wp_bk (h : Q .brk g) : sqK t Q E .brk g := h
theorem wp_ctn (h : Q .ct g) : sqK t Q E .ct g := h
theorem lp_nx {I : Gm → Prop} (h : I g) : lpK I Q .nx g := h
theorem lp_ct {I : Gm → Prop} (h : I g) : lpK I Q .ct g := h
theorem lp_rt {I : Gm → Prop} {v : RV} (h : Q (.ret v) g) : lpK I Q (.ret v) g := h
theorem lp_bk {I : Gm → Prop} (h : Q .nx g) : lpK I Q .brk g := h
theorem wp_nil (h : Q .nx γ) : Wp (sNil γ) Q E := ⟨h⟩
theorem wp_brk (h : Q .brk γ) : Wp (sBrk γ) Q E := ⟨h⟩
theorem wp_ct (h : Q .ct γ) : Wp (sCt γ) Q E := ⟨h⟩
theorem wp_retN (h : Q (.ret (.val .non)) γ) : Wp (sRetN γ) Q E := ⟨h⟩
theorem wp_ret {f : F D} (h : Wp (f γ) (fun d g => Q (.ret (.val d)) g) E) : Wp (sRet f γ) Q E := wp_bind (h.imp fun _ _ z => ⟨z⟩)
theorem wp_retNew {f : F MO} (h : Wp (f γ) (fun d g => Q (.ret (.own d)) g) E) : Wp (sRetNew f γ) Q E := wp_bind (h.imp fun _ _ z => ⟨z⟩)
theorem wp_retVar {d : D} (e : γ[i]? = some (.val d)) (h : Q (.ret (.val d)) γ) : Wp (sRetVar i γ) Q E := by unfold sRetVar; rw [e]; exact ⟨h⟩
theorem wp_retVarO {o : MO} (e : γ[i]? = some (.own none o)) (h : Q (.ret (.own o)) (γ.set i .none)) : Wp (sRetVar i γ) Q E := by unfold sRetVar; rw [e]; exact ⟨h⟩
theorem wp_expr {f : F D} (h : Wp (f γ) (fun _ g => Q .nx g) E) : Wp (sExpr f γ) Q E := wp_bind (h.imp fun _ _ z => ⟨z⟩)
theorem wp_set {f : F D} (h : Wp (f γ) (fun d g => Q .nx (g.set i (.val d))) E) : Wp (sSet i f γ) Q E := wp_bind (h.imp fun _ _ z => ⟨z⟩)
theorem wp_setN {f : F MO} (h : Wp (f γ) (fun d g => Q .nx (g.set i (.own none d))) E) : Wp (sSetNew i f γ) Q E := wp_bind (h.imp fun _ _ z => ⟨z⟩)
theorem wp_if {c : F Bool} (h : Wp (c γ) (fun b g => (b = true → Wp (s g) Q E) ∧ (b = false → Wp (t g) Q E)) E) : Wp (sIf c s t γ) Q E := by
  unfold sIf
  refine wp_bind (h.imp fun b g h => ?_)
  cases b with
  | true => exact h.1 rfl
  | false => exact h.2 rfl
theorem wp_par {is : List Nat} {r : F (List AV)} (h : Wp (r γ) (fun as g => ∃ g2, putAll is as g = some g2 ∧ Q .nx g2) E) : Wp (sPar is r γ) Q E := by
  unfold sPar
  refine wp_bind (h.imp fun as g h => ?_)
  obtain ⟨g2, e, q⟩ := h
  rw [e]
  exact ⟨q⟩
theorem wp_asg {f : F D} {gt : GD} (h : Wp (f γ) (fun d g => ∃ g2, gt d g = some g2 ∧ Q .nx g2) E) : Wp (sAsg f gt γ) Q E := by
  unfold sAsg
  refine wp_bind (h.imp fun as g h => ?_)
  obtain ⟨g2, e, q⟩ := h
  rw [e]
  exact ⟨q⟩
theorem wp_frz {xs : List D} (e : γ[i]? = some (.own none (.lst xs))) (h : Wp (s (γ.set i (.val (.lst xs)))) Q E) : Wp (sFrz i s γ) Q E := by
  unfold sFrz frz
  rw [e]
  exact h
theorem wp_frzV {d : D} (e : γ[i]? = some (.val d)) (h : Wp (s γ) Q E) : Wp (sFrz i s γ) Q E := by
  unfold sFrz frz
  rw [e]
  exact h
theorem wp_setIx {fk fe : F D} (h : Wp (fe γ) (fun d g => (∃ q, oList i g = some q) ∧ Wp (fk g) (fun k g1 => ∃ t xs j n, oList i g1 = some (t, xs) ∧ k = .int j ∧ ixN xs.length j = some n ∧ Q .nx (g1.set i (.own t (.lst (xs.set n d))))) E) E) : Wp (sSetIx i fk fe γ) Q E := by
  unfold sSetIx
  refine wp_bind (h.imp fun d g h => ?_)
  obtain ⟨⟨q, e⟩, h⟩ := h
  rw [e]
  refine wp_bind (h.imp fun k g1 h => ?_)
  obtain ⟨t, xs, j, n, e1, rfl, e2, q⟩ := h
  simp only [e1, e2]
  exact ⟨q⟩
theorem wp_for {fi : F (List D)} {gt : GD} {b : F Fl} (h : Wp (fi γ) (fun xs g => Wp (forL gt b xs g) Q E) E) : Wp (sFor fi gt b γ) Q E := wp_bind h
/-- a loop, by what stands before each turn -/
theorem wp_forI {gt : GD} {b : F Fl} {xs : List D} (I : List D → Gm → Prop) (h0 : I xs γ) (hs : ∀ d ds g, I (d :: ds) g → ∃ g1, gt d g = some g1 ∧ Wp (b g1) (lpK (I ds) Q) E) (hq : ∀ g, I [] g → Q .nx g) : Wp (forL gt b xs γ) Q E := by
  induction xs generalizing γ with
  | nil => exact ⟨hq γ h0⟩
  | cons d ds ih =>
    obtain ⟨g1, e, w⟩ := hs d ds γ h0
    simp only [forL, e]
    generalize b g1 = m at w
    cases m with
    | ok f g =>
      have w := w.run
      cases f with
      | nx => exact ih w
      | ct => exact ih w
      | brk => exact ⟨w⟩
      | ret v => exact ⟨w⟩
    | ex e g => exact ⟨w.run⟩
    | st => exact w.run.elim
/-- the same, the turns in order -/
theorem wp_forN {gt : GD} {b : F Fl} {xs : List D} (I : Nat → Gm → Prop) (h0 : I 0 γ) (hs : ∀ k g d, k < xs.length → xs[k]? = some d → I k g → ∃ g1, gt d g = some g1 ∧ Wp (b g1) (lpK (I (k + 1)) Q) E) (hq : ∀ g, I xs.length g → Q .nx g) : Wp (forL gt b xs γ) Q E := by
  refine wp_forI (fun ds g => ∃ k, k + ds.length = xs.length ∧ ds = xs.drop k ∧ I k g) ⟨0, by simp, rfl, h0⟩ ?_ ?_
  · rintro d ds g ⟨k, e1, e2, h⟩
    have hk : k < xs.length := by rw [List.length_cons] at e1; omega
    have e3 : xs.drop k = xs[k] :: xs.drop (k + 1) := List.drop_eq_getElem_cons hk
    rw [e3] at e2
    cases e2
    obtain ⟨g1, e, w⟩ := hs k g xs[k] hk (List.getElem?_eq_getElem hk) h
    refine ⟨g1, e, w.imp fun f g z => ?_⟩
    cases f with
    | nx => exact ⟨k + 1, by rw [List.length_drop]; omega, rfl, z⟩
    | ct => exact ⟨k + 1, by rw [List.length_drop]; omega, rfl, z⟩
    | ret v => exact z
    | brk => exact z
  · rintro g ⟨k, e1, e2, h⟩
    have : k = xs.length := by simpa using e1
    subst this
    exact hq g h
theorem wp_while {c : F Bool} {b : F Fl} {n : Nat} (I : Nat → Gm → Prop) (m : Nat) (hm : m < n) (h0 : I m γ) (hs : ∀ k g, I k g → Wp (c g) (fun z g1 => (z = true → Wp (b g1) (lpK (fun g2 => ∃ k', k' < k ∧ I k' g2) Q) E) ∧ (z = false → Q .nx g1)) E) : Wp (whL c b n γ) Q E := by
  induction n generalizing m γ with
  | zero => omega
  | succ n ih =>
    have w := hs m γ h0
    unfold whL
    generalize c γ = mm at w
    cases mm with
    | ok z g1 => cases z with
      | true =>
        have w := w.run.1 rfl
        simp only
        generalize b g1 = m2 at w
        cases m2 with
        | ok f g =>
          have w := w.run
          cases f with
          | nx => obtain ⟨k', hk, w⟩ := w; exact ih k' (by omega) w
          | ct => obtain ⟨k', hk, w⟩ := w; exact ih k' (by omega) w
          | brk => exact ⟨w⟩
          | ret v => exact ⟨w⟩
        | ex e g => exact ⟨w.run⟩
        | st => exact w.run.elim
      | false => exact ⟨w.run.2 rfl⟩
    | ex e g => exact ⟨w.run⟩
    | st => exact w.run.elim
/-! methods of own lists -/
theorem wp_m1 {f : List D → D → Option (D × List D)} {fa : F D} {Q : D → Gm → Prop} (h : (∃ q, oList i γ = some q) ∧ Wp (fa γ) (fun d g => ∃ t xs r ys, oList i g = some (t, xs) ∧ f xs d = some (r, ys) ∧ Q r (g.set i (.own t (.lst ys)))) E) : Wp (fM1 i f fa γ) Q E := by
  obtain ⟨⟨q, e⟩, h⟩ := h
  unfold fM1
  rw [e]
  refine wp_bind (h.imp fun d g h => ?_)
  obtain ⟨t, xs, r, ys, e1, e2, q⟩ := h
  simp only [e1, e2]
  exact ⟨q⟩
theorem wp_app {fa : F D} {Q : D → Gm → Prop} (h : (∃ q, oList i γ = some q) ∧ Wp (fa γ) (fun d g => ∃ t xs, oList i g = some (t, xs) ∧ xs.length < sizeLine ∧ Q .non (g.set i (.own t (.lst (xs ++ [d]))))) E) : Wp (fM1 i gApp fa γ) Q E :=
  wp_m1 ⟨h.1, h.2.imp fun d g ⟨t, xs, e, hs, q⟩ => ⟨t, xs, .non, xs ++ [d], e, by unfold gApp; rw [if_pos hs], q⟩⟩
theorem wp_ext {fa : F D} {Q : D → Gm → Prop} (h : (∃ q, oList i γ = some q) ∧ Wp (fa γ) (fun d g => ∃ t xs ys, oList i g = some (t, xs) ∧ d = .lst ys ∧ xs.length + ys.length ≤ sizeLine ∧ Q .non (g.set i (.own t (.lst (xs ++ ys))))) E) : Wp (fM1 i gExt fa γ) Q E :=
  wp_m1 ⟨h.1, h.2.imp fun d g ⟨t, xs, ys, e, e2, hs, q⟩ => ⟨t, xs, .non, xs ++ ys, e, by subst e2; unfold gExt; simp only [hs, if_true], q⟩⟩
end
/-! ### calls -/
section
variable {γ g : Gm} {E : Ex → Gm → Prop} {N : Nat} {b : F Fl} {r : F (List AV)} {as : List AV}
def WpC (N : Nat) (b : F Fl) (as : List AV) (γ : Gm) (Q : RV → Gm → Prop) (E : Ex → Gm → Prop) : Prop := Wp (callR N b as γ) (fun v g => Q v.1 g) E
theorem wp_call {Q : D → Gm → Prop} (h : Wp (r γ) (fun as g => WpC N b as g (dK Q) E) E) : Wp (fCall N b r γ) Q E :=
  wp_bind (h.imp fun _ _ z => wp_bind (z.imp fun _ _ z => ⟨z⟩))
theorem wp_nCall {Q : MO → Gm → Prop} (h : Wp (r γ) (fun as g => WpC N b as g (fun v g2 => ∃ o, rvO v = some o ∧ Q o g2) E) E) : Wp (nCall N b r γ) Q E :=
  wp_bind (h.imp fun _ _ z => wp_bind (z.imp fun _ _ ⟨o, e, q⟩ => wp_lift e q))
theorem wp_mth {c : Nat} {nm : Str} {fo : F AV} {Q : D → Gm → Prop} (h : Wp (fo γ) (fun av g => ∃ fs, avC g av = some (c, fs) ∧ fs.lookup nm = none ∧ Wp (r g) (fun as g2 => (avC g2 av).map (·.1) = some c ∧ WpC N b (av :: as) g2 (dK Q) E) E) E) : Wp (fMth c nm N b fo r γ) Q E := by
  unfold fMth
  refine wp_bind (h.imp fun av g h => ?_)
  obtain ⟨fs, e1, e2, h⟩ := h
  simp only [e1, e2, and_self, if_true]
  refine wp_bind (h.imp fun as g2 h => ?_)
  obtain ⟨e3, h⟩ := h
  simp only [e3, if_true]
  exact wp_bind (h.imp fun _ _ z => ⟨z⟩)
theorem wp_prop {c : Nat} {fo : F AV} {Q : D → Gm → Prop} (h : Wp (fo γ) (fun av g => ∃ fs, avC g av = some (c, fs) ∧ WpC N b [av] g (dK Q) E0) E) : Wp (fProp c N b fo γ) Q E := by
  unfold fProp
  refine wp_bind (h.imp fun av g h => ?_)
  obtain ⟨fs, e1, h⟩ := h
  simp only [e1, if_true]
  unfold WpC at h
  generalize callR N b [av] g = m at h
  cases m
  · exact ⟨h.run⟩
  · exact h.run.elim
  · exact h.run.elim
theorem wp_vVar {i : Nat} {Q : AV → Gm → Prop} {x : D} (e : γ[i]? = some (.val x)) (h : Q (.d x) γ) : Wp (vVar i γ) Q E := by unfold vVar; rw [e]; exact ⟨h⟩
theorem wp_vVal {f : F D} {Q : AV → Gm → Prop} (h : Wp (f γ) (fun d g => Q (.d d) g) E) : Wp (vVal f γ) Q E := wp_bind (h.imp fun _ _ z => ⟨z⟩)
/-- the callee as it is -/
theorem wpc_in {Q : RV → Gm → Prop} {svs : List SV} (hb : bindA γ 0 as = some svs) (h : Wp (b (padG N svs)) (clK fun v g => ∃ γ2, backG g 0 as γ = some γ2 ∧ Q v γ2) (fun e g => ∃ γ2, backG g 0 as γ = some γ2 ∧ E e γ2)) : WpC N b as γ Q E := by
  unfold WpC callR
  rw [hb]
  simp only
  generalize b (padG N svs) = m at h
  cases m with
  | ok f g =>
    have h := h.run
    cases f with
    | nx => obtain ⟨g2, e, q⟩ := h; simp only [e]; exact ⟨q⟩
    | ret v => obtain ⟨g2, e, q⟩ := h; simp only [e]; exact ⟨q⟩
    | brk => exact h.elim
    | ct => exact h.elim
  | ex e g => obtain ⟨g2, e, q⟩ := h.run; simp only [e]; exact ⟨q⟩
  | st => exact h.run.elim
theorem bind_d {γ : Gm} : ∀ {as : List AV} {ds : List D} {k : Nat}, allD as = some ds → bindA γ k as = some (ds.map .val)
  | [], ds, k, e => by cases e; rfl
  | .d x :: as, ds, k, e => by
    simp only [allD] at e
    obtain ⟨es, e1, rfl⟩ := Option.map_eq_some_iff.mp e
    simp only [bindA, bind_d e1, Option.map_some, List.map_cons]
  | .n _ :: as, ds, k, e => by cases e
  | .w _ :: as, ds, k, e => by cases e
  | .s _ :: as, ds, k, e => by cases e
theorem back_d {g γ : Gm} : ∀ {as : List AV} {ds : List D} {k : Nat}, allD as = some ds → backG g k as γ = some γ
  | [], ds, k, e => rfl
  | .d x :: as, ds, k, e => by
    simp only [allD] at e
    obtain ⟨es, e1, rfl⟩ := Option.map_eq_some_iff.mp e
    simp only [backG, back_d e1]
  | .n _ :: as, ds, k, e => by cases e
  | .w _ :: as, ds, k, e => by cases e
  | .s _ :: as, ds, k, e => by cases e
/-- what a def of data answers -/
structure Rt (N : Nat) (b : F Fl) (ds : List D) (v : D) : Prop where
  run : ∃ g, b (padG N (ds.map .val)) = .ok (.ret (.val v)) g
theorem Rt.of {ds : List D} {v : D} (h : Wp (b (padG N (ds.map .val))) (fun f _ => f = .ret (.val v)) E0) : Rt N b ds v := by
  obtain ⟨f, g, e, rfl⟩ := h.out
  exact ⟨⟨g, e⟩⟩
theorem wpc_rt {Q : RV → Gm → Prop} {ds : List D} {v : D} (h : Rt N b ds v) (ha : allD as = some ds) (q : Q (.val v) γ) : WpC N b as γ Q E := by
  obtain ⟨g, e⟩ := h.run
  refine wpc_in (bind_d ha) ?_
  rw [e]
  exact ⟨γ, back_d ha, q⟩
/-- a def with the pen ahead -/
def Pen (xs : List D) : Prop := ∃ a b c : Int, xs = [.int a, .int b, .int c]
structure Dr (N : Nat) (b : F Fl) (ds : List D) (P : D → Prop) : Prop where
  run : ∀ t xs, Pen xs → Wp (b (padG N (.own t (.lst xs) :: ds.map .val))) (fun f g => ∃ v xs' r, f = .ret (.val v) ∧ g = .own t (.lst xs') :: r ∧ Pen xs' ∧ P v) E0
theorem Dr.of {N : Nat} {b : F Fl} {ds : List D} {P : D → Prop} (h : ∀ t xs, Pen xs → Wp (b (padG N (.own t (.lst xs) :: ds.map .val))) (fun f g => ∃ v xs' r, f = .ret (.val v) ∧ g = .own t (.lst xs') :: r ∧ Pen xs' ∧ P v) E0) : Dr N b ds P := ⟨h⟩
theorem wpc_dr {Q : RV → Gm → Prop} {ds : List D} {P : D → Prop} {i : Nat} {t : Option Nat} {xs : List D} (h : Dr N b ds P) (ha : allD as = some ds) (hi : γ[i]? = some (.own t (.lst xs))) (hp : Pen xs) (q : ∀ v xs', Pen xs' → P v → Q (.val v) (γ.set i (.own t (.lst xs')))) : WpC N b (.s i :: as) γ Q E := by
  have ns : i ∉ slotsOf as := by
    rw [allD_eq ha]
    clear ha h
    induction ds with
    | nil => simp [slotsOf]
    | cons d ds ih => simpa [slotsOf] using ih
  refine wpc_in (svs := .own (some 0) (.lst xs) :: ds.map .val) (by simp only [bindA, hi, if_neg ns, bind_d ha, Option.map_some]) ?_
  refine (h.run (some 0) xs hp).imp (fun f g z => ?_) fun _ _ z => z.elim
  obtain ⟨v, xs', r, rfl, rfl, hp', pv⟩ := z
  exact ⟨_, by simp only [backG, List.getElem?_cons_zero, hi, if_true, back_d ha], q v xs' hp' pv⟩
end
/-! ### small words -/
theorem wp_ex {β : Type} {o : Option β} {y : β} {Q : β → Prop} (e : o = some y) (h : Q y) : ∃ y, o = some y ∧ Q y := ⟨y, e, h⟩
theorem wp_exb {b : Bool} {Q : Bool → Prop} (h : Q b) : ∃ b', D.bl b = .bl b' ∧ Q b' := ⟨b, rfl, h⟩
theorem wp_exP {γ β : Type} {c : γ} {o : Option (γ × β)} {y : β} {Q : β → Prop} (e : o = some (c, y)) (h : Q y) : ∃ y, o = some (c, y) ∧ Q y := ⟨y, e, h⟩
theorem ifTt {A B : Prop} (h : A) : (true = true → A) ∧ (true = false → B) := ⟨fun _ => h, fun z => nomatch z⟩
theorem ifFf {A B : Prop} (h : B) : (false = true → A) ∧ (false = false → B) := ⟨fun z => (nomatch z), fun _ => h⟩
theorem ifNt {A B : Prop} (h : B) : ((!true) = true → A) ∧ ((!true) = false → B) := ⟨fun z => (nomatch z), fun _ => h⟩
theorem ifNf {A B : Prop} (h : A) : ((!false) = true → A) ∧ ((!false) = false → B) := ⟨fun _ => h, fun z => nomatch z⟩
theorem ifd {p : Prop} [Decidable p] {A B : Prop} (h1 : p → A) (h2 : ¬ p → B) : (decide p = true → A) ∧ (decide p = false → B) := ⟨fun z => h1 (of_decide_eq_true z), fun z => h2 (of_decide_eq_false z)⟩
theorem ifn {p : Prop} [Decidable p] {A B : Prop} (h1 : ¬ p → A) (h2 : p → B) : ((!decide p) = true → A) ∧ ((!decide p) = false → B) := ⟨fun z => h1 (by simpa using z), fun z => h2 (by simpa using z)⟩
theorem ifY {b : Bool} {A B : Prop} (e : b = true) (h : A) : (b = true → A) ∧ (b = false → B) := ⟨fun _ => h, fun z => by rw [e] at z; cases z⟩
theorem ifN {b : Bool} {A B : Prop} (e : b = false) (h : B) : (b = true → A) ∧ (b = false → B) := ⟨fun z => by (rw [e] at z; cases z), fun _ => h⟩
theorem len_sz {α : Type} {l : List α} (h : l.length ≤ 64) : l.length ≤ sizeLine := by rw [sizeLine_eq]; omega
theorem len_szN {n : Nat} (h : n ≤ 10000000) : n ≤ sizeLine := by rw [sizeLine_eq]; omega
theorem lt_szN {n : Nat} (h : n < 10000000) : n < sizeLine := by rw [sizeLine_eq]; omega
theorem wp_sz {α : Type} {l : List α} {Q : Prop} (h : l.length ≤ 64) (q : Q) : l.length ≤ sizeLine ∧ Q := ⟨len_sz h, q⟩
theorem gt_nm {i : Nat} {d : D} {γ : Gm} : gNm i d γ = some (γ.set i (.val d)) := rfl
theorem gt_2 {i j : Nat} {x y : D} {γ : Gm} : gTupD 2 (gsCons (gNm i) (gsCons (gNm j) gsNil)) (.tup [x, y]) γ = some ((γ.set i (.val x)).set j (.val y)) := rfl
theorem gt_2l {i j : Nat} {p : Int × Int} {γ : Gm} : gTupD 2 (gsCons (gNm i) (gsCons (gNm j) gsNil)) (limD p) γ = some ((γ.set i (.val (.int p.1))).set j (.val (.int p.2))) := rfl
theorem wp_chain {γ : Gm} {E : Ex → Gm → Prop} {Q : D → Gm → Prop} {k1 k2 : D → D → Option D} {fa fb fc : F D} (h : Wp (fa γ) (fun x g => Wp (fb g) (fun y g2 => ∃ b, k1 x y = some (.bl b) ∧ ((b = true → Wp (fc g2) (fun z g3 => ∃ w, k2 y z = some w ∧ Q w g3) E) ∧ (b = false → Q (.bl false) g2))) E) E) : Wp (fChain k1 k2 fa fb fc γ) Q E := by
  unfold fChain
  refine wp_bind (h.imp fun x g h => wp_bind (h.imp fun y g2 h => ?_))
  obtain ⟨b, e, h1, h2⟩ := h
  rw [e]
  cases b with
  | true => exact wp_bind ((h1 rfl).imp fun _ _ z => wp_liftE z)
  | false => exact ⟨h2 rfl⟩
theorem wp_exbl {o : Option D} {b : Bool} {Q : Bool → Prop} (e : o = some (.bl b)) (h : Q b) : ∃ b, o = some (.bl b) ∧ Q b := ⟨b, e, h⟩
theorem wp_or {γ : Gm} {E : Ex → Gm → Prop} {Q : D → Gm → Prop} {fa fb : F D} (h : Wp (fa γ) (fun x g => ∃ b, dTruth x = some b ∧ ((b = true → Q x g) ∧ (b = false → Wp (fb g) Q E))) E) : Wp (vOr fa fb γ) Q E := by
  unfold vOr
  refine wp_bind (h.imp fun x g h => ?_)
  obtain ⟨b, e, h1, h2⟩ := h
  rw [e]
  cases b with
  | true => exact ⟨h1 rfl⟩
  | false => exact h2 rfl
/-! what the operations give -/
theorem q_add {i j : Int} : dAdd (.int i) (.int j) = some (.int (i + j)) := rfl
theorem q_sub {i j : Int} : dSub (.int i) (.int j) = some (.int (i - j)) := rfl
theorem q_lt {i j : Int} : dLt (.int i) (.int j) = some (.bl (decide (i < j))) := rfl
theorem q_le {i j : Int} : dLe (.int i) (.int j) = some (.bl (decide (i ≤ j))) := rfl
theorem q_gt {i j : Int} : dGt (.int i) (.int j) = some (.bl (decide (j < i))) := rfl
theorem q_ge {i j : Int} : dGe (.int i) (.int j) = some (.bl (decide (j ≤ i))) := rfl
theorem q_max2 {i j : Int} : dMax2 (.int i) (.int j) = some (.int (if j > i then j else i)) := rfl
theorem q_min2 {i j : Int} : dMin2 (.int i) (.int j) = some (.int (if j < i then j else i)) := rfl
theorem q_neg {i : Int} : dNeg (.int i) = some (.int (-i)) := rfl
theorem q_bl {b : Bool} : dBl (.bl b) = some b := rfl
theorem q_not {b : Bool} : vNot (.bl b) = some (.bl (!b)) := rfl
theorem q_trB {b : Bool} : dTruth (.bl b) = some b := rfl
theorem q_trI {i : Int} : dTruth (.int i) = some (i != 0) := rfl
theorem q_trL {xs : List D} : dTruth (.lst xs) = some (!xs.isEmpty) := rfl
theorem q_trT {xs : List D} : dTruth (.tup xs) = some (!xs.isEmpty) := rfl
theorem q_lenL {xs : List D} : dLen (.lst xs) = some (.int xs.length) := rfl
theorem q_lenT {xs : List D} : dLen (.tup xs) = some (.int xs.length) := rfl
theorem q_itL {xs : List D} : dItems (.lst xs) = some xs := rfl
theorem q_itT {xs : List D} : dItems (.tup xs) = some xs := rfl
theorem q_int {i : Int} : dInt (.int i) = some i := rfl
theorem q_tupL {xs : List D} : dTuple (.lst xs) = some (.tup xs) := rfl
theorem q_tupT {xs : List D} : dTuple (.tup xs) = some (.tup xs) := rfl
theorem q_lstL {xs : List D} : (dList (.lst xs)).map MO.lst = some (.lst xs) := rfl
theorem q_lstT {xs : List D} : (dList (.tup xs)).map MO.lst = some (.lst xs) := rfl
theorem q_isN_non : dIsN .non = some (.bl true) := rfl
theorem q_notN_non : dNotN .non = some (.bl false) := rfl
theorem q_isNB_non : dIsNB .non = some true := rfl
theorem q_notNB_non : dNotNB .non = some false := rfl
theorem q_i_int_non {fc : Nat → Option Bool} : (dIsi (isiB "int") fc .non).map D.bl = some (.bl false) := by simp only [dIsi, show isiB "int" "NoneType" = some false from by decide, Option.map_some]
theorem q_i_bool_non {fc : Nat → Option Bool} : (dIsi (isiB "bool") fc .non).map D.bl = some (.bl false) := by simp only [dIsi, show isiB "bool" "NoneType" = some false from by decide, Option.map_some]
theorem q_i_str_non {fc : Nat → Option Bool} : (dIsi (isiB "str") fc .non).map D.bl = some (.bl false) := by simp only [dIsi, show isiB "str" "NoneType" = some false from by decide, Option.map_some]
theorem q_i_tuple_non {fc : Nat → Option Bool} : (dIsi (isiB "tuple") fc .non).map D.bl = some (.bl false) := by simp only [dIsi, show isiB "tuple" "NoneType" = some false from by decide, Option.map_some]
theorem q_i_list_non {fc : Nat → Option Bool} : (dIsi (isiB "list") fc .non).map D.bl = some (.bl false) := by simp only [dIsi, show isiB "list" "NoneType" = some false from by decide, Option.map_some]
theorem q_isN_bl {b : Bool} : dIsN (.bl b) = some (.bl false) := rfl
theorem q_notN_bl {b : Bool} : dNotN (.bl b) = some (.bl true) := rfl
theorem q_isNB_bl {b : Bool} : dIsNB (.bl b) = some false := rfl
theorem q_notNB_bl {b : Bool} : dNotNB (.bl b) = some true := rfl
theorem q_i_int_bl {b : Bool} {fc : Nat → Option Bool} : (dIsi (isiB "int") fc (.bl b)).map D.bl = some (.bl true) := by simp only [dIsi, show isiB "int" "bool" = some true from by decide, Option.map_some]
theorem q_i_bool_bl {b : Bool} {fc : Nat → Option Bool} : (dIsi (isiB "bool") fc (.bl b)).map D.bl = some (.bl true) := by simp only [dIsi, show isiB "bool" "bool" = some true from by decide, Option.map_some]
theorem q_i_str_bl {b : Bool} {fc : Nat → Option Bool} : (dIsi (isiB "str") fc (.bl b)).map D.bl = some (.bl false) := by simp only [dIsi, show isiB "str" "bool" = some false from by decide, Option.map_some]
theorem q_i_tuple_bl {b : Bool} {fc : Nat → Option Bool} : (dIsi (isiB "tuple") fc (.bl b)).map D.bl = some (.bl false) := by simp only [dIsi, show isiB "tuple" "bool" = some false from by decide, Option.map_some]
theorem q_i_list_bl {b : Bool} {fc : Nat → Option Bool} : (dIsi (isiB "list") fc (.bl b)).map D.bl = some (.bl false) := by simp only [dIsi, show isiB "list" "bool" = some false from by decide, Option.map_some]
theorem q_isN_int {i : Int} : dIsN (.int i) = some (.bl false) := rfl
theorem q_notN_int {i : Int} : dNotN (.int i) = some (.bl true) := rfl
theorem q_isNB_int {i : Int} : dIsNB (.int i) = some false := rfl
theorem q_notNB_int {i : Int} : dNotNB (.int i) = some true := rfl
theorem q_i_int_int {i : Int} {fc : Nat → Option Bool} : (dIsi (isiB "int") fc (.int i)).map D.bl = some (.bl true) := by simp only [dIsi, show isiB "int" "int" = some true from by decide, Option.map_some]
theorem q_i_bool_int {i : Int} {fc : Nat → Option Bool} : (dIsi (isiB "bool") fc (.int i)).map D.bl = some (.bl false) := by simp only [dIsi, show isiB "bool" "int" = some false from by decide, Option.map_some]
theorem q_i_str_int {i : Int} {fc : Nat → Option Bool} : (dIsi (isiB "str") fc (.int i)).map D.bl = some (.bl false) := by simp only [dIsi, show isiB "str" "int" = some false from by decide, Option.map_some]
theorem q_i_tuple_int {i : Int} {fc : Nat → Option Bool} : (dIsi (isiB "tuple") fc (.int i)).map D.bl = some (.bl false) := by simp only [dIsi, show isiB "tuple" "int" = some false from by decide, Option.map_some]
theorem q_i_list_int {i : Int} {fc : Nat → Option Bool} : (dIsi (isiB "list") fc (.int i)).map D.bl = some (.bl false) := by simp only [dIsi, show isiB "list" "int" = some false from by decide, Option.map_some]
theorem q_isN_str {x : Str} : dIsN (.str x) = some (.bl false) := rfl
theorem q_notN_str {x : Str} : dNotN (.str x) = some (.bl true) := rfl
theorem q_isNB_str {x : Str} : dIsNB (.str x) = some false := rfl
theorem q_notNB_str {x : Str} : dNotNB (.str x) = some true := rfl
theorem q_i_int_str {x : Str} {fc : Nat → Option Bool} : (dIsi (isiB "int") fc (.str x)).map D.bl = some (.bl false) := by simp only [dIsi, show isiB "int" "str" = some false from by decide, Option.map_some]
theorem q_i_bool_str {x : Str} {fc : Nat → Option Bool} : (dIsi (isiB "bool") fc (.str x)).map D.bl = some (.bl false) := by simp only [dIsi, show isiB "bool" "str" = some false from by decide, Option.map_some]
theorem q_i_str_str {x : Str} {fc : Nat → Option Bool} : (dIsi (isiB "str") fc (.str x)).map D.bl = some (.bl true) := by simp only [dIsi, show isiB "str" "str" = some true from by decide, Option.map_some]
theorem q_i_tuple_str {x : Str} {fc : Nat → Option Bool} : (dIsi (isiB "tuple") fc (.str x)).map D.bl = some (.bl false) := by simp only [dIsi, show isiB "tuple" "str" = some false from by decide, Option.map_some]
theorem q_i_list_str {x : Str} {fc : Nat → Option Bool} : (dIsi (isiB "list") fc (.str x)).map D.bl = some (.bl false) := by simp only [dIsi, show isiB "list" "str" = some false from by decide, Option.map_some]
theorem q_isN_lst {xs : List D} : dIsN (.lst xs) = some (.bl false) := rfl
theorem q_notN_lst {xs : List D} : dNotN (.lst xs) = some (.bl true) := rfl
theorem q_isNB_lst {xs : List D} : dIsNB (.lst xs) = some false := rfl
theorem q_notNB_lst {xs : List D} : dNotNB (.lst xs) = some true := rfl
theorem q_i_int_lst {xs : List D} {fc : Nat → Option Bool} : (dIsi (isiB "int") fc (.lst xs)).map D.bl = some (.bl false) := by simp only [dIsi, show isiB "int" "list" = some false from by decide, Option.map_some]
theorem q_i_bool_lst {xs : List D} {fc : Nat → Option Bool} : (dIsi (isiB "bool") fc (.lst xs)).map D.bl = some (.bl false) := by simp only [dIsi, show isiB "bool" "list" = some false from by decide, Option.map_some]
theorem q_i_str_lst {xs : List D} {fc : Nat → Option Bool} : (dIsi (isiB "str") fc (.lst xs)).map D.bl = some (.bl false) := by simp only [dIsi, show isiB "str" "list" = some false from by decide, Option.map_some]
theorem q_i_tuple_lst {xs : List D} {fc : Nat → Option Bool} : (dIsi (isiB "tuple") fc (.lst xs)).map D.bl = some (.bl false) := by simp only [dIsi, show isiB "tuple" "list" = some false from by decide, Option.map_some]
theorem q_i_list_lst {xs : List D} {fc : Nat → Option Bool} : (dIsi (isiB "list") fc (.lst xs)).map D.bl = some (.bl true) := by simp only [dIsi, show isiB "list" "list" = some true from by decide, Option.map_some]
theorem q_isN_tup {xs : List D} : dIsN (.tup xs) = some (.bl false) := rfl
theorem q_notN_tup {xs : List D} : dNotN (.tup xs) = some (.bl true) := rfl
theorem q_isNB_tup {xs : List D} : dIsNB (.tup xs) = some false := rfl
theorem q_notNB_tup {xs : List D} : dNotNB (.tup xs) = some true := rfl
theorem q_i_int_tup {xs : List D} {fc : Nat → Option Bool} : (dIsi (isiB "int") fc (.tup xs)).map D.bl = some (.bl false) := by simp only [dIsi, show isiB "int" "tuple" = some false from by decide, Option.map_some]
theorem q_i_bool_tup {xs : List D} {fc : Nat → Option Bool} : (dIsi (isiB "bool") fc (.tup xs)).map D.bl = some (.bl false) := by simp only [dIsi, show isiB "bool" "tuple" = some false from by decide, Option.map_some]
theorem q_i_str_tup {xs : List D} {fc : Nat → Option Bool} : (dIsi (isiB "str") fc (.tup xs)).map D.bl = some (.bl false) := by simp only [dIsi, show isiB "str" "tuple" = some false from by decide, Option.map_some]
theorem q_i_tuple_tup {xs : List D} {fc : Nat → Option Bool} : (dIsi (isiB "tuple") fc (.tup xs)).map D.bl = some (.bl true) := by simp only [dIsi, show isiB "tuple" "tuple" = some true from by decide, Option.map_some]
theorem q_i_list_tup {xs : List D} {fc : Nat → Option Bool} : (dIsi (isiB "list") fc (.tup xs)).map D.bl = some (.bl false) := by simp only [dIsi, show isiB "list" "tuple" = some false from by decide, Option.map_some]
theorem q_fld {c : Nat} {f : Str} {x : D} {r : List (Str × D)} : dFld [c] f (.ins c ((f, x) :: r)) = some x := by simp [dFld, List.lookup]
theorem q_al0 : allD [] = some [] := rfl
theorem q_al1 {x0 : D} : allD [.d x0] = some [x0] := rfl
theorem q_al2 {x0 x1 : D} : allD [.d x0, .d x1] = some [x0, x1] := rfl
theorem q_al3 {x0 x1 x2 : D} : allD [.d x0, .d x1, .d x2] = some [x0, x1, x2] := rfl
theorem q_al4 {x0 x1 x2 x3 : D} : allD [.d x0, .d x1, .d x2, .d x3] = some [x0, x1, x2, x3] := rfl
theorem q_al5 {x0 x1 x2 x3 x4 : D} : allD [.d x0, .d x1, .d x2, .d x3, .d x4] = some [x0, x1, x2, x3, x4] := rfl
theorem q_al6 {x0 x1 x2 x3 x4 x5 : D} : allD [.d x0, .d x1, .d x2, .d x3, .d x4, .d x5] = some [x0, x1, x2, x3, x4, x5] := rfl
theorem q_al7 {x0 x1 x2 x3 x4 x5 x6 : D} : allD [.d x0, .d x1, .d x2, .d x3, .d x4, .d x5, .d x6] = some [x0, x1, x2, x3, x4, x5, x6] := rfl
theorem q_al8 {x0 x1 x2 x3 x4 x5 x6 x7 : D} : allD [.d x0, .d x1, .d x2, .d x3, .d x4, .d x5, .d x6, .d x7] = some [x0, x1, x2, x3, x4, x5, x6, x7] := rfl
theorem wp_lk1 {nm f : Str} {x : D} {W : Prop} (e : (nm == f) = false) (h : W) : List.lookup nm [(f, x)] = none ∧ W := ⟨by simp only [List.lookup, e], h⟩
theorem wp_lk2 {nm f f2 : Str} {x x2 : D} {W : Prop} (e : (nm == f) = false) (e2 : (nm == f2) = false) (h : W) : List.lookup nm [(f, x), (f2, x2)] = none ∧ W := ⟨by simp only [List.lookup, e, e2], h⟩
theorem wp_lk3 {nm f f2 f3 : Str} {x x2 x3 : D} {W : Prop} (e : (nm == f) = false) (e2 : (nm == f2) = false) (e3 : (nm == f3) = false) (h : W) : List.lookup nm [(f, x), (f2, x2), (f3, x3)] = none ∧ W := ⟨by simp only [List.lookup, e, e2, e3], h⟩
theorem wp_avm {g : Gm} {av : AV} {c : Nat} {W : Prop} (e : (avC g av).map (fun x => x.1) = some c) (h : W) : (avC g av).map (fun x => x.1) = some c ∧ W := ⟨e, h⟩
theorem q_rvO {o : MO} : rvO (.own o) = some o := rfl
end FC

namespace FC
open PySem PySem.Spec PyProof.Rows L2

/-! ### the text of data: it is there, it is not too long -/
mutual
/-- how long the text can be -/
def tcost : PyData → Nat
  | .none => 4
  | .bool _ => 5
  | .int _ => 101
  | .str x => 10 * x.length + 2
  | .list xs => 2 + tcostL xs
  | .tuple xs => 3 + tcostL xs
  | .dict _ => 0
def tcostL : List PyData → Nat
  | [] => 0
  | x :: xs => tcost x + 2 + tcostL xs
end
mutual
/-- small numbers, plain signs -/
def tfine : PyData → Prop
  | .int i => i.natAbs.log2 < 100
  | .str x => ∀ c ∈ x.cps.toList, c < 16 ^ 8
  | .list xs => tfineL xs
  | .tuple xs => tfineL xs
  | .dict _ => False
  | _ => True
def tfineL : List PyData → Prop
  | [] => True
  | x :: xs => tfine x ∧ tfineL xs
end
theorem strLen_add (x y : Str) : (x ++ y).length = x.length + y.length := strLen_append x y
theorem textFrom_le : ∀ (ts : List Str) (k : Nat) (acc : Str), (textFrom k acc ts).length ≤ acc.length + (ts.map fun t => t.length + 2).sum
  | [], k, acc => by simp [textFrom]
  | t :: r, k, acc => by
    have h := textFrom_le r (k + 1) (acc ++ (if k > 0 then ", " else "" : String) ++ t)
    have e : (acc ++ (if k > 0 then ", " else "" : String) ++ t).length ≤ acc.length + 2 + t.length := by
      rw [strLen_add, strLen_add]
      split <;> simp <;> decide
    simp only [textFrom, List.map_cons, List.sum_cons]
    omega
theorem join_le (sep : Str) : ∀ ts : List Str, (Str.join sep ts).length ≤ (ts.map fun t => t.length + sep.length).sum
  | [] => Nat.zero_le _
  | [x] => by simp [Str.join]
  | x :: y :: r => by
    have h := join_le sep (y :: r)
    show (x ++ sep ++ Str.join sep (y :: r)).length ≤ _
    rw [strLen_add, strLen_add, List.map_cons, List.sum_cons]
    omega
mutual
theorem tfine_shown : ∀ p : PyData, tfine p → p.showable = true ∧ p.shown.length ≤ tcost p
  | .none, _ => ⟨rfl, by decide⟩
  | .bool b, _ => ⟨rfl, by cases b <;> decide⟩
  | .int i, h => by
    have h : i.natAbs.log2 < 100 := h
    refine ⟨by simp only [PyData.showable, decide_eq_true_eq]; omega, ?_⟩
    have := int_text_length_le (a := i) (k := 100) (by decide) h
    simp only [PyData.shown, tcost]
    rw [PySem.ofString_length]
    exact this
  | .str x, h => ⟨rfl, by simp only [PyData.shown, tcost]; exact StrLaws.reprText_len x h⟩
  | .list xs, h => by
    obtain ⟨h1, h2⟩ := tfineL_shown xs h
    refine ⟨by simp only [PyData.showable, h1], ?_⟩
    have e := textFrom_le (PyData.shownAll xs) 0 "["
    simp only [PyData.shown, listText, tcost, strLen_add]
    have e1 : (("[" : String) : Str).length = 1 := by decide
    have e2 : (("]" : String) : Str).length = 1 := by decide
    omega
  | .tuple xs, h => by
    obtain ⟨h1, h2⟩ := tfineL_shown xs h
    refine ⟨by simp only [PyData.showable, h1], ?_⟩
    have e := join_le (", " : String) (PyData.shownAll xs)
    simp only [PyData.shown, tupleText, tcost, strLen_add]
    have e1 : (("(" : String) : Str).length = 1 := by decide
    have e3 : ((", " : String) : Str).length = 2 := by decide
    have e2 : ((if (PyData.shownAll xs).length == 1 then ",)" else ")" : String) : Str).length ≤ 2 := by split <;> decide
    rw [e3] at e
    omega
  | .dict _, h => h.elim
theorem tfineL_shown : ∀ ps : List PyData, tfineL ps → PyData.showableAll ps = true ∧ ((PyData.shownAll ps).map fun t => t.length + 2).sum ≤ tcostL ps
  | [], _ => ⟨rfl, Nat.le_refl _⟩
  | x :: xs, h => by
    obtain ⟨h1, h2⟩ := tfine_shown x h.1
    obtain ⟨h3, h4⟩ := tfineL_shown xs h.2
    refine ⟨by simp only [PyData.showableAll, h1, h3, Bool.and_self], ?_⟩
    simp only [PyData.shownAll, List.map_cons, List.sum_cons, tcostL]
    omega
end
/-- what repr gives -/
theorem dRepr_fine {d : D} {p : PyData} (e : d.data = some p) (h : tfine p) (hd : p.depth ≤ 100) (hc : tcost p ≤ 10000000) : dRepr d = some (.str p.shown) := by
  obtain ⟨h1, h2⟩ := tfine_shown p h
  unfold dRepr shownD
  rw [e, Option.bind_some, if_pos ⟨h1, hd, len_szN (by omega)⟩]
  rfl
theorem dEq_str (x y : Str) : dEq (.str x) (.str y) = some (.bl (decide (x = y))) := by
  unfold dEq
  simp only [D.data]
  rw [if_pos (by simp [PyData.depth])]
  have : PyData.eqv (.str x) (.str y) = decide (x = y) := by
    by_cases h : x = y
    · subst h; simp [PyData.eqv]
    · simp [PyData.eqv, h]
  rw [this]
theorem dNe_str (x y : Str) : dNe (.str x) (.str y) = some (.bl (!decide (x = y))) := by
  unfold dNe
  simp only [D.data]
  rw [if_pos (by simp [PyData.depth])]
  have : PyData.eqv (.str x) (.str y) = decide (x = y) := by
    by_cases h : x = y
    · subst h; simp [PyData.eqv]
    · simp [PyData.eqv, h]
  rw [this]
theorem log2_lt {i : Int} (h : i.natAbs < 2 ^ 99) : i.natAbs.log2 < 100 := by
  by_cases c : i.natAbs = 0
  · rw [c]; decide
  · exact Nat.lt_succ_of_lt ((Nat.log2_lt c).mpr h)
theorem tfine_int {i : Int} (h : -1000000000000000000000 < i ∧ i < 1000000000000000000000) : tfine (.int i) := log2_lt (by
  have : (2 : Nat) ^ 99 = 633825300114114700748351602688 := by decide
  omega)
end FC

namespace FC
open PySem PySem.Spec PyProof.Rows L2

/-! ### the script looked at -/
theorem slist_of {ns : List Int} {sv : SV} {γ : Gm} {i : Nat} (h : SvScript ns sv) (h0 : γ[i]? = some sv) : sList i γ = .ok (ns.map D.int) γ := by
  unfold sList
  rw [h0]
  rcases h with rfl | rfl <;> rfl
section
variable {γ : Gm} {E : Ex → Gm → Prop} {Q : D → Gm → Prop} {ns : List Int} {sv : SV} {i : Nat}
theorem wp_seeLen (h : SvScript ns sv) (h0 : γ[i]? = some sv) (q : Q (.int ns.length) γ) : Wp (fSeeLen i γ) Q E := by
  unfold fSeeLen
  rw [bindA_, slist_of h h0]
  simp only [List.length_map]
  exact ⟨q⟩
theorem wp_seeIx {fb : F D} (h : SvScript ns sv) (h0 : γ[i]? = some sv) (q : Wp (fb γ) (fun y g => ∃ (k : Nat) (z : Int), y = .int k ∧ ns[k]? = some z ∧ Q (.int z) g) E) : Wp (fSeeIx i fb γ) Q E := by
  unfold fSeeIx
  rw [bindA_, slist_of h h0]
  simp only
  refine wp_bind (q.imp fun y g h => ?_)
  obtain ⟨k, z, rfl, e, q⟩ := h
  refine wp_lift (a := .int z) (atI_nat rfl ?_) q
  rw [List.getElem?_map, e]
  rfl
end
/-! ### the frame of a law -/
theorem cut_ints {ns : List Int} {lo hi : Option Int} : ∃ zs : List Int, FC.cutD (ns.map D.int) lo hi = zs.map D.int := ⟨(ns.drop (HT.sIx (ns.map D.int).length 0 lo)).take (HT.sIx (ns.map D.int).length (ns.map D.int).length hi - HT.sIx (ns.map D.int).length 0 lo), by
  unfold FC.cutD
  rw [← List.map_drop, ← List.map_take]⟩
theorem cut_len {ns : List Int} {lo hi : Option Int} : (FC.cutD (ns.map D.int) lo hi).length ≤ ns.length := by
  unfold FC.cutD
  rw [List.length_take, List.length_drop, List.length_map]
  omega
/-- a def that reads a cell of the script -/
def CellOk (cell : F Fl) : Prop := ∀ (ns : List Int) (sv : SV) (k : Nat), SvScript ns sv → ∃ z : Int, cell [sv, .val (.int k)] = .ok (.ret (.val (.int z))) [sv, .val (.int k)]
section
variable {γ : Gm} {E : Ex → Gm → Prop} {cell : F Fl} {ns : List Int} {sv : SV}
theorem wp_cell {Q : D → Gm → Prop} {r : F (List AV)} {k : Nat} (hc : CellOk cell) (h : SvScript ns sv) (h0 : γ[0]? = some sv) (hr : r γ = .ok [.d (.int k)] γ) (q : ∀ z : Int, Q (.int z) γ) : Wp (fCall 2 cell (aVar 0 r) γ) Q E := by
  obtain ⟨z, e⟩ := hc ns sv k h
  refine wp_ok (a := .int z) (g := γ) ?_ (q z)
  rcases h with rfl | rfl
  · refine oCall (as := [.w (ns.map D.int), .d (.int k)]) (g := γ) (v := (.val (.int z), [.view (ns.map D.int), .val (.int k)])) ?_ (by simp [callR, bindA, padG, e, backG])
    unfold aVar
    rw [h0]
    simp only [bindA_, hr]
  · refine oCall (as := [.d (.lst (ns.map D.int)), .d (.int k)]) (g := γ) (v := (.val (.int z), [.val (.lst (ns.map D.int)), .val (.int k)])) ?_ (by simp [callR, bindA, padG, e, backG])
    unfold aVar
    rw [h0]
    simp only [bindA_, hr]
theorem wp_cells {Q : List D → Gm → Prop} (hc : CellOk cell) (hl : ns.length ≤ 63) (h : SvScript ns sv) (h0 : γ[0]? = some sv) (q : ∀ zs : List Int, Q (zs.map .int) γ) : Wp (iSeqF (f2 dAdd (fD (nLst (aVal (fCall 2 cell (aVar 0 (aVal (f0 (.int 0)) aNil))) aNil))) (fSeeSl 0 1 3)) γ) Q E := by
  refine wp_iSeq (wp_f2 (wp_fD (wp_nLst (wp_aVal (wp_cell (k := 0) hc h h0 rfl fun z => wp_aNil ⟨[.int z], rfl, len_sz (by simp), ?_⟩)))))
  have hs : sList 0 γ = .ok (ns.map D.int) γ := by
    unfold sList
    rw [h0]
    rcases h with rfl | rfl <;> rfl
  refine ok_lst (wp_ok (a := .lst (FC.cutD (ns.map D.int) (some 1) (some 3))) (g := γ) (by unfold fSeeSl; rw [bindA_, hs]) ?_)
  obtain ⟨zs, e⟩ := cut_ints (ns := ns) (lo := some 1) (hi := some 3)
  have l := cut_len (ns := ns) (lo := some 1) (hi := some 3)
  rw [e] at l ⊢
  rw [List.length_map] at l
  refine ⟨.lst (.int z :: zs.map D.int), ?_, _, rfl, q (z :: zs)⟩
  unfold dAdd
  simp only
  rw [if_pos (len_szN (by simp; omega))]
  rfl
end
end FC

namespace FC
open PySem PySem.Spec PyProof.Rows L2

section
variable {C : Ct} {W : WX} {X : Cx} {m p q m1 p1 m2 p2 : Bool} {a b e' e : Expr} {es : List Expr} {fa fb : F D} {fo : F AV} {fr : F (List AV)} {x : Str} {pn pos : Pos} {i : Nat}
/-! ### small steps -/
theorem tF_f1 {r : V → Hp → VK → Prop} {g : D → Option D} {σ : L2.St} {H : Hp} {Q : VK} (hr : Op1 C r g) (h : tF C W true p (f1 g fa) σ H Q) : tF C W m p fa σ H (fun x H1 => r x H1 Q) := by
  obtain ⟨pens, M, γ, E, h⟩ := h
  refine ⟨pens, M, γ, E, ?_⟩
  unfold f1 F.bind at h
  cases ea : fa γ with
  | st => rw [ea] at h; exact h
  | ex e γ' => rw [ea] at h; exact h
  | ok d γ1 =>
    rw [ea] at h
    intro v H1 S1 P1 r1
    simp only [liftO] at h
    cases eg : g d with
    | none => rw [eg] at h; exact h.elim
    | some d2 => rw [eg] at h; exact hr M H1 v d d2 Q S1.env.dom r1.s eg (aft_fin S1 P1 h)
/-- one argument that is data, alone -/
theorem tFA_val {σ : L2.St} {H : Hp} {Q : List V → Hp → Prop} (h : tFA C W (p && true) (aVal fa aNil) σ H Q) : tF C W true p fa σ H (fun y H2 => Q [y] H2) := by
  obtain ⟨pens, M, γ, E, h⟩ := h
  refine ⟨pens, M, γ, E, ?_⟩
  unfold aVal at h
  cases ea : fa γ with
  | st => rw [bind_st ea] at h; exact h
  | ex e γ' => rw [bind_ex ea] at h; exact fun cls d H' S re => h cls d H' M S.env S.keep S.pat (fun _ z => z) (fun _ z => .inl z) re
  | ok d γ1 =>
    rw [bind_ok ea] at h
    intro v H1 S P r
    rw [Bool.and_true] at h
    exact h [v] H1 M S.env S.keep S.pat P (fun _ z => z) (fun _ z => .inl z) ⟨.cons (show Rep C M H1 v d from r) .nil, by cases v <;> exact List.nodup_nil, fun a z => by cases v <;> cases z⟩
/-- the callee runs somewhere below -/
theorem run_fnGA {CX : CXT} {k : Nat} {A : Around} {f : Addr} {sp : Sp} {E : L2.St → XK} {Q : VK} {us : List Value} {vs : List V} {pins : List (Addr × Obj)} {σ : L2.St} {H : Hp} {s : Shared} (F : FnG X.prog X.w X.K X.mg X.base CX k f sp) (hr : RoomG k A) (e0 : Env0 X.prog X.w X.K X.mg X.base A X.stack s H) (hx : PassesAt CX X σ (E σ)) (I : Inv X pins σ H s) (r : Vals vs us) (h : sp vs H Q (E σ)) :
    codeAny (model X.prog X.w) A (.call (.ref f) ⟨us, []⟩) (fun r s' => match r with | .ok (.ret v) => EP X pins σ Q v s' | .ok _ => False | .error e => X.xe e s') s := by
  refine codeAny_mono (F A X.stack s H us vs Q (E σ) hr e0 r h) fun r s' hq => ?_
  match r, hq with
  | .error e, hq => exact hx pins H s e s' I hq
  | .ok (.ret u), hq => exact I.after hq
  | .ok .next, hq => exact hq.elim
  | .ok .brk, hq => exact hq.elim
  | .ok .cont, hq => exact hq.elim
/-! ### len(o), o[e], o + o', repr(o): by the methods of the class -/
def dLenR : D → Option D | .int n => if 0 ≤ n ∧ n < 2 ^ 63 then some (.int n) else none | _ => none
theorem op1_lenR : Op1 C (fun x H Q => ∃ n : Int, x = .int n ∧ 0 ≤ n ∧ n < 2 ^ 63 ∧ Q (.int n) H) dLenR := fun M H x dx d Q hd sx e k => by
  cases dx with
  | int n =>
    simp only [dLenR] at e
    split at e
    · rename_i hz; cases e; exact ⟨n, sx.intH, hz.1, hz.2, k _ H (Keep.refl _ _) (.int n)⟩
    · cases e
  | _ => cases e
def dStrR : D → Option D | .str y => some (.str y) | _ => none
theorem op1_strR : Op1 C (fun x H Q => ∃ y : Str, x = .str y ∧ Q (.str y) H) dStrR := fun M H x dx d Q hd sx e k => by
  cases dx with
  | str y => cases e; exact ⟨y, sx.strH, k _ H (Keep.refl _ _) (.str y)⟩
  | _ => cases e
theorem fx_lenO {k c : Nat} {f : Addr} {N : List Str} {b : F Fl} (he : FV C W q X e fo) (sp : Spe X.K (C.cl c) "__len__" f) (Fn : FnP X C k f N 1 b) (hr : RoomG (k + 1) X.A) (tk : Takes X W) (hm : X.mg "len" = none) (hg : Gl X "len") (hN : 1 ≤ N.length := by decide)
    (hs : starEach [e] X.env = (false, eval e X.env) :: starEach [] X.env := by rfl) (hpl : (backTo pos (starEach [] X.env)).any (·.1) = false := by rfl) : FX C W true false X (.Call (.Name "len" pn) [e] [] pos) (f1 dLenR (fMth c ("" : Str) N.length b fo aNil)) := by
  refine PE.imp (t := fun σ H Q => tFV C W q fo σ H fun x H1 => ∃ o dx fs, x = .ref o ∧ H1 o = some (.ins (C.cl c) dx fs) ∧ spF C N 1 b [x] H1 (fun v H2 => ∃ n : Int, v = .int n ∧ 0 ≤ n ∧ n < 2 ^ 63 ∧ Q (.int n) H2) (WE W σ)) ⟨fun pins s σ H Q I h => ?_⟩ fun σ H Q h => tFV.mono (meth_te (p := true) an_nil hN (tF_f1 (m := true) op1_lenR h)) fun v H1 ⟨a, dx, fs, e1, e2, e3, t⟩ => ⟨a, dx, fs, e1, e2, (tFA.nil t).2⟩
  refine wpAny_Call_Name_kw (ld_blt I hg hm boot_len ?_)
  have h2 : tCons (tFV C W q fo) tNil σ H (fun vs H1 => ∃ x o dx fs, vs = [x] ∧ x = .ref o ∧ H1 o = some (.ins (C.cl c) dx fs) ∧ spF C N 1 b [x] H1 (fun v H2 => ∃ n : Int, v = .int n ∧ 0 ≤ n ∧ n < 2 ^ 63 ∧ Q (.int n) H2) (WE W σ)) := tFV.mono h fun v H1 ⟨o, dx, fs, z⟩ => ⟨v, o, dx, fs, rfl, z⟩
  refine PyProof.Rows.callWith_builtin1 (thn ((pa_cons he pa_nil hs).run pos pins s σ H _ I h2) fun us s1 ⟨vs, H1, I1, r1, x, o, dx, fs, e1, e2, e3, q1⟩ => ?_) hs hpl
  subst e1 e2
  obtain ⟨u, rfl, ru⟩ := vals1 r1
  cases (show u = Value.ref o from ru)
  obtain ⟨mA, O, _⟩ := ins_get I1.hok e3
  obtain ⟨od, J, _⟩ := O.look
  obtain ⟨m0, hF⟩ := I1.fr
  refine PySem.W.len_K hF I1.ok.mod.kin J sp.at_ sp.fn (thn (wpAny_call (run_fnGA (us := [.ref o]) (vs := [.ref o]) (E := WE W) Fn hr.in1 I1.env0.in1 (passAt tk σ) I1 (.cons rfl .nil) q1)) fun v s2 hv => ?_)
  obtain ⟨v', H2, I2, rv, n, rfl, h0, h1, q2⟩ := hv
  obtain ⟨t, rfl⟩ := (show ∃ t, v = Value.int n t from rv)
  exact ⟨⟨h0, h1⟩, .int n, H2, I2.tok _, ⟨_, rfl⟩, q2⟩
/-- o[e] -/
theorem fx_getO {k c : Nat} {f : Addr} {N : List Str} {b : F Fl} (he : FV C W q X e fo) (hb : FX C W true p X a fb) (sp : Spe X.K (C.cl c) "__getitem__" f) (Fn : FnP X C k f N 2 b) (hr : RoomG (k + 1) X.A) (tk : Takes X W) (hN : 2 ≤ N.length := by decide)
    (hsl : ∀ x i : Value, subscripted a true x i = runValue (.builtin "lifetime.subscript" ⟨[x, i], []⟩) := by intro _ _; rfl) : FX C W true false X (.Subscript e a pos) (fMth c ("" : Str) N.length b fo (aVal fb aNil)) := by
  refine PE.imp (t := fun σ H Q => tFV C W q fo σ H fun x H1 => ∃ o dx fs, x = .ref o ∧ H1 o = some (.ins (C.cl c) dx fs) ∧ tF C W true p fb σ H1 fun y H2 => (∃ dx' fs', H2 o = some (.ins (C.cl c) dx' fs')) ∧ spF C N 2 b [x, y] H2 Q (WE W σ)) ⟨fun pins s σ H Q I h => ?_⟩ fun σ H Q h => tFV.mono (meth_te (p := p && true) (an_val an_nil) hN h) fun v H1 ⟨a, dx, fs, e1, e2, e3, t⟩ => ⟨a, dx, fs, e1, e2, tFA_val t⟩
  refine Subscript_ (thn (he.run pins s σ H _ I h) fun u s1 ⟨x, H1, I1, rx, o, dx, fs, ex, eo, q1⟩ => thn (hb.run pins s1 σ H1 _ I1 q1) fun v s2 ⟨y, H2, I2, ry, ⟨dx', fs', eo'⟩, q2⟩ => ?_)
  subst ex
  cases (show u = Value.ref o from rx)
  obtain ⟨mA, O, _⟩ := ins_get I2.hok eo'
  obtain ⟨od, J, _⟩ := O.look
  obtain ⟨m0, hF⟩ := I2.fr
  exact PySem.W.sub_K hF I2.ok.mod.kin J sp.at_ sp.fi sp.fn (wpAny_call (run_fnGA (us := [.ref o, v]) (vs := [.ref o, y]) (E := WE W) Fn hr.in1 I2.env0.in1 (passAt tk σ) I2 (.cons rfl (.cons ry .nil)) q2)) (hsl _ _)
/-- repr(o) -/
theorem fx_reprO {k c : Nat} {f : Addr} {N : List Str} {b : F Fl} (he : FV C W q X e fo) (sp : Spe X.K (C.cl c) "__repr__" f) (Fn : FnP X C k f N 1 b) (hr : RoomG (k + 1) X.A) (tk : Takes X W) (hm : X.mg "repr" = none) (hg : Gl X "repr") (hN : 1 ≤ N.length := by decide)
    (hs : starEach [e] X.env = (false, eval e X.env) :: starEach [] X.env := by rfl) (hpl : (backTo pos (starEach [] X.env)).any (·.1) = false := by rfl) : FX C W true false X (.Call (.Name "repr" pn) [e] [] pos) (f1 dStrR (fMth c ("" : Str) N.length b fo aNil)) := by
  refine PE.imp (t := fun σ H Q => tFV C W q fo σ H fun x H1 => ∃ o dx fs, x = .ref o ∧ H1 o = some (.ins (C.cl c) dx fs) ∧ spF C N 1 b [x] H1 (fun v H2 => ∃ y : Str, v = .str y ∧ Q (.str y) H2) (WE W σ)) ⟨fun pins s σ H Q I h => ?_⟩ fun σ H Q h => tFV.mono (meth_te (p := true) an_nil hN (tF_f1 (m := true) op1_strR h)) fun v H1 ⟨a, dx, fs, e1, e2, e3, t⟩ => ⟨a, dx, fs, e1, e2, (tFA.nil t).2⟩
  refine wpAny_Call_Name_kw (ld_blt I hg hm (show bootBuiltins "repr" = some (.builtin "repr") by decide +kernel) ?_)
  have h2 : tCons (tFV C W q fo) tNil σ H (fun vs H1 => ∃ x o dx fs, vs = [x] ∧ x = .ref o ∧ H1 o = some (.ins (C.cl c) dx fs) ∧ spF C N 1 b [x] H1 (fun v H2 => ∃ y : Str, v = .str y ∧ Q (.str y) H2) (WE W σ)) := tFV.mono h fun v H1 ⟨o, dx, fs, z⟩ => ⟨v, o, dx, fs, rfl, z⟩
  refine PyProof.Rows.callWith_builtin1 (thn ((pa_cons he pa_nil hs).run pos pins s σ H _ I h2) fun us s1 ⟨vs, H1, I1, r1, x, o, dx, fs, e1, e2, e3, q1⟩ => ?_) hs hpl
  subst e1 e2
  obtain ⟨u, rfl, ru⟩ := vals1 r1
  cases (show u = Value.ref o from ru)
  obtain ⟨mA, O, _⟩ := ins_get I1.hok e3
  obtain ⟨od, J, _⟩ := O.look
  obtain ⟨m0, hF⟩ := I1.fr
  refine PySem.W.repr_K (hr.in1.r.units0) hF I1.ok.mod.kin J sp.at_ sp.fn (thn (wpAny_call (run_fnGA (us := [.ref o]) (vs := [.ref o]) (E := WE W) Fn hr.in1 I1.env0.in1 (passAt tk σ) I1 (.cons rfl .nil) q1)) fun v s2 hv => ?_)
  obtain ⟨v', H2, I2, rv, y, rfl, q2⟩ := hv
  obtain ⟨t, rfl⟩ := (show ∃ t, v = Value.str y t from rv)
  exact ⟨.str y, H2, I2, ⟨_, rfl⟩, q2⟩
/-! ### o + o', both of the class -/
def fAddO (c N : Nat) (b : F Fl) (fo : F AV) (fb : F D) : F D := F.bind fo fun av γ => match avC γ av with
  | some (c', _) => if c' = c then F.bind fb (fun d γ2 => match d with
    | .ins c2 fs => if c2 = c ∧ (avC γ2 av).map (·.1) = some c then F.bind (callR N b [av, .d (.ins c2 fs)]) (fun r γ => .ok r.1.d γ) γ2 else .st
    | _ => .st) γ else .st
  | none => .st
theorem add_te {N : List Str} {c : Nat} {b : F Fl} {σ : L2.St} {H : Hp} {Q : VK} (hN : 2 ≤ N.length) (h : tF C W true false (fAddO c N.length b fo fb) σ H Q) :
    tFV C W q fo σ H fun x H1 => ∃ a dx fs, x = .ref a ∧ H1 a = some (.ins (C.cl c) dx fs) ∧ tF C W true p fb σ H1 fun y H2 => (∃ dx' fs', H2 a = some (.ins (C.cl c) dx' fs')) ∧ (∃ a2 dx2 fs2, y = .ref a2 ∧ H2 a2 = some (.ins (C.cl c) dx2 fs2)) ∧ spF C N 2 b [x, y] H2 Q (WE W σ) := by
  obtain ⟨pens, M, γ, E, h⟩ := h
  refine ⟨pens, M, γ, E, ?_⟩
  unfold fAddO at h
  cases eo : fo γ with
  | st => rw [bind_st eo] at h; exact h
  | ex x g => rw [bind_ex eo] at h; exact h
  | ok av γ1 =>
    rw [bind_ok eo] at h
    cases ec : avC γ1 av with
    | none => rw [ec] at h; exact h.elim
    | some q =>
      obtain ⟨c', fs⟩ := q
      rw [ec] at h
      simp only at h
      split at h
      case isFalse => exact h.elim
      rename_i hz
      subst hz
      have nn : ∀ o, av ≠ .n o := fun o z => by subst z; cases ec
      refine ⟨nn, fun v H1 S1 P1 r1 => ?_⟩
      obtain ⟨a, dx, vfs, rfl, eh, rf⟩ := avC_ok S1.env r1 ec
      refine ⟨a, dx, vfs, rfl, eh, pens, M, γ1, S1.env, ?_⟩
      cases ea : fb γ1 with
      | st => rw [bind_st ea] at h; exact h
      | ex x γ' => rw [bind_ex ea] at h; exact fun cls d H' S2 re => h cls d H' (S1.trans S2) re
      | ok d γ2 =>
        rw [bind_ok ea] at h
        cases d with
        | ins c2 fs2 =>
          simp only at h
          split at h
          case isFalse => exact h.elim
          rename_i hz2
          obtain ⟨rfl, hz2⟩ := hz2
          intro v2 H2 S2 P2 r2
          have k2 := S2.keep
          have r2 : Rep C M H2 v2 (.ins c2 fs2) := r2
          have r1' : AOk C M H2 σ γ2 (.ref a) av := r1.later (vs := []) (as := []) S1.env k2 S2.pat (fun _ z => .inl z) (fun _ z => nomatch z) nn
          have ef : freshA [.ref a, v2] [av, .d (.ins c2 fs2)] = [] := by
            rw [freshA_skip nn]
            cases v2 <;> rfl
          have A2 : AsOk C M H H2 σ γ2 [.ref a, v2] [av, .d (.ins c2 fs2)] := ⟨.cons r1' (.cons r2 .nil), by rw [ef]; exact List.nodup_nil, fun b hb => by rw [ef] at hb; cases hb⟩
          obtain ⟨a2, dx2, vf2, e1, e2, _⟩ := (SRep.rep r2).insH
          refine ⟨?_, ⟨a2, dx2, vf2, e1, e2⟩, call_sp (M := M) (M1 := M) (as := [av, .d (.ins c2 fs2)]) rfl hN E S2.env (S1.keep.trans (k2.mono fun _ z => S1.pat.symm.Own z)) (S1.pat.trans S2.pat) (fun _ z => z) (fun _ z => .inl z) A2 ?_⟩
          · cases ec2 : avC γ2 av with
            | none => rw [ec2] at hz2; cases hz2
            | some q2 =>
              rw [ec2] at hz2
              cases hz2
              obtain ⟨a3, dx3, vf3, e3, e4, _⟩ := avC_ok S2.env r1' ec2
              cases e3
              exact ⟨dx3, vf3, e4⟩
          · cases ek : callR N.length b [av, .d (.ins c2 fs2)] γ2 with
            | st => rw [bind_st ek] at h; exact h
            | ex e γ3 => rw [bind_ex ek] at h; exact h
            | ok r γ3 =>
              rw [bind_ok ek] at h
              intro v H' M' af rr
              obtain ⟨S, r2⟩ := af.rep E rr
              exact h v H' S (fun z => by cases z) r2
        | _ => exact h.elim
theorem cmpBack_of {P : Value → Shared → Prop} {z : V} {v : Value} {s' : Shared} (r : RelV z v) (h : P v s') : PySem.W.CmpBack P v s' := by
  cases z with
  | non => cases (show v = Value.none from r); exact h
  | bl b => cases (show v = Value.bool b from r); exact h
  | int i => obtain ⟨t, e⟩ := (show ∃ t, v = Value.int i t from r); cases e; exact h
  | str x => obtain ⟨t, e⟩ := (show ∃ t, v = Value.str x t from r); cases e; exact h
  | byt b => obtain ⟨t, e⟩ := (show ∃ t, v = Value.bytes b t from r); cases e; exact h
  | flt b => obtain ⟨t, e⟩ := (show ∃ t, v = Value.float b t from r); cases e; exact h
  | ref a => cases (show v = Value.ref a from r); exact h
  | ty n => cases (show v = Value.type n from r); exact h
theorem fx_addO {k c : Nat} {f : Addr} {N : List Str} {b' : F Fl} (he : FV C W q X e fo) (hb : FX C W true p X b fb) (sp : Spe X.K (C.cl c) "__add__" f) (hsf : PySem.W.selfFirst X.K (C.cl c) = true) (Fn : FnP X C k f N 2 b') (hr : RoomG k X.A) (tk : Takes X W) (hN : 2 ≤ N.length := by decide) : FX C W true false X (.BinOp e .Add b pos) (fAddO c N.length b' fo fb) := by
  refine PE.imp (t := fun σ H Q => tFV C W q fo σ H fun x H1 => ∃ a dx fs, x = .ref a ∧ H1 a = some (.ins (C.cl c) dx fs) ∧ tF C W true p fb σ H1 fun y H2 => (∃ dx' fs', H2 a = some (.ins (C.cl c) dx' fs')) ∧ (∃ a2 dx2 fs2, y = .ref a2 ∧ H2 a2 = some (.ins (C.cl c) dx2 fs2)) ∧ spF C N 2 b' [x, y] H2 Q (WE W σ)) ⟨fun pins s σ H Q I h => ?_⟩ fun σ H Q h => add_te hN h
  refine wpAny_BinOp (thn (he.run pins s σ H _ I h) fun u s1 ⟨x, H1, I1, rx, o, dx, fs, ex, eo, q1⟩ => thn (hb.run pins s1 σ H1 _ I1 q1) fun v s2 ⟨y, H2, I2, ry, ⟨dx', fs', eo'⟩, ⟨o2, dx2, fs2, ey, eo2⟩, q2⟩ => ?_)
  subst ex ey
  cases (show u = Value.ref o from rx)
  cases (show v = Value.ref o2 from ry)
  obtain ⟨mA, O, _⟩ := ins_get I2.hok eo'
  obtain ⟨od, J, _⟩ := O.look
  obtain ⟨mA2, O2, _⟩ := ins_get I2.hok eo2
  obtain ⟨od2, J2, _⟩ := O2.look
  obtain ⟨m0, hF⟩ := I2.fr
  refine PySem.W.binop_K hF I2.ok.mod.kin J J2.type hsf sp.at_ sp.fn (thn (wpAny_call (run_fnRS (us := [.ref o, .ref o2]) (vs := [.ref o, .ref o2]) (E := WE W) Fn hr (passAt tk σ) I2 (.cons rfl (.cons rfl .nil)) q2)) fun w s3 hv => ?_)
  obtain ⟨v', H3, I3, rv, q3⟩ := hv
  exact cmpBack_of rv ⟨v', H3, I3, rv, q3⟩
end
end FC

namespace FC
open PySem PySem.Spec PyProof.Rows L2

section
variable {C : Ct} {W : WX} {X : Cx} {m p q m1 p1 m2 p2 : Bool} {a b e' e : Expr} {es : List Expr} {fa fb : F D} {fo : F AV} {fr : F (List AV)} {x nm : Str} {pn pos apos sp : Pos} {i : Nat}
/-! ### classmethods called off their class -/
theorem call_te {N : List Str} {n : Nat} {b : F Fl} {σ : L2.St} {H : Hp} {Q : VK} (hn : ArgsN n fr) (hN : n ≤ N.length) (h : tF C W true false (fCall N.length b fr) σ H Q) : tFA C W p fr σ H fun vs H1 => spF C N n b vs H1 Q (WE W σ) := by
  obtain ⟨pens, M, γ, E, h⟩ := h
  refine ⟨pens, M, γ, E, ?_⟩
  unfold fCall at h
  cases ea : fr γ with
  | st => rw [bind_st ea] at h; exact h
  | ex x γ' => rw [bind_ex ea] at h; exact aftA_ex E h
  | ok as γ1 =>
    rw [bind_ok ea] at h
    intro vs H1 M1 E1 k1 pt P1 up1 dn1 A
    have hl := hn _ _ _ ea
    refine call_sp hl (by rw [← hl]; exact hN) E E1 k1 pt up1 dn1 A ?_
    cases ec : callR N.length b as γ1 with
    | st => rw [bind_st ec] at h; exact h
    | ex e γ2 => rw [bind_ex ec] at h; exact h
    | ok r γ2 =>
      rw [bind_ok ec] at h
      intro v H' M' af rr
      obtain ⟨S, r2⟩ := af.rep E rr
      exact h v H' S (fun z => by cases z) r2
/-- a class ahead of the arguments -/
def aCls (c : Nat) (fr : F (List AV)) : F (List AV) := F.bind fr fun as γ => .ok (.d (.cls c) :: as) γ
theorem an_cls {n c : Nat} (h : ArgsN n fr) : ArgsN (n + 1) (aCls c fr) := fun γ as γ1 e => by
  unfold aCls at e
  cases q : fr γ with
  | st => rw [bind_st q] at e; cases e
  | ex _ _ => rw [bind_ex q] at e; cases e
  | ok bs g => rw [bind_ok q] at e; cases e; rw [h _ _ _ q]; rfl
theorem freshA_cls {c : Addr} {k : Nat} {vs : List V} {as : List AV} : freshA (.ref c :: vs) (.d (.cls k) :: as) = freshA vs as := rfl
theorem cls_te {c : Nat} {σ : L2.St} {H : Hp} {R : List V → Hp → Prop} (h : tFA C W p (aCls c fr) σ H R) : tFA C W p fr σ H fun vs H1 => R (.ref (C.cl c) :: vs) H1 := by
  obtain ⟨pens, M, γ, E, h⟩ := h
  refine ⟨pens, M, γ, E, ?_⟩
  unfold aCls at h
  cases ea : fr γ with
  | st => rw [bind_st ea] at h; exact h
  | ex x γ' => rw [bind_ex ea] at h; exact h
  | ok as γ1 =>
    rw [bind_ok ea] at h
    intro vs H1 M1 E1 k1 pt P1 up1 dn1 A
    exact h (.ref (C.cl c) :: vs) H1 M1 E1 k1 pt P1 up1 (fun z w => by rw [freshA_cls]; exact dn1 z w) ⟨.cons (show Rep C M1 H1 _ _ from .cls c) A.ok, by rw [freshA_cls]; exact A.nd, fun z w => by rw [freshA_cls] at w; exact A.fr z w⟩
theorem fx_cmeth {k c n : Nat} {g pr : Addr} {mc : Value} {N : List Str} {b : F Fl} {pl : Sem Bool} (hm : X.mg x = some (.ref (C.cl c))) (hg : Gl X x) (r : ClX.CRead X.K (C.cl c) mc) (cm : ClX.CMet X.K (C.cl c) mc nm pr g) (Fn : FnP X C k g N (n + 1) b) (hr : RoomG k X.A) (tk : Takes X W)
    (ha : FA C W p X (a :: es) fr) (hn : ArgsN n fr) (hN : n + 1 ≤ N.length := by decide) (hdb : (x == ("__debug__" : Str)) = false := by decide) (hst : starEach (a :: es) X.env = (false, eval a X.env) :: starEach es X.env := by rfl) (hpl : (backTo pos (starEach es X.env)).any (·.1) = false := by rfl)
    (ht : eval (.Call (.Attribute (.Name x pn) nm apos) (a :: es) [] pos) X.env = (do
      let ov ← eval (.Name x pn) X.env
      standAt apos.atName
      let (f, first) ← holding [ov] (getMethod ov nm pl)
      callWith pos f first (backTo pos (starEach (a :: es) X.env)) (backToKw pos (keywordEach [] X.env))) := by rfl) :
    FX C W true false X (.Call (.Attribute (.Name x pn) nm apos) (a :: es) [] pos) (fCall N.length b (aCls c fr)) := by
  refine PE.imp (t := fun σ H Q => tFA C W p fr σ H fun vs H1 => spF C N (n + 1) b (.ref (C.cl c) :: vs) H1 Q (WE W σ)) ⟨fun pins s σ H Q I h => ?_⟩ fun σ H Q h => cls_te (call_te (an_cls hn) hN h)
  refine PySem.W.methodCall_KW (pl := pl) (thn ((pe_glob (v := .ref (C.cl c)) (pos := pn) hg hm rfl hdb).run pins s σ H (fun v H1 => v = .ref (C.cl c) ∧ tFA C W p fr σ H1 fun vs H1 => spF C N (n + 1) b (.ref (C.cl c) :: vs) H1 Q (WE W σ)) I ⟨rfl, h⟩) fun u s1 ⟨y, H1, I1, ry, ey, q⟩ => ?_) ht
  subst ey
  cases (show u = Value.ref (C.cl c) from ry)
  refine ClX.getmethcm_ok I1 r cm fun s2 I2 => ?_
  refine ClX.callwith_cm I2 (ClX.base_none I1 (Nat.le_refl _)) cm.fi (thn (ha.run pos _ s2 σ H1 _ I2 q) fun us s3 ⟨vs, H2, I3, rv, q2⟩ => ⟨⟨ClX.pin_at I3, I3.kIn⟩, ?_⟩) hst hpl
  have z := wpAny_call (PySem.W.method_call (ClX.pin_at I3) (run_fnRS (us := .ref (C.cl c) :: us) (vs := .ref (C.cl c) :: vs) (E := WE W) Fn hr (passAt tk σ) I3 (.cons rfl rv) q2))
  exact thn z fun _ _ y => ClX.unpinE y
/-! ### instances made by a class held in a name, by a list of arguments -/
def nMakeL (i c N : Nat) (b : F Fl) (fr : F (List AV)) : F MO := fun γ => match γ[i]? with
  | some (.val (.cls c')) => if c' = c then nMakeS c N b fr γ else .st
  | _ => .st
theorem makeL_te {N : List Str} {c : Nat} {b : F Fl} {σ : L2.St} {H : Hp} {Q : VK} (hN : 2 ≤ N.length) (h : tFN C W false (nMakeL i c N.length b fr) σ H Q) : σ[i]? = some (some (.ref (C.cl c))) ∧ tFN C W false (nMakeS c N.length b fr) σ H Q := by
  obtain ⟨pens, M, γ, E, h⟩ := h
  unfold nMakeL at h
  cases q : γ[i]? with
  | none => rw [q] at h; exact h.elim
  | some sv =>
    rw [q] at h
    cases sv with
    | val d =>
      cases d with
      | cls c' =>
        simp only at h
        split at h
        · rename_i hc
          subst hc
          obtain ⟨y, h1, v, h2, r⟩ := E.slot q
          subst h2
          cases r
          exact ⟨h1, pens, M, γ, E, h⟩
        · exact h.elim
      | _ => exact h.elim
    | none => exact h.elim
    | own _ _ => exact h.elim
    | view _ => exact h.elim
theorem fn_makeL {k c : Nat} {f : Addr} {N : List Str} {b : F Fl} (hv : PE X e (tVar i)) (Mm : Mk X.K (C.cl c) f) (Fn : FnG X.prog X.w X.K X.mg X.base (L2.CX X.prog X.w) k f (spStar C N b)) (hr : RoomG (k + 1) X.A) (tk : Takes X W)
    (ha : FA C W p X (a :: es) fr) (hN : 2 ≤ N.length := by decide)
    (ht : eval (.Call e (a :: es) [] pos) X.env = (do callWith pos (← eval e X.env) [] (backTo pos (starEach (a :: es) X.env)) (backToKw pos (keywordEach [] X.env))) := by rfl)
    (hst : starEach (a :: es) X.env = (false, eval a X.env) :: starEach es X.env := by rfl) (hpl : (backTo pos (starEach es X.env)).any (·.1) = false := by rfl) :
    FN C W false X (.Call e (a :: es) [] pos) (nMakeL i c N.length b fr) := ⟨fun pins s σ H Q I h => by
  obtain ⟨hs, h⟩ := makeL_te hN h
  refine Call_ (thn (hv.run pins s σ H (fun v H1 => v = .ref (C.cl c) ∧ H1 = H) I ⟨_, hs, rfl, rfl⟩) fun u s1 ⟨y, H1, I1, ry, ey, eh⟩ => ?_) ht
  subst ey eh
  cases (show u = Value.ref (C.cl c) from ry)
  exact PySem.W.callWith_K (h₀ := X.base) I1.ok.mod.kin Mm.kp (thn (ha.run pos pins s1 σ _ _ I1 (makeS_te (p := p) hN h)) fun us s2 ⟨vs, H2, I2, r, q⟩ => ⟨I2.kIn, run_makeRS (E := WE W) Mm Fn hr (passAt tk σ) I2 r q⟩) hst hpl⟩
/-- the items of a starred argument, alone -/
theorem star_te {σ : L2.St} {H : Hp} {R : List V → Hp → Prop} (hK : X.K = C.K) (h : tFA C W (p && true) (aStar fa aNil) σ H R) : tF C W m p fa σ H fun y H1 => ∃ a us, y = V.ref a ∧ (SqT X.K H1 a us ∨ SqL X.K H1 a us) ∧ R us H1 := by
  obtain ⟨pens, M, γ, E, h⟩ := h
  refine ⟨pens, M, γ, E, ?_⟩
  unfold aStar at h
  cases ea : fa γ with
  | st => rw [bind_st ea] at h; exact h
  | ex x γ' => rw [bind_ex ea] at h; exact fun cls d H' S re => h cls d H' M S.env S.keep S.pat (fun _ z => z) (fun _ z => .inl z) re
  | ok d γ1 =>
    rw [bind_ok ea] at h
    intro v H1 S1 P1 r1
    cases ei : dItems d with
    | none => rw [bind_st (by unfold liftO; rw [ei])] at h; exact h.elim
    | some xs =>
      rw [bind_ok (f := liftO (dItems d)) (a := xs) (γ' := γ1) (by unfold liftO; rw [ei])] at h
      have its : ∃ a us, v = .ref a ∧ (SqT X.K H1 a us ∨ SqL X.K H1 a us) ∧ RepL C M H1 us xs := by
        cases d with
        | lst ys => cases ei; obtain ⟨a, us, e1, e2, e3⟩ := r1.s.lstH; exact ⟨a, us, e1, .inr (.inl (.inl e2)), e3⟩
        | tup ys => cases ei; obtain ⟨a, us, e1, e2, _, e3⟩ := r1.s.tupH; exact ⟨a, us, e1, .inl (.inl (.inl e2)), e3⟩
        | _ => cases ei
      obtain ⟨a, us, e1, e2, e3⟩ := its
      refine ⟨a, us, e1, e2, ?_⟩
      have ef := freshA_d xs us [] [] e3.length
      have h : aftA C W pens M σ γ H (p && true) (.ok (xs.map .d ++ []) γ1) R := h
      have z := h (us ++ []) H1 M S1.env S1.keep S1.pat (fun z => P1 (by rwa [Bool.and_true] at z)) (fun _ z => z) (fun _ z => .inl z) ⟨paired_d e3 .nil, by rw [ef]; exact List.nodup_nil, fun a ha => by rw [ef] at ha; cases ha⟩
      rwa [List.append_nil] at z
theorem fn_makeStar {k c : Nat} {f : Addr} {N : List Str} {b : F Fl} (Mm : Mk X.K (C.cl c) f) (Fn : FnG X.prog X.w X.K X.mg X.base (L2.CX X.prog X.w) k f (spStar C N b)) (hr : RoomG (k + 1) X.A) (hg : Gl X x) (hm : X.mg x = some (.ref (C.cl c))) (tk : Takes X W)
    (he : FX C W m p X e fa) (hK : X.K = C.K := by rfl) (hN : 2 ≤ N.length := by decide) (hdb : (x == ("__debug__" : Str)) = false := by decide) (hst : starEach [.Starred e sp] X.env = [(true, eval e X.env)] := by rfl) :
    FN C W false X (.Call (.Name x pn) [.Starred e sp] [] pos) (nMakeS c N.length b (aStar fa aNil)) := ⟨fun pins s σ H Q I h => by
  refine wpAny_Call_Name_kw (ld_glob I hg hm ?_ hdb)
  refine PySem.W.callWith_S (h₀ := X.base) I.ok.mod.kin Mm.kp (thn (he.run pins s σ H _ I (star_te hK (makeS_te (p := p && true) hN h))) fun v s1 ⟨y, H1, I1, ry, a, xs, ey, hxs, q⟩ => ?_) hst
  subst ey
  cases (show v = Value.ref a from ry)
  exact StX.star_any I1 hxs fun us s2 I2 rv => ⟨I2.kIn, run_makeRS (E := WE W) Mm Fn hr (passAt tk σ) I2 rv q⟩⟩
theorem fn_makeLStar {k c : Nat} {f : Addr} {N : List Str} {b : F Fl} (hv : PE X a (tVar i)) (Mm : Mk X.K (C.cl c) f) (Fn : FnG X.prog X.w X.K X.mg X.base (L2.CX X.prog X.w) k f (spStar C N b)) (hr : RoomG (k + 1) X.A) (tk : Takes X W)
    (he : FX C W m p X e fa) (hK : X.K = C.K := by rfl) (hN : 2 ≤ N.length := by decide)
    (ht : eval (.Call a [.Starred e sp] [] pos) X.env = (do callWith pos (← eval a X.env) [] (backTo pos (starEach [.Starred e sp] X.env)) (backToKw pos (keywordEach [] X.env))) := by rfl) (hst : starEach [.Starred e sp] X.env = [(true, eval e X.env)] := by rfl) :
    FN C W false X (.Call a [.Starred e sp] [] pos) (nMakeL i c N.length b (aStar fa aNil)) := ⟨fun pins s σ H Q I h => by
  obtain ⟨hs, h⟩ := makeL_te hN h
  refine Call_ (thn (hv.run pins s σ H (fun v H1 => v = .ref (C.cl c) ∧ H1 = H) I ⟨_, hs, rfl, rfl⟩) fun u s1 ⟨y, H1, I1, ry, ey, eh⟩ => ?_) ht
  subst ey eh
  cases (show u = Value.ref (C.cl c) from ry)
  refine PySem.W.callWith_S (h₀ := X.base) I1.ok.mod.kin Mm.kp (thn (he.run pins s1 σ _ _ I1 (star_te hK (makeS_te (p := p && true) hN h))) fun v s2 ⟨y, H2, I2, ry, a, xs, ey, hxs, q⟩ => ?_) hst
  subst ey
  cases (show v = Value.ref a from ry)
  exact StX.star_any I2 hxs fun us s3 I3 rv => ⟨I3.kIn, run_makeRS (E := WE W) Mm Fn hr (passAt tk σ) I3 rv q⟩⟩
/-! ### f-strings -/
def dFmt : D → Option D
  | .str y => if y.length ≤ sizeLine then some (.str y) else none
  | .int i => if i.natAbs.log2 < 1920 then some (.str (toString i)) else none
  | _ => none
theorem fx_fmt (ha : FX C W m p X a fa) : FX C W true p X (.FormattedValue a (-1) none pos) (f1 dFmt fa) := fx1 (r := fun x H Q => (∃ y : Str, x = .str y ∧ y.length ≤ sizeLine ∧ Q (.str y) H) ∨ ∃ i : Int, x = .int i ∧ i.natAbs.log2 < 1920 ∧ Q (.str (toString i)) H) ha (fun ta h => pe_fmt h) fun M H x dx d Q hd sx e k => by
  cases dx with
  | str y =>
    simp only [dFmt] at e
    split at e
    · rename_i hz; cases e; exact .inl ⟨y, sx.strH, hz, k _ H (Keep.refl _ _) (.str _)⟩
    · cases e
  | int i =>
    simp only [dFmt] at e
    split at e
    · rename_i hz; cases e; exact .inr ⟨i, sx.intH, hz, k _ H (Keep.refl _ _) (.str _)⟩
    · cases e
  | _ => cases e
def fJ : List (F D) → Str → F D
  | [], acc => fun γ => .ok (.str acc) γ
  | f :: fs, acc => F.bind f fun d => match d with
    | .str y => if (acc ++ y).length ≤ sizeLine then fJ fs (acc ++ y) else fun _ => .st
    | _ => fun _ => .st
inductive FXs (C : Ct) (W : WX) (X : Cx) : List Expr → List (F D) → Prop where
  | nil : FXs C W X [] []
  | cons {e : Expr} {f : F D} {es : List Expr} {fs : List (F D)} (h : ∃ p, FX C W true p X e f) (r : FXs C W X es fs) : FXs C W X (e :: es) (f :: fs)
theorem fj_run {pins : List (Addr × Obj)} {σ : L2.St} {es : List Expr} {fs : List (F D)} (h : FXs C W X es fs) : ∀ (acc : Str) (s : Shared) (H : Hp) (Q : VK) (R : Str → Shared → Prop), acc.length ≤ sizeLine → Inv X pins σ H s → tF C W true false (fJ fs acc) σ H Q →
    (∀ out s1 H1, out.length ≤ sizeLine → Inv X pins σ H1 s1 → Q (.str out) H1 → R out s1) → Joins (model X.prog X.w) X.A X.xe (evalEach es X.env) acc R s := by
  induction h with
  | nil =>
    intro acc s H Q R hz I q k
    have e0 : evalEach [] X.env = [] := by first | rfl | simp [evalEach]
    rw [e0]
    obtain ⟨pens, M, γ, E, q⟩ := q
    exact k acc s H hz I (q (.str acc) H (Stp.pure E (Keep.refl _ _)) (fun z => by cases z) (show Rep C M H _ _ from .str acc))
  | @cons e f es fs he r ih =>
    intro acc s H Q R hz I q k
    have e0 : evalEach (e :: es) X.env = eval e X.env :: evalEach es X.env := by first | rfl | simp [evalEach]
    rw [e0]
    obtain ⟨p, he⟩ := he
    have q2 : tF C W true p f σ H (fun x H1 => ∃ y : Str, x = .str y ∧ (acc ++ y).length ≤ sizeLine ∧ tF C W true false (fJ fs (acc ++ y)) σ H1 Q) := by
      obtain ⟨pens, M, γ, E, q⟩ := q
      refine ⟨pens, M, γ, E, ?_⟩
      unfold fJ at q
      cases ea : f γ with
      | st => rw [bind_st ea] at q; exact q
      | ex x g => rw [bind_ex ea] at q; exact q
      | ok d γ1 =>
        rw [bind_ok ea] at q
        cases d with
        | str y =>
          simp only at q
          split at q
          · rename_i hz2
            intro v H1 S1 P1 r1
            refine ⟨y, (MRep.s r1).strH, hz2, pens, M, γ1, S1.env, ?_⟩
            cases eb : fJ fs (acc ++ y) γ1 with
            | st => rw [eb] at q; exact q
            | ex x g => rw [eb] at q; exact fun cls dd H' S2 re => q cls dd H' (S1.trans S2) re
            | ok d2 g => rw [eb] at q; exact fun v2 H2 S2 P2 r2 => q v2 H2 (S1.trans S2) (fun z => by cases z) r2
          · exact q.elim
        | _ => exact q.elim
    refine thn (he.run pins s σ H _ I q2) fun v s1 ⟨x, H1, I1, r1, y, ex, hy, q1⟩ => ?_
    subst ex
    obtain ⟨tk, rfl⟩ := (show ∃ t, v = Value.str y t from r1)
    exact ⟨y, tk, rfl, hy, ih (acc ++ y) s1 H1 Q R hy I1 q1 k⟩
theorem fx_joined {v1 v2 : Expr} {rest : List Expr} {fs : List (F D)} (h : FXs C W X (v1 :: v2 :: rest) fs) : FX C W true false X (.JoinedStr (v1 :: v2 :: rest) pos) (fJ fs Str.empty) := ⟨fun pins s σ H Q I q =>
  wpAny_JoinedStr (fj_run h Str.empty s H Q _ (Nat.zero_le _) I q fun out s1 H1 hz I1 q1 => ⟨hz, .str out, H1, I1.tok _, ⟨_, rfl⟩, q1⟩)⟩
/-! ### facts of classes -/
theorem cread_of {K : PySem.W.Frag} {Ca : Addr} (h : PySem.W.readsIn K Ca (.type "type") = true) : ClX.CRead K Ca (.type "type") := by
  refine ⟨h, ?_⟩
  unfold PySem.W.readsIn at h
  obtain ⟨h, _⟩ := He.ba h
  obtain ⟨h, _⟩ := He.ba h
  obtain ⟨h, h3⟩ := He.ba h
  obtain ⟨_, h2⟩ := He.ba h
  unfold PySem.W.specialIn
  rw [beq_iff_eq.mp h2, Option.bind_some]
  exact beq_iff_eq.mp h3
def cmB (K : PySem.W.Frag) (Ca : Addr) (mn : Str) : Bool := He5.wrapB K Ca "classmethod" "classmethod.__get__" mn && PySem.W.fnIn K (He5.wf K Ca "classmethod" mn)
theorem cmet_of {K : PySem.W.Frag} {Ca : Addr} {mn : Str} (h : cmB K Ca mn = true) : ClX.CMet K Ca (.type "type") mn (He.ma K Ca mn) (He5.wf K Ca "classmethod" mn) := He5.cmet_of (He.ba h).1 (He.ba h).2
/-! ### isinstance of a class of one's own -/
def isiN (T : Addr) (K : PySem.W.Frag) : Bool := tyNs.all fun t => decide (PySem.W.kitOne K (.type t) (.ref T) = some false)
def isiCb (t : String) : Option Bool := if t ∈ tyNs then some false else none
theorem isiCb_ok {K : PySem.W.Frag} {T : Addr} (h : isiN T K = true) : ∀ t r, isiCb t = some r → PySem.W.kitOne K (.type t) (.ref T) = some r := fun t r e => by
  unfold isiCb at e
  split at e
  · rename_i hm
    cases e
    exact of_decide_eq_true (List.all_eq_true.mp h t hm)
  · cases e
/-- which classes are told, and how -/
def isiCc (tb : List (Nat × Bool)) (c : Nat) : Option Bool := tb.lookup c
theorem isiC1_ok {K : PySem.W.Frag} {cl : Nat → Addr} {T : Addr} {c0 : Nat} {r0 : Bool} (h : InsTy K (cl c0) ∧ PySem.W.kitOne K (.ref (cl c0)) (.ref T) = some r0) : ∀ c r, isiCc [(c0, r0)] c = some r → InsTy K (cl c) ∧ PySem.W.kitOne K (.ref (cl c)) (.ref T) = some r := fun c r e => by
  unfold isiCc at e
  rw [List.lookup_cons] at e
  split at e
  · rename_i q
    cases e
    rw [beq_iff_eq] at q
    subst q
    exact h
  · cases e
/-- the same in one word, for goals -/
def dIsC (tb : List (Nat × Bool)) (d : D) : Option D := (dIsi isiCb (isiCc tb) d).map D.bl
end
end FC

namespace G23
open PySem PySem.Spec PyProof.Rows L2 FC
abbrev top (i : Nat) : Stmt := PySem.Challenge.pw_burstlimits_k23_texts_of_limits.main.body.getD i (.Pass ⟨0, 0, 0, 0⟩)
abbrev s__law_pen : Stmt := top 35
abbrev N__law_pen : List Str := ["_law_cell"]
abbrev s__law_cell_at : Stmt := top 34
abbrev N__law_cell_at : List Str := ["_law_script", "_law_k"]
abbrev s__law_draw : Stmt := top 36
abbrev N__law_draw : List Str := ["_law_pen_here", "_law_many", "_law_found", "_law_mixed"]
abbrev s__law_pick : Stmt := top 37
abbrev N__law_pick : List Str := ["_law_pen_here", "_law_some"]
abbrev s__law_pairs : Stmt := top 40
abbrev N__law_pairs : List Str := ["_law_pen_here", "_law_many", "_law_great", "_law_found", "_law_turn", "_law_pair"]
abbrev s_is_integer : Stmt := top 19
abbrev N_is_integer : List Str := ["thing"]
abbrev s_is_between : Stmt := top 20
abbrev N_is_between : List Str := ["thing", "least", "most"]
abbrev s_is_pair : Stmt := top 21
abbrev N_is_pair : List Str := ["thing"]
abbrev s_are_pairs : Stmt := top 29
abbrev N_are_pairs : List Str := ["things", "thing"]
abbrev s_Limits___init__ : Stmt := inClass (top 30) 0
abbrev N_Limits___init__ : List Str := ["self", "pairs"]
abbrev s__law_direct : Stmt := top 42
abbrev N__law_direct : List Str := ["_law_some"]
abbrev s__law_said : Stmt := top 39
abbrev N__law_said : List Str := ["_law_call", "_law_e", "_law_word"]
abbrev s_Limits___eq__ : Stmt := inClass (top 30) 12
abbrev N_Limits___eq__ : List Str := ["self", "other"]
abbrev s_Limits___getitem__ : Stmt := inClass (top 30) 9
abbrev N_Limits___getitem__ : List Str := ["self", "number"]
abbrev s_Limits_pairs : Stmt := inClass (top 30) 5
abbrev N_Limits_pairs : List Str := ["self"]
abbrev s_Limits___len__ : Stmt := inClass (top 30) 7
abbrev N_Limits___len__ : List Str := ["self"]
abbrev s_Limits___repr__ : Stmt := inClass (top 30) 13
abbrev N_Limits___repr__ : List Str := ["self"]
abbrev s_Limits_text : Stmt := inClass (top 30) 4
abbrev N_Limits_text : List Str := ["self", "length", "most"]
abbrev s__law_seen : Stmt := top 43
abbrev N__law_seen : List Str := ["_law_made", "_law_every", "_law_at"]
abbrev s__law_text : Stmt := top 41
abbrev N__law_text : List Str := ["_law_pairs_here", "_law_size", "_law_number"]
abbrev s_number_in : Stmt := top 27
abbrev N_number_in : List Str := ["word", "sign"]
abbrev s_pair_in : Stmt := top 28
abbrev N_pair_in : List Str := ["line", "most", "length"]
abbrev s_Limits_read : Stmt := inClass (top 30) 1
abbrev N_Limits_read : List Str := ["cls", "text", "found", "line"]
abbrev s__law_due : Stmt := top 44
abbrev N__law_due : List Str := ["_law_pairs_here"]
abbrev s_law : Stmt := top 45
abbrev N_law : List Str := ["_law_script", "_law_cell", "_law_pen_here", "_law_lap", "_law_pairs_here", "_law_made", "_law_turn", "_law_said_here"]
def fb : List Fb := [.fa (.free "max"), .fa (.free "len"), .fa (.glo "_law_draw"), .fa (.keep "_law_draw"), .fa (.glo "_law_pick"), .fa (.keep "_law_pick"), .fa (.free "range"), .fa (.free "tuple"), .fa (.free "int"), .fa (.free "isinstance"), .fa (.free "bool"), .fa (.glo "is_integer"), .fa (.keep "is_integer"), .fa (.int "MOST_LENGTH" 20), .fa (.glo "is_between"), .fa (.keep "is_between"), .fa (.int "MOST_NUMBER" 20), .fa (.glo "is_pair"), .fa (.keep "is_pair"), .fa (.free "all"), .fa (.free "set"), .fa (.glo "are_pairs"), .fa (.keep "are_pairs"), .fa (.int "MOST_LIMITS" 6), .fa (.cls "Limits"), .fa (.noat "Limits" "kept"), .fa (.mkr "Limits"), .fa (.glo "Limits"), .bf (fun K => isiN (He.ga K "Limits") K), .isi "Limits", .kit "Limits" "Limits" true, .spec "Limits" "__len__", .spec "Limits" "__getitem__", .fa (.meth "Limits" "text"), .spec "Limits" "__repr__", .fa (.free "repr"), .prop "Limits" "pairs", .fa (.free "str"), .fa (.str "DIGITS" "0123456789"), .fa (.str "HEAD" "at most "), .fa (.glo "number_in"), .fa (.keep "number_in"), .fa (.glo "pair_in"), .fa (.keep "pair_in"), .fa (.glo "_law_text"), .fa (.keep "_law_text"), .fa (.free "list"), .fa (.glo "_law_cell_at"), .fa (.keep "_law_cell_at"), .fa (.glo "_law_pen"), .fa (.keep "_law_pen"), .fa (.glo "_law_pairs"), .fa (.keep "_law_pairs"), .fa (.glo "_law_direct"), .fa (.keep "_law_direct"), .bf (fun K => PySem.W.readsIn K (He.ga K "Limits") (.type "type")), .bf (fun K => cmB K (He.ga K "Limits") "read"), .fa (.glo "_law_seen"), .fa (.keep "_law_seen"), .fa (.glo "BurstError"), .fa (.glo "_law_said"), .fa (.keep "_law_said"), .fa (.glo "_law_due"), .fa (.keep "_law_due"), .spec "Limits" "__eq__", .fa (.glo "law")]
def fn : List DefP := [⟨fun K => He.ga K "_law_pen", "_law_pen", "_law_pen", defArgs s__law_pen, defBody s__law_pen, defScope s__law_pen⟩, ⟨fun K => He.ga K "_law_cell_at", "_law_cell_at", "_law_cell_at", defArgs s__law_cell_at, defBody s__law_cell_at, defScope s__law_cell_at⟩, ⟨fun K => He.ga K "_law_draw", "_law_draw", "_law_draw", defArgs s__law_draw, defBody s__law_draw, defScope s__law_draw⟩, ⟨fun K => He.ga K "_law_pick", "_law_pick", "_law_pick", defArgs s__law_pick, defBody s__law_pick, defScope s__law_pick⟩, ⟨fun K => He.ga K "_law_pairs", "_law_pairs", "_law_pairs", defArgs s__law_pairs, defBody s__law_pairs, defScope s__law_pairs⟩, ⟨fun K => He.ga K "is_integer", "is_integer", "is_integer", defArgs s_is_integer, defBody s_is_integer, defScope s_is_integer⟩, ⟨fun K => He.ga K "is_between", "is_between", "is_between", defArgs s_is_between, defBody s_is_between, defScope s_is_between⟩, ⟨fun K => He.ga K "is_pair", "is_pair", "is_pair", defArgs s_is_pair, defBody s_is_pair, defScope s_is_pair⟩, ⟨fun K => He.ga K "are_pairs", "are_pairs", "are_pairs", defArgs s_are_pairs, defBody s_are_pairs, defScope s_are_pairs⟩, ⟨fun K => (He.ma K (He.ga K "Limits") "__init__"), "__init__", "Limits.__init__", defArgs s_Limits___init__, defBody s_Limits___init__, defScope s_Limits___init__⟩, ⟨fun K => He.ga K "_law_direct", "_law_direct", "_law_direct", defArgs s__law_direct, defBody s__law_direct, defScope s__law_direct⟩, ⟨fun K => He.ga K "_law_said", "_law_said", "_law_said", defArgs s__law_said, defBody s__law_said, defScope s__law_said⟩, ⟨fun K => (He.ma K (He.ga K "Limits") "__eq__"), "__eq__", "Limits.__eq__", defArgs s_Limits___eq__, defBody s_Limits___eq__, defScope s_Limits___eq__⟩, ⟨fun K => (He.ma K (He.ga K "Limits") "__getitem__"), "__getitem__", "Limits.__getitem__", defArgs s_Limits___getitem__, defBody s_Limits___getitem__, defScope s_Limits___getitem__⟩, ⟨fun K => (prG K (He.ga K "Limits") "pairs"), "pairs", "Limits.pairs", defArgs s_Limits_pairs, defBody s_Limits_pairs, defScope s_Limits_pairs⟩, ⟨fun K => (He.ma K (He.ga K "Limits") "__len__"), "__len__", "Limits.__len__", defArgs s_Limits___len__, defBody s_Limits___len__, defScope s_Limits___len__⟩, ⟨fun K => (He.ma K (He.ga K "Limits") "__repr__"), "__repr__", "Limits.__repr__", defArgs s_Limits___repr__, defBody s_Limits___repr__, defScope s_Limits___repr__⟩, ⟨fun K => (He.ma K (He.ga K "Limits") "text"), "text", "Limits.text", defArgs s_Limits_text, defBody s_Limits_text, defScope s_Limits_text⟩, ⟨fun K => He.ga K "_law_seen", "_law_seen", "_law_seen", defArgs s__law_seen, defBody s__law_seen, defScope s__law_seen⟩, ⟨fun K => He.ga K "_law_text", "_law_text", "_law_text", defArgs s__law_text, defBody s__law_text, defScope s__law_text⟩, ⟨fun K => He.ga K "number_in", "number_in", "number_in", defArgs s_number_in, defBody s_number_in, defScope s_number_in⟩, ⟨fun K => He.ga K "pair_in", "pair_in", "pair_in", defArgs s_pair_in, defBody s_pair_in, defScope s_pair_in⟩, ⟨fun K => (He5.wf K (He.ga K "Limits") "classmethod" "read"), "read", "Limits.read", defArgs s_Limits_read, defBody s_Limits_read, defScope s_Limits_read⟩, ⟨fun K => He.ga K "_law_due", "_law_due", "_law_due", defArgs s__law_due, defBody s__law_due, defScope s__law_due⟩, ⟨fun K => He.ga K "law", "law", "law", defArgs s_law, defBody s_law, defScope s_law⟩]
def lf : List DefP := [⟨fun K => He.ga K "law", "law", "law", defArgs s_law, defBody s_law, defScope s_law⟩]
def loose : List Str := (["_wall", "__name__", "BurstError", "NoLimit", "NoLimits", "NoRow", "NoRows", "NoNumber", "NoLength", "NoLengths", "NoAmount", "NoText", "NothingDone", "TooMany", "Full", "Late", "MOST_LENGTH", "MOST_NUMBER", "is_integer", "is_between", "is_pair", "MOST_LIMITS", "MOST_ASKED", "HEAD", "DIGITS", "number_in", "pair_in", "are_pairs", "Limits", "need_limits"] : List Str) ++ (["sums_up_to", "_law_cell_at", "_law_pen", "_law_draw", "_law_pick", "_law_kind", "_law_said", "_law_pairs", "_law_text", "_law_direct", "_law_seen", "_law_due"] : List Str)
abbrev R : PySem.W.OpenRow := PySem.W.OpenLaw.row PySem.Challenge.rw_burstlimits_k23_texts_of_limits
abbrev hk : PySem.W.Hook := hookP 6 (fun K => fb.all fun f => f.ok K) fn lf
def ob (s : PySem.W.SharedT) : AlP × Bool := obsP 6 (fun K => fb.all fun f => f.ok K) fn lf (HandSHeadRun.getT s)
theorem ob_eq (s : PySem.W.SharedT) : ob s = hk.obs s.abs := obsP_eq (HandSHeadRun.getT_eq s)
theorem run (w : World) : HandSHeadRun.RunEq R (PySem.W.view R.prog [45]) hk ob 9000 loose w := by
  intro os
  kernel_rfl
end G23
namespace FC
open PySem PySem.Spec PyProof.Rows L2

/-! ### methods of texts -/
def fS1 {β : Type} (g : Str → D → Option β) (fa fb : F D) : F β := F.bind fa fun x => match x with
  | .str a => F.bind fb fun y => liftO (g a y)
  | _ => fun _ => .st
section
variable {C : Ct} {W : WX} {X : Cx} {m p q m1 p1 m2 p2 : Bool} {a b e' e o : Expr} {es : List Expr} {fa fb : F D} {pos apos : Pos}
theorem fx_s1 {r : V → List V → Hp → VK → Prop} {g : Str → D → Option D} (mk : ∀ ta tb, PE X a ta → PE X b tb → PE X e' (tM1 r ta tb)) (hr : ∀ (M : Addr → Prop) (H : Hp) (x : Str) (y : V) (dy d : D) (Q : VK), (∀ a, M a → ∃ o, H a = some o) → SRep C M H y dy → g x dy = some d → (∀ v H', Keep0 H H' → Rep C M H' v d → Q v H') → r (.str x) [y] H Q)
    (ha : FX C W m1 p1 X a fa) (hb : FX C W m2 p2 X b fb) : FX C W true (p1 && p2) X e' (fS1 g fa fb) := PE.imp (mk _ _ ha hb) fun σ H Q ⟨pens, M, γ, E, h⟩ => by
  refine ⟨pens, M, γ, E, ?_⟩
  unfold fS1 at h
  cases ea : fa γ with
  | st => rw [bind_st ea] at h; exact h
  | ex e γ' => rw [bind_ex ea] at h; exact h
  | ok d γ1 =>
    rw [bind_ok ea] at h
    intro v H1 S1 P1 r1
    cases d with
    | str x =>
      have ev : v = .str x := (MRep.s r1).strH
      subst ev
      refine ⟨⟨x, rfl⟩, pens, M, γ1, S1.env, ?_⟩
      simp only at h
      cases eb : fb γ1 with
      | st => rw [bind_st eb] at h; exact h
      | ex e γ' => rw [bind_ex eb] at h; exact fun cls dd H' S2 re => h cls dd H' (S1.trans S2) re
      | ok d2 γ2 =>
        rw [bind_ok eb] at h
        intro v2 H2 S2 P2 r2
        simp only [liftO] at h
        cases eg : g x d2 with
        | none => rw [eg] at h; exact h.elim
        | some d3 =>
          rw [eg] at h
          exact hr M H2 x v2 d2 d3 Q S2.env.dom r2.s eg (aft_fin (S1.trans S2) (purity P1 P2) h)
    | _ => exact h.elim
theorem fn_s1 {r : V → List V → Hp → VK → Prop} {g : Str → D → Option (List D)} (mk : ∀ ta tb, PE X a ta → PE X b tb → PE X e' (tM1 r ta tb)) (hr : ∀ (C : Ct) (M : Addr → Prop) (H : Hp) (x : Str) (y : V) (dy : D) (xs : List D) (Q : VK), SRep C M H y dy → g x dy = some xs → (∀ p vs, H p = none → RepL C M H vs xs → Q (.ref p) (upd H p (.lst vs))) → r (.str x) [y] H Q)
    (ha : FX C W m1 p1 X a fa) (hb : FX C W m2 p2 X b fb) : FN C W (p1 && p2) X e' (fS1 (fun x y => (g x y).map MO.lst) fa fb) := PE.imp (mk _ _ ha hb) fun σ H Q ⟨pens, M, γ, E, h⟩ => by
  refine ⟨pens, M, γ, E, ?_⟩
  unfold fS1 at h
  cases ea : fa γ with
  | st => rw [bind_st ea] at h; exact h
  | ex e γ' => rw [bind_ex ea] at h; exact h
  | ok d γ1 =>
    rw [bind_ok ea] at h
    intro v H1 S1 P1 r1
    cases d with
    | str x =>
      have ev : v = .str x := (MRep.s r1).strH
      subst ev
      refine ⟨⟨x, rfl⟩, pens, M, γ1, S1.env, ?_⟩
      simp only at h
      cases eb : fb γ1 with
      | st => rw [bind_st eb] at h; exact h
      | ex e γ' => rw [bind_ex eb] at h; exact fun cls dd H' S2 re => h cls dd H' (S1.trans S2) re
      | ok d2 γ2 =>
        rw [bind_ok eb] at h
        intro v2 H2 S2 P2 r2
        simp only [liftO] at h
        cases eg : g x d2 with
        | none => rw [eg] at h; exact h.elim
        | some xs =>
          rw [eg] at h
          exact hr C M H2 x v2 d2 xs Q r2.s eg (aftN_fin E (S1.trans S2) (purity P1 P2) h)
    | _ => exact h.elim
/-- x.join(list of texts) -/
def dJoin (x : Str) (d : D) : Option D := (dItems d).bind fun xs => (dStrs xs).bind fun ys => if (ys.map (·.length)).sum + ys.length * x.length ≤ 16777216 then some (.str (Txt.join x ys)) else none
theorem fx_join (ha : FX C W m1 p1 X o fa) (hb : FX C W m2 p2 X e fb) (hs : starEach [e] X.env = [(false, eval e X.env)] := by rfl) (hbase : attributeBase o "join" X.env (eval o X.env) = eval o X.env := by rfl) (hline : (apos.endLine == pos.line) = true := by rfl) : FX C W true (p1 && p2) X (.Call (.Attribute o "join" apos) [e] [] pos) (fS1 dJoin fa fb) :=
  fx_s1 (fun ta tb h1 h2 => pe_join h1 h2 hs hbase hline) (fun M H x y dy d Q hd sy e k => by
    unfold dJoin at e
    cases e1 : dItems dy with
    | none => rw [e1] at e; cases e
    | some xs =>
      rw [e1, Option.bind_some] at e
      cases e2 : dStrs xs with
      | none => rw [e2] at e; cases e
      | some ys =>
        rw [e2, Option.bind_some] at e
        split at e
        case isFalse => cases e
        rename_i hz
        cases e
        have ex := dStrs_eq e2
        subst ex
        cases dy with
        | lst zs =>
          cases e1
          obtain ⟨l, us, rfl, h1, h2⟩ := sy.lstH
          have := h2.strs
          subst this
          exact ⟨x, l, ys, rfl, rfl, .inl (.inl (.inl h1)), hz, k _ H (Keep.refl _ _) (.str _)⟩
        | tup zs =>
          cases e1
          obtain ⟨l, us, rfl, h1, _, h2⟩ := sy.tupH
          have := h2.strs
          subst this
          exact ⟨x, l, ys, rfl, rfl, .inr (.inl (.inl h1)), hz, k _ H (Keep.refl _ _) (.str _)⟩
        | _ => cases e1) ha hb
def dStarts (x : Str) (d : D) : Option D := match d with | .str y => some (.bl (Txt.startswith x y)) | _ => none
def dEnds (x : Str) (d : D) : Option D := match d with | .str y => some (.bl (Txt.endswith x y)) | _ => none
theorem fx_startswith (ha : FX C W m1 p1 X o fa) (hb : FX C W m2 p2 X e fb) (hs : starEach [e] X.env = [(false, eval e X.env)] := by rfl) (hbase : attributeBase o "startswith" X.env (eval o X.env) = eval o X.env := by rfl) (hline : (apos.endLine == pos.line) = true := by rfl) : FX C W true (p1 && p2) X (.Call (.Attribute o "startswith" apos) [e] [] pos) (fS1 dStarts fa fb) :=
  fx_s1 (fun ta tb h1 h2 => pe_m1 F.slot_str_startswith F.type_str_startswith mt_startswith h1 h2 hs hbase hline) (fun M H x y dy d Q hd sy e k => by
    cases dy with
    | str z => cases e; rw [sy.strH]; exact ⟨x, z, rfl, rfl, k _ H (Keep.refl _ _) (.bl _)⟩
    | _ => cases e) ha hb
theorem fx_endswith (ha : FX C W m1 p1 X o fa) (hb : FX C W m2 p2 X e fb) (hs : starEach [e] X.env = [(false, eval e X.env)] := by rfl) (hbase : attributeBase o "endswith" X.env (eval o X.env) = eval o X.env := by rfl) (hline : (apos.endLine == pos.line) = true := by rfl) : FX C W true (p1 && p2) X (.Call (.Attribute o "endswith" apos) [e] [] pos) (fS1 dEnds fa fb) :=
  fx_s1 (fun ta tb h1 h2 => pe_m1 F.slot_str_endswith F.type_str_endswith mt_endswith h1 h2 hs hbase hline) (fun M H x y dy d Q hd sy e k => by
    cases dy with
    | str z => cases e; rw [sy.strH]; exact ⟨x, z, rfl, rfl, k _ H (Keep.refl _ _) (.bl _)⟩
    | _ => cases e) ha hb
def dSplit (x : Str) (d : D) : Option (List D) := match d with
  | .str y => if (y.length == 0) = false ∧ x.length + 2 ≤ sizeLine then some ((Txt.split x y).map D.str) else none
  | _ => none
theorem fn_split (ha : FX C W m1 p1 X o fa) (hb : FX C W m2 p2 X e fb) (hs : starEach [e] X.env = [(false, eval e X.env)] := by rfl) (hbase : attributeBase o "split" X.env (eval o X.env) = eval o X.env := by rfl) (hline : (apos.endLine == pos.line) = true := by rfl) : FN C W (p1 && p2) X (.Call (.Attribute o "split" apos) [e] [] pos) (fS1 (fun x y => (dSplit x y).map MO.lst) fa fb) :=
  fn_s1 (fun ta tb h1 h2 => pe_split h1 h2 hs hbase hline) (fun C M H x y dy xs Q sy e k => by
    cases dy with
    | str z =>
      simp only [dSplit] at e
      split at e
      · rename_i hz
        cases e
        rw [sy.strH]
        exact ⟨x, z, rfl, rfl, hz.1, hz.2, fun p hp => k p _ hp (repL_strs _)⟩
      · cases e
    | _ => cases e) ha hb
end
end FC

namespace FC
open PySem PySem.Spec PyProof.Rows L2

/-! ### what is wished behind the further steps -/
section
variable {γ : Gm} {E : Ex → Gm → Prop} {N c i : Nat} {b : F Fl} {r : F (List AV)} {fa fb : F D} {fo : F AV}
/-- what a class's __init__ with a star parameter makes of its arguments -/
structure Mk1 (c N : Nat) (b : F Fl) (ds : List D) (fs : List (Str × D)) : Prop where
  run : ∃ g, b (padG N [.own (some 0) (.ins c []), .val (.tup ds)]) = .ok .nx (.own (some 0) (.ins c fs) :: g)
theorem Mk1.of {ds : List D} {fs : List (Str × D)} (h : Wp (b (padG N [.own (some 0) (.ins c []), .val (.tup ds)])) (fun f g => f = .nx ∧ ∃ g', g = .own (some 0) (.ins c fs) :: g') E0) : Mk1 c N b ds fs := by
  obtain ⟨f, g, e, rfl, g', rfl⟩ := h.out
  exact ⟨⟨g', e⟩⟩
theorem wp_makeS {Q : MO → Gm → Prop} (h : Wp (r γ) (fun as g => ∃ ds, allD as = some ds ∧ ds.length ≤ sizeLine ∧ ∃ fs, Mk1 c N b ds fs ∧ Q (.ins c fs) g) E) : Wp (nMakeS c N b r γ) Q E := by
  unfold nMakeS
  refine wp_bind (h.imp fun as g h => ?_)
  obtain ⟨ds, e, hz, fs, ⟨⟨g', e2⟩⟩, q⟩ := h
  refine wp_bind (wp_lift e ?_)
  rw [if_pos hz]
  refine wp_bind (wp_ok (a := (.val .non, .own (some 0) (.ins c fs) :: g')) (g := g) ?_ (wp_lift (a := .ins c fs) ?_ q))
  · unfold callR
    simp only [bindA, Option.map_some, e2, backG]
  · simp [mkO]
theorem wp_makeL {Q : MO → Gm → Prop} (e : γ[i]? = some (.val (.cls c))) (h : Wp (nMakeS c N b r γ) Q E) : Wp (nMakeL i c N b r γ) Q E := by
  unfold nMakeL
  rw [e]
  simp only [if_true]
  exact h
theorem wp_aCls {Q : List AV → Gm → Prop} (h : Wp (r γ) (fun as g => Q (.d (.cls c) :: as) g) E) : Wp (aCls c r γ) Q E := wp_bind (h.imp fun _ _ z => ⟨z⟩)
theorem wp_addO {Q : D → Gm → Prop} (h : Wp (fo γ) (fun av g => ∃ fs, avC g av = some (c, fs) ∧ Wp (fb g) (fun d g2 => ∃ fs2, d = .ins c fs2 ∧ (avC g2 av).map (·.1) = some c ∧ WpC N b [av, .d (.ins c fs2)] g2 (dK Q) E) E) E) : Wp (fAddO c N b fo fb γ) Q E := by
  unfold fAddO
  refine wp_bind (h.imp fun av g h => ?_)
  obtain ⟨fs, e1, h⟩ := h
  simp only [e1, if_true]
  refine wp_bind (h.imp fun d g2 h => ?_)
  obtain ⟨fs2, rfl, e2, h⟩ := h
  simp only [e2, and_self, if_true]
  exact wp_bind (h.imp fun _ _ z => ⟨z⟩)
theorem wp_exI {c : Nat} {fs : List (Str × D)} {Q : List (Str × D) → Prop} (h : Q fs) : ∃ fs2, D.ins c fs = .ins c fs2 ∧ Q fs2 := ⟨fs, rfl, h⟩
/-- the parts of an f-string, one behind the other -/
theorem wp_fJ0 {acc : Str} {Q : D → Gm → Prop} (h : Q (.str acc) γ) : Wp (fJ [] acc γ) Q E := ⟨h⟩
theorem wp_fJ1 {f : F D} {fs : List (F D)} {acc : Str} {Q : D → Gm → Prop} (h : Wp (f γ) (fun d g => ∃ y, d = .str y ∧ (acc ++ y).length ≤ sizeLine ∧ Wp (fJ fs (acc ++ y) g) Q E) E) : Wp (fJ (f :: fs) acc γ) Q E := by
  unfold fJ
  refine wp_bind (h.imp fun d g h => ?_)
  obtain ⟨y, rfl, hz, h⟩ := h
  simp only [hz, if_true]
  exact h
theorem wp_exS {y : Str} {Q : Str → Prop} (h : Q y) : ∃ y', D.str y = .str y' ∧ Q y' := ⟨y, rfl, h⟩
theorem wp_s1 {β : Type} {g : Str → D → Option β} {Q : β → Gm → Prop} (h : Wp (fa γ) (fun x g1 => ∃ s, x = .str s ∧ Wp (fb g1) (fun y g2 => ∃ z, g s y = some z ∧ Q z g2) E) E) : Wp (fS1 g fa fb γ) Q E := by
  unfold fS1
  refine wp_bind (h.imp fun x g1 h => ?_)
  obtain ⟨s, rfl, h⟩ := h
  exact wp_bind (h.imp fun y g2 z => wp_liftE z)
end
theorem q_fmtI {i : Int} (h : i.natAbs.log2 < 1920) : dFmt (.int i) = some (.str (toString i)) := by simp only [dFmt]; rw [if_pos h]
theorem q_fmtS {y : Str} (h : y.length ≤ sizeLine) : dFmt (.str y) = some (.str y) := by simp only [dFmt]; rw [if_pos h]
theorem q_strI {i : Int} (h : i.natAbs.log2 < 1920) : dStr (.int i) = some (.str (toString i)) := by simp only [dStr]; rw [if_pos h]
theorem q_strR {y : Str} : dStrR (.str y) = some (.str y) := rfl
theorem q_lenR {n : Int} (h : 0 ≤ n ∧ n < 2 ^ 63) : dLenR (.int n) = some (.int n) := by simp only [dLenR]; rw [if_pos h]
theorem q_addS {x y : Str} (h : x.length + y.length ≤ sizeLine) : dAdd (.str x) (.str y) = some (.str (x ++ y)) := by simp only [dAdd]; rw [if_pos h]
theorem q_addL {x y : List D} (h : x.length + y.length ≤ sizeLine) : dAdd (.lst x) (.lst y) = some (.lst (x ++ y)) := by simp only [dAdd]; rw [if_pos h]
theorem q_addT {x y : List D} (h : x.length + y.length ≤ sizeLine) : dAdd (.tup x) (.tup y) = some (.tup (x ++ y)) := by simp only [dAdd]; rw [if_pos h]
theorem q_isC_ins {c c' : Nat} {fs : List (Str × D)} {r : Bool} (h : c' = c) : dIsC [(c, r)] (.ins c' fs) = some (.bl r) := by subst h; simp [dIsC, dIsi, isiCc, List.lookup]
theorem q_isC_non {tb : List (Nat × Bool)} : dIsC tb .non = some (.bl false) := by simp only [dIsC, dIsi, show isiCb "NoneType" = some false from by decide, Option.map_some]
theorem q_isC_bl {tb : List (Nat × Bool)} {b : Bool} : dIsC tb (.bl b) = some (.bl false) := by simp only [dIsC, dIsi, show isiCb "bool" = some false from by decide, Option.map_some]
theorem q_isC_int {tb : List (Nat × Bool)} {i : Int} : dIsC tb (.int i) = some (.bl false) := by simp only [dIsC, dIsi, show isiCb "int" = some false from by decide, Option.map_some]
theorem q_isC_str {tb : List (Nat × Bool)} {x : Str} : dIsC tb (.str x) = some (.bl false) := by simp only [dIsC, dIsi, show isiCb "str" = some false from by decide, Option.map_some]
theorem q_isC_lst {tb : List (Nat × Bool)} {xs : List D} : dIsC tb (.lst xs) = some (.bl false) := by simp only [dIsC, dIsi, show isiCb "list" = some false from by decide, Option.map_some]
theorem q_isC_tup {tb : List (Nat × Bool)} {xs : List D} : dIsC tb (.tup xs) = some (.bl false) := by simp only [dIsC, dIsi, show isiCb "tuple" = some false from by decide, Option.map_some]
theorem wp_n1 {γ : Gm} {E : Ex → Gm → Prop} {k : D → Option (List D)} {fa : F D} {Q : MO → Gm → Prop} (h : Wp (fa γ) (fun x g => ∃ xs, k x = some xs ∧ Q (.lst xs) g) E) : Wp (n1 k fa γ) Q E :=
  wp_f1 (h.imp fun x g ⟨xs, e, q⟩ => ⟨.lst xs, by rw [e]; rfl, q⟩)
theorem q_dlL {xs : List D} : dList (.lst xs) = some xs := rfl
theorem q_dlT {xs : List D} : dList (.tup xs) = some xs := rfl
theorem wp_szR {α : Type} {l : List α} {Q : Prop} (h : Nat.ble l.length 64 = true) (q : Q) : l.length ≤ sizeLine ∧ Q := ⟨len_sz (Nat.le_of_ble_eq_true h), q⟩
end FC

namespace FC
open PySem PySem.Spec PyProof.Rows L2

/-! ### limits: what they let by together -/
/-- a limit as the program takes it -/
def In20 (p : Int × Int) : Prop := 1 ≤ p.1 ∧ p.1 ≤ 20 ∧ 1 ≤ p.2 ∧ p.2 ≤ 20
instance (p : Int × Int) : Decidable (In20 p) := by unfold In20; exact inferInstance
structure Good (ps : List (Int × Int)) : Prop where
  ne : ps ≠ []
  nd : ps.Nodup
  few : ps.length ≤ 6
  ins : ∀ p ∈ ps, In20 p
abbrev lim (ps : List (Int × Int)) : D := .ins 0 [("kept", .tup (limsD ps))]
theorem limsD_append (ps qs : List (Int × Int)) : limsD (ps ++ qs) = limsD ps ++ limsD qs := List.map_append ..
theorem dInts_map : ∀ ns : List Int, dInts (ns.map D.int) = some ns
  | [] => rfl
  | n :: ns => by simp [dInts, dInts_map ns]
theorem dBls_map : ∀ ns : List Bool, dBls (ns.map D.bl) = some ns
  | [] => rfl
  | n :: ns => by simp [dBls, dBls_map ns]
theorem dStrs_map : ∀ ns : List Str, dStrs (ns.map D.str) = some ns
  | [] => rfl
  | n :: ns => by simp [dStrs, dStrs_map ns]
def sumAt (tab : List Int) (s : Int) (p : Int × Int) : Int := p.2 + tab.getD (s - p.1).toNat 0
def tabS (ps : List (Int × Int)) : Nat → List Int
  | 0 => [0]
  | n + 1 => tabS ps n ++ [minI (ps.map (sumAt (tabS ps n) ((n : Int) + 1)))]
theorem tabS_length (ps : List (Int × Int)) : ∀ n, (tabS ps n).length = n + 1
  | 0 => rfl
  | n + 1 => by simp [tabS, tabS_length ps n]
/-! ### the most within a length: what is known of it -/
def most (ps : List (Int × Int)) (n : Nat) : Int := (tabS ps n).getD n 0
theorem tabS_get (ps : List (Int × Int)) {k : Nat} : ∀ {n : Nat}, k ≤ n → (tabS ps n).getD k 0 = most ps k
  | 0, h => by
    have : k = 0 := by omega
    subst this; rfl
  | n + 1, h => by
    by_cases e : k = n + 1
    · subst e; rfl
    · have hk : k ≤ n := by omega
      rw [← tabS_get ps hk, tabS]
      rw [List.getD_eq_getElem?_getD, List.getD_eq_getElem?_getD, List.getElem?_append_left (by rw [tabS_length]; omega)]
theorem most_zero (ps : List (Int × Int)) : most ps 0 = 0 := rfl
theorem most_succ {ps : List (Int × Int)} (hp : ∀ p ∈ ps, In20 p) (n : Nat) : most ps (n + 1) = minI (ps.map fun p => p.2 + most ps ((n : Int) + 1 - p.1).toNat) := by
  have e : most ps (n + 1) = minI (ps.map (sumAt (tabS ps n) ((n : Int) + 1))) := by
    unfold most
    rw [tabS, List.getD_eq_getElem?_getD, List.getElem?_append_right (by rw [tabS_length]; omega), tabS_length]
    simp
  rw [e]
  congr 1
  refine List.map_congr_left fun p h => ?_
  obtain ⟨h1, _⟩ := hp p h
  unfold sumAt
  rw [tabS_get ps (by omega)]
section
variable {ps : List (Int × Int)}
theorem most_le (G : Good ps) (n : Nat) {p : Int × Int} (h : p ∈ ps) : most ps (n + 1) ≤ p.2 + most ps ((n : Int) + 1 - p.1).toNat := by
  rw [most_succ G.ins]
  exact (minI_spec (by simpa using G.ne)).2 _ (List.mem_map.mpr ⟨p, h, rfl⟩)
theorem most_is (G : Good ps) (n : Nat) : ∃ p ∈ ps, most ps (n + 1) = p.2 + most ps ((n : Int) + 1 - p.1).toNat := by
  rw [most_succ G.ins]
  obtain ⟨p, h, e⟩ := List.mem_map.mp (minI_spec (ns := ps.map fun p => p.2 + most ps ((n : Int) + 1 - p.1).toNat) (by simpa using G.ne)).1
  exact ⟨p, h, e.symm⟩
theorem most_nonneg (G : Good ps) : ∀ n, 0 ≤ most ps n := fun n => by
  induction n using Nat.strongRecOn with
  | _ n ih =>
    cases n with
    | zero => exact Int.le_refl _
    | succ n =>
      obtain ⟨p, h, e⟩ := most_is G n
      obtain ⟨h1, _, h3, _⟩ := G.ins p h
      have := ih ((n : Int) + 1 - p.1).toNat (by omega)
      omega
theorem most_step (G : Good ps) : ∀ n, most ps n ≤ most ps (n + 1) := fun n => by
  induction n using Nat.strongRecOn with
  | _ n ih =>
    cases n with
    | zero => exact most_nonneg G 1
    | succ n =>
      obtain ⟨p, h, e⟩ := most_is G (n + 1)
      obtain ⟨h1, _, h3, _⟩ := G.ins p h
      have l := most_le G n h
      by_cases c : p.1 ≤ (n : Int) + 1
      · have a1 : (((n + 1 : Nat) : Int) + 1 - p.1).toNat = ((n : Int) + 1 - p.1).toNat + 1 := by push_cast; omega
        have := ih ((n : Int) + 1 - p.1).toNat (by omega)
        rw [a1] at e
        omega
      · have a0 : ((n : Int) + 1 - p.1).toNat = 0 := by omega
        have := most_nonneg G (((n + 1 : Nat) : Int) + 1 - p.1).toNat
        rw [a0, most_zero] at l
        omega
theorem most_mono (G : Good ps) {a b : Nat} (h : a ≤ b) : most ps a ≤ most ps b := by
  induction h with
  | refl => exact Int.le_refl _
  | step _ ih => exact Int.le_trans ih (most_step G _)
theorem most_add (G : Good ps) : ∀ a b, most ps (a + b) ≤ most ps a + most ps b := fun a => by
  induction a using Nat.strongRecOn with
  | _ a ih =>
    intro b
    cases a with
    | zero => rw [most_zero, Nat.zero_add]; omega
    | succ a =>
      obtain ⟨p, h, e⟩ := most_is G a
      obtain ⟨h1, _, h3, _⟩ := G.ins p h
      have l := most_le G (a + b) h
      have ea : a + 1 + b = a + b + 1 := by omega
      rw [ea]
      by_cases c : p.1 ≤ (a : Int) + 1
      · have a1 : (((a + b : Nat) : Int) + 1 - p.1).toNat = ((a : Int) + 1 - p.1).toNat + b := by push_cast; omega
        have := ih ((a : Int) + 1 - p.1).toNat (by omega) b
        rw [a1] at l
        omega
      · have a0 : ((a : Int) + 1 - p.1).toNat = 0 := by omega
        have := most_mono G (show (((a + b : Nat) : Int) + 1 - p.1).toNat ≤ b by push_cast; omega)
        rw [a0, most_zero] at e
        omega
theorem most_one (G : Good ps) {p : Int × Int} (h : p ∈ ps) : most ps p.1.toNat ≤ p.2 := by
  obtain ⟨h1, _⟩ := G.ins p h
  obtain ⟨n, e⟩ : ∃ n, p.1.toNat = n + 1 := ⟨p.1.toNat - 1, by omega⟩
  have l := most_le G n h
  have a0 : ((n : Int) + 1 - p.1).toNat = 0 := by omega
  rw [a0, most_zero, ← e] at l
  omega
theorem most_times (G : Good ps) {p : Int × Int} (h : p ∈ ps) : ∀ t : Nat, most ps (p.1.toNat * t) ≤ p.2 * t
  | 0 => by simp [most_zero]
  | t + 1 => by
    have e : p.1.toNat * (t + 1) = p.1.toNat * t + p.1.toNat := Nat.mul_succ ..
    have := most_add G (p.1.toNat * t) p.1.toNat
    have := most_times G h t
    have := most_one G h
    have e2 : p.2 * ((t + 1 : Nat) : Int) = p.2 * t + p.2 := by push_cast; rw [Int.mul_add, Int.mul_one]
    rw [e, e2]
    omega
end
theorem q_sumL (ns : List Int) : dSum (.lst (ns.map D.int)) = some (.int ns.sum) := by simp only [dSum, dInts_map, Option.map_some]
theorem q_sumT (ns : List Int) : dSum (.tup (ns.map D.int)) = some (.int ns.sum) := by simp only [dSum, dInts_map, Option.map_some]
theorem q_min1 {ns : List Int} (h : ns ≠ []) : dMin1 (.lst (ns.map D.int)) = some (.int (minI ns)) := by simp only [dMin1, dInts_map, Option.bind_some]; rw [if_neg h]
theorem q_max1 {ns : List Int} (h : ns ≠ []) : dMax1 (.lst (ns.map D.int)) = some (.int (maxI ns)) := by simp only [dMax1, dInts_map, Option.bind_some]; rw [if_neg h]
theorem q_all (bs : List Bool) : dAll (.lst (bs.map D.bl)) = some (.bl (bs.all _root_.id)) := by simp only [dAll, dBls_map, Option.map_some]
theorem q_any (bs : List Bool) : dAny (.lst (bs.map D.bl)) = some (.bl (bs.any _root_.id)) := by simp only [dAny, dBls_map, Option.map_some]
theorem q_ix {xs : List D} {k : Nat} (h : k < xs.length) : dIx (.lst xs) (.int k) = some xs[k] := atI_nat rfl (List.getElem?_eq_getElem h)
theorem q_ixT {xs : List D} {k : Nat} (h : k < xs.length) : dIx (.tup xs) (.int k) = some xs[k] := atI_nat rfl (List.getElem?_eq_getElem h)
theorem q_ixE {xs : List D} {i : Int} {k : Nat} {d : D} (h : i = k) (e : xs[k]? = some d) : dIx (.lst xs) (.int i) = some d := atI_nat h e
theorem q_ixTE {xs : List D} {i : Int} {k : Nat} {d : D} (h : i = k) (e : xs[k]? = some d) : dIx (.tup xs) (.int i) = some d := atI_nat h e
theorem q_rng1 {i : Int} {n : Nat} (h : i = n) (hn : n ≤ 10000000) : dRng1 [.int i] = some (rngL 0 1 n) := by
  subst h
  simp only [dRng1]
  rw [if_pos ⟨by omega, by omega⟩]
  rfl
theorem q_rng1m {i : Int} (hn : i ≤ 10000000 ∧ -10000000 ≤ i) : dRng1 [.int i] = some (rngL 0 1 i.toNat) := by
  simp only [dRng1]
  rw [if_pos ⟨by omega, by omega⟩]
theorem q_rng2 {i j : Int} (hi : -10000000 ≤ i ∧ i ≤ 10000000) (hj : -10000000 ≤ j ∧ j ≤ 10000000) : dRng2 [.int i, .int j] = some (rngL i 1 (j - i).toNat) := by
  simp only [dRng2]
  rw [if_pos ⟨by omega, by omega, by omega, by omega⟩]
theorem mem_rng0 {n : Nat} {d : D} (h : d ∈ rngL 0 1 n) : ∃ i : Nat, i < n ∧ d = .int i := by
  obtain ⟨i, hi, rfl⟩ := List.mem_map.mp h
  exact ⟨i, List.mem_range.mp hi, by simp⟩
theorem rng0_get {n k : Nat} {d : D} (h : (rngL 0 1 n)[k]? = some d) : k < n ∧ d = .int k := by
  obtain ⟨a, b⟩ := rngL_get h
  exact ⟨a, by rw [b]; congr 1; omega⟩
theorem rngL_len (lo c : Int) (n : Nat) : (rngL lo c n).length = n := by simp [rngL]
theorem q_mod {i j : Int} (h : 0 < j) : dMod (.int i) (.int j) = some (.int (i % j)) := by simp only [dMod]; rw [if_pos h]
theorem q_div {i j : Int} (h : 0 < j ∧ j < 1073741824) : dFdiv (.int i) (.int j) = some (.int (i / j)) := by simp only [dFdiv]; rw [if_pos h]
theorem q_mulR {i j : Int} (h : -18446744073709551616 < j ∧ j < 18446744073709551616) : dMul (.int i) (.int j) = some (.int (i * j)) := by simp only [dMul]; rw [if_pos (.inr (by simpa using h))]
theorem q_mulL {i j : Int} (h : -18446744073709551616 < i ∧ i < 18446744073709551616) : dMul (.int i) (.int j) = some (.int (i * j)) := by simp only [dMul]; rw [if_pos (.inl (by simpa using h))]
theorem q_pow {i j : Int} (h : 0 ≤ j ∧ j ≤ 1000000 ∧ i.natAbs < 18446744073709551616) : dPow (.int i) (.int j) = some (.int (i ^ j.toNat)) := by simp only [dPow]; rw [if_pos (by simpa using h)]
theorem q_notInP (p : Int × Int) (ps : List (Int × Int)) : dNotIn (limD p) (.lst (limsD ps)) = some (.bl (!decide (p ∈ ps))) := dNotIn_pr p ps
end FC

namespace FC
open PySem PySem.Spec PyProof.Rows L2

/-! ### texts of limits -/
/-- signs as repr wants them -/
def okS (x : Str) : Prop := ∀ c ∈ x.cps.toList, c < 16 ^ 8
theorem okS_of (s : String) : okS (Str.ofString s) := fun c hc => by
  rw [Str.ofString_eq_toList] at hc
  simp only [List.mem_map] at hc
  obtain ⟨ch, _, rfl⟩ := hc
  have h := ch.valid
  have e : ch.toNat = ch.val.toNat := rfl
  simp only [UInt32.isValidChar, Nat.isValidChar] at h
  rw [e]
  omega
theorem okS_app {x y : Str} (hx : okS x) (hy : okS y) : okS (x ++ y) := fun c hc => by
  have e : (x ++ y).cps.toList = x.cps.toList ++ y.cps.toList := Array.toList_append ..
  rw [e] at hc
  exact (List.mem_append.mp hc).elim (hx c) (hy c)
theorem empty_app (x : Str) : Str.empty ++ x = x := by
  show (⟨#[] ++ x.cps⟩ : Str) = x
  simp
theorem fold_ok (sep : Str) (hs : okS sep) : ∀ (ys : List Str) (acc : Array Nat), (∀ c ∈ acc.toList, c < 16 ^ 8) → (∀ y ∈ ys, okS y) → ∀ c ∈ (ys.foldl (fun acc p => acc ++ sep.cps ++ p.cps) acc).toList, c < 16 ^ 8
  | [], acc, h, _ => h
  | y :: ys, acc, h, hy => by
    rw [List.foldl_cons]
    refine fold_ok sep hs ys _ (fun c hc => ?_) fun z hz => hy z (List.mem_cons_of_mem _ hz)
    rw [Array.toList_append, Array.toList_append] at hc
    rcases List.mem_append.mp hc with hc | hc
    · exact (List.mem_append.mp hc).elim (h c) (hs c)
    · exact hy y List.mem_cons_self c hc
theorem okS_glued (sep : Str) (hs : okS sep) (ys : List Str) (h : ∀ y ∈ ys, okS y) : okS (Builtin.Str.glued sep ys) := by
  refine fold_ok sep hs _ _ (fun c hc => ?_) fun y hy => h y (List.mem_of_mem_drop hy)
  cases ys with
  | nil => cases hc
  | cons y ys => exact h y List.mem_cons_self c hc
theorem fold_len (sep : Str) : ∀ (ys : List Str) (acc : Array Nat), (ys.foldl (fun acc p => acc ++ sep.cps ++ p.cps) acc).size = acc.size + ((ys.map (·.length)).sum + ys.length * sep.length)
  | [], acc => by simp
  | y :: ys, acc => by
    rw [List.foldl_cons, fold_len sep ys, Array.size_append, Array.size_append, List.map_cons, List.sum_cons, List.length_cons, Nat.succ_mul]
    show _ + sep.length + y.length + _ = _
    omega
theorem glued_le (sep : Str) (ys : List Str) : (Builtin.Str.glued sep ys).length ≤ (ys.map (·.length)).sum + ys.length * sep.length := by
  have e : (Builtin.Str.glued sep ys).length = (ys.headD Str.empty).cps.size + (((ys.drop 1).map (·.length)).sum + (ys.drop 1).length * sep.length) := fold_len sep _ _
  rw [e]
  cases ys with
  | nil => simp [Str.empty]
  | cons y ys =>
    show y.length + (((List.drop 1 (y :: ys)).map (·.length)).sum + (List.drop 1 (y :: ys)).length * sep.length) ≤ _
    rw [List.drop_succ_cons, List.drop_zero, List.map_cons, List.sum_cons, List.length_cons, Nat.succ_mul]
    omega
def lineS (p : Int × Int) : Str := (((("at most " : String) : Str) ++ ((toString p.2 : String) : Str)) ++ ((" in " : String) : Str)) ++ ((toString p.1 : String) : Str) ++ (("\n" : String) : Str)
def limText (ps : List (Int × Int)) : Str := Txt.join (("" : String) : Str) (ps.map lineS)
def nameS (n : Nat) : Str := ((("Limits(" : String) : Str) ++ ((toString (n : Int) : String) : Str)) ++ ((" limits)" : String) : Str)
theorem log_small {i : Int} (h : -1000000000000 < i ∧ i < 1000000000000) : i.natAbs.log2 < 1920 := by
  have : i.natAbs.log2 < 100 := log2_lt (by
    have : (2 : Nat) ^ 99 = 633825300114114700748351602688 := by decide
    omega)
  omega
theorem numS_len {i : Int} (h : -1000000000000 < i ∧ i < 1000000000000) : ((toString i : String) : Str).length ≤ 13 := by
  rw [PySem.ofString_length]
  exact int_text_length_le10 (k := 12) (by decide) (by omega)
theorem lineS_len {p : Int × Int} (h1 : -1000000000000 < p.1 ∧ p.1 < 1000000000000) (h2 : -1000000000000 < p.2 ∧ p.2 < 1000000000000) : (lineS p).length ≤ 40 := by
  have a := numS_len h1
  have b := numS_len h2
  unfold lineS
  simp only [strLen_add]
  have e1 : (("at most " : String) : Str).length = 8 := by decide
  have e2 : ((" in " : String) : Str).length = 4 := by decide
  have e3 : (("\n" : String) : Str).length = 1 := by decide
  omega
theorem lineS_ok (p : Int × Int) : okS (lineS p) := okS_app (okS_app (okS_app (okS_app (okS_of _) (okS_of _)) (okS_of _)) (okS_of _)) (okS_of _)
theorem limText_ok (ps : List (Int × Int)) : okS (limText ps) := okS_glued _ (okS_of _) _ fun y hy => by
  obtain ⟨p, _, rfl⟩ := List.mem_map.mp hy
  exact lineS_ok p
theorem lines_sum {ps : List (Int × Int)} (h : ∀ p ∈ ps, In20 p) : ((ps.map lineS).map (·.length)).sum ≤ 40 * ps.length := by
  induction ps with
  | nil => simp
  | cons p ps ih =>
    obtain ⟨a, b, c, d⟩ := h p List.mem_cons_self
    have := ih fun q hq => h q (List.mem_cons_of_mem _ hq)
    have := lineS_len (p := p) (by omega) (by omega)
    simp only [List.map_cons, List.sum_cons, List.length_cons]
    omega
theorem q_joinL {sep : Str} {ys : List Str} (h : (ys.map (·.length)).sum + ys.length * sep.length ≤ 16777216) : dJoin sep (.lst (ys.map D.str)) = some (.str (Txt.join sep ys)) := by
  simp only [dJoin, dItems, Option.bind_some, dStrs_map]
  rw [if_pos h]
theorem q_joinT {sep : Str} {ys : List Str} (h : (ys.map (·.length)).sum + ys.length * sep.length ≤ 16777216) : dJoin sep (.tup (ys.map D.str)) = some (.str (Txt.join sep ys)) := by
  simp only [dJoin, dItems, Option.bind_some, dStrs_map]
  rw [if_pos h]
theorem limText_len {ps : List (Int × Int)} (h : ∀ p ∈ ps, In20 p) : (limText ps).length ≤ 40 * ps.length := by
  have a := glued_le (("" : String) : Str) (ps.map lineS)
  have b := lines_sum h
  have e : (("" : String) : Str).length = 0 := by decide
  rw [e] at a
  unfold limText Txt.join
  omega
theorem nameS_len {n : Nat} (h : n < 1000000000) : (nameS n).length ≤ 40 := by
  have a := numS_len (i := n) (by omega)
  unfold nameS
  simp only [strLen_add]
  have e1 : (("Limits(" : String) : Str).length = 7 := by decide
  have e2 : ((" limits)" : String) : Str).length = 8 := by decide
  omega
theorem nameS_ok (n : Nat) : okS (nameS n) := okS_app (okS_app (okS_of _) (okS_of _)) (okS_of _)
theorem limY_fine {ps : List (Int × Int)} (h : ∀ p ∈ ps, In20 p) : tfineL (ps.map limY) ∧ PyData.depthAll (ps.map limY) ≤ 1 ∧ tcostL (ps.map limY) ≤ 300 * ps.length := by
  induction ps with
  | nil => exact ⟨trivial, Nat.zero_le _, Nat.le_refl _⟩
  | cons p ps ih =>
    obtain ⟨a, b, c⟩ := ih fun q hq => h q (List.mem_cons_of_mem _ hq)
    obtain ⟨q1, q2, q3, q4⟩ := h p List.mem_cons_self
    refine ⟨⟨⟨tfine_int (by omega), tfine_int (by omega), trivial⟩, a⟩, ?_, ?_⟩
    · simp only [List.map_cons, PyData.depthAll, limY, PyData.depth]
      omega
    · simp only [List.map_cons, tcostL, limY, tcost, List.length_cons]
      omega
/-- what limits tell of themselves -/
def seenD (ps : List (Int × Int)) : D := .lst [.tup (limsD ps), .int ps.length, .lst (limsD ps), .str (nameS ps.length), .str (limText ps)]
def seenY (ps : List (Int × Int)) : PyData := .list [.tuple (ps.map limY), .int ps.length, .list (ps.map limY), .str (nameS ps.length), .str (limText ps)]
theorem seen_data (ps : List (Int × Int)) : (seenD ps).data = some (seenY ps) := by simp only [seenD, seenY, D.data, D.dataL, limsD_data, Option.map_some]
theorem seen_fine {ps : List (Int × Int)} (h : ∀ p ∈ ps, In20 p) (hl : ps.length ≤ 100) : tfine (seenY ps) ∧ (seenY ps).depth ≤ 3 ∧ tcost (seenY ps) ≤ 200000 := by
  obtain ⟨a, b, c⟩ := limY_fine h
  have l1 := limText_len h
  have l2 := nameS_len (n := ps.length) (by omega)
  refine ⟨⟨a, tfine_int (by omega), a, nameS_ok _, limText_ok _, trivial⟩, ?_, ?_⟩
  · simp only [seenY, PyData.depth, PyData.depthAll]
    omega
  · simp only [seenY, tcost, tcostL]
    omega
end FC

namespace FC
open PySem PySem.Spec PyProof.Rows L2
open AutoSeq1 (wpAny_loadPart')

/-! ### tuple * n for any small n -/
theorem tuple_mulS (l : Addr) (items : Array Value) (n : Nat) (dd : Option Addr) (sl : Array (Option Value)) (x : Int) (u : Tok) (c0 : (decide (x < -(2 ^ 63)) || decide (x ≥ 2 ^ 63)) = false) (c1 : (items.isEmpty || x == 1) = true) :
    Meets (Builtin.«tuple.__mul__» ⟨[.ref l, .int x u], []⟩) (fun _ R s => s.heap.get? l = some { cls := .type "tuple", dict := dd, data := .seq items n, slots := sl } ∧ R (.ok (.ret (Value.ref l))) s) :=
  .of_wp fun prog w A R s h => by
    obtain ⟨hp, g, d, tk, os⟩ := s
    obtain ⟨hl, h⟩ := h
    have f1 := AutoSeq1.idx_int
    wp_walk using wpAny_loadPart' hl
    repeat (first
      | (refine wpAny_ite_false (decide_eq_false (by rw [c0]; exact Bool.false_ne_true)) ?_; wp_walk using wpAny_loadPart' hl)
      | (refine wpAny_ite_true (decide_eq_true (by rw [c1])) ?_; wp_walk using wpAny_loadPart' hl))
    exact ⟨_, rfl, h⟩
theorem tuple_mulE (l : Addr) (items : Array Value) (n : Nat) (dd : Option Addr) (sl : Array (Option Value)) (x : Int) (u : Tok) (c0 : (decide (x < -(2 ^ 63)) || decide (x ≥ 2 ^ 63)) = false) (c1 : (items.isEmpty || x == 1) = false) (c2 : (decide (x ≤ 0) || items.isEmpty) = true) :
    Meets (Builtin.«tuple.__mul__» ⟨[.ref l, .int x u], []⟩) (fun _ R s => s.heap.get? l = some { cls := .type "tuple", dict := dd, data := .seq items n, slots := sl } ∧
      R (.ok (.ret (Value.ref s.heap.objs.size))) { s with heap := s.heap.push { cls := Value.type "tuple", data := Data.seq #[] }, toks := s.toks }) :=
  .of_wp fun prog w A R s h => by
    obtain ⟨hp, g, d, tk, os⟩ := s
    obtain ⟨hl, h⟩ := h
    have f1 := AutoSeq1.idx_int
    wp_walk using wpAny_loadPart' hl
    repeat (first
      | (refine wpAny_ite_false (decide_eq_false (by rw [c0]; exact Bool.false_ne_true)) ?_; wp_walk using wpAny_loadPart' hl)
      | (refine wpAny_ite_false (decide_eq_false (by rw [c1]; exact Bool.false_ne_true)) ?_; wp_walk using wpAny_loadPart' hl)
      | (refine wpAny_ite_true (decide_eq_true (by rw [c2])) ?_; wp_walk using wpAny_loadPart' hl))
    exact ⟨_, rfl, h⟩
/-- the same tuple; the empty one -/
def rRepS (K : PySem.W.Frag) : R2 := fun x y H Q => ∃ l k xs, x = .ref l ∧ y = .int k ∧ SqT K H l xs ∧ (xs = [] ∨ k = 1) ∧ -1000000 ≤ k ∧ k ≤ 1000000 ∧ Q (.ref l) H
def rRepE (K : PySem.W.Frag) : R2 := fun x y H Q => ∃ l k xs, x = .ref l ∧ y = .int k ∧ SqT K H l xs ∧ xs ≠ [] ∧ -1000000 ≤ k ∧ k ≤ 0 ∧ ∀ p, H p = none → Q (.ref p) (upd H p (.tup []))
section
variable {X : Cx}
theorem op_repS : OpR X (binaryOp .Mult) (rRepS X.K) := by
  intro pins s σ H x y v u Q I rx ry h
  obtain ⟨l, k, xs, rfl, rfl, hT, hne, h1, h2, q⟩ := h
  cases rx
  obtain ⟨t, rfl⟩ := ry
  obtain ⟨its, r, ⟨⟨cls, dd, data, sl⟩, ho, hc, n, hd⟩, hs⟩ := I.tuple hT
  simp only at hc hd
  subst hc hd
  have hle : its.length = xs.length := r.length.symm
  have c0 : (decide (k < -(2 ^ 63)) || decide (k ≥ 2 ^ 63)) = false := by
    rw [decide_eq_false (by omega), decide_eq_false (by omega)] <;> rfl
  have c1 : (its.toArray.isEmpty || k == 1) = true := by
    rcases hne with rfl | rfl
    · have : its = [] := List.eq_nil_of_length_eq_zero hle
      subst this
      rfl
    · simp
  refine wpAny_binaryOp_repeat_ref (T := "tuple") (U := "int") (by decide) ⟨_, ho, rfl⟩ (fun s' => typeIs_int s' k t) noFill_tuple_mul F.fills_int_mul F.slot_int_rmul repeat_tuple F.slot_int_index.lookup
    (call_meets F.slot_int_rmul (typeIs_int s k t) F.entry_int_rmul (F.args_int_rmul_2 _ _) (int_rmul_tuple k t l its.toArray n dd sl)
      ⟨ho, rfl, ⟨_, ho, rfl⟩, call_meets F.slot_tuple_mul ⟨_, ho, rfl⟩ F.entry_tuple_mul (F.args_tuple_mul_2 _ _) (tuple_mulS l its.toArray n dd sl k t c0 c1) ⟨ho, ?_⟩⟩)
  exact ⟨.ref l, H, I, rfl, q⟩
theorem op_repE : OpR X (binaryOp .Mult) (rRepE X.K) := by
  intro pins s σ H x y v u Q I rx ry h
  obtain ⟨l, k, xs, rfl, rfl, hT, hne, h1, h2, q⟩ := h
  cases rx
  obtain ⟨t, rfl⟩ := ry
  obtain ⟨its, r, ⟨⟨cls, dd, data, sl⟩, ho, hc, n, hd⟩, hs⟩ := I.tuple hT
  simp only at hc hd
  subst hc hd
  have hle : its.length = xs.length := r.length.symm
  have hn : its ≠ [] := fun e => hne (by
    rw [e] at hle
    exact List.eq_nil_of_length_eq_zero hle.symm)
  have hi : its.toArray.isEmpty = false := by
    cases its with
    | nil => exact absurd rfl hn
    | cons a b => rfl
  have c0 : (decide (k < -(2 ^ 63)) || decide (k ≥ 2 ^ 63)) = false := by
    rw [decide_eq_false (by omega), decide_eq_false (by omega)] <;> rfl
  have c1 : (its.toArray.isEmpty || k == 1) = false := by
    rw [hi, Bool.false_or]
    exact beq_eq_false_iff_ne.mpr (by omega)
  have c2 : (decide (k ≤ 0) || its.toArray.isEmpty) = true := by
    rw [decide_eq_true h2] <;> rfl
  refine wpAny_binaryOp_repeat_ref (T := "tuple") (U := "int") (by decide) ⟨_, ho, rfl⟩ (fun s' => typeIs_int s' k t) noFill_tuple_mul F.fills_int_mul F.slot_int_rmul repeat_tuple F.slot_int_index.lookup
    (call_meets F.slot_int_rmul (typeIs_int s k t) F.entry_int_rmul (F.args_int_rmul_2 _ _) (int_rmul_tuple k t l its.toArray n dd sl)
      ⟨ho, rfl, ⟨_, ho, rfl⟩, call_meets F.slot_tuple_mul ⟨_, ho, rfl⟩ F.entry_tuple_mul (F.args_tuple_mul_2 _ _) (tuple_mulE l its.toArray n dd sl k t c0 c1 c2) ⟨ho, ?_⟩⟩)
  refine ⟨.ref s.heap.objs.size, _, I.laid (t' := s.toks) (o := .tup []) (fun b ob q => Heap.get?_push_of_some _ q) (Nat.le_refl _) ?_, rfl, q _ (I.hok.fresh (Nat.le_refl _))⟩
  exact ⟨Nat.zero_le _, [], .nil, IsTup.new _ _⟩
end
/-- tuple * n as data -/
def dMulT : D → D → Option D
  | .tup xs, .int k => if -1000000 ≤ k ∧ k ≤ 1000 ∧ xs.length ≤ 1000 then some (.tup (List.replicate k.toNat xs).flatten) else none
  | x, y => dMul x y
section
variable {C : Ct} {W : WX} {X : Cx} {m1 p1 m2 p2 : Bool} {a b : Expr} {fa fb : F D} {pos : Pos}
theorem flat_rep_nil {α : Type} : ∀ n : Nat, (List.replicate n ([] : List α)).flatten = []
  | 0 => rfl
  | n + 1 => by rw [List.replicate_succ, List.flatten_cons, flat_rep_nil n]; rfl
theorem op2_mulT : Op2 C (fun x y H Q => rMulA X.K x y H Q ∨ (rRepS X.K x y H Q ∨ rRepE X.K x y H Q)) dMulT := fun M H x y dx dy d Q hd sx sy e k => by
  cases dx with
  | tup xs =>
    cases dy with
    | int j =>
      simp only [dMulT] at e
      split at e
      case isFalse => cases e
      rename_i h
      obtain ⟨h1, h2, h3⟩ := h
      cases e
      by_cases hx : xs = []
      · subst hx
        obtain ⟨l, vs, rfl, ha, na, ra⟩ := sx.tupH
        rw [sy.intH]
        have ev : vs = [] := ra.nilD.mpr rfl
        refine .inr (.inl ⟨l, j, vs, rfl, rfl, .inl (.inl ha), .inl ev, h1, by omega, k _ H (Keep.refl _ _) ?_⟩)
        rw [flat_rep_nil]
        exact .tup ha na ra
      · by_cases h2' : 2 ≤ j
        · exact .inl (op2_mul M H x y _ _ _ Q hd sx sy (by simp only [dMul]; rw [if_pos ⟨hx, h2', h2, h3⟩]) k)
        · obtain ⟨l, vs, rfl, ha, na, ra⟩ := sx.tupH
          rw [sy.intH]
          by_cases hj : j = 1
          · subst hj
            refine .inr (.inl ⟨l, 1, vs, rfl, rfl, .inl (.inl ha), .inr rfl, h1, by omega, k _ H (Keep.refl _ _) ?_⟩)
            have e1 : (List.replicate (1 : Int).toNat xs).flatten = xs := by simp
            rw [e1]
            exact .tup ha na ra
          · refine .inr (.inr ⟨l, j, vs, rfl, rfl, .inl (.inl ha), fun z => hx (ra.nilD.mp z), h1, by omega, fun p hp => ?_⟩)
            have e0 : j.toNat = 0 := by omega
            rw [e0] at k
            exact k _ _ (Keep.new hp) (rep_newT hd hp .nil)
    | _ => exact .inl (op2_mul M H x y _ _ _ Q hd sx sy e k)
  | int i => exact .inl (op2_mul M H x y _ _ _ Q hd sx sy (by cases dy <;> exact e) k)
  | lst xs => exact .inl (op2_mul M H x y _ _ _ Q hd sx sy (by cases dy <;> exact e) k)
  | _ => exact .inl (op2_mul M H x y _ _ _ Q hd sx sy (by cases dy <;> exact e) k)
theorem fx_mulT (ha : FX C W m1 p1 X a fa) (hb : FX C W m2 p2 X b fb) (hm : (m1 || p2) = true := by rfl) : FX C W true (p1 && p2) X (.BinOp a .Mult b pos) (f2 dMulT fa fb) := Op2.bin ((op_mul.or (op_rep.or op_repT)).or (op_repS.or op_repE)) op2_mulT ha hb hm
end
theorem q_mulT {xs : List D} {k : Int} (h : -1000000 ≤ k ∧ k ≤ 1000 ∧ xs.length ≤ 1000) : dMulT (.tup xs) (.int k) = some (.tup (List.replicate k.toNat xs).flatten) := by simp only [dMulT]; rw [if_pos h]
theorem q_mulTi {i j : Int} : dMulT (.int i) (.int j) = dMul (.int i) (.int j) := rfl
theorem q_mulTR {i j : Int} (h : -18446744073709551616 < j ∧ j < 18446744073709551616) : dMulT (.int i) (.int j) = some (.int (i * j)) := q_mulR h
theorem q_mulTL {i j : Int} (h : -18446744073709551616 < i ∧ i < 18446744073709551616) : dMulT (.int i) (.int j) = some (.int (i * j)) := q_mulL h
end FC

namespace FC
open PySem PySem.Spec PyProof.Rows L2

/-! ### requests that wait: the sums -/
/-- what has come in the first ticks -/
def rowA (r : List Int) (n : Nat) : Int := (r.take n).sum
structure RowOk (r : List Int) : Prop where
  each : ∀ x ∈ r, 0 ≤ x ∧ x ≤ 60
  sum : r.sum ≤ 60
theorem sum_nn : ∀ {l : List Int}, (∀ x ∈ l, 0 ≤ x) → 0 ≤ l.sum
  | [], _ => by simp
  | x :: l, h => by
    have a := h x List.mem_cons_self
    have b := sum_nn fun y hy => h y (List.mem_cons_of_mem _ hy)
    rw [List.sum_cons]
    omega
section
variable {r : List Int}
theorem rowA_zero : rowA r 0 = 0 := rfl
theorem rowA_succ {n : Nat} (h : n < r.length) : rowA r (n + 1) = rowA r n + r[n] := by
  unfold rowA
  rw [List.take_succ_eq_append_getElem h, List.sum_append]
  simp
theorem rowA_big {n : Nat} (h : r.length ≤ n) : rowA r n = r.sum := by unfold rowA; rw [List.take_of_length_le h]
theorem rowA_step (h : RowOk r) (n : Nat) : rowA r n ≤ rowA r (n + 1) := by
  by_cases c : n < r.length
  · rw [rowA_succ c]
    have := (h.each _ (List.getElem_mem c)).1
    omega
  · rw [rowA_big (by omega), rowA_big (by omega)]
    exact Int.le_refl _
theorem rowA_mono (h : RowOk r) {a b : Nat} (l : a ≤ b) : rowA r a ≤ rowA r b := by
  induction l with
  | refl => exact Int.le_refl _
  | step _ ih => exact Int.le_trans ih (rowA_step h _)
theorem rowA_le (h : RowOk r) (n : Nat) : 0 ≤ rowA r n ∧ rowA r n ≤ r.sum := by
  refine ⟨by have := rowA_mono h (Nat.zero_le n); rwa [rowA_zero] at this, ?_⟩
  have := rowA_mono h (show n ≤ n + r.length by omega)
  rwa [rowA_big (n := n + r.length) (by omega)] at this
end
/-- what is through in the first ticks -/
def passF (ps : List (Int × Int)) (r : List Int) (n : Nat) : Int := minI ((List.range (n + 1)).map fun s => rowA r s + most ps (n - s))
section
variable {ps : List (Int × Int)} {r : List Int}
theorem passF_le {n s : Nat} (h : s ≤ n) : passF ps r n ≤ rowA r s + most ps (n - s) :=
  (minI_spec (by simp)).2 _ (List.mem_map.mpr ⟨s, List.mem_range.mpr (by omega), rfl⟩)
theorem passF_is (n : Nat) : ∃ s, s ≤ n ∧ passF ps r n = rowA r s + most ps (n - s) := by
  obtain ⟨s, hs, e⟩ := List.mem_map.mp (minI_spec (ns := (List.range (n + 1)).map fun s => rowA r s + most ps (n - s)) (by simp)).1
  exact ⟨s, by have := List.mem_range.mp hs; omega, e.symm⟩
theorem passF_zero : passF ps r 0 = 0 := by
  obtain ⟨s, h, e⟩ := passF_is (ps := ps) (r := r) 0
  have : s = 0 := by omega
  subst this
  rw [e, rowA_zero, most_zero]
  rfl
theorem passF_row (n : Nat) : passF ps r n ≤ rowA r n := by
  have h := passF_le (ps := ps) (r := r) (Nat.le_refl n)
  rw [Nat.sub_self, most_zero] at h
  omega
theorem passF_nn (G : Good ps) (R : RowOk r) (n : Nat) : 0 ≤ passF ps r n := by
  obtain ⟨s, h, e⟩ := passF_is (ps := ps) (r := r) n
  have := (rowA_le R s).1
  have := most_nonneg G (n - s)
  omega
theorem passF_step (G : Good ps) (R : RowOk r) (n : Nat) : passF ps r n ≤ passF ps r (n + 1) := by
  obtain ⟨s, h, e⟩ := passF_is (ps := ps) (r := r) (n + 1)
  by_cases c : s ≤ n
  · have a := passF_le (ps := ps) (r := r) c
    have b := most_step G (n - s)
    have e2 : n + 1 - s = n - s + 1 := by omega
    rw [e2] at e
    omega
  · have es : s = n + 1 := by omega
    subst es
    have a := passF_row (ps := ps) (r := r) n
    have b := rowA_step R n
    rw [Nat.sub_self, most_zero] at e
    omega
theorem passF_mono (G : Good ps) (R : RowOk r) {a b : Nat} (l : a ≤ b) : passF ps r a ≤ passF ps r b := by
  induction l with
  | refl => exact Int.le_refl _
  | step _ ih => exact Int.le_trans ih (passF_step G R _)
theorem passF_lim (G : Good ps) (n : Nat) {p : Int × Int} (hp : p ∈ ps) : passF ps r (n + 1) ≤ p.2 + passF ps r ((n : Int) + 1 - p.1).toNat := by
  obtain ⟨q1, q2, q3, q4⟩ := G.ins p hp
  obtain ⟨j, ej⟩ : ∃ j : Nat, j = ((n : Int) + 1 - p.1).toNat := ⟨_, rfl⟩
  rw [← ej]
  obtain ⟨s, h, e⟩ := passF_is (ps := ps) (r := r) j
  have a := passF_le (ps := ps) (r := r) (n := n + 1) (s := s) (by omega)
  have e2 : n + 1 - s = (n - s) + 1 := by omega
  have b := most_le G (n - s) hp
  have e3 : (((n - s : Nat) : Int) + 1 - p.1).toNat = j - s := by omega
  rw [e3] at b
  rw [e2] at a
  omega
theorem passF_at (G : Good ps) (R : RowOk r) (n : Nat) : passF ps r (n + 1) = rowA r (n + 1) ∨ ∃ p ∈ ps, passF ps r (n + 1) = p.2 + passF ps r ((n : Int) + 1 - p.1).toNat := by
  obtain ⟨s, h, e⟩ := passF_is (ps := ps) (r := r) (n + 1)
  by_cases c : s ≤ n
  · right
    have e2 : n + 1 - s = (n - s) + 1 := by omega
    obtain ⟨p, hp, e3⟩ := most_is G (n - s)
    obtain ⟨q1, q2, q3, q4⟩ := G.ins p hp
    refine ⟨p, hp, ?_⟩
    have up := passF_lim (r := r) G n hp
    rw [e2, e3] at e
    obtain ⟨j, ej⟩ : ∃ j : Nat, j = ((n : Int) + 1 - p.1).toNat := ⟨_, rfl⟩
    rw [← ej] at up ⊢
    by_cases d : s ≤ j
    · have a := passF_le (ps := ps) (r := r) d
      have e4 : (((n - s : Nat) : Int) + 1 - p.1).toNat = j - s := by omega
      rw [e4] at e
      omega
    · have a := passF_row (ps := ps) (r := r) j
      have b := rowA_mono R (show j ≤ s by omega)
      have e4 : (((n - s : Nat) : Int) + 1 - p.1).toNat = 0 := by omega
      rw [e4, most_zero] at e
      omega
  · left
    have es : s = n + 1 := by omega
    subst es
    rw [Nat.sub_self, most_zero] at e
    omega
/-- how many may come through in the next tick -/
def allowS (ps : List (Int × Int)) (r : List Int) (n : Nat) : Int := minI (ps.map fun p => p.2 - (passF ps r n - passF ps r ((n : Int) + 1 - p.1).toNat))
theorem allow_min (G : Good ps) (R : RowOk r) (n : Nat) : min (rowA r (n + 1) - passF ps r n) (allowS ps r n) = passF ps r (n + 1) - passF ps r n := by
  have hne : (ps.map fun p => p.2 - (passF ps r n - passF ps r ((n : Int) + 1 - p.1).toNat)) ≠ [] := by simpa using G.ne
  obtain ⟨m1, m2⟩ := minI_spec hne
  obtain ⟨p, hp, ep⟩ := List.mem_map.mp m1
  have e : allowS ps r n = p.2 - (passF ps r n - passF ps r ((n : Int) + 1 - p.1).toNat) := ep.symm
  have a1 := passF_lim (r := r) G n hp
  have a2 := passF_row (ps := ps) (r := r) (n + 1)
  rcases passF_at G R n with h | ⟨q, hq, h⟩
  · rw [Int.min_def]
    split <;> omega
  · have b := m2 _ (List.mem_map.mpr ⟨q, hq, rfl⟩)
    have e2 : minI (ps.map fun p => p.2 - (passF ps r n - passF ps r ((n : Int) + 1 - p.1).toNat)) = allowS ps r n := rfl
    rw [e2] at b
    rw [Int.min_def]
    split <;> omega
/-- what comes through tick by tick -/
def thrS (ps : List (Int × Int)) (r : List Int) (n : Nat) : List Int := (List.range n).map fun t => passF ps r (t + 1) - passF ps r t
theorem thr_len (n : Nat) : (thrS ps r n).length = n := by simp [thrS]
theorem thr_succ (n : Nat) : thrS ps r (n + 1) = thrS ps r n ++ [passF ps r (n + 1) - passF ps r n] := by simp [thrS, List.range_succ]
theorem thr_sum : ∀ n : Nat, (thrS ps r n).sum = passF ps r n
  | 0 => by simp [thrS, passF_zero]
  | n + 1 => by rw [thr_succ, List.sum_append, thr_sum n]; simp; omega
theorem thr_take {j n : Nat} (h : j ≤ n) : (thrS ps r n).take j = thrS ps r j := by
  unfold thrS
  rw [← List.map_take, List.take_range, Nat.min_eq_left h]
theorem thr_drop {j n : Nat} (h : j ≤ n) : ((thrS ps r n).drop j).sum = passF ps r n - passF ps r j := by
  have e : ((thrS ps r n).take j ++ (thrS ps r n).drop j).sum = (thrS ps r n).sum := by rw [List.take_append_drop]
  rw [List.sum_append, thr_take h, thr_sum, thr_sum] at e
  omega
/-- after so many ticks none waits -/
theorem most_twenty (G : Good ps) : ∀ n : Nat, (n : Int) ≤ 20 * most ps n := fun n => by
  induction n using Nat.strongRecOn with
  | _ n ih =>
    cases n with
    | zero => rw [most_zero]; simp
    | succ n =>
      obtain ⟨p, hp, e⟩ := most_is G n
      obtain ⟨q1, q2, q3, q4⟩ := G.ins p hp
      have := ih ((n : Int) + 1 - p.1).toNat (by omega)
      rw [e]
      push_cast
      omega
theorem pass_end (G : Good ps) (R : RowOk r) {n : Nat} (h : r.length + 1200 ≤ n) : passF ps r n = r.sum := by
  obtain ⟨s, hs, e⟩ := passF_is (ps := ps) (r := r) n
  have up := passF_row (ps := ps) (r := r) n
  rw [rowA_big (by omega)] at up
  by_cases c : s ≤ r.length
  · have a := most_twenty G (n - s)
    have b := (rowA_le R s).1
    have := R.sum
    omega
  · rw [rowA_big (by omega)] at e
    have a := most_nonneg G (n - s)
    omega
end
end FC

namespace FC
open PySem PySem.Spec PyProof.Rows L2

/-! ### a def called with nothing -/
section
variable {C : Ct} {W : WX} {X : Cx} {x : Str} {pn pos : Pos}
theorem pe_callRS0 {k : Nat} {f : Addr} {N : List Str} {b : F Fl} (Fn : FnP X C k f N 0 b) (hr : RoomG k X.A) (hg : Gl X x) (hm : X.mg x = some (.ref f)) (hk : PySem.W.keepIn X.K (.ref f) = true) (tk : Takes X W) (hdb : (x == ("__debug__" : Str)) = false := by decide) :
    PE X (.Call (.Name x pn) [] [] pos) (fun σ H Q => spF C N 0 b [] H Q (WE W σ)) := by
  refine ⟨fun pins s σ H Q I h => wpAny_Call_Name_kw (ld_glob I hg hm ?_ hdb)⟩
  exact PySem.W.callWith_K0 (first := []) I.kIn hk (wpAny_call (run_fnRS (us := []) (vs := []) (E := WE W) Fn hr (passAt tk σ) I .nil h))
theorem tFA_nil0 {p : Bool} {σ : L2.St} {H : Hp} {Q : List V → Hp → Prop} (h : tFA C W p aNil σ H Q) : Q [] H := tFA.nil h
theorem fx_def0 {k : Nat} {f : Addr} {N : List Str} {b : F Fl} (Fn : FnP X C k f N 0 b) (hr : RoomG k X.A) (hg : Gl X x) (hm : X.mg x = some (.ref f)) (hk : PySem.W.keepIn X.K (.ref f) = true) (tk : Takes X W) (hdb : (x == ("__debug__" : Str)) = false := by decide) :
    FX C W true false X (.Call (.Name x pn) [] [] pos) (fCall N.length b aNil) := by
  refine PE.imp (pe_callRS0 Fn hr hg hm hk tk hdb) fun σ H Q ⟨pens, M, γ, E, h⟩ => ?_
  unfold fCall at h
  rw [bind_ok (show aNil γ = .ok [] γ from rfl)] at h
  have key : tFA C W true aNil σ H (fun vs H1 => spF C N 0 b vs H1 Q (WE W σ)) := by
    refine ⟨pens, M, γ, E, ?_⟩
    intro vs H1 M1 E1 k1 pt P1 up1 dn1 A
    refine call_sp rfl (Nat.zero_le _) E E1 k1 pt up1 dn1 A ?_
    cases ec : callR N.length b [] γ with
    | st => rw [bind_st ec] at h; exact h
    | ex x γ' => rw [bind_ex ec] at h; exact h
    | ok r γ2 =>
      rw [bind_ok ec] at h
      intro v H' M' af rr
      obtain ⟨S, r2⟩ := af.rep E rr
      exact h v H' S (fun z => by cases z) r2
  exact tFA_nil0 key
end
end FC
namespace FC
open PySem PySem.Spec PyProof.Rows L2
/-! ### defs that answer nothing -/
structure Rn (N : Nat) (b : F Fl) (ds : List D) : Prop where
  run : ∃ g, b (padG N (ds.map .val)) = .ok .nx g
theorem Rn.of {N : Nat} {b : F Fl} {ds : List D} (h : Wp (b (padG N (ds.map .val))) (fun f _ => f = .nx) E0) : Rn N b ds := by
  obtain ⟨f, g, e, rfl⟩ := h.out
  exact ⟨⟨g, e⟩⟩
theorem wpc_rn {N : Nat} {b : F Fl} {as : List AV} {γ : Gm} {E : Ex → Gm → Prop} {Q : RV → Gm → Prop} {ds : List D} (h : Rn N b ds) (ha : allD as = some ds) (q : Q (.val .non) γ) : WpC N b as γ Q E := by
  obtain ⟨g, e⟩ := h.run
  refine wpc_in (bind_d ha) ?_
  rw [e]
  exact ⟨γ, back_d ha, q⟩
/-! ### slices by one end -/
theorem q_slLl {xs : List D} {i : Int} {k : Nat} (h : i = k) : ((dInt (.int i)).bind fun i => dSl (.lst xs) (some i) none) = some (.lst (xs.drop k)) := by
  subst h
  simp only [dInt, Option.bind_some, dSl, cutD, HT.sIx_nat, HT.sIx_none]
  congr 2
  by_cases c : k ≤ xs.length
  · rw [Nat.min_eq_left c, List.take_of_length_le (by rw [List.length_drop]; omega)]
  · rw [Nat.min_eq_right (by omega), List.drop_of_length_le (Nat.le_refl _), List.drop_of_length_le (by omega), List.take_nil]
theorem q_slLt {xs : List D} {i : Int} {k : Nat} (h : i = k) : ((dInt (.int i)).bind fun i => dSl (.tup xs) (some i) none) = some (.tup (xs.drop k)) := by
  have e := q_slLl (xs := xs) h
  simp only [dInt, Option.bind_some, dSl, Option.some.injEq, D.lst.injEq, D.tup.injEq] at e ⊢
  exact e
theorem q_slHt {xs : List D} {i : Int} {k : Nat} (h : i = k) (hk : k ≤ xs.length) : ((dInt (.int i)).bind fun i => dSl (.tup xs) none (some i)) = some (.tup (xs.take k)) := by
  subst h
  simp only [dInt, Option.bind_some, dSl, cutD, HT.sIx_nat, HT.sIx_none, List.drop_zero, Nat.sub_zero]
  rw [Nat.min_eq_left hk]
/-! ### when all is through -/
section
variable {ps : List (Int × Int)} {r : List Int}
def stopS (ps : List (Int × Int)) (r : List Int) (n : Nat) : Prop := r.length ≤ n ∧ passF ps r n = r.sum
instance (n : Nat) : Decidable (stopS ps r n) := by unfold stopS; exact inferInstance
def endF (ps : List (Int × Int)) (r : List Int) : Nat → Nat → Nat
  | 0, n => n
  | f + 1, n => if stopS ps r n then n else endF ps r f (n + 1)
def endS (ps : List (Int × Int)) (r : List Int) : Nat := endF ps r (r.length + 1200) 0
theorem end_stop {k n : Nat} (h : stopS ps r n) : endF ps r k n = n := by
  cases k with
  | zero => rfl
  | succ k => unfold endF; rw [if_pos h]
theorem end_go (G : Good ps) (R : RowOk r) {k n : Nat} (h : ¬ stopS ps r n) (e : n + k = r.length + 1200) : ∃ k', k = k' + 1 ∧ endF ps r k n = endF ps r k' (n + 1) := by
  cases k with
  | zero => exact absurd ⟨by omega, pass_end G R (by omega)⟩ h
  | succ k => exact ⟨k, rfl, by rw [endF, if_neg h]⟩
theorem end_le : ∀ {k n : Nat}, endF ps r k n ≤ n + k
  | 0, n => Nat.le_refl _
  | k + 1, n => by
    unfold endF
    split
    · omega
    · have := end_le (k := k) (n := n + 1)
      omega
/-- the row that is passed -/
def outS (ps : List (Int × Int)) (r : List Int) : List Int := thrS ps r (endS ps r)
theorem rowA_next {n : Nat} : rowA r (n + 1) = rowA r n + (if n < r.length then r.getD n 0 else 0) := by
  by_cases c : n < r.length
  · rw [if_pos c, rowA_succ c, List.getD_eq_getElem?_getD, List.getElem?_eq_getElem c]
    rfl
  · rw [if_neg c, rowA_big (by omega), rowA_big (by omega)]
    omega
end
end FC

namespace FC
open PySem PySem.Spec PyProof.Rows L2

/-- a comprehension whose elements change the frame: by what stands before each turn -/
theorem wp_lcI {γ : Gm} {E : Ex → Gm → Prop} {fi : F (List D)} {gt : GD} {e : F D} {vs : List Nat} {Q : MO → Gm → Prop} (I : Nat → List D → Gm → Prop)
    (h : Wp (fi γ) (fun xs g => xs.length ≤ sizeLine ∧ okW g vs = true ∧ I 0 [] (wipeG g vs) ∧ (∀ k acc d g1, xs[k]? = some d → I k acc g1 → ∃ g2, gt d g1 = some g2 ∧ Wp (e g2) (fun y g3 => I (k + 1) (acc ++ [y]) (wipeG g3 vs)) E0) ∧ (∀ acc g2, I xs.length acc g2 → Q (.lst acc) (unw g g2 vs))) E) : Wp (nLc fi gt tTrue e vs γ) Q E := by
  unfold nLc
  refine wp_bind (h.imp fun xs g h => ?_)
  obtain ⟨h1, h2, h0, hs, hq⟩ := h
  rw [if_pos ⟨h1, h2⟩]
  have lc : ∀ (n k : Nat) (acc : List D) (g1 : Gm), k + n = xs.length → I k acc g1 → ∃ acc2 g2, lcL gt tTrue e vs (xs.drop k) acc g1 = .ok acc2 g2 ∧ I xs.length acc2 g2 := by
    intro n
    induction n with
    | zero =>
      intro k acc g1 hk i
      have : k = xs.length := by omega
      subst this
      exact ⟨acc, g1, by rw [List.drop_of_length_le (Nat.le_refl _)]; rfl, i⟩
    | succ n ih =>
      intro k acc g1 hk i
      have hlt : k < xs.length := by omega
      obtain ⟨g2, e1, w⟩ := hs k acc xs[k] g1 (List.getElem?_eq_getElem hlt) i
      obtain ⟨y, g3, e2, i2⟩ := w.out
      obtain ⟨acc2, g4, e3, i3⟩ := ih (k + 1) (acc ++ [y]) (wipeG g3 vs) (by omega) i2
      refine ⟨acc2, g4, ?_, i3⟩
      rw [List.drop_eq_getElem_cons hlt]
      unfold lcL
      simp only [e1, show tTrue g2 = .ok true g2 from rfl, e2]
      exact e3
  obtain ⟨acc2, g2, e1, i1⟩ := lc xs.length 0 [] (wipeG g vs) (by omega) h0
  rw [List.drop_zero] at e1
  rw [e1]
  exact ⟨hq acc2 g2 i1⟩
end FC

namespace FC
open PySem PySem.Spec PyProof.Rows L2

/-! ### comprehensions of two clauses -/
theorem tYes_of {σ : L2.St} {H : Hp} {Q : Bool → Hp → Prop} (h : Q true H) : tYes σ H Q := h
theorem lcL_len {g : GD} {c : F Bool} {e : F D} {vs : List Nat} : ∀ {xs : List D} {acc accF : List D} {γ γF : Gm}, lcL g c e vs xs acc γ = .ok accF γF → acc.length ≤ accF.length
  | [], acc, accF, γ, γF, h => by cases h; exact Nat.le_refl _
  | d :: ds, acc, accF, γ, γF, h => by
    unfold lcL at h
    cases eg : g d γ with
    | none => rw [eg] at h; cases h
    | some γ3 =>
      rw [eg] at h
      simp only at h
      cases ec : c γ3 with
      | st => rw [ec] at h; cases h
      | ex _ _ => rw [ec] at h; cases h
      | ok k γ4 =>
        rw [ec] at h
        cases k with
        | false => exact lcL_len h
        | true =>
          simp only at h
          cases ee : e γ4 with
          | st => rw [ee] at h; cases h
          | ex _ _ => rw [ee] at h; cases h
          | ok y γ5 =>
            rw [ee] at h
            have := lcL_len h
            rw [List.length_append] at this
            exact Nat.le_trans (Nat.le_add_right _ _) this
/-- the second clause: its source, then its turns -/
def lcIn (fi1 : F (List D)) (g1 : GD) (e : F D) (vs1 : List Nat) (acc : List D) : F (List D) := F.bind fi1 fun xs γ => lcL g1 tTrue e vs1 xs acc (wipeG γ vs1)
def lcL2 (g : GD) (fi1 : F (List D)) (g1 : GD) (e : F D) (vs vs1 : List Nat) : List D → List D → F (List D)
  | [], acc => fun γ => .ok acc γ
  | d :: ds, acc => fun γ => match g d γ with
    | none => .st
    | some γ3 => match lcIn fi1 g1 e vs1 acc γ3 with
      | .ok acc2 γ4 => lcL2 g fi1 g1 e vs vs1 ds acc2 (wipeG γ4 vs)
      | _ => .st
def nLc2 (fi : F (List D)) (g : GD) (fi1 : F (List D)) (g1 : GD) (e : F D) (vs vs1 : List Nat) : F MO := F.bind fi fun xs γ1 =>
  if okW γ1 vs = true then (match lcL2 g fi1 g1 e vs vs1 xs [] (wipeG γ1 vs) with
    | .ok acc γ2 => if acc.length ≤ sizeLine then .ok (.lst acc) (unw γ1 γ2 vs) else .st
    | _ => .st) else .st
theorem lcIn_len {fi1 : F (List D)} {g1 : GD} {e : F D} {vs1 : List Nat} {acc accF : List D} {γ γF : Gm} (h : lcIn fi1 g1 e vs1 acc γ = .ok accF γF) : acc.length ≤ accF.length := by
  unfold lcIn at h
  cases ea : fi1 γ with
  | st => rw [bind_st ea] at h; cases h
  | ex _ _ => rw [bind_ex ea] at h; cases h
  | ok xs γ1 => rw [bind_ok ea] at h; exact lcL_len h
theorem lcL2_len {g : GD} {fi1 : F (List D)} {g1 : GD} {e : F D} {vs vs1 : List Nat} : ∀ {xs : List D} {acc accF : List D} {γ γF : Gm}, lcL2 g fi1 g1 e vs vs1 xs acc γ = .ok accF γF → acc.length ≤ accF.length
  | [], acc, accF, γ, γF, h => by cases h; exact Nat.le_refl _
  | d :: ds, acc, accF, γ, γF, h => by
    unfold lcL2 at h
    cases eg : g d γ with
    | none => rw [eg] at h; cases h
    | some γ3 =>
      rw [eg] at h
      simp only at h
      cases ei : lcIn fi1 g1 e vs1 acc γ3 with
      | st => rw [ei] at h; cases h
      | ex _ _ => rw [ei] at h; cases h
      | ok acc2 γ4 =>
        rw [ei] at h
        exact Nat.le_trans (lcIn_len ei) (lcL2_len h)
theorem Pat.wipe {γ γ' : Gm} (h : Pat γ γ') (vs : List Nat) : Pat (wipeG γ vs) (wipeG γ' vs) := by
  unfold Pat
  apply List.ext_getElem?
  intro j
  rw [List.getElem?_map, List.getElem?_map]
  by_cases hj : j ∈ vs
  · have l1 := h.length
    by_cases hl : j < γ.length
    · rw [wipeG_in hl hj, wipeG_in (by rw [← l1]; exact hl) hj]
    · rw [List.getElem?_eq_none (by rw [wipeG_length]; omega), List.getElem?_eq_none (by rw [wipeG_length]; omega)]
  · rw [wipeG_out hj, wipeG_out hj, h.at j]
section
variable {C : Ct} {W : WX} {X : Cx} {m p m1 p1 m2 p2 m3 p3 : Bool} {pos : Pos}
/-- the second clause's turns: D is tracked, but no slot names it -/
theorem lc_in {pens : Nat → Addr} {M : Addr → Prop} {γ γF : Gm} {σ : L2.St} {H : Hp} {fi1 : F (List D)} {g1 : GD} {fe : F D} {vs1 ws1 : List Nat} {D' : Addr} {us : List V} {acc accF : List D} {Nx : Hp → Prop} (hws : ∀ j ∈ ws1, j ∈ vs1)
    (E : EnvRep C pens M γ σ H) (mD : M D') (nD : ¬ Own γ σ D') (hD : H D' = some (.lst us)) (rs : RepL C M H us acc) (hz : accF.length ≤ sizeLine) (h : lcIn fi1 g1 fe vs1 acc γ = .ok accF γF)
    (hN : ∀ H' us', EnvRep C pens M γF (wipe σ vs1) H' → Keep (fun b => Own γ σ b ∨ b = D') H H' → Pat (wipeG γ vs1) γF → H' D' = some (.lst us') → RepL C M H' us' accF → Nx H') :
    tFI C W0 p fi1 σ H (fun J1 H4 => ∃ W1 : Nat → Nat → Hp → Prop, (∃ m, W1 0 m H4) ∧ ∀ j k H, W1 j k H →
      (J1.stop j H ∧ Nx H) ∨ (J1.go j H ∧ ∃ Nx1 : Hp → Prop, (∀ H', Nx1 H' → ∃ k', k' < k ∧ W1 (j + 1) k' H') ∧ ∀ x H', J1.yld j H x H' → tG C ws1 g1 x (wipe σ vs1) H' fun σ3 H5 => wipe σ3 vs1 = wipe σ vs1 ∧ tYes σ3 H5 fun b H6 =>
        if b = true then tF C W0 true p2 fe σ3 H6 fun y H7 => ∃ acc, H7 D' = some (.lst acc) ∧ acc.length < sizeLine ∧ Nx1 (upd H7 D' (.lst (acc ++ [y]))) else Nx1 H6)) := by
  refine ⟨pens, M, γ, E, ?_⟩
  unfold lcIn at h
  cases ea : fi1 γ with
  | st => rw [bind_st ea] at h; cases h
  | ex x γ' => rw [bind_ex ea] at h; cases h
  | ok xs γ1 =>
    rw [bind_ok ea] at h
    intro J H1 S1 P1 IO
    have E1 := S1.env
    have nD1 : ¬ Own γ1 σ D' := fun z => nD (S1.pat.symm.Own z)
    have hD1 : H1 D' = some (.lst us) := (S1.keep D' _ hD nD).1 rfl
    have fk1 : Fine M M H H1 := Fine.keep S1.keep fun _ z => (E.ownM z).1
    have rs1 := rs.fine fk1
    refine ⟨fun i mm H' => mm = xs.length - i ∧ i ≤ xs.length ∧ ∃ acc us γ', EnvRep C pens M γ' (wipe σ vs1) H' ∧ Keep (fun b => Own γ1 σ b ∨ b = D') H1 H' ∧ Pat (wipeG γ1 vs1) γ' ∧ H' D' = some (.lst us) ∧ RepL C M H' us acc ∧ lcL g1 tTrue fe vs1 (xs.drop i) acc γ' = .ok accF γF,
      ⟨xs.length, by simp, Nat.zero_le _, acc, us, wipeG γ1 vs1, E1.wipe vs1, Keep.refl _ _, Pat.refl _, hD1, rs1, by simpa using h⟩, ?_⟩
    rintro i mm H' ⟨rfl, hi, acc, us, γ', E', k', pt', hD', rs', el'⟩
    have fn' : Fine M M H1 H' := Fine.keep k' fun b z => z.elim (fun q => (E1.ownM q).1) fun q => by rw [q]; exact mD
    have io := IO _ H' fn' E'.dom
    have oo : ∀ b, Own γ' (wipe σ vs1) b → Own γ1 σ b := fun b z => Own.wipe (pt'.symm.Own z)
    by_cases hlt : i < xs.length
    · have ed : xs[i]? = some xs[i] := List.getElem?_eq_getElem hlt
      rw [List.drop_eq_getElem_cons hlt] at el'
      obtain ⟨go, yl⟩ := io.1 i _ ed
      refine .inr ⟨go, fun H2 => ∃ acc us γ', EnvRep C pens M γ' (wipe σ vs1) H2 ∧ Keep (fun b => Own γ1 σ b ∨ b = D') H1 H2 ∧ Pat (wipeG γ1 vs1) γ' ∧ H2 D' = some (.lst us) ∧ RepL C M H2 us acc ∧ lcL g1 tTrue fe vs1 (xs.drop (i + 1)) acc γ' = .ok accF γF,
        fun H2 q => ⟨xs.length - (i + 1), by omega, rfl, hlt, q⟩, fun x H2 y => ?_⟩
      obtain ⟨k2, r2⟩ := yl x H2 y
      have E2 := E'.keep k2
      simp only [lcL] at el'
      cases eg : g1 xs[i] γ' with
      | none => rw [eg] at el'; cases el'
      | some γ3 =>
        rw [eg] at el'
        simp only [tTrue] at el'
        refine ⟨pens, M, γ', xs[i], γ3, E2, r2, eg, fun σ3 E3 S3 l3 o3 => ⟨?_, ?_⟩⟩
        · refine wipe_same (by rw [l3, wipe_length]) fun j hj => ?_
          rw [(o3 j fun z => hj (hws j z)).1, wipe_out hj]
        · have hw3 : wipe σ3 vs1 = wipe σ vs1 := wipe_same (by rw [l3, wipe_length]) fun j hj => by rw [(o3 j fun z => hj (hws j z)).1, wipe_out hj]
          have o31 : ∀ b, Own γ3 σ3 b → Own γ1 σ b := fun b z => by
            rcases S3.own b z with q | q
            · exact oo b q
            · obtain ⟨_, u, eu, _⟩ := E3.ownM z
              rw [q] at eu
              cases eu
          have hD2 : H2 D' = some (.lst us) := k2.at hD'
          have rs2 := rs'.fine (Fine.keep0 k2)
          have k12 : Keep (fun b => Own γ1 σ b ∨ b = D') H1 H2 := k'.trans k2.any
          have pts : ∀ γ9, Pat γ3 γ9 → Pat (wipeG γ1 vs1) (wipeG γ9 vs1) := fun γ9 pq => by
            unfold Pat
            apply List.ext_getElem?
            intro j
            rw [List.getElem?_map, List.getElem?_map]
            by_cases hj : j ∈ vs1
            · have l1 : (wipeG γ1 vs1).length = γ9.length := by rw [← pq.length, ← E3.len, l3, wipe_length, wipeG_length, E1.len]
              rw [wipeG_length] at l1
              by_cases hl : j < γ1.length
              · rw [wipeG_in hl hj, wipeG_in (by rw [← l1]; exact hl) hj]
              · rw [List.getElem?_eq_none (by rw [wipeG_length]; omega), List.getElem?_eq_none (by rw [wipeG_length]; omega)]
            · rw [wipeG_out (γ := γ9) hj, ← pq.at j, (o3 j fun z => hj (hws j z)).2, pt'.at j]
          refine tYes_of ?_
          rw [if_pos rfl]
          refine ⟨pens, M, γ3, E3, ?_⟩
          cases ee : fe γ3 with
          | st => rw [ee] at el'; cases el'
          | ex _ _ => rw [ee] at el'; cases el'
          | ok yd γ5 =>
            rw [ee] at el'
            intro y H5 S5 P5 r5
            have E5 := S5.env
            have nD3 : ¬ Own γ3 σ3 D' := fun z => nD1 (o31 D' z)
            have hD5 : H5 D' = some (.lst us) := (S5.keep D' _ hD2 nD3).1 rfl
            have fk5 : Fine M M H2 H5 := Fine.keep S5.keep fun _ z => (E3.ownM z).1
            have rs5 := rs2.fine fk5
            have k15 : Keep (fun b => Own γ1 σ b ∨ b = D') H1 H5 := k12.trans (S5.keep.mono fun b z => .inl (o31 b z))
            have Ew := E5.wipe vs1
            rw [hw3] at Ew
            have ln := lcL_len el'
            rw [List.length_append] at ln
            refine ⟨us, hD5, by rw [rs5.length]; exact Nat.lt_of_lt_of_le (Nat.lt_succ_self _) (Nat.le_trans ln hz), acc ++ [yd], us ++ [y], _, Ew.poke mD hD5 (fun _ _ z => by cases z) (fun z => nD1 (Own.wipe (by
                have := (pts _ S5.pat).symm.Own z
                exact this))), ?_, pts _ S5.pat, upd_same, (rs5.append (.cons (show Rep C M H5 y yd from r5) .nil)).fine (Fine.poke mD), el'⟩
            exact k15.trans (Keep.poke (.inr rfl))
    · have e : i = xs.length := by omega
      subst e
      rw [List.drop_eq_nil_of_le (Nat.le_refl _)] at el'
      cases el'
      refine .inl ⟨io.2 _ (Nat.le_refl _), ?_⟩
      exact hN H' us E' ((S1.keep.mono fun b z => .inl z).trans (k'.mono fun b z => z.imp (fun q => S1.pat.symm.Own q) id)) ((S1.pat.wipe vs1).trans pt') hD' rs'
theorem wipeS_wipe {σ : L2.St} {vs vs1 : List Nat} (h : ∀ j ∈ vs1, j ∈ vs) : wipe (wipe σ vs1) vs = wipe σ vs := wipe_same (by rw [wipe_length]) fun j hj => wipe_out fun z => hj (h j z)
theorem lc2_te {fi fi1 : F (List D)} {g g1 : GD} {fe : F D} {vs vs1 ws ws1 : List Nat} {σ : L2.St} {H : Hp} {Q : VK} (hws : ∀ j ∈ ws, j ∈ vs) (hws1 : ∀ j ∈ ws1, j ∈ vs1) (hvs : ∀ j ∈ vs1, j ∈ vs) (h : tFN C W false (nLc2 fi g fi1 g1 fe vs vs1) σ H Q) :
    tLc2 (tFI C W p fi) (tG C ws g) tYes (tFI C W0 p1 fi1) (tG C ws1 g1) tYes (tF C W0 true p2 fe) vs vs1 σ H Q := by
  obtain ⟨pens, M, γ, E, h⟩ := h
  refine ⟨pens, M, γ, E, ?_⟩
  unfold nLc2 at h
  cases ea : fi γ with
  | st => rw [bind_st ea] at h; exact h
  | ex x γ' => rw [bind_ex ea] at h; exact h
  | ok xs γ1 =>
    rw [bind_ok ea] at h
    intro J H1 S1 P1 IO D hD
    split at h
    case isFalse => exact h.elim
    rename_i okw
    have E1 := S1.env
    cases el : lcL2 g fi1 g1 fe vs vs1 xs [] (wipeG γ1 vs) with
    | st => rw [el] at h; exact h.elim
    | ex _ _ => rw [el] at h; exact h.elim
    | ok accF γF =>
      rw [el] at h
      simp only at h
      split at h
      case isFalse => exact h.elim
      rename_i hz
      have nD : ¬ Own γ1 σ D := fun z => Own.tracked E1 hD z
      refine ⟨fun i mm H' => mm = xs.length - i ∧ i ≤ xs.length ∧ ∃ acc us γ', EnvRep C pens (adj M D) γ' (wipe σ vs) H' ∧ Keep (Own γ1 σ) H1 H' ∧ Pat (wipeG γ1 vs) γ' ∧ H' D = some (.lst us) ∧ RepL C (adj M D) H' us acc ∧ lcL2 g fi1 g1 fe vs vs1 (xs.drop i) acc γ' = .ok accF γF,
        ⟨xs.length, by simp, Nat.zero_le _, [], [], wipeG γ1 vs, (E1.wipe vs).plus hD ⟨_, upd_same⟩ (Keep.new hD), Keep.new hD, Pat.refl _, upd_same, .nil, by simpa using el⟩, ?_⟩
      rintro i mm H' ⟨rfl, hi, acc, us, γ', E', k', pt', hD', rs', el'⟩
      have fn' : Fine M (adj M D) H1 H' := ⟨fun b o eb nb tb => (k' b o eb fun z => nb (E1.ownM z).1).1 tb, fun b o eb z => z.elim id fun q => by rw [q, hD] at eb; cases eb⟩
      have io := IO _ H' fn' E'.dom
      have oo : ∀ b, Own γ' (wipe σ vs) b → Own γ1 σ b := fun b z => Own.wipe (pt'.symm.Own z)
      by_cases hlt : i < xs.length
      · have ed : xs[i]? = some xs[i] := List.getElem?_eq_getElem hlt
        rw [List.drop_eq_getElem_cons hlt] at el'
        obtain ⟨go, yl⟩ := io.1 i _ ed
        refine .inr ⟨go, fun H2 => ∃ acc us γ', EnvRep C pens (adj M D) γ' (wipe σ vs) H2 ∧ Keep (Own γ1 σ) H1 H2 ∧ Pat (wipeG γ1 vs) γ' ∧ H2 D = some (.lst us) ∧ RepL C (adj M D) H2 us acc ∧ lcL2 g fi1 g1 fe vs vs1 (xs.drop (i + 1)) acc γ' = .ok accF γF,
          fun H2 q => ⟨xs.length - (i + 1), by omega, rfl, hlt, q⟩, fun x H2 y => ?_⟩
        obtain ⟨k2, r2⟩ := yl x H2 y
        have E2 := E'.keep k2
        simp only [lcL2] at el'
        cases eg : g xs[i] γ' with
        | none => rw [eg] at el'; cases el'
        | some γ3 =>
          rw [eg] at el'
          simp only at el'
          refine ⟨pens, adj M D, γ', xs[i], γ3, E2, r2, eg, fun σ3 E3 S3 l3 o3 => ⟨?_, ?_⟩⟩
          · refine wipe_same (by rw [l3, wipe_length]) fun j hj => ?_
            rw [(o3 j fun z => hj (hws j z)).1, wipe_out hj]
          · have hw3 : wipe σ3 vs = wipe σ vs := wipe_same (by rw [l3, wipe_length]) fun j hj => by rw [(o3 j fun z => hj (hws j z)).1, wipe_out hj]
            have o31 : ∀ b, Own γ3 σ3 b → Own γ1 σ b := fun b z => by
              rcases S3.own b z with q | q
              · exact oo b q
              · obtain ⟨_, u, eu, _⟩ := E3.ownM z
                rw [q] at eu
                cases eu
            have hD2 : H2 D = some (.lst us) := k2.at hD'
            have rs2 := rs'.fine (Fine.keep0 k2)
            have k12 : Keep (Own γ1 σ) H1 H2 := k'.trans k2.any
            have pts : ∀ γ9, Pat γ3 γ9 → Pat (wipeG γ1 vs) (wipeG γ9 vs) := fun γ9 pq => by
              unfold Pat
              apply List.ext_getElem?
              intro j
              rw [List.getElem?_map, List.getElem?_map]
              by_cases hj : j ∈ vs
              · have l1 : (wipeG γ1 vs).length = γ9.length := by rw [← pq.length, ← E3.len, l3, wipe_length, wipeG_length, E1.len]
                rw [wipeG_length] at l1
                by_cases hl : j < γ1.length
                · rw [wipeG_in hl hj, wipeG_in (by rw [← l1]; exact hl) hj]
                · rw [List.getElem?_eq_none (by rw [wipeG_length]; omega), List.getElem?_eq_none (by rw [wipeG_length]; omega)]
              · rw [wipeG_out (γ := γ9) hj, ← pq.at j, (o3 j fun z => hj (hws j z)).2, pt'.at j]
            cases ei : lcIn fi1 g1 fe vs1 acc γ3 with
            | st => rw [ei] at el'; cases el'
            | ex _ _ => rw [ei] at el'; cases el'
            | ok acc2 γ4 =>
              rw [ei] at el'
              simp only at el'
              refine tYes_of ?_
              rw [if_pos rfl]
              refine lc_in hws1 E3 (.inr rfl) (fun z => nD (o31 D z)) hD2 rs2 (Nat.le_trans (lcL2_len el') hz) ei fun H4 us4 E4 k4 pt4 hD4 rs4 => ?_
              have Ew := E4.wipe vs
              rw [wipeS_wipe hvs, hw3] at Ew
              refine ⟨acc2, us4, _, Ew, ?_, ?_, hD4, rs4, el'⟩
              · intro b u eb nb
                have ne : b ≠ D := fun z => by rw [z, hD] at eb; cases eb
                exact ((k12.mono (N' := fun c => Own γ1 σ c ∨ c = D) fun _ z => .inl z).trans (k4.mono fun c z => z.imp (o31 c) id)) b u eb fun z => z.elim nb ne
              · have q1 : Pat (wipeG (wipeG γ3 vs1) vs) (wipeG γ4 vs) := pt4.wipe vs
                refine (pts γ3 (Pat.refl _)).trans (Pat.trans ?_ q1)
                unfold Pat
                apply List.ext_getElem?
                intro j
                rw [List.getElem?_map, List.getElem?_map]
                by_cases hj : j ∈ vs
                · by_cases hl : j < γ3.length
                  · rw [wipeG_in hl hj, wipeG_in (by rw [wipeG_length]; exact hl) hj]
                  · rw [List.getElem?_eq_none (by rw [wipeG_length]; omega), List.getElem?_eq_none (by rw [wipeG_length, wipeG_length]; omega)]
                · rw [wipeG_out hj, wipeG_out hj, wipeG_out fun z => hj (hvs j z)]
      · have e : i = xs.length := by omega
        subst e
        rw [List.drop_eq_nil_of_le (Nat.le_refl _)] at el'
        cases el'
        refine .inl ⟨io.2 _ (Nat.le_refl _), ?_⟩
        have hD0 : H D = none := S1.keep.free hD fun z => nD (S1.pat.Own z)
        refine h D H' hD0 (E1.unw E' okw (fun _ z => .inl z) fn' fun b ws sn => sn.keepN k' fun b' o' u' hb => E1.ownNF b' o' u' hb) (S1.keep.trans (k'.mono fun _ z => S1.pat.symm.Own z)) (S1.pat.trans pt'.unw) (fun z => by cases z) ⟨us, hD', rs'⟩
theorem fn_lc2 {elt tg iter tg1 iter1 : Expr} {scope : Scope} {own : List (Str × Nat)} {vs1 : List Nat} {fi fi1 : F (List D)} {g g1 : GD} {ws ws1 : List Nat} {fe : F D} (hc : X.calm = true) (hN : X.N.Nodup) (hi : FI C W p X tg iter fi) (ok : BlkOk X.N X.env.scope scope own)
    (hg : ∀ (s : Shared) (H : Hp) (Cd : Addr) (cl : List (Str × Addr)) (fp : List Addr), FG C (X.blk s H scope (compEnvC scope cl Cd X.env) fp) tg ws g)
    (hi1 : ∀ (s : Shared) (H : Hp) (Cd : Addr) (cl : List (Str × Addr)) (fp : List Addr), FI C W0 p1 (X.blk s H scope (compEnvC scope cl Cd X.env) fp) tg1 iter1 fi1)
    (hg1 : ∀ (s : Shared) (H : Hp) (Cd : Addr) (cl : List (Str × Addr)) (fp : List Addr), FG C (X.blk s H scope (compEnvC scope cl Cd X.env) fp) tg1 ws1 g1)
    (he : ∀ (s : Shared) (H : Hp) (Cd : Addr) (cl : List (Str × Addr)) (fp : List Addr), FX C W0 true p2 (X.blk s H scope (compEnvC scope cl Cd X.env) fp) elt fe) (hv : ∀ j ∈ vs1, j ∈ own.map (·.2) := by decide) (hws : ∀ j ∈ ws, j ∈ own.map (·.2) := by decide) (hws1 : ∀ j ∈ ws1, j ∈ vs1 := by decide)
    (hs : ∀ x, foldedSetIterable iter X.env x = pure x := by intro _; rfl) (hs1 : ∀ env x, foldedSetIterable iter1 env x = pure x := by intro _ _; rfl) :
    FN C W false X (.ListComp elt [⟨tg, iter, [], 0⟩, ⟨tg1, iter1, [], 0⟩] scope pos) (nLc2 fi g fi1 g1 fe (own.map (·.2)) vs1) := PE.imp (pe_lc2 hc hN hi ok hv hg (fun _ _ _ _ _ => pts_nil) hi1 hg1 (fun _ _ _ _ _ => pts_nil) he hs hs1) fun σ H Q h => lc2_te hws hws1 hv h
end
end FC

namespace FC
open PySem PySem.Spec PyProof.Rows L2

/-! ### enumerate of a list or of a tuple -/
theorem meets_en1 {v : Value} {ob : Obj} {H : Heap → Prop} (B : Begins v ob H) :
    Meets (Builtin.«enumerate.__new__» ⟨[.type "enumerate", v], []⟩) (fun _ Z s => H s.heap ∧ Z (.ok (.ret (.ref (s.heap.push ob).objs.size))) { s with heap := (s.heap.push ob).push { cls := .type "enumerate", data := .fields #[.none, .bool false, .ref s.heap.objs.size, rawInt 0, .none, .none] } }) :=
  .of_wp fun P w A Z t hh => by
    obtain ⟨hp, g, d, tk, os⟩ := t
    obtain ⟨k1, k2⟩ := hh
    have hsub := sub_enumerate
    have qq : ∀ {A' : Around} {E : Value → Shared → Prop} {Q : Value → Shared → Prop}, Q (.ref hp.objs.size) ⟨hp.push ob, g, d, tk, os⟩ → wpAny (model P w) A' (pyIter v) Q E ⟨hp, g, d, tk, os⟩ := fun q => B.iter P w _ _ ⟨hp, g, d, tk, os⟩ _ k1 q
    wp_walk using qq
    refine wpAny_stack_any fun st => wpAny_pure ?_
    split
    · rename_i c _ _ _ _ _
      cases (c == Value.type "enumerate")
      · wp_walk using qq
        exact ⟨_, rfl, k2⟩
      · wp_walk using qq
        exact ⟨_, rfl, k2⟩
    · wp_walk using qq
      exact ⟨_, rfl, k2⟩
theorem call_en1 {P : Program} {w : World} {A : Around} {E : Value → Shared → Prop} {s : Shared} {v : Value} {ob : Obj} {H : Heap → Prop} {Q : Value → Shared → Prop} (B : Begins v ob H) (k1 : H s.heap)
    (k : ∀ h', IsEnum h' (s.heap.objs.size + 1) s.heap.objs.size 0 .none → h'.get? s.heap.objs.size = some ob → (∀ b o, s.heap.get? b = some o → h'.get? b = some o) → Q (.ref (s.heap.objs.size + 1)) { s with heap := h' }) :
    wpAny (model P w) A (call (.type "enumerate") [v]) Q E s := by
  refine callType_new F.called_enumerate (by decide) (F.typeCall_enumerate_1 _) (F.newCall_enumerate_1 _) (fun obj => F.args_object_init_2 obj _) F.entry_enumerate_new (meets_en1 B) ⟨k1, ?_⟩
  have hz : (s.heap.push ob).objs.size = s.heap.objs.size + 1 := Heap.size_push ..
  show _ ∧ _
  rw [hz]
  have z := Heap.get?_push_size (s.heap.push ob) (o := { cls := .type "enumerate", data := .fields #[.none, .bool false, .ref s.heap.objs.size, rawInt 0, .none, .none] }) rfl
  rw [hz] at z
  refine ⟨⟨_, z, rfl⟩, k _ z (Heap.get?_push_of_some _ (Heap.get?_push_size _ B.free)) fun b o x => Heap.get?_push_of_some _ (Heap.get?_push_of_some _ x)⟩
/-- the tuple at a, each item in a new pair -/
def IteT (K : PySem.W.Frag) (a : Addr) : It :=
  ⟨fun i H => ∃ xs x, SqT K H a xs ∧ xs[i]? = some x, fun i H v H' => ∃ T x, v = .ref T ∧ H T = none ∧ H' = upd H T (.tup [.int (i : Nat), x]) ∧ ∀ xs, SqT K H a xs → xs[i]? = some x, fun i H => ∃ xs, SqT K H a xs ∧ xs.length ≤ i⟩
structure EnT (a e it : Addr) (i : Nat) (h : Heap) : Prop where
  en : ∃ old, IsEnum h e it ((i : Nat) : Int) old
  ti : h.IsTupleIter it a i
  ei : e ≠ it
  ea : e ≠ a
  ai : a ≠ it
theorem turn_enumT {P : Program} {w : World} {K : PySem.W.Frag} {elts : List Expr} {kk : Nat} {tpos : Pos} (a e it : Addr) : Turn P w K (.Tuple elts kk tpos) (IteT K a) [e, it] e (EnT a e it) where
  mem := List.mem_cons_self
  obj := fun i h st b hb => by
    obtain ⟨old, he⟩ := st.en
    obtain ⟨o, ho, hc, hd⟩ := st.ti
    rcases List.mem_cons.mp hb with z | z
    · rw [z]; exact ⟨_, he, fun v q => nomatch q⟩
    · rw [List.mem_singleton.mp z]; exact ⟨o, ho, fun v q => by rw [hd] at q; cases q⟩
  keep := fun i h h' st k => by
    obtain ⟨old, he⟩ := st.en
    exact ⟨⟨old, k e List.mem_cons_self _ he⟩, st.ti.at fun o q => k it (List.mem_cons_of_mem _ List.mem_cons_self) o q, st.ei, st.ea, st.ai⟩
  item := by
    intro X hP hw hK hc i pins s σ H E I hf st hg
    subst hP hw hK
    obtain ⟨old, he⟩ := st.en
    have hit := st.ti
    have hne := st.ei
    obtain ⟨xs, x, hq, hx⟩ := hg
    obtain ⟨its, rv, p, hz⟩ := I.tuple hq
    obtain ⟨u, hu, ru⟩ := rv.get hx
    have hl := rv.length
    have hi : i < xs.length := (List.getElem?_eq_some_iff.mp hx).1
    have pt : s.heap.IsTuple a its.toArray := p
    have hel : e < s.heap.objs.size := Heap.lt_size he
    have hil : it < s.heap.objs.size := by obtain ⟨_, q, _⟩ := hit; exact Heap.lt_size q
    refine wpAny_pyNext_enum_itemD (Draws.tuple (A := X.A.in1) (I.ok.hd hc) it a st.ai its.toArray) he ⟨hit, pt⟩ (by simp; omega) hne (fun z => (List.mem_cons.mp z).elim hne fun z => st.ea (List.mem_singleton.mp z)) fun y h' tk hy ho hit' hT hsz hk => ?_
    have ey : y = u := by
      have : its.toArray[i]? = some u := by simpa using hu
      rw [this] at hy
      exact (Option.some.inj hy).symm
    subst ey
    refine ⟨_, rfl, wpAny_letOwnedTupleGo_enum (s := { s with heap := h', toks := tk + 1 }) ho fun h2 he' sb => ?_⟩
    have hT2 : h2.get? s.heap.objs.size = some { cls := .type "tuple", data := .seq #[.int i tk, y] } := (sb.2 _ (Nat.ne_of_gt hel)).trans hT
    have new : ObjOk X.prog X.w (upd H s.heap.objs.size (.tup [.int (i : Nat), x])) h2 s.heap.objs.size (.tup [.int (i : Nat), x]) := ⟨by show 2 ≤ sizeLine; decide, [.int i tk, y], .cons ⟨_, rfl⟩ (.cons ru .nil), ⟨_, hT2, rfl, _, rfl⟩⟩
    have I1 : Inv X pins σ (upd H s.heap.objs.size (.tup [.int (i : Nat), x])) { s with heap := h2, toks := tk + 1 } := I.turnedNew (ch := [e, it]) (fun b ob hb q => (sb.2 b (fun z => hb (by simp [z]))).trans (hk b ob (fun z => hb (by simp [z])) (fun z => hb (by simp [z])) q)) hf (Nat.le_refl _) new
    refine ⟨.ref s.heap.objs.size, _, I1, rfl, ⟨_, x, rfl, I.hok.fresh (Nat.le_refl _), rfl, fun ys hy => by rw [I.tuple_inj hy hq]; exact hx⟩, ⟨⟨y, ?_⟩, hit'.1.at fun o q => (sb.2 it (Ne.symm hne)).trans q, st.ei, st.ea, st.ai⟩, fun b hb => ?_⟩
    · have e1 : ((i + 1 : Nat) : Int) = (i : Int) + 1 := by omega
      rw [e1]
      exact he'
    · have hb' : b < s.heap.objs.size := by
        rcases List.mem_cons.mp hb with z | z
        · rw [z]; exact hel
        · rw [List.mem_singleton.mp z]; exact hil
      rw [upd_ne (Nat.ne_of_lt hb')]
      exact (hf b hb).1
  done := by
    intro X hP hw hK hc i pins s σ H E I hf st hg
    subst hP hw hK
    obtain ⟨old, he⟩ := st.en
    obtain ⟨xs, hq, hx⟩ := hg
    obtain ⟨its, rv, p, hz⟩ := I.tuple hq
    have pt : s.heap.IsTuple a its.toArray := p
    obtain ⟨f0, f1, f2, f3, f4, f5⟩ := hf it (List.mem_cons_of_mem _ List.mem_cons_self)
    have hl := rv.length
    have D0 := Draws.tuple (prog := X.prog) (w := X.w) (A := X.A.in1) (I.ok.hd hc) it a st.ai its.toArray
    have D1 : Draws X.prog X.w X.A.in1 it [it, a] 0 (fun _ _ => False) (fun _ h => h.IsTupleIter it a i ∧ h.IsTuple a its.toArray) := ⟨fun j => D0.live i, fun j => D0.frame i, fun j s Q E hj hs k => absurd hj (Nat.not_lt_zero _), fun s Q E hs k => wpAny_nextOf_tuple_end (I.ok.hd hc) hs.1 hs.2 (by simp; omega) k⟩
    exact wpAny_pyNext_enum_endD D1 he ⟨st.ti, pt⟩ fun h' eb => ⟨rfl, I.turned (t' := s.toks) (fun b o hb q => eb b o hb q) f0 f1 f3 f4 f5⟩
  self := fun A i s Q E st h => by
    obtain ⟨old, he⟩ := st.en
    exact wpAny_pyIter_enum he h
/-- of either -/
def iEnB (K : PySem.W.Frag) (ta : TA) : TI := fun σ H R => ta σ H fun vs H1 => ∃ a, vs = [.ref a] ∧ (((∃ xs, SqL K H1 a xs) ∧ R (Ite K a) H1) ∨ ((∃ xs, SqT K H1 a xs) ∧ R (IteT K a) H1))
theorem pi_enB {X : Cx} {e : Expr} {ta : TA} {p pos tpos : Pos} {elts : List Expr} {kk : Nat} (hg : Gl X "enumerate") (hm : X.mg "enumerate" = none) (ha : PA X [e] ta) (hs : starEach [e] X.env = [(false, eval e X.env)] := by rfl) : PI X (.Tuple elts kk tpos) (.Call (.Name "enumerate" p) [e] [] pos) (iEnB X.K ta) := by
  refine ⟨fun pins s σ H R I h => ?_⟩
  refine Call_ (ld_blt I hg hm boot_enumerate (PyProof.Rows.callWith_type1 (thn (ha.run pos pins s σ H _ I h) fun us s1 ⟨vs, H1, I1, r1, q1⟩ => ?_) hs rfl))
  obtain ⟨a, ex, q1⟩ := q1
  subst ex
  cases r1 with
  | cons r rr =>
    cases rr
    cases r
    have fpo : ∀ b ∈ [s1.heap.objs.size + 1, s1.heap.objs.size], FpOk X pins H1 b := fun b hb => by
      have hle : s1.heap.objs.size ≤ b := by
        rcases List.mem_cons.mp hb with z | z
        · rw [z]; exact Nat.le_add_right _ _
        · rw [List.mem_singleton.mp z]; exact Nat.le_refl _
      exact I1.fpOk hle (I1.hok.fresh hle)
    rcases q1 with ⟨⟨xs, hq⟩, q⟩ | ⟨⟨xs, hq⟩, q⟩
    · obtain ⟨its, rv, p', hz⟩ := I1.list hq
      refine call_enumerate_list p'.isList fun h' he hit hsz hk => wpAny_pyIter_enum he ?_
      exact ⟨s1.heap.objs.size + 1, [s1.heap.objs.size + 1, s1.heap.objs.size], _, _, H1, rfl, I1.kept (t' := s1.toks) hk, turn_enum a _ _, ⟨⟨.none, he⟩, hit, Nat.succ_ne_self _⟩, fpo, q⟩
    · obtain ⟨its, rv, p', hz⟩ := I1.tuple hq
      have pt : s1.heap.IsTuple a its.toArray := p'
      have la : a < s1.heap.objs.size := by obtain ⟨_, z, _⟩ := pt; exact Heap.lt_size z
      refine call_en1 (begins_tuple a its.toArray) pt fun h' he hit hk => wpAny_pyIter_enum he ?_
      exact ⟨s1.heap.objs.size + 1, [s1.heap.objs.size + 1, s1.heap.objs.size], _, _, H1, rfl, I1.kept (t' := s1.toks) hk, turn_enumT a _ _, ⟨⟨.none, he⟩, ⟨_, hit, rfl, rfl⟩, Nat.succ_ne_self _, Nat.ne_of_gt (Nat.lt_succ_of_lt la), Nat.ne_of_lt la⟩, fpo, q⟩
theorem enumD_get {ds : List D} {i : Nat} {d : D} (h : (enumD ds)[i]? = some d) : ∃ x, ds[i]? = some x ∧ d = .tup [.int (i : Nat), x] := by
  unfold enumD at h
  rw [List.getElem?_mapIdx] at h
  cases q : ds[i]? with
  | none => rw [q] at h; cases h
  | some x => rw [q] at h; exact ⟨x, rfl, (Option.some.inj h).symm⟩
def dEnB : List D → Option (List D) | [.lst ds] => some (enumD ds) | [.tup ds] => some (enumD ds) | _ => none
section
variable {C : Ct} {W : WX} {X : Cx} {p : Bool} {pos : Pos} {a : Expr}
theorem fi_enB {fr : F (List AV)} {pn tpos : Pos} {elts : List Expr} {kk : Nat} (hg : Gl X "enumerate") (hm : X.mg "enumerate" = none) (ha : FA C W p X [a] fr) (hs : starEach [a] X.env = [(false, eval a X.env)] := by rfl) : FI C W p X (.Tuple elts kk tpos) (.Call (.Name "enumerate" pn) [a] [] pos) (iArgs dEnB fr) :=
  fi_args (fun ta h => pi_enB hg hm h hs) ha fun M H vs ds xs Q r e k => by
    match ds, r, e with
    | [.lst ys], .cons (.lst (a := a) (vs := us) e1 n1 r1) .nil, e =>
      cases e
      refine ⟨a, rfl, .inl ⟨⟨us, .inl (.inl e1)⟩, k _ fun M' H' fn hd => ?_⟩⟩
      have h' : SqL X.K H' a us := .inl (.inl (fn.at_ _ _ e1 n1 rfl))
      have rs := r1.fine fn
      refine ⟨fun i d ed => ?_, fun i hi => ⟨us, h', by rw [rs.length]; simpa [enumD] using hi⟩⟩
      obtain ⟨x, hx, rfl⟩ := enumD_get ed
      obtain ⟨v, e3, e4⟩ := rs.get hx
      refine ⟨⟨us, v, h', e3⟩, fun w H2 y => ?_⟩
      obtain ⟨T, u, q1, q2, q3, q4⟩ := y
      have z := q4 us h'
      rw [e3] at z
      cases z
      subst q1 q3
      exact ⟨Keep.new q2, rep_newT hd q2 (.cons (.int _) (.cons e4 .nil))⟩
    | [.tup ys], .cons (.tup (a := a) (vs := us) e1 n1 r1) .nil, e =>
      cases e
      refine ⟨a, rfl, .inr ⟨⟨us, .inl (.inl e1)⟩, k _ fun M' H' fn hd => ?_⟩⟩
      have h' : SqT X.K H' a us := .inl (.inl (fn.at_ _ _ e1 n1 rfl))
      have rs := r1.fine fn
      refine ⟨fun i d ed => ?_, fun i hi => ⟨us, h', by rw [rs.length]; simpa [enumD] using hi⟩⟩
      obtain ⟨x, hx, rfl⟩ := enumD_get ed
      obtain ⟨v, e3, e4⟩ := rs.get hx
      refine ⟨⟨us, v, h', e3⟩, fun w H2 y => ?_⟩
      obtain ⟨T, u, q1, q2, q3, q4⟩ := y
      have z := q4 us h'
      rw [e3] at z
      cases z
      subst q1 q3
      exact ⟨Keep.new q2, rep_newT hd q2 (.cons (.int _) (.cons e4 .nil))⟩
end
theorem wipeG_two {γ : Gm} {vs vs1 : List Nat} (h : ∀ j ∈ vs1, j ∈ vs) : wipeG (wipeG γ vs1) vs = wipeG γ vs := wipe_ext (wipeG_length γ vs1) fun j hj => wipeG_out fun z => hj (h j z)
/-- a comprehension of two clauses whose parts change nothing: what each item of the first source gives -/
theorem wp_lc2 {γ : Gm} {E : Ex → Gm → Prop} {fi fi1 : F (List D)} {gt gt1 : GD} {e : F D} {vs vs1 : List Nat} {Q : MO → Gm → Prop} (f : D → List D)
    (h : Wp (fi γ) (fun xs g => okW g vs = true ∧ ((xs.map f).flatten.length ≤ sizeLine) ∧ (∀ d ∈ xs, ∃ g1, gt d (wipeG g vs) = some g1 ∧ Wp (fi1 g1) (fun ys g2 => ∃ w : D → D, f d = ys.map w ∧ wipeG (wipeG g2 vs1) vs = wipeG g vs ∧ ∀ y ∈ ys, ∃ g3, gt1 y (wipeG g2 vs1) = some g3 ∧ Wp (e g3) (fun z g4 => z = w y ∧ wipeG g4 vs1 = wipeG g2 vs1) E0) E0) ∧ Q (.lst (xs.map f).flatten) g) E) : Wp (nLc2 fi gt fi1 gt1 e vs vs1 γ) Q E := by
  unfold nLc2
  refine wp_bind (h.imp fun xs g h => ?_)
  obtain ⟨h1, h2, h3, q⟩ := h
  rw [if_pos h1]
  have inner : ∀ (ys : List D) (w : D → D) (g2 : Gm) (acc : List D), (∀ y ∈ ys, ∃ g3, gt1 y (wipeG g2 vs1) = some g3 ∧ Wp (e g3) (fun z g4 => z = w y ∧ wipeG g4 vs1 = wipeG g2 vs1) E0) → lcL gt1 tTrue e vs1 ys acc (wipeG g2 vs1) = .ok (acc ++ ys.map w) (wipeG g2 vs1) := by
    intro ys
    induction ys with
    | nil => intro w g2 acc _; simp [lcL]
    | cons y ys ih =>
      intro w g2 acc hy
      obtain ⟨g3, e1, k⟩ := hy y List.mem_cons_self
      obtain ⟨z, g4, e2, ez, e4⟩ := k.out
      unfold lcL
      simp only [e1, show tTrue g3 = .ok true g3 from rfl, e2, e4, ez]
      rw [ih w g2 (acc ++ [w y]) fun y' h' => hy y' (List.mem_cons_of_mem _ h')]
      simp
  have outer : ∀ (xs : List D) (acc : List D), (∀ d ∈ xs, ∃ g1, gt d (wipeG g vs) = some g1 ∧ Wp (fi1 g1) (fun ys g2 => ∃ w : D → D, f d = ys.map w ∧ wipeG (wipeG g2 vs1) vs = wipeG g vs ∧ ∀ y ∈ ys, ∃ g3, gt1 y (wipeG g2 vs1) = some g3 ∧ Wp (e g3) (fun z g4 => z = w y ∧ wipeG g4 vs1 = wipeG g2 vs1) E0) E0) → lcL2 gt fi1 gt1 e vs vs1 xs acc (wipeG g vs) = .ok (acc ++ (xs.map f).flatten) (wipeG g vs) := by
    intro xs
    induction xs with
    | nil => intro acc _; simp [lcL2]
    | cons d xs ih =>
      intro acc hd
      obtain ⟨g1, e1, k⟩ := hd d List.mem_cons_self
      obtain ⟨ys, g2, e2, w, ew, e4, hy⟩ := k.out
      unfold lcL2
      have ei : lcIn fi1 gt1 e vs1 acc g1 = .ok (acc ++ ys.map w) (wipeG g2 vs1) := by
        unfold lcIn
        rw [bind_ok e2, inner ys w g2 acc hy]
      simp only [e1, ei, e4]
      rw [ih (acc ++ ys.map w) fun d' h' => hd d' (List.mem_cons_of_mem _ h')]
      simp [ew]
  rw [outer xs [] h3]
  simp only [List.nil_append]
  rw [if_pos h2]
  refine ⟨?_⟩
  show Q (.lst (xs.map f).flatten) (unw g (wipeG g vs) vs)
  rw [unw_wipe]
  exact q
theorem q_enumL {ds : List D} : dEnB [.lst ds] = some (enumD ds) := rfl
theorem q_enumT {ds : List D} : dEnB [.tup ds] = some (enumD ds) := rfl
theorem q_zipL {xs ys : List D} : dZip [.lst xs, .lst ys] = some (zipD xs ys) := rfl
theorem q_zipT {xs ys : List D} : dZip [.tup xs, .tup ys] = some (zipD xs ys) := rfl
theorem enumD_len {ds : List D} : (enumD ds).length = ds.length := by simp [enumD]
theorem zipD_len {xs ys : List D} : (zipD xs ys).length = min xs.length ys.length := by simp [zipD]
theorem q_mulTLst {xs : List D} {k : Int} (h : -(2 ^ 63) ≤ k ∧ k < 2 ^ 63 ∧ xs.length * k.toNat ≤ sizeLine) : dMulT (.lst xs) (.int k) = some (.lst (List.replicate k.toNat xs).flatten) := by
  simp only [dMulT, dMul]
  rw [if_pos h]
end FC

namespace FC
open PySem PySem.Spec PyProof.Rows L2

/-! ### match: a list of texts against [name, text, name], then anything -/
def tMt (K : PySem.W.Frag) (i j : Nat) (lit : Str) (te : TE) (t1 t2 : TS) : TS := fun D σ H => te σ H fun v H1 => ∃ (a : Addr) (ys : List Str), v = .ref a ∧ SqL K H1 a (ys.map V.str) ∧
  ((∃ u w, ys = [u, lit, w] ∧ t1 D ((σ.set i (some (.str u))).set j (some (.str w))) H1) ∨ ((∀ u w, ys ≠ [u, lit, w]) ∧ t2 D σ H1))
theorem one_of_three {α : Type} {l : List α} (h : l.length = 3) : ∃ a b c, l = [a, b, c] := by
  match l, h with
  | [a, b, c], _ => exact ⟨a, b, c, rfl⟩
theorem vals_three {a b c : V} {u v w : Value} (h : Vals [a, b, c] [u, v, w]) : RelV a u ∧ RelV b v ∧ RelV c w := by
  cases h with
  | cons r0 h =>
    cases h with
    | cons r1 h =>
      cases h with
      | cons r2 h => exact ⟨r0, r1, r2⟩
section
variable {X : Cx} {i j : Nat} {x y lit : Str} {subj : Expr} {b1 b2 : List Stmt} {te : TE} {t1 t2 : TS} {p1 p2 p2' p3 p4 p5 pos : Pos} {kk : Nat}
theorem ps_mt (hc : X.calm = true) (he : PE X subj te) (h1 : PSs X b1 t1) (h2 : PSs X b2 t2) (hN : X.N.Nodup) (hi : X.N[i]? = some x) (hx : Loc X.env.scope x) (hj : X.N[j]? = some y) (hy : Loc X.env.scope y)
    (hf : X.fn x = true ∨ X.env.scope.names.lookup x = some .local := by first | exact .inl rfl | exact .inr rfl | assumption) (hg : X.fn y = true ∨ X.env.scope.names.lookup y = some .local := by first | exact .inl rfl | exact .inr rfl | assumption) :
    PS X (.Match subj [⟨.MatchSequence [.MatchAs none (some x) p1, .MatchValue (.Constant (.str lit) kk p2) p2', .MatchAs none (some y) p3] p4, none, b1⟩, ⟨.MatchAs none none p5, none, b2⟩] pos) (tMt X.K i j lit te t1 t2) := by
  refine ⟨fun pins s σ H D I h => ?_⟩
  refine wpAny_Match (thn (he.run pins s σ H _ I h) fun u s1 ⟨v, H1, I1, r1, a, ys, ev, hq, k⟩ => ?_)
  subst ev
  cases r1
  obtain ⟨its, rv, pl, hz⟩ := I1.list hq
  have hl : its.length = ys.length := by rw [← rv.length, List.length_map]
  have hz' : (its.toArray.size : Int) < 2 ^ 63 := by
    have h1 := rv.length
    rw [sizeLine_eq] at hz
    have h2 : its.toArray.size = its.length := List.size_toArray
    have h3 : ((its.toArray.size : Nat) : Int) < 9223372036854775808 := by omega
    exact h3
  -- the second case
  have other : ∀ s2, Inv X pins σ H1 s2 → (∀ u w, ys ≠ [u, lit, w]) → wpAny (model X.prog X.w) X.A (matchCases [⟨.MatchAs none none p5, none, b2⟩] X.env (.ref a) false) (SP X pins D) X.xe s2 := fun s2 I2 hn => by
    rcases k with ⟨u, w, e, _⟩ | ⟨_, k⟩
    · exact absurd e (hn u w)
    · refine wpAny_matchCases_cons (wpAny_matchPattern_Capture ?_)
      exact wpAny_assignInOrder_none (h2.run pins s2 σ H1 D I2 k)
  refine wpAny_matchCases_cons ?_
  by_cases h3 : ys.length = 3
  · obtain ⟨y0, y1, y2, rfl⟩ := one_of_three h3
    refine matchSeq_list_hit pl.isList hz' (by simp; omega) ?_
    rw [show [Pattern.MatchAs none (some x) p1, Pattern.MatchValue (Expr.Constant (Const.str lit) kk p2) p2', Pattern.MatchAs none (some y) p3].length = its.toArray.size by simp; omega]
    refine PySem.W.kun_itemsOf (I1.ok.hd hc) pl.isList fun h' ex => ?_
    have I2 : Inv X pins σ H1 { s1 with heap := h', toks := s1.toks + 1 + 1 } := I1.kept fun b o e => ex b o (Nat.ne_of_lt (Heap.lt_size e)) e
    obtain ⟨v0, v1, v2, rfl⟩ := one_of_three (l := its) (by omega)
    obtain ⟨r0, r1, r2⟩ := vals_three rv
    obtain ⟨tt1, rfl⟩ := _root_.id r1
    refine wpAny_matchEach_cons (wpAny_matchPattern_Capture ?_)
    refine wpAny_matchEach_cons (wpAny_matchPattern_Value ?_)
    refine thn (pe_str.run pins _ σ H1 (fun v H' => v = .str lit ∧ H' = H1) I2 ⟨rfl, rfl⟩) fun cv s3 ⟨w, H3, I3, r3, ew, eH⟩ => ?_
    subst ew eH
    refine thn (op_eq pins s3 σ H3 (.str y1) (.str lit) _ _ (fun v H' => v = .bl (decide (V.str y1 = V.str lit)) ∧ H' = H3) I3 ⟨tt1, rfl⟩ r3 ⟨rfl, rfl, rfl⟩) fun bv s4 ⟨w, H4, I4, r4, ew, eH⟩ => ?_
    subst ew eH
    cases r4
    refine wpAny_truthy_bool ?_
    by_cases hy1 : y1 = lit
    · subst hy1
      rw [decide_eq_true rfl, if_pos rfl]
      refine wpAny_matchEach_cons (wpAny_matchPattern_Capture ?_)
      refine wpAny_matchEach_nil ?_
      rcases k with ⟨u, w, e, k⟩ | ⟨hn, _⟩
      · cases e
        show wpAny _ _ (assignInOrder [bindName X.env x, bindName X.env y] [v0, v2]) _ _ _
        refine wpAny_assignInOrder_more (wpAny_bindName (store_ok I4 hN hi hx r0 (fun s5 I5 => ?_) hf))
        refine wpAny_assignInOrder_more (wpAny_bindName (store_ok I5 hN hj hy r2 (fun s6 I6 => ?_) hg))
        exact wpAny_assignInOrder_none (h1.run pins s6 _ _ D I6 k)
      · exact absurd rfl (hn y0 y2)
    · rw [decide_eq_false (fun z => hy1 (V.str.inj z)), if_neg Bool.false_ne_true]
      exact other s4 I4 fun u w z => by cases z; exact hy1 rfl
  · refine matchSeq_list_miss pl.isList hz' (by simp; omega) ?_
    exact other _ (I1.tok _) fun u w z => h3 (by rw [z]; rfl)
end
/-- as a mirror -/
def mtF (i j : Nat) (lit : Str) (f1 f2 : F Fl) : List Str → F Fl
  | [u, v, w] => if v = lit then (fun γ => f1 ((γ.set i (.val (.str u))).set j (.val (.str w)))) else f2
  | _ => f2
theorem mtF_hit {i j : Nat} {lit : Str} {f1 f2 : F Fl} {u w : Str} : mtF i j lit f1 f2 [u, lit, w] = fun γ => f1 ((γ.set i (.val (.str u))).set j (.val (.str w))) := by simp only [mtF, if_true]
theorem mtF_miss {i j : Nat} {lit : Str} {f1 f2 : F Fl} : ∀ {ys : List Str}, (∀ u w, ys ≠ [u, lit, w]) → mtF i j lit f1 f2 ys = f2
  | [], _ => rfl
  | [_], _ => rfl
  | [_, _], _ => rfl
  | [u, v, w], h => by
    show (if v = lit then (fun γ => f1 ((γ.set i (.val (.str u))).set j (.val (.str w)))) else f2) = f2
    rw [if_neg fun z => h u w (by rw [z])]
  | _ :: _ :: _ :: _ :: _, _ => rfl
def sMt (i j : Nat) (lit : Str) (fs : F D) (f1 f2 : F Fl) : F Fl := F.bind fs fun d => match d with
  | .lst xs => (match dStrs xs with
    | some ys => mtF i j lit f1 f2 ys
    | none => fun _ => .st)
  | _ => fun _ => .st
section
variable {C : Ct} {W : WX} {X : Cx} {m p : Bool} {i j : Nat} {x y lit : Str} {subj : Expr} {b1 b2 : List Stmt} {fs : F D} {f1 f2 : F Fl} {p1 p2 p2' p3 p4 p5 pos : Pos} {kk : Nat}
theorem fs_mt (hc : X.calm = true) (he : FX C W m p X subj fs) (h1 : FSs C W X b1 f1) (h2 : FSs C W X b2 f2) (hN : X.N.Nodup) (hi : X.N[i]? = some x) (hx : Loc X.env.scope x) (hj : X.N[j]? = some y) (hy : Loc X.env.scope y)
    (hf : X.fn x = true ∨ X.env.scope.names.lookup x = some .local := by first | exact .inl rfl | exact .inr rfl | assumption) (hg : X.fn y = true ∨ X.env.scope.names.lookup y = some .local := by first | exact .inl rfl | exact .inr rfl | assumption) :
    FS C W X (.Match subj [⟨.MatchSequence [.MatchAs none (some x) p1, .MatchValue (.Constant (.str lit) kk p2) p2', .MatchAs none (some y) p3] p4, none, b1⟩, ⟨.MatchAs none none p5, none, b2⟩] pos) (sMt i j lit fs f1 f2) :=
  PS.imp (ps_mt hc he h1 h2 hN hi hx hj hy hf hg) fun D σ H ⟨pens, M, γ, E, h⟩ => by
    refine ⟨pens, M, γ, E, ?_⟩
    unfold sMt at h
    cases ea : fs γ with
    | st => rw [bind_st ea] at h; exact h
    | ex e g => rw [bind_ex ea] at h; exact fun cls d H' S re => h cls d M σ H' S.env S.s re
    | ok d g =>
      rw [bind_ok ea] at h
      intro v H1 S P r
      cases d with
      | lst xs =>
        simp only at h
        cases e2 : dStrs xs with
        | none => rw [e2] at h; exact h.elim
        | some ys =>
          rw [e2] at h
          have ex := dStrs_eq e2
          subst ex
          obtain ⟨a, us, rfl, ha, ra⟩ := (MRep.s r).lstH
          have eu := ra.strs
          subst eu
          refine ⟨a, ys, rfl, .inl (.inl ha), ?_⟩
          simp only at h
          by_cases hit : ∃ u w, ys = [u, lit, w]
          · obtain ⟨u, w, rfl⟩ := hit
            rw [mtF_hit] at h
            refine .inl ⟨u, w, rfl, pens, M, _, (S.env.set (i := i) (x := some (.str u)) (sv := .val (.str u)) ⟨_, rfl, .str _⟩ (fun _ _ z => by cases z)).set (i := j) (x := some (.str w)) (sv := .val (.str w)) ⟨_, rfl, .str _⟩ (fun _ _ z => by cases z), ?_⟩
            have SS : StpS M σ g H1 M ((σ.set i (some (.str u))).set j (some (.str w))) ((g.set i (.val (.str u))).set j (.val (.str w))) H1 :=
              ⟨Keep.refl _ _, fun a z => .inl (Own.set i _ _ (fun _ _ z => by cases z) (Own.set j _ _ (fun _ _ z => by cases z) z)), fun _ z _ => z, fun _ z => .inl z⟩
            exact aftS_go E (S.s.trans E SS) h
          · have no : ∀ u w, ys ≠ [u, lit, w] := fun u w e => hit ⟨u, w, e⟩
            rw [mtF_miss no] at h
            exact .inr ⟨no, pens, M, g, S.env, aftS_go E S.s h⟩
      | _ => exact h.elim
end
end FC

namespace FC
open PySem PySem.Spec PyProof.Rows L2

/-! ### int(text) -/
def dIntS : D → Option D
  | .str x => if x.length ≤ 640 then (PySem.intText? x).map D.int else none
  | _ => none
section
variable {C : Ct} {W : WX} {X : Cx} {m p : Bool} {a : Expr} {fa : F D} {pn pos : Pos}
theorem fx_intS (ha : FX C W m p X a fa) (hm : X.mg "int" = none) (hg : Gl X "int") (he : starEach [a] X.env = (false, eval a X.env) :: starEach [] X.env := by rfl) (hpl : (backTo pos (starEach [] X.env)).any (·.1) = false := by rfl) : FX C W true p X (.Call (.Name "int" pn) [a] [] pos) (f1 dIntS fa) :=
  fx_t1 call_int_str (fun M H x dx d Q hd sx e k => by
    cases dx with
    | str z =>
      simp only [dIntS] at e
      split at e
      · rename_i hz
        cases q : PySem.intText? z with
        | none => rw [q] at e; cases e
        | some n =>
          rw [q] at e
          cases e
          rw [sx.strH]
          exact ⟨z, n, rfl, q, hz, k _ H (Keep.refl _ _) (.int _)⟩
      · cases e
    | _ => cases e) ha PyProof.Rows.boot_int hm hg (he := he) (hpl := hpl)
end
theorem q_intS {x : Str} {n : Int} (h : PySem.intText? x = some n) (hl : x.length ≤ 640) : dIntS (.str x) = some (.int n) := by
  simp only [dIntS]
  rw [if_pos hl, h]
  rfl
/-! ### match, as wished -/
theorem wp_mt {γ : Gm} {E : Ex → Gm → Prop} {Q : Fl → Gm → Prop} {i j : Nat} {lit : Str} {fs : F D} {f1 f2 : F Fl} (h : Wp (fs γ) (fun d g => ∃ ys, d = .lst (ys.map D.str) ∧ ((∃ u w, ys = [u, lit, w] ∧ Wp (f1 ((g.set i (.val (.str u))).set j (.val (.str w)))) Q E) ∨ ((∀ u w, ys ≠ [u, lit, w]) ∧ Wp (f2 g) Q E))) E) : Wp (sMt i j lit fs f1 f2 γ) Q E := by
  unfold sMt
  refine wp_bind (h.imp fun d g h => ?_)
  obtain ⟨ys, rfl, h⟩ := h
  have e : dStrs (ys.map D.str) = some ys := by
    clear h
    induction ys with
    | nil => rfl
    | cons y ys ih => simp only [List.map_cons, dStrs, ih, Option.map_some]
  simp only [e]
  rcases h with ⟨u, w, rfl, h⟩ | ⟨no, h⟩
  · rw [mtF_hit]
    exact h
  · rw [mtF_miss no]
    exact h
end FC

namespace FC
open PySem PySem.Spec PyProof.Rows L2 TL

/-! ### texts of limits, read back -/
abbrev numS (i : Int) : Str := ((toString i : String) : Str)
def lineN (p : Int × Int) : Str := ((("at most " : String) : Str) ++ numS p.2) ++ ((" in " : String) : Str) ++ numS p.1
abbrev nlS : Str := (("\n" : String) : Str)
theorem lineS_eq (p : Int × Int) : lineS p = lineN p ++ nlS := rfl
theorem pair_pos {p : Int × Int} (h : In20 p) : ∃ a b : Fin 20, p = ((a.val : Int) + 1, (b.val : Int) + 1) := by
  obtain ⟨h1, h2, h3, h4⟩ := h
  refine ⟨⟨(p.1 - 1).toNat, by omega⟩, ⟨(p.2 - 1).toNat, by omega⟩, ?_⟩
  refine Prod.ext ?_ ?_
  · show p.1 = (((p.1 - 1).toNat : Nat) : Int) + 1
    omega
  · show p.2 = (((p.2 - 1).toNat : Nat) : Int) + 1
    omega
theorem line_starts {p : Int × Int} (h : In20 p) : Txt.startswith (lineN p) (("at most " : String) : Str) = true := by
  obtain ⟨a, b, rfl⟩ := pair_pos h
  revert a b
  decide +kernel
theorem line_words {p : Int × Int} (h : In20 p) : Txt.split (cutS (lineN p) (some 8) none) ((" " : String) : Str) = [numS p.2, (("in" : String) : Str), numS p.1] := by
  obtain ⟨a, b, rfl⟩ := pair_pos h
  revert a b
  decide +kernel
theorem line_len {p : Int × Int} (h : In20 p) : (lineN p).length ≤ 40 := by
  obtain ⟨a, b, rfl⟩ := pair_pos h
  revert a b
  decide +kernel
theorem line_one {p : Int × Int} (h : In20 p) : 10 ∉ tl (lineN p) := by
  obtain ⟨a, b, rfl⟩ := pair_pos h
  revert a b
  decide +kernel
theorem tl_lineS (p : Int × Int) : tl (lineS p) = tl (lineN p) ++ [10] := by
  rw [lineS_eq, tl_append]
  rfl
theorem joinL_nil : ∀ ls : List (List Nat), joinL [] ls = ls.flatten
  | [] => rfl
  | [p] => by simp [joinL]
  | p :: q :: r => by
    show p ++ ([] ++ joinL [] (q :: r)) = _
    rw [joinL_nil (q :: r)]
    simp
theorem joinL_end : ∀ {ls : List (List Nat)}, ls ≠ [] → (ls.map (· ++ [10])).flatten = joinL [10] ls ++ [10]
  | [], h => absurd rfl h
  | [p], _ => by simp [joinL]
  | p :: q :: r, _ => by
    have ih := joinL_end (ls := q :: r) (by simp)
    rw [List.map_cons, List.flatten_cons, ih]
    show _ = (p ++ ([10] ++ joinL [10] (q :: r))) ++ [10]
    simp
theorem limText_tl {ps : List (Int × Int)} (h : ps ≠ []) : tl (limText ps) = joinL [10] (ps.map fun p => tl (lineN p)) ++ [10] := by
  unfold limText
  rw [join_eq, tl_join]
  have e0 : tl (("" : String) : Str) = [] := by decide
  rw [e0, joinL_nil, ← joinL_end (by simpa using h)]
  congr 1
  rw [List.map_map, List.map_map]
  exact List.map_congr_left fun p _ => tl_lineS p
theorem limText_cut {ps : List (Int × Int)} (h : ps ≠ []) : cutS (limText ps) none (some (-1)) = Txt.join nlS (ps.map lineN) := by
  refine map_tl_inj (l := [_]) (m := [_]) ?_ |> fun e => (List.cons.inj e).1
  simp only [List.map_cons, List.map_nil]
  congr 1
  rw [join_eq, tl_join]
  have e1 : tl nlS = [10] := by decide
  rw [e1, List.map_map]
  have hx : tl (limText ps) = (limText ps).cps.toList := rfl
  have hl : (limText ps).length = (tl (limText ps)).length := by rw [hx]; exact Array.length_toList.symm
  have ht := limText_tl h
  show ((tl (limText ps)).drop (HT.sIx (limText ps).length 0 none)).take (HT.sIx (limText ps).length (limText ps).length (some (-1)) - HT.sIx (limText ps).length 0 none) = _
  rw [HT.sIx_none, List.drop_zero, Nat.sub_zero, hl, ht]
  have e2 : HT.sIx (joinL [10] (ps.map fun p => tl (lineN p)) ++ [10]).length (joinL [10] (ps.map fun p => tl (lineN p)) ++ [10]).length (some (-1)) = (joinL [10] (ps.map fun p => tl (lineN p))).length := by
    unfold HT.sIx
    simp
    omega
  rw [e2, List.take_left']
  · rfl
  · rfl
theorem limText_ends {ps : List (Int × Int)} (h : ps ≠ []) : Txt.endswith (limText ps) nlS = true := by
  have hx : tl (limText ps) = (limText ps).cps.toList := rfl
  have hl : (limText ps).length = (tl (limText ps)).length := by rw [hx]; exact Array.length_toList.symm
  have ht := limText_tl h
  have l1 : nlS.length = 1 := by decide
  have e1 : tl nlS = [10] := by decide
  unfold Txt.endswith
  have hs : 0 + nlS.length ≤ (limText ps).length := by
    rw [hl, ht, l1]
    simp
  rw [decide_eq_true hs, Bool.true_and]
  rw [StrLaws.subAt_eq]
  rw [← hx, hl, ht, l1, show nlS.cps.toList = [10] from e1]
  simp
theorem limText_lines {ps : List (Int × Int)} (h : ps ≠ []) (G : ∀ p ∈ ps, In20 p) : Txt.split (Txt.join nlS (ps.map lineN)) nlS = ps.map lineN := by
  refine split_join (s := 10) (S := []) (by decide) (by decide +kernel) (by simpa using h) fun q hq => ?_
  obtain ⟨p, hp, rfl⟩ := List.mem_map.mp hq
  exact line_one (G p hp)
theorem numS_int {i : Int} (h : 1 ≤ i ∧ i ≤ 20) : PySem.intText? (numS i) = some i ∧ (numS i).length ≤ 2 ∧ 1 ≤ (numS i).length := by
  obtain ⟨a, rfl⟩ : ∃ a : Fin 20, i = (a.val : Int) + 1 := ⟨⟨(i - 1).toNat, by omega⟩, by show i = (((i - 1).toNat : Nat) : Int) + 1; omega⟩
  revert a
  decide +kernel
theorem joinN_len {ps : List (Int × Int)} (h : ps ≠ []) (G : ∀ p ∈ ps, In20 p) : (Txt.join nlS (ps.map lineN)).length + 1 ≤ 40 * ps.length := by
  have a := limText_len G
  have hx : tl (limText ps) = (limText ps).cps.toList := rfl
  have hl : (limText ps).length = (tl (limText ps)).length := by rw [hx]; exact Array.length_toList.symm
  have hj : (Txt.join nlS (ps.map lineN)).length = (tl (Txt.join nlS (ps.map lineN))).length := Array.length_toList.symm
  rw [hl, limText_tl h] at a
  rw [hj, join_eq, tl_join]
  have e1 : tl nlS = [10] := by decide
  rw [e1, List.map_map]
  simpa [Function.comp_def] using a
end FC

namespace FC
open PySem PySem.Spec PyProof.Rows L2

/-! ### xs[::-1] of a list or of a tuple -/
theorem adj_back (n : Nat) : Builtin.Slice.sliceAdjust none none (-1) (n : Int) = ((n : Int) - 1, -1) := by
  unfold Builtin.Slice.sliceAdjust
  have q : (-1 : Int) < 0 := by omega
  simp only [q, if_true]
theorem plc_back (n : Nat) : Builtin.Slice.slicePlaces ((n : Int) - 1) (-1) (-1) = n := by
  unfold Builtin.Slice.slicePlaces
  have q : ¬ (-1 : Int) > 0 := by omega
  rw [if_neg q]
  by_cases h : (n : Int) - 1 > -1
  · rw [if_pos h, show (-(-1) : Int) = 1 by omega, Int.ediv_one]
    omega
  · rw [if_neg h]
    omega
theorem fmap_range {α : Type} {f : Nat → Option α} : ∀ {n : Nat} {ys : List α}, ys.length = n → (∀ k, k < n → f k = ys[k]?) → (List.range n).filterMap f = ys
  | 0, ys, hl, _ => by rw [List.length_eq_zero_iff.mp hl]; rfl
  | n + 1, ys, hl, h => by
    have e : ys = ys.take n ++ [ys[n]] := by
      rw [← List.take_succ_eq_append_getElem (by omega), List.take_of_length_le (by omega)]
    rw [List.range_succ, List.filterMap_append, fmap_range (n := n) (ys := ys.take n) (by rw [List.length_take]; omega) fun k hk => by rw [h k (by omega), List.getElem?_take_of_lt hk]]
    have e2 : List.filterMap f [n] = [ys[n]] := by
      simp only [List.filterMap_cons, List.filterMap_nil, h n (Nat.lt_succ_self _), List.getElem?_eq_getElem (show n < ys.length by omega)]
    rw [e2]
    exact e.symm
theorem filterMap_back {α : Type} (xs : List α) : (List.range xs.length).filterMap (fun k : Nat => xs[((((xs.length : Nat) : Int) - 1) + (k : Int) * -1).toNat]?) = xs.reverse :=
  fmap_range (List.length_reverse) fun k hk => by
    rw [List.getElem?_reverse hk]
    congr 1
    omega
section
variable {P : Program} {w : World} {A : Around} {E : Value → Shared → Prop} {s : Shared}
theorem applied_back {sl : Addr} {n : Nat} {u : Tok} {Q : Int × Int × Nat → Shared → Prop} (hs : s.heap.IsSliceOf sl .none .none (.int (-1) u)) (h : Q ((n : Int) - 1, -1, n) s) : wpAny (model P w) A (Builtin.Slice.sliceApplied (.ref sl) (pure (n : Int))) Q E s := by
  obtain ⟨ob, q1, q2, q3⟩ := id hs
  unfold Builtin.Slice.sliceApplied Builtin.Slice.sliceFields
  refine wpAny_bind (wpAny_bind (wpAny_field q1 q3 (x := .none) rfl (wpAny_bind (wpAny_field q1 q3 (x := .none) rfl (wpAny_bind (wpAny_field q1 q3 (x := .int (-1) u) rfl (wpAny_pure ?_)))))))
  refine wpAny_bind (slicePart_int ?_)
  show wpAny _ _ (if ((-1 : Int) == 0) = true then _ else _) _ _ s
  rw [if_neg (by decide)]
  refine wpAny_bind (slicePart_none (wpAny_bind (slicePart_none (wpAny_bind (wpAny_pure ?_)))))
  show wpAny _ _ (match Builtin.Slice.sliceAdjust none none (-1) (n : Int) with | (lo, hi) => pure (lo, (-1 : Int), Builtin.Slice.slicePlaces lo hi (-1))) _ _ s
  rw [adj_back n]
  show wpAny _ _ (pure ((n : Int) - 1, (-1 : Int), Builtin.Slice.slicePlaces ((n : Int) - 1) (-1) (-1))) _ _ s
  rw [plc_back n]
  exact wpAny_pure h
theorem getT_back {t sl : Addr} {items : Array Value} {u : Tok} {Q : Value → Shared → Prop} (ht : IsTup s.heap t items) (hs : s.heap.IsSliceOf sl .none .none (.int (-1) u)) (hz : items.size ≤ sizeLine)
    (h : Q (.ref s.heap.objs.size) { s with heap := s.heap.push { cls := .type "tuple", data := .seq items.toList.reverse.toArray } }) : wpAny (model P w) A (getItem (.ref t) (.ref sl)) Q E s := by
  have hrev : sizeOk (.seq items.toList.reverse.toArray) := by
    show items.toList.reverse.toArray.size ≤ sizeLine
    rw [List.size_toArray, List.length_reverse, Array.length_toList]
    exact hz
  obtain ⟨ob, q1, q2, q3⟩ := id hs
  have ts : s.TypeIs (.ref sl) "slice" := ⟨ob, q1, q2⟩
  unfold getItem
  try with_reducible refine wpAny_holding ?_
  first | refine wpAny_bind (wpAny_pure ?_) | skip
  refine wpAny_bind (wpAny_sequenceKey ht.typeIs (by decide) ?_)
  refine wpAny_bind (wpAny_callSpecial?_slot (name := Str.ofString "__getitem__") ht.typeIs PyProof.Rows.slot_tuple_getitem (wpAny_call_entry PyProof.Rows.slot_tuple_getitem ht.typeIs PyProof.Rows.entry_tuple_getitem ?_ (PyProof.Rows.args_tuple_getitem _ _)))
  show wpAny _ _ (Builtin.Tuple.tupleItemsOf (.ref t) >>= _) _ _ s
  refine wpAny_bind (tupleItemsOf_ ht ?_)
  refine wpAny_bind (wpAny_typeOf ts ?_)
  rw [if_pos (by decide)]
  refine wpAny_bind (applied_back hs ?_)
  have no : ¬ (((items.size : Int) - 1 == 0 && (-1 : Int) == 1 && items.size == items.size) = true) := by
    have : ((-1 : Int) == 1) = false := by decide
    rw [this]
    simp
  have pick : ((List.range items.size).filterMap fun (k : Nat) => items[(((items.size : Int) - 1) + (k : Int) * -1).toNat]?).toArray = items.toList.reverse.toArray := by
    have := filterMap_back items.toList
    rw [Array.length_toList] at this
    simp only [Array.getElem?_toList] at this
    rw [this]
  show wpAny _ _ (if ((items.size : Int) - 1 == 0 && (-1 : Int) == 1 && items.size == items.size) = true then _ else _) _ _ s
  rw [if_neg no, pick]
  first
    | exact wpAny_bind (m := Builtin.Tuple.tupleExact _) (wpAny_newObj_type (wpAny_pure ⟨_, rfl, wpAny_pure h⟩) hrev)
    | exact wpAny_bind (m := Builtin.Tuple.tupleExact _) (wpAny_newObj_type (wpAny_bind (wpAny_pure (wpAny_pure ⟨_, rfl, wpAny_pure h⟩))) hrev)
    | exact wpAny_bind (wpAny_bind (m := Builtin.Tuple.tupleExact _) (wpAny_newObj_type (wpAny_pure (wpAny_pure ⟨_, rfl, wpAny_pure h⟩)) hrev))
    | exact wpAny_bind (wpAny_bind (m := Builtin.Tuple.tupleExact _) (wpAny_newObj_type (wpAny_pure ⟨_, rfl, wpAny_pure h⟩) hrev))
end
section
variable {X : Cx}
def tRevB (K : PySem.W.Frag) (te : TE) : TE := fun σ H Q => te σ H fun x H1 => ∃ a xs, x = .ref a ∧ ((SqL K H1 a xs ∧ ∀ p, H1 p = none → Q (.ref p) (upd H1 p (.lst xs.reverse))) ∨ (SqT K H1 a xs ∧ ∀ p, H1 p = none → Q (.ref p) (upd H1 p (.tup xs.reverse))))
theorem pe_revB {e : Expr} {te : TE} {k : Nat} {p1 p2 p3 pos : Pos} (he : PE X e te) : PE X (.Subscript e (.Slice none none (some (.UnaryOp .USub (.Constant (.int 1) k p1) p2)) p3) pos) (tRevB X.K te) := by
  refine ⟨fun pins s σ H Q I h => ?_⟩
  refine Subscript_ (thn (he.run pins s σ H _ I h) fun v s1 ⟨x, H1, I1, r1, q1⟩ => ?_)
  obtain ⟨a, xs, ex, q1⟩ := q1
  subst ex
  cases r1
  have hst : PO X (some (.UnaryOp .USub (.Constant (.int 1) k p1) p2)) (tPart (tUn (rU fun i => .int (-i)) (tC (.int 1)))) := po_some (pe_un un_neg pe_int)
  refine wpAny_Slice (thn (po_none.run pins s1 σ H1 (fun o H2 => o = none ∧ H2 = H1) I1 ⟨rfl, rfl⟩) fun vl s2 ⟨l, H2, I2, pl, el, e2⟩ => ?_)
  subst el e2
  refine thn (po_none.run pins s2 σ H2 (fun o H3 => o = none ∧ H3 = H2) I2 ⟨rfl, rfl⟩) fun vu s3 ⟨u, H3, I3, pu, eu, e3⟩ => ?_
  subst eu e3
  refine thn (hst.run pins s3 σ H3 (fun o H4 => o = some (-1) ∧ H4 = H3) I3 ⟨1, rfl, -1, rfl, rfl, rfl⟩) fun vs s4 ⟨o, H4, I4, ps, eo, e4⟩ => ?_
  subst eo e4
  have I5 : Inv X pins σ H4 { s4 with heap := s4.heap.push { cls := .type "slice", data := .fields #[vl, vu, vs] } } := I4.kept (t' := s4.toks) fun b ob q => Heap.get?_push_of_some _ q
  show wpAny (model X.prog X.w) X.A (subscriptTail e (.Slice none none (some (.UnaryOp .USub (.Constant (.int 1) k p1) p2)) p3) (.ref a) (.ref s4.heap.objs.size)) (EP X pins σ Q) X.xe { s4 with heap := s4.heap.push { cls := .type "slice", data := .fields #[vl, vu, vs] } }
  rcases q1 with ⟨hx, q⟩ | ⟨hx, q⟩
  · obtain ⟨its, r, ht, hz⟩ := I5.list hx
    have hlen := r.length
    refine tail_any (ops := [.ref a, .ref s4.heap.objs.size]) ht.isList.typeIs (PySem.slot_list_getitem.lookup) ?_ (by with_unfolding_all rfl)
    refine wpAny_getItem_list_slice ht.isList (Heap.IsSliceOf.new _ vl vu vs) pl pu ps (by decide) ?_ (by rw [List.size_toArray]; omega)
    rw [PySem.W.krv_pick]
    refine ⟨.ref _, _, I5.laid (t' := s4.toks) (o := .lst xs.reverse) (fun b ob q => Heap.get?_push_of_some _ q) (Nat.le_refl _) ?_, rfl, q _ (I5.hok.fresh (Nat.le_refl _))⟩
    exact ⟨by rw [List.length_reverse]; exact hz, _, 0, r.reverse, Heap.get?_push_size _ rfl⟩
  · obtain ⟨its, r, ht, hz⟩ := I5.tuple hx
    have hlen := r.length
    cases pl
    cases pu
    cases ps
    refine tail_any (ops := [.ref a, .ref s4.heap.objs.size]) ht.typeIs (PyProof.Rows.slot_tuple_getitem.lookup) ?_ (by with_unfolding_all rfl)
    refine getT_back ht (Heap.IsSliceOf.new _ _ _ _) (by rw [List.size_toArray]; omega) ?_
    refine ⟨.ref _, _, I5.laid (t' := s4.toks) (o := .tup xs.reverse) (fun b ob q => Heap.get?_push_of_some _ q) (Nat.le_refl _) ?_, rfl, q _ (I5.hok.fresh (Nat.le_refl _))⟩
    exact ⟨by rw [List.length_reverse]; exact hz, _, r.reverse, IsTup.new _ _⟩
end
def dRev : D → Option D
  | .lst xs => some (.lst xs.reverse)
  | .tup xs => some (.tup xs.reverse)
  | _ => none
section
variable {C : Ct} {W : WX} {X : Cx} {m p : Bool} {a : Expr} {fa : F D} {p1 p2 p3 pos : Pos} {k : Nat}
theorem fx_rev (ha : FX C W m p X a fa) : FX C W true p X (.Subscript a (.Slice none none (some (.UnaryOp .USub (.Constant (.int 1) k p1) p2)) p3) pos) (f1 dRev fa) :=
  fx1 (r := fun x H Q => ∃ a xs, x = .ref a ∧ ((SqL X.K H a xs ∧ ∀ p, H p = none → Q (.ref p) (upd H p (.lst xs.reverse))) ∨ (SqT X.K H a xs ∧ ∀ p, H p = none → Q (.ref p) (upd H p (.tup xs.reverse))))) ha (fun ta h => pe_revB h) fun M H x dx d Q hd sx e k => by
    cases dx with
    | lst xs =>
      cases e
      obtain ⟨a, vs, rfl, ha, r⟩ := sx.lstH
      exact ⟨a, vs, rfl, .inl ⟨.inl (.inl ha), fun q hq => k _ _ (Keep.new hq) (rep_newL hd hq r.reverse)⟩⟩
    | tup xs =>
      cases e
      obtain ⟨a, vs, rfl, ha, na, r⟩ := sx.tupH
      exact ⟨a, vs, rfl, .inr ⟨.inl (.inl ha), fun q hq => k _ _ (Keep.new hq) (rep_newT hd hq r.reverse)⟩⟩
    | _ => cases e
end
theorem q_revL {xs : List D} : dRev (.lst xs) = some (.lst xs.reverse) := rfl
theorem q_revT {xs : List D} : dRev (.tup xs) = some (.tup xs.reverse) := rfl
end FC

namespace FC
open PySem PySem.Spec PyProof.Rows L2

/-! ### limits compared; what follows -/
theorem limY_depth (p : Int × Int) : (limY p).depth ≤ 2 := by simp [limY, PyData.depth, PyData.depthAll]
theorem dNe_lim (p q : Int × Int) : dNe (limD p) (limD q) = some (.bl (!decide (p = q))) := by
  simp only [dNe, limD_data]
  rw [if_pos (Nat.le_trans (Nat.min_le_left _ _) (Nat.le_trans (limY_depth p) (by omega))), limY_eqv]
theorem dNe_nil (ps : List (Int × Int)) : dNe (.lst (limsD ps)) (.lst []) = some (.bl (!ps.isEmpty)) := by
  simp only [dNe, D.data, D.dataL, limsD_data, Option.map_some]
  rw [if_pos (Nat.le_trans (Nat.min_le_right _ _) (by simp [PyData.depth, PyData.depthAll]))]
  cases ps with
  | nil => rfl
  | cons p ps => rfl
theorem limY_eqvAll : ∀ (ps qs : List (Int × Int)), PyData.eqvAll (ps.map limY) (qs.map limY) = decide (ps = qs)
  | [], [] => rfl
  | [], q :: qs => rfl
  | p :: ps, [] => rfl
  | p :: ps, q :: qs => by
    rw [List.map_cons, List.map_cons]
    show (PyData.eqv (limY p) (limY q) && PyData.eqvAll (ps.map limY) (qs.map limY)) = _
    rw [limY_eqv, limY_eqvAll ps qs]
    simp [Bool.decide_and]
theorem lims_depth : ∀ ps : List (Int × Int), PyData.depthAll (ps.map limY) ≤ 2
  | [] => by simp [PyData.depthAll]
  | p :: ps => by
    have a := lims_depth ps
    have b := limY_depth p
    simp only [List.map_cons, PyData.depthAll]
    omega
theorem dEq_lims (ps qs : List (Int × Int)) : dEq (.tup (limsD ps)) (.tup (limsD qs)) = some (.bl (decide (ps = qs))) := by
  simp only [dEq, D.data, limsD_data, Option.map_some]
  rw [if_pos (by
    have := lims_depth ps
    simp only [PyData.depth]
    omega)]
  show some (D.bl (PyData.eqvAll (ps.map limY) (qs.map limY))) = _
  rw [limY_eqvAll]
theorem q_slHl {xs : List D} {i : Int} {k : Nat} (h : i = k) (hk : k ≤ xs.length) : ((dInt (.int i)).bind fun i => dSl (.lst xs) none (some i)) = some (.lst (xs.take k)) := by
  have e := q_slHt (xs := xs) h hk
  simp only [dInt, Option.bind_some, dSl, Option.some.injEq, D.lst.injEq, D.tup.injEq] at e ⊢
  exact e
theorem notInL (p : Int × Int) (ps : List (Int × Int)) : dNotIn (limD p) (.lst (limsD ps)) = some (.bl (!decide (p ∈ ps))) := dNotIn_pr p ps
/-- whether a limit follows -/
def folS (ps : List (Int × Int)) (p : Int × Int) : Bool := decide (most ps p.1.toNat ≤ p.2)
def shortStep (kept : List (Int × Int)) (p : Int × Int) : List (Int × Int) := if kept.filter (fun q => !decide (q = p)) ≠ [] ∧ folS (kept.filter fun q => !decide (q = p)) p = true then kept.filter (fun q => !decide (q = p)) else kept
def shortS (ps : List (Int × Int)) : List (Int × Int) := ps.reverse.foldl shortStep ps
theorem good_filter {ps : List (Int × Int)} (G : Good ps) {f : Int × Int → Bool} (ne : ps.filter f ≠ []) : Good (ps.filter f) :=
  ⟨ne, G.nd.filter _, Nat.le_trans (List.length_filter_le _ _) G.few, fun p hp => G.ins p (List.mem_filter.mp hp).1⟩
theorem good_shortStep {ps : List (Int × Int)} (G : Good ps) (p : Int × Int) : Good (shortStep ps p) := by
  unfold shortStep
  split
  · rename_i h
    exact good_filter G h.1
  · exact G
theorem good_foldl {ps : List (Int × Int)} (G : Good ps) : ∀ qs : List (Int × Int), Good (qs.foldl shortStep ps)
  | [] => G
  | q :: qs => good_foldl (good_shortStep G q) qs
theorem good_drop {ps : List (Int × Int)} (G : Good ps) {k : Nat} (ne : ps.drop k ≠ []) : Good (ps.drop k) :=
  ⟨ne, G.nd.sublist (List.drop_sublist _ _), by rw [List.length_drop]; have := G.few; omega, fun p hp => G.ins p (List.mem_of_mem_drop hp)⟩
def insF (ps : List (Int × Int)) (full : Nat → List Int) : Nat → List (Int × Int) → D
  | _, [] => .non
  | k, q :: qs => if folS ps q = true then insF ps full (k + 1) qs else .tup [.int k, .tup ((full q.1.toNat).map D.int)]
def dupD (near : List (Int × Int)) (d : D) : Bool := match d with
  | .tup [.int i, .tup [.int a, .int b]] => !decide ((a, b) ∈ near.take i.toNat)
  | _ => false
def sndD (d : D) : D := match d with
  | .tup [_, x] => x
  | _ => .non
theorem snoc_ind {α : Type} {P : List α → Prop} (h0 : P []) (h1 : ∀ l a, P l → P (l ++ [a])) : ∀ (n : Nat) (l : List α), l.length = n → P l
  | 0, l, h => by rw [List.length_eq_zero_iff.mp h]; exact h0
  | n + 1, l, h => by
    have ne : l ≠ [] := fun z => by rw [z] at h; cases h
    rw [← List.dropLast_concat_getLast ne]
    exact h1 _ _ (snoc_ind h0 h1 n _ (by rw [List.length_dropLast]; omega))
/-- with each limit once -/
theorem dedup_ex (near : List (Int × Int)) : ∃ qs : List (Int × Int), qs.Nodup ∧ (∀ x, x ∈ qs ↔ x ∈ near) ∧ qs.length ≤ near.length ∧
    ((enumD (limsD near)).filter (dupD near)).map sndD = limsD qs := by
  refine snoc_ind (P := fun near => ∃ qs : List (Int × Int), qs.Nodup ∧ (∀ x, x ∈ qs ↔ x ∈ near) ∧ qs.length ≤ near.length ∧
    ((enumD (limsD near)).filter (dupD near)).map sndD = limsD qs) ?_ ?_ near.length near rfl
  · exact ⟨[], List.nodup_nil, fun x => Iff.rfl, Nat.le_refl _, rfl⟩
  · intro l p ih
    obtain ⟨qs, nd, mem, len, e⟩ := ih
    have en : enumD (limsD (l ++ [p])) = enumD (limsD l) ++ [.tup [.int (l.length : Nat), limD p]] := by
      unfold enumD
      rw [limsD_append, List.mapIdx_append, limsD_length]
      congr 1
      show [D.tup [.int ((0 + l.length : Nat) : Int), limD p]] = _
      rw [Nat.zero_add]
    have ef : (enumD (limsD l)).filter (dupD (l ++ [p])) = (enumD (limsD l)).filter (dupD l) := by
      refine List.filter_congr fun d hd => ?_
      obtain ⟨i, hi⟩ := List.getElem?_of_mem hd
      obtain ⟨x, hx, rfl⟩ := enumD_get hi
      have hlt : i < l.length := by
        have := (List.getElem?_eq_some_iff.mp hx).1
        rwa [limsD_length] at this
      unfold limsD at hx
      rw [List.getElem?_map, List.getElem?_eq_getElem hlt] at hx
      cases hx
      have et : (l ++ [p]).take ((i : Nat) : Int).toNat = l.take ((i : Nat) : Int).toNat := List.take_append_of_le_length (by rw [Int.toNat_natCast]; omega)
      simp only [limD, dupD, et]
    rw [en, List.filter_append, ef, List.map_append, e]
    have el : (l ++ [p]).take ((l.length : Nat) : Int).toNat = l := by rw [Int.toNat_natCast, List.take_left']; rfl
    by_cases hp : p ∈ l
    · refine ⟨qs, nd, fun x => ?_, by rw [List.length_append]; omega, ?_⟩
      · rw [mem x, List.mem_append, List.mem_singleton]
        exact ⟨.inl, fun z => z.elim id fun z => by rw [z]; exact hp⟩
      · rw [List.filter_cons_of_neg (by simp only [limD, dupD, el]; simpa using hp)]
        simp
    · refine ⟨qs ++ [p], ?_, fun x => ?_, by rw [List.length_append, List.length_append]; simp; omega, ?_⟩
      · refine List.nodup_append.mpr ⟨nd, by simp, fun a ha b hb z => ?_⟩
        rw [List.mem_singleton.mp hb] at z
        exact hp ((mem p).mp (by rw [← z]; exact ha))
      · rw [List.mem_append, List.mem_append, mem x]
      · rw [List.filter_cons_of_pos (by simp only [limD, dupD, el]; simpa using hp), limsD_append]
        rfl
theorem or_lims {ps : List (Int × Int)} {k i : Nat} {γ : Gm} {A : Prop} {Q : D → Gm → Prop} {E : Ex → Gm → Prop} (G : Good ps) (hi : γ[i]? = some (.val (.lst (limsD ps)))) (eA : Q (.lst (limsD (ps.drop k))) γ = A) (h : ∀ ms, Good ms → Q (.lst (limsD ms)) γ) : ∃ b, dTruth (.lst (limsD (ps.drop k))) = some b ∧ ((b = true → A) ∧ (b = false → Wp (fVar i γ) Q E)) := by
  subst eA
  refine ⟨_, q_trL, fun hb => h _ (good_drop G fun z => ?_), fun _ => wp_var hi (h ps G)⟩
  rw [z] at hb
  cases hb
end FC

namespace FC
open PySem PySem.Spec PyProof.Rows L2

/-! ### stretches of rows -/
def strS (r : List Int) (s l : Nat) : Int := rowA r (s + l) - rowA r s
theorem str_sum (r : List Int) (s l : Nat) : ((r.drop s).take l).sum = strS r s l := by
  unfold strS rowA
  rw [List.take_add, List.sum_append]
  omega
theorem rowA_snoc (r : List Int) (a : Int) (n : Nat) : rowA (r ++ [a]) n = rowA r n + (if r.length < n then a else 0) := by
  unfold rowA
  by_cases h : r.length < n
  · rw [if_pos h, List.take_of_length_le (by rw [List.length_append]; simp; omega), List.take_of_length_le (by omega), List.sum_append]
    simp
  · rw [if_neg h, List.take_append_of_le_length (by omega)]
    omega
def inD (s l : Int) (d : D) : Bool := match d with
  | .tup [.int i, _] => decide (s ≤ i ∧ i < s + l)
  | _ => false
theorem enum_snoc (xs : List D) (x : D) : enumD (xs ++ [x]) = enumD xs ++ [.tup [.int (xs.length : Nat), x]] := by
  unfold enumD
  rw [List.mapIdx_append]
  congr 1
  show [D.tup [.int ((0 + xs.length : Nat) : Int), x]] = _
  rw [Nat.zero_add]
theorem str_snoc (r : List Int) (a : Int) (s l : Nat) : strS (r ++ [a]) s l = strS r s l + (if s ≤ r.length ∧ r.length < s + l then a else 0) := by
    unfold strS
    rw [rowA_snoc, rowA_snoc]
    by_cases c1 : r.length < s + l <;> by_cases c2 : r.length < s
    · rw [if_pos c1, if_pos c2, if_neg (fun z => by omega)]; omega
    · rw [if_pos c1, if_neg c2, if_pos ⟨by omega, c1⟩]; omega
    · omega
    · rw [if_neg c1, if_neg c2, if_neg (fun z => c1 z.2)]; omega
theorem amt_ex (s l : Nat) (r : List Int) : ∃ ns : List Int, ((enumD (r.map D.int)).filter (inD s l)).map sndD = ns.map D.int ∧ ns.sum = strS r s l ∧ ns.length ≤ r.length := by
  refine snoc_ind (P := fun r => ∃ ns : List Int, ((enumD (r.map D.int)).filter (inD s l)).map sndD = ns.map D.int ∧ ns.sum = strS r s l ∧ ns.length ≤ r.length) ?_ ?_ r.length r rfl
  · exact ⟨[], rfl, by simp [strS, rowA], Nat.le_refl _⟩
  · rintro r a ⟨ns, e1, e2, e3⟩
    rw [List.map_append, List.map_cons, List.map_nil, enum_snoc, List.filter_append, List.map_append, e1, List.length_map]
    have es := str_snoc r a s l
    by_cases c : s ≤ r.length ∧ r.length < s + l
    · refine ⟨ns ++ [a], ?_, ?_, by simp; omega⟩
      · rw [List.filter_cons_of_pos (by simp only [inD, decide_eq_true_eq]; omega), List.map_append]
        rfl
      · rw [es, if_pos c, List.sum_append, e2]
        simp
    · refine ⟨ns, ?_, ?_, by simp; omega⟩
      · rw [List.filter_cons_of_neg (by simp only [inD, decide_eq_true_eq]; omega)]
        simp
      · rw [es, if_neg c, e2]
        omega
/-- the first stretch with too many requests -/
def brk1 (r : List Int) (s : Nat) : Nat → List (Int × Int) → Option (Nat × Int)
  | _, [] => none
  | k, p :: ps => if p.2 < strS r s p.1.toNat then some (k, strS r s p.1.toNat) else brk1 r s (k + 1) ps
def brkL (ps : List (Int × Int)) (r : List Int) : List Nat → Option (Nat × Nat × Int)
  | [] => none
  | s :: ss => match brk1 r s 0 ps with
    | some (k, a) => some (s, k, a)
    | none => brkL ps r ss
def brkO (ps : List (Int × Int)) (r : List Int) : Option (Nat × Nat × Int) := brkL ps r (List.range r.length)
def foundD : Option (Nat × Nat × Int) → D
  | none => .non
  | some (s, k, a) => .tup [.int s, .int k, .int a]
def verD : Option (Nat × Nat × Int) → D
  | none => .tup [.str "kept"]
  | some (s, k, a) => .tup [.str "broken", .int s, .int k, .int a]
theorem str_bd {r : List Int} (R : RowOk r) (s l : Nat) : 0 ≤ strS r s l ∧ strS r s l ≤ 60 := by
  unfold strS
  have a := rowA_mono R (show s ≤ s + l by omega)
  have b := rowA_le R (s + l)
  have c := rowA_le R s
  have := R.sum
  omega
theorem brk1_some {r : List Int} {s k0 k : Nat} {a : Int} : ∀ {ps : List (Int × Int)}, brk1 r s k0 ps = some (k, a) → ∃ j, k = k0 + j ∧ ∃ h : j < ps.length, a = strS r s (ps[j]).1.toNat ∧ (ps[j]).2 < a := by
  intro ps
  induction ps generalizing k0 with
  | nil => intro h; cases h
  | cons p ps ih =>
    intro h
    unfold brk1 at h
    split at h
    · rename_i hp
      cases h
      exact ⟨0, rfl, by simp, rfl, hp⟩
    · obtain ⟨j, e, hj, e2, e3⟩ := ih h
      exact ⟨j + 1, by omega, by simp; omega, by simpa using e2, by simpa using e3⟩
theorem brk1_none {r : List Int} {s k0 : Nat} : ∀ {ps : List (Int × Int)}, brk1 r s k0 ps = none → ∀ p ∈ ps, strS r s p.1.toNat ≤ p.2 := by
  intro ps
  induction ps generalizing k0 with
  | nil => intro _ p hp; cases hp
  | cons q ps ih =>
    intro h p hp
    unfold brk1 at h
    split at h
    · cases h
    · rename_i hq
      rcases List.mem_cons.mp hp with z | z
      · rw [z]; omega
      · exact ih h p z
theorem brkL_some {ps : List (Int × Int)} {r : List Int} {s k : Nat} {a : Int} : ∀ {ss : List Nat}, brkL ps r ss = some (s, k, a) → s ∈ ss ∧ ∃ h : k < ps.length, a = strS r s (ps[k]).1.toNat ∧ (ps[k]).2 < a := by
  intro ss
  induction ss with
  | nil => intro h; cases h
  | cons t ss ih =>
    intro h
    unfold brkL at h
    cases e : brk1 r t 0 ps with
    | some ka =>
      rw [e] at h
      obtain ⟨k', a'⟩ := ka
      cases h
      obtain ⟨j, e1, hj, e2, e3⟩ := brk1_some e
      have : k = j := by omega
      subst this
      exact ⟨List.mem_cons_self, hj, e2, e3⟩
    | none =>
      rw [e] at h
      obtain ⟨h1, h2⟩ := ih h
      exact ⟨List.mem_cons_of_mem _ h1, h2⟩
theorem brkL_none {ps : List (Int × Int)} {r : List Int} : ∀ {ss : List Nat}, brkL ps r ss = none → ∀ s ∈ ss, ∀ p ∈ ps, strS r s p.1.toNat ≤ p.2 := by
  intro ss
  induction ss with
  | nil => intro _ s hs; cases hs
  | cons t ss ih =>
    intro h s hs p hp
    unfold brkL at h
    cases e : brk1 r t 0 ps with
    | some ka => rw [e] at h; cases h
    | none =>
      rw [e] at h
      rcases List.mem_cons.mp hs with z | z
      · rw [z]; exact brk1_none e p hp
      · exact ih h s z p hp
theorem brk_some {ps : List (Int × Int)} {r : List Int} {s k : Nat} {a : Int} (h : brkO ps r = some (s, k, a)) : s < r.length ∧ ∃ h : k < ps.length, a = strS r s (ps[k]).1.toNat ∧ (ps[k]).2 < a := by
  obtain ⟨h1, h2⟩ := brkL_some h
  exact ⟨List.mem_range.mp h1, h2⟩
/-- no stretch has more -/
def WinOk (ps : List (Int × Int)) (r : List Int) : Prop := ∀ p ∈ ps, ∀ s, strS r s p.1.toNat ≤ p.2
theorem brk_none {ps : List (Int × Int)} {r : List Int} (G : ∀ p ∈ ps, In20 p) : brkO ps r = none ↔ WinOk ps r := by
  constructor
  · intro h p hp s
    by_cases c : s < r.length
    · exact brkL_none h s (List.mem_range.mpr c) p hp
    · unfold strS
      rw [rowA_big (by omega), rowA_big (by omega)]
      have := (G p hp).2.2.1
      omega
  · intro W
    cases e : brkO ps r with
    | none => rfl
    | some q =>
      obtain ⟨s, k, a⟩ := q
      obtain ⟨_, hk, e1, e2⟩ := brk_some e
      have := W _ (List.getElem_mem hk) s
      omega
theorem gt_22 {i j k : Nat} {x : D} {p : Int × Int} {γ : Gm} : gTupD 2 (gsCons (gNm i) (gsCons (gTupD 2 (gsCons (gNm j) (gsCons (gNm k) gsNil))) gsNil)) (.tup [x, limD p]) γ = some (((γ.set i (.val x)).set j (.val (.int p.1))).set k (.val (.int p.2))) := rfl
theorem win_nil {ps : List (Int × Int)} (h : ∀ p ∈ ps, In20 p) : WinOk ps [] := fun p hp s => by
  have := (h p hp).2.2.1
  simp [strS, rowA]
  omega
/-- what may still come -/
theorem win_free {ps : List (Int × Int)} {r : List Int} (h : ∀ p ∈ ps, In20 p) (W : WinOk ps r) {p : Int × Int} (hp : p ∈ ps) : 0 ≤ p.2 - (r.sum - rowA r ((r.length : Int) - p.1 + 1).toNat) := by
  obtain ⟨h1, h2, h3, h4⟩ := h p hp
  have w := W p hp ((r.length : Int) - p.1 + 1).toNat
  unfold strS at w
  rw [rowA_big (n := ((r.length : Int) - p.1 + 1).toNat + p.1.toNat) (by omega)] at w
  omega
theorem win_snoc {ps : List (Int × Int)} {r : List Int} {a : Int} (h : ∀ p ∈ ps, In20 p) (R : RowOk r) (W : WinOk ps r) (ha : ∀ p ∈ ps, a ≤ p.2 - (r.sum - rowA r ((r.length : Int) - p.1 + 1).toNat)) : WinOk ps (r ++ [a]) := fun p hp s => by
  obtain ⟨h1, h2, h3, h4⟩ := h p hp
  have w := W p hp s
  have f := ha p hp
  rw [str_snoc]
  split
  · rename_i c
    have m := rowA_mono R (show ((r.length : Int) - p.1 + 1).toNat ≤ s by omega)
    have b : strS r s p.1.toNat = r.sum - rowA r s := by
      unfold strS
      rw [rowA_big (n := s + p.1.toNat) (by omega)]
    omega
  · omega
theorem drop_sum (r : List Int) (k : Nat) : (r.drop k).sum = r.sum - rowA r k := by
  have e : (r.take k ++ r.drop k).sum = r.sum := by rw [List.take_append_drop]
  rw [List.sum_append] at e
  unfold rowA
  omega
theorem row_snoc {r : List Int} {a : Int} (R : RowOk r) (h0 : 0 ≤ a) (h : r.sum + a ≤ 60) : RowOk (r ++ [a]) := by
  have nn := sum_nn fun x hx => (R.each x hx).1
  refine ⟨fun x hx => ?_, by rw [List.sum_append]; simp; omega⟩
  rcases List.mem_append.mp hx with hx | hx
  · exact R.each x hx
  · rw [List.mem_singleton.mp hx]
    omega
theorem row_insert {r : List Int} {a : Int} (R : RowOk r) (k : Nat) (h0 : 0 ≤ a) (h : r.sum + a ≤ 60) : RowOk (r.take k ++ [a] ++ r.drop k) := by
  have nn := sum_nn fun x hx => (R.each x hx).1
  refine ⟨fun x hx => ?_, ?_⟩
  · rcases List.mem_append.mp hx with hx | hx
    · rcases List.mem_append.mp hx with hx | hx
      · exact R.each x (List.mem_of_mem_take hx)
      · rw [List.mem_singleton.mp hx]
        omega
    · exact R.each x (List.mem_of_mem_drop hx)
  · have e : (r.take k ++ r.drop k).sum = r.sum := by rw [List.take_append_drop]
    rw [List.sum_append] at e
    rw [List.sum_append, List.sum_append]
    simp
    omega
theorem sum_rev : ∀ r : List Int, r.reverse.sum = r.sum
  | [] => rfl
  | a :: r => by
    rw [List.reverse_cons, List.sum_append, sum_rev r, List.sum_cons]
    simp
    omega
theorem row_rev {r : List Int} (R : RowOk r) : RowOk r.reverse := ⟨fun x hx => R.each x (List.mem_reverse.mp hx), by rw [sum_rev]; exact R.sum⟩
end FC

namespace FC
open PySem PySem.Spec PyProof.Rows L2

/-! ### rows that keep limits, and what limits let by -/
theorem str_split (r : List Int) (s a b : Nat) : strS r s (a + b) = strS r s a + strS r (s + a) b := by
  unfold strS
  rw [Nat.add_assoc]
  omega
theorem str_mono {r : List Int} (R : RowOk r) (s : Nat) {a b : Nat} (h : a ≤ b) : strS r s a ≤ strS r s b := by
  unfold strS
  have := rowA_mono R (show s + a ≤ s + b by omega)
  omega
theorem win_most {ps : List (Int × Int)} {r : List Int} (G : Good ps) (R : RowOk r) (W : WinOk ps r) : ∀ n s, strS r s n ≤ most ps n := fun n => by
  induction n using Nat.strongRecOn with
  | _ n ih =>
    intro s
    cases n with
    | zero => simp [strS, most_zero]
    | succ n =>
      obtain ⟨p, hp, e⟩ := most_is G n
      obtain ⟨h1, h2, h3, h4⟩ := G.ins p hp
      have w := W p hp s
      by_cases c : p.1 ≤ (n : Int) + 1
      · have i := ih ((n : Int) + 1 - p.1).toNat (by omega) (s + p.1.toNat)
        have e2 : n + 1 = p.1.toNat + ((n : Int) + 1 - p.1).toNat := by omega
        rw [show strS r s (n + 1) = strS r s (p.1.toNat + ((n : Int) + 1 - p.1).toNat) by rw [← e2], str_split, e]
        omega
      · have m := str_mono R s (show n + 1 ≤ p.1.toNat by omega)
        have := most_nonneg G ((n : Int) + 1 - p.1).toNat
        omega
theorem rowA_take (r : List Int) (k n : Nat) : rowA (r.take k) n = rowA r (min n k) := by
  unfold rowA
  rw [List.take_take]
theorem row_take {r : List Int} (R : RowOk r) (k : Nat) : RowOk (r.take k) := by
  refine ⟨fun x hx => R.each x (List.mem_of_mem_take hx), ?_⟩
  have := (rowA_le R k).2
  have := R.sum
  unfold rowA at *
  omega
theorem win_take {ps : List (Int × Int)} {r : List Int} (h : ∀ p ∈ ps, In20 p) (R : RowOk r) (W : WinOk ps r) (k : Nat) : WinOk ps (r.take k) := fun p hp s => by
  have w := W p hp s
  have := (h p hp).2.2.1
  unfold strS at w ⊢
  rw [rowA_take, rowA_take]
  by_cases c : s ≤ k
  · rw [Nat.min_eq_left c]
    have := rowA_mono R (show min (s + p.1.toNat) k ≤ s + p.1.toNat by omega)
    omega
  · rw [Nat.min_eq_right (by omega), Nat.min_eq_right (by omega)]
    omega
theorem brk_take {ps : List (Int × Int)} {r : List Int} (h : ∀ p ∈ ps, In20 p) {s k : Nat} {a : Int} (e : brkO ps r = some (s, k, a)) {l : Nat} (hl : ∀ hk : k < ps.length, (l : Int) = (ps[k]).1) : ∃ q, brkO ps (r.take (s + l)) = some q := by
  obtain ⟨_, hk, e1, e2⟩ := brk_some e
  have hl := hl hk
  cases q : brkO ps (r.take (s + l)) with
  | some t => exact ⟨t, rfl⟩
  | none =>
    have w := (brk_none h).mp q _ (List.getElem_mem hk) s
    have el : (ps[k]).1.toNat = l := by omega
    rw [el] at w e1
    unfold strS at w e1
    rw [rowA_take, rowA_take, Nat.min_self, Nat.min_eq_left (by omega)] at w
    omega
/-! ### the greatest number in a stretch -/
def mx (m x : Int) : Int := if x > m then x else m
theorem mx_ge (m x : Int) : m ≤ mx m x ∧ x ≤ mx m x ∧ (mx m x = m ∨ mx m x = x) := by
  unfold mx
  split <;> omega
def tgt1 (r : List Int) (l : Nat) (m : Int) (ss : List Nat) : Int := ss.foldl (fun m s => mx m (strS r s l)) m
def tgtS (rows : List (List Int)) (l : Nat) : Int := rows.foldl (fun m r => tgt1 r l m (List.range r.length)) 0
theorem tgt1_spec (r : List Int) (l : Nat) : ∀ (ss : List Nat) (m : Int), m ≤ tgt1 r l m ss ∧ (∀ s ∈ ss, strS r s l ≤ tgt1 r l m ss) ∧ (tgt1 r l m ss = m ∨ ∃ s ∈ ss, tgt1 r l m ss = strS r s l)
  | [], m => ⟨Int.le_refl _, (fun _ h => nomatch h), .inl rfl⟩
  | t :: ss, m => by
    obtain ⟨a, b, c⟩ := mx_ge m (strS r t l)
    obtain ⟨h1, h2, h3⟩ := tgt1_spec r l ss (mx m (strS r t l))
    have e : tgt1 r l m (t :: ss) = tgt1 r l (mx m (strS r t l)) ss := rfl
    rw [e]
    refine ⟨by omega, fun s hs => ?_, ?_⟩
    · rcases List.mem_cons.mp hs with z | z
      · rw [z]; omega
      · exact h2 s z
    · rcases h3 with z | ⟨s, hs, z⟩
      · rcases c with c | c
        · exact .inl (by omega)
        · exact .inr ⟨t, List.mem_cons_self, by omega⟩
      · exact .inr ⟨s, List.mem_cons_of_mem _ hs, z⟩
theorem tgtF_spec (l : Nat) : ∀ (rows : List (List Int)) (m : Int), (∀ r ∈ rows, RowOk r) → let x := rows.foldl (fun m r => tgt1 r l m (List.range r.length)) m; m ≤ x ∧ (0 ≤ m → ∀ r ∈ rows, ∀ s, strS r s l ≤ x) ∧ (x = m ∨ ∃ r ∈ rows, ∃ s, s < r.length ∧ x = strS r s l)
  | [], m, _ => ⟨Int.le_refl _, (fun _ _ h => nomatch h), .inl rfl⟩
  | r :: rows, m, hr => by
    obtain ⟨a, b, c⟩ := tgt1_spec r l (List.range r.length) m
    obtain ⟨h1, h2, h3⟩ := tgtF_spec l rows (tgt1 r l m (List.range r.length)) fun q hq => hr q (List.mem_cons_of_mem _ hq)
    simp only [List.foldl_cons]
    refine ⟨by omega, fun m0 q hq s => ?_, ?_⟩
    · rcases List.mem_cons.mp hq with z | z
      · subst z
        by_cases hs : s < q.length
        · have := b s (List.mem_range.mpr hs)
          omega
        · have : strS q s l = 0 := by
            unfold strS
            rw [rowA_big (by omega), rowA_big (by omega)]
            omega
          omega
      · exact h2 (by omega) q z s
    · rcases h3 with z | ⟨q, hq, s, hs, z⟩
      · rcases c with c | ⟨s, hs, c⟩
        · exact .inl (by omega)
        · exact .inr ⟨r, List.mem_cons_self, s, List.mem_range.mp hs, by omega⟩
      · exact .inr ⟨q, List.mem_cons_of_mem _ hq, s, hs, z⟩
theorem tgt_spec {rows : List (List Int)} (h : ∀ r ∈ rows, RowOk r) (l : Nat) : 0 ≤ tgtS rows l ∧ (∀ r ∈ rows, ∀ s, strS r s l ≤ tgtS rows l) ∧ (tgtS rows l = 0 ∨ ∃ r ∈ rows, ∃ s, s < r.length ∧ tgtS rows l = strS r s l) := by
  obtain ⟨a, b, c⟩ := tgtF_spec l rows 0 h
  exact ⟨a, b (Int.le_refl _), c⟩
theorem tgt_le {rows : List (List Int)} (h : ∀ r ∈ rows, RowOk r) (l : Nat) : tgtS rows l ≤ 60 := by
  obtain ⟨_, _, c | ⟨r, hr, s, _, c⟩⟩ := tgt_spec h l
  · omega
  · rw [c]
    exact (str_bd (h r hr) s l).2
/-! ### answers compared -/
theorem dEq_ver (o : Option (Nat × Nat × Int)) : dEq (verD o) (.tup [.str "kept"]) = some (.bl o.isNone) := by
  cases o with
  | none =>
    simp only [dEq, verD, D.data, D.dataL, Option.map_some]
    rw [if_pos (by simp [PyData.depth, PyData.depthAll])]
    rfl
  | some q =>
    obtain ⟨s, k, a⟩ := q
    simp only [dEq, verD, D.data, D.dataL, Option.map_some]
    rw [if_pos (by simp [PyData.depth, PyData.depthAll])]
    rfl
theorem dNe_ver (o : Option (Nat × Nat × Int)) : dNe (verD o) (.tup [.str "kept"]) = some (.bl (!o.isNone)) := by
  cases o with
  | none =>
    simp only [dNe, verD, D.data, D.dataL, Option.map_some]
    rw [if_pos (by simp [PyData.depth, PyData.depthAll])]
    rfl
  | some q =>
    obtain ⟨s, k, a⟩ := q
    simp only [dNe, verD, D.data, D.dataL, Option.map_some]
    rw [if_pos (by simp [PyData.depth, PyData.depthAll])]
    rfl
theorem dNe_bl (a b : Bool) : dNe (.bl a) (.bl b) = some (.bl (a != b)) := by
  cases a <;> cases b <;> rfl
theorem dEq_rowNil (r : List Int) : dEq (.tup (r.map D.int)) (.tup []) = some (.bl r.isEmpty) := by
  have dl : ∀ ns : List Int, D.dataL (ns.map D.int) = some (ns.map PyData.int) := fun ns => by
    induction ns with
    | nil => rfl
    | cons n ns ih => simp only [List.map_cons, D.dataL, D.data, ih]
  simp only [dEq, D.data, dl, D.dataL, Option.map_some]
  rw [if_pos (Nat.le_trans (Nat.min_le_right _ _) (by simp [PyData.depth, PyData.depthAll]))]
  cases r <;> rfl
theorem gt_4 {i j k l : Nat} {w x y z : D} {γ : Gm} : gTupD 4 (gsCons (gNm i) (gsCons (gNm j) (gsCons (gNm k) (gsCons (gNm l) gsNil)))) (.tup [w, x, y, z]) γ = some ((((γ.set i (.val w)).set j (.val x)).set k (.val y)).set l (.val z)) := rfl
theorem q_butlast {xs : List D} : ((dInt (.int (-1))).bind fun i => dSl (.tup xs) none (some i)) = some (.tup (xs.take (xs.length - 1))) := by
  have e : HT.sIx xs.length xs.length (some (-1)) = xs.length - 1 := by
    unfold HT.sIx
    simp
    omega
  simp only [dInt, Option.bind_some, dSl, FC.cutD, HT.sIx_none, List.drop_zero, Nat.sub_zero, e]
theorem q_slHt2 {xs : List D} {i : Int} {k : Nat} (h : i = k) : ((dInt (.int i)).bind fun i => dSl (.tup xs) none (some i)) = some (.tup (xs.take k)) := by
  subst h
  simp only [dInt, Option.bind_some, dSl, FC.cutD, HT.sIx_nat, HT.sIx_none, List.drop_zero, Nat.sub_zero]
  congr 2
  by_cases c : k ≤ xs.length
  · rw [Nat.min_eq_left c]
  · rw [Nat.min_eq_right (by omega), List.take_of_length_le (by omega), List.take_of_length_le (by omega)]
end FC

namespace FC
open PySem PySem.Spec PyProof.Rows L2

/-! ### len(set(x)), x a tuple of different ints too -/
section
variable {X : Cx} {pn pos : Pos} {a : Expr}
theorem pe_lenSet2 {ta : TE} {p2' q : Pos} (hc : X.calm = true) (hu : X.A.units + 64 < cLine) (hg : Gl X "len") (hm : X.mg "len" = none) (hg2 : Gl X "set") (hm2 : X.mg "set" = none) (ha : PE X a ta) (na : starEach [a] X.env = (false, eval a X.env) :: starEach [] X.env := by rfl) :
    PE X (.Call (.Name "len" pn) [.Call (.Name "set" p2') [a] [] q] [] pos) (fun σ H Q => ta σ H fun x H1 => ∃ (l : Addr) (ns : List Int), x = .ref l ∧ SqT X.K H1 l (ns.map V.int) ∧ ns.length < 64 ∧ ns.Nodup ∧ Q (.int ns.length) H1) := by
  refine ⟨fun pins s σ H Q I h => Call_ (ld_blt I hg hm PySem.boot_len (PyProof.Rows.callWith_builtin1 (PyProof.Rows.args_cons ?_ rfl) rfl rfl))⟩
  refine Call_ (ld_blt I hg2 hm2 PyProof.Rows.boot_set ?_)
  refine PyProof.Rows.callWith_type1 (PyProof.Rows.args_cons (thn (ha.run pins s σ H _ I h) fun v s1 ⟨x, H1, I1, r1, q1⟩ => PyProof.Rows.args_nil ?_) na) na rfl
  obtain ⟨l, ns, rfl, hq, h1, nd, q1⟩ := q1
  have ev : v = Value.ref l := r1
  subst ev
  obtain ⟨its, rv, pl, hz⟩ := I1.tuple hq
  refine call_set_tupI (P := X.prog) (w := X.w) ns (I1.ok.hd hc) (show s1.heap.IsTuple l its.toArray from pl) (by simpa using rv.ints) (by unfold scanBound; omega) fun h' tk c R _ k => PyProof.Rows.args_nil ?_
  obtain ⟨o, es, ep, t, ho, hex, hd, _, kn, km, _, hf, hn, _⟩ := R
  have I2 : Inv X pins σ H1 { s1 with heap := h', toks := tk } := I1.kept k
  have sz : es.size = ns.length := by
    have e1 : (es.toList.map keyOf).length = ns.length := len_eq kn nd fun y => by
      rw [← km y]
      simp
    rwa [List.length_map, Array.length_toList] at e1
  exact call_len_set ho hex hd hf (by rw [sz] <;> omega) ⟨.int ns.length, H1, I2.tok _, ⟨_, by rw [sz]⟩, q1⟩
end
def dLenSetI : D → Option D
  | .tup xs => (dInts xs).bind fun ns => if ns.length < 64 ∧ ns.Nodup then some (.int ns.length) else none
  | _ => none
section
variable {C : Ct} {W : WX} {X : Cx} {m p : Bool} {a : Expr} {fa : F D} {pn pos : Pos}
theorem fx_lenSetI {p2' q : Pos} (hc : X.calm = true) (hu : X.A.units + 64 < cLine) (hg : Gl X "len") (hm : X.mg "len" = none) (hg2 : Gl X "set") (hm2 : X.mg "set" = none) (ha : FX C W m p X a fa) (na : starEach [a] X.env = (false, eval a X.env) :: starEach [] X.env := by rfl) :
    FX C W true p X (.Call (.Name "len" pn) [.Call (.Name "set" p2') [a] [] q] [] pos) (f1 dLenSetI fa) :=
  fx1 (r := fun x H1 Q => ∃ (l : Addr) (ns : List Int), x = .ref l ∧ SqT X.K H1 l (ns.map V.int) ∧ ns.length < 64 ∧ ns.Nodup ∧ Q (.int ns.length) H1) ha (fun ta h => pe_lenSet2 hc hu hg hm hg2 hm2 h na) fun M H x dx d Q hd sx e k => by
    cases dx with
    | tup xs =>
      simp only [dLenSetI] at e
      cases q : dInts xs with
      | none => rw [q] at e; cases e
      | some ns =>
        rw [q, Option.bind_some] at e
        split at e
        · rename_i hz
          cases e
          have ex := dInts_eq q
          subst ex
          obtain ⟨l, us, rfl, ha, _, r⟩ := sx.tupH
          have eu := r.ints
          subst eu
          exact ⟨l, ns, rfl, .inl (.inl ha), hz.1, hz.2, k _ H (Keep.refl _ _) (.int _)⟩
        · cases e
    | _ => cases e
end
theorem q_lenSetI {ns : List Int} (h : ns.length < 64) (nd : ns.Nodup) : dLenSetI (.tup (ns.map D.int)) = some (.int ns.length) := by
  simp only [dLenSetI, dInts_map, Option.bind_some]
  rw [if_pos ⟨h, nd⟩]
/-! ### rows compared, merged -/
theorem ints_eqvAll : ∀ a b : List Int, PyData.eqvAll (a.map PyData.int) (b.map PyData.int) = decide (a = b)
  | [], [] => rfl
  | [], b :: bs => rfl
  | a :: as, [] => rfl
  | a :: as, b :: bs => by
    rw [List.map_cons, List.map_cons]
    show (PyData.eqv (.int a) (.int b) && PyData.eqvAll (as.map PyData.int) (bs.map PyData.int)) = _
    rw [ints_eqvAll as bs]
    have e : PyData.eqv (.int a) (.int b) = decide (a = b) := by
      simp [PyData.eqv, beqI]
    rw [e]
    simp [Bool.decide_and]
theorem ints_dataL : ∀ ns : List Int, D.dataL (ns.map D.int) = some (ns.map PyData.int)
  | [] => rfl
  | n :: ns => by simp only [List.map_cons, D.dataL, D.data, ints_dataL ns]
theorem ints_depth : ∀ ns : List Int, PyData.depthAll (ns.map PyData.int) ≤ 1
  | [] => by simp [PyData.depthAll]
  | n :: ns => by
    have := ints_depth ns
    simp only [List.map_cons, PyData.depthAll, PyData.depth]
    omega
theorem dNe_rows (a b : List Int) : dNe (.tup (a.map D.int)) (.tup (b.map D.int)) = some (.bl (!decide (a = b))) := by
  simp only [dNe, D.data, ints_dataL, Option.map_some]
  rw [if_pos (by have := ints_depth a; simp only [PyData.depth]; omega)]
  show some (D.bl (!PyData.eqvAll (a.map PyData.int) (b.map PyData.int))) = _
  rw [ints_eqvAll]
theorem dEq_nilL (a : List Int) : dEq (.lst (a.map D.int)) (.lst []) = some (.bl a.isEmpty) := by
  simp only [dEq, D.data, ints_dataL, D.dataL, Option.map_some]
  rw [if_pos (by simp [PyData.depth, PyData.depthAll])]
  cases a <;> rfl
theorem dNe_nilL (a : List Int) : dNe (.lst (a.map D.int)) (.lst []) = some (.bl (!a.isEmpty)) := by
  simp only [dNe, D.data, ints_dataL, D.dataL, Option.map_some]
  rw [if_pos (by simp [PyData.depth, PyData.depthAll])]
  cases a <;> rfl
theorem dNotIn_int (x : Int) (xs : List Int) : dNotIn (.int x) (.lst (xs.map D.int)) = some (.bl (!decide (x ∈ xs))) := by
  simp only [dNotIn, D.data, ints_dataL]
  rw [if_pos (by simp [PyData.depth])]
  have e : ((xs.map PyData.int).any fun z => PyData.eqv z (.int x)) = decide (x ∈ xs) := by
    induction xs with
    | nil => rfl
    | cons y ys ih =>
      rw [List.map_cons, List.any_cons, ih]
      have e : PyData.eqv (.int y) (.int x) = decide (x = y) := by
        simp [PyData.eqv, beqI, eq_comm]
      rw [e]
      simp
  rw [e]
def rowOf (d : D) : List Int := match d with
  | .tup xs => (dInts xs).getD []
  | _ => []
theorem rowOf_row (r : List Int) : rowOf (.tup (r.map D.int)) = r := by simp only [rowOf, dInts_map, Option.getD_some]
/-- the row with the requests of both -/
def mrgS (a b : List Int) : List Int := (List.range (max a.length b.length)).map fun t => a.getD t 0 + b.getD t 0
theorem mrg_len (a b : List Int) : (mrgS a b).length = max a.length b.length := by simp [mrgS]
theorem rowA_getD (r : List Int) (n : Nat) : rowA r (n + 1) = rowA r n + r.getD n 0 := by
  rw [rowA_next]
  split
  · rfl
  · rename_i h
    rw [List.getD_eq_getElem?_getD, List.getElem?_eq_none (by omega)]
    rfl
theorem mrg_getD (a b : List Int) (t : Nat) : (mrgS a b).getD t 0 = a.getD t 0 + b.getD t 0 := by
  unfold mrgS
  by_cases h : t < max a.length b.length
  · rw [List.getD_eq_getElem?_getD, List.getElem?_map, List.getElem?_range h]
    rfl
  · rw [List.getD_eq_getElem?_getD, List.getElem?_eq_none (by simp; omega), List.getD_eq_getElem?_getD, List.getElem?_eq_none (by omega), List.getD_eq_getElem?_getD, List.getElem?_eq_none (by omega)]
    rfl
theorem mrg_rowA (a b : List Int) : ∀ n : Nat, rowA (mrgS a b) n = rowA a n + rowA b n
  | 0 => rfl
  | n + 1 => by
    rw [rowA_getD, rowA_getD a, rowA_getD b, mrg_rowA a b n, mrg_getD]
    omega
theorem mrg_sum (a b : List Int) : (mrgS a b).sum = a.sum + b.sum := by
  have e := mrg_rowA a b (max a.length b.length)
  rw [rowA_big (by rw [mrg_len]; exact Nat.le_refl _), rowA_big (by omega), rowA_big (by omega)] at e
  exact e
theorem mrg_comm (a b : List Int) : mrgS a b = mrgS b a := by
  unfold mrgS
  rw [Nat.max_comm]
  exact List.map_congr_left fun t _ => by omega
theorem mrg_nil (a : List Int) : mrgS a [] = a := by
  refine List.ext_getElem? fun t => ?_
  by_cases h : t < a.length
  · unfold mrgS
    rw [List.getElem?_map, List.getElem?_range (by simp; omega), List.getElem?_eq_getElem h]
    simp [List.getD_eq_getElem?_getD, List.getElem?_eq_getElem h]
  · rw [List.getElem?_eq_none (by rw [mrg_len]; simp; omega), List.getElem?_eq_none (by omega)]
theorem mrg_ok {a b : List Int} (A : RowOk a) (B : RowOk b) (h : a.sum + b.sum ≤ 60) : RowOk (mrgS a b) := by
  have bd : ∀ {r : List Int}, RowOk r → ∀ t, 0 ≤ r.getD t 0 ∧ r.getD t 0 ≤ r.sum := fun {r} R t => by
    have e := rowA_getD r t
    have x := rowA_le R t
    have y := rowA_le R (t + 1)
    have z := rowA_mono R (show t ≤ t + 1 by omega)
    omega
  refine ⟨fun x hx => ?_, by rw [mrg_sum]; exact h⟩
  obtain ⟨t, _, rfl⟩ := List.mem_map.mp hx
  have := bd A t
  have := bd B t
  omega
theorem mrg_str (a b : List Int) (s l : Nat) : strS (mrgS a b) s l = strS a s l + strS b s l := by
  unfold strS
  rw [mrg_rowA, mrg_rowA]
  omega
/-- both made as long as the longer one -/
theorem mrg_zip (a b : List Int) : ((a ++ List.replicate (max a.length b.length - a.length) 0).zip (b ++ List.replicate (max a.length b.length - b.length) 0)).map (fun q : Int × Int => q.1 + q.2) = mrgS a b := by
  refine List.ext_getElem? fun t => ?_
  by_cases h : t < max a.length b.length
  · have pad : ∀ r : List Int, r.length ≤ max a.length b.length → (r ++ List.replicate (max a.length b.length - r.length) 0)[t]? = some (r.getD t 0) := fun r hr => by
      by_cases c : t < r.length
      · rw [List.getElem?_append_left c, List.getD_eq_getElem?_getD, List.getElem?_eq_getElem c]
        rfl
      · rw [List.getElem?_append_right (by omega), List.getElem?_replicate, if_pos (by omega), List.getD_eq_getElem?_getD, List.getElem?_eq_none (by omega)]
        rfl
    have g : ((a ++ List.replicate (max a.length b.length - a.length) 0).zip (b ++ List.replicate (max a.length b.length - b.length) 0))[t]? = some (a.getD t 0, b.getD t 0) := List.getElem?_zip_eq_some.mpr ⟨pad a (by omega), pad b (by omega)⟩
    unfold mrgS
    rw [List.getElem?_map, g, List.getElem?_map, List.getElem?_range h]
    rfl
  · rw [List.getElem?_eq_none (by simp; omega), List.getElem?_eq_none (by rw [mrg_len]; omega)]
end FC

namespace FC
open PySem PySem.Spec PyProof.Rows L2

/-! ### sorted of a list or tuple of ints -/
section
variable {prog : Program} {w : World} {A : Around} {E : Value → Shared → Prop} {s : Shared}
theorem sorted_seq {l : Addr} {T : String} {o : Obj} {n : Nat} {vs : List Value} {ltv : Value → Value → Bool} {Q : Value → Shared → Prop} (O : SrtO.Swo ltv) (hT : T = "list" ∨ T = "tuple")
    (ho : s.heap.get? l = some o) (hc : o.cls = .type T) (hd : o.data = .seq vs.toArray n) (hz : vs.length ≤ sizeLine)
    (hS : 2 ≤ vs.length → ∀ (h₁ : Heap) (a : Addr), SrtO.SortableO prog w A.in1.in1 { s with heap := h₁ } a vs ltv)
    (h : ∀ (h' : Heap) (out : List Value), (∀ b o, s.heap.get? b = some o → h'.get? b = some o) → SrtO.Srtd ltv out → SrtO.Stb ltv out vs → Q (.ref h'.objs.size) { s with heap := sortedHeap (h'.push (seqObj "list" vs.toArray 0)) h'.objs.size vs out.toArray }) :
    wpAny (model prog w) A (call (.builtin "sorted") [.ref l]) Q E s := by
  refine Calls.call_function_entry kind_sorted plain_sorted entry_sorted (args_sorted1 _) ?_
  unfold Builtin.«sorted»
  refine wpAny_bind (m := checkCount "sorted" 1 1 _) (wpAny_pure ?_)
  refine wpAny_bind (wpAny_collect_seq l hT ho hc hd (fun h' hk => ?_) (by rw [List.size_toArray]; exact hz))
  have e0 : vs.toArray.toList = vs := by simp
  rw [e0]
  refine wpAny_bind (wpAny_newList ?_ hz)
  have hoL : (h'.push (seqObj "list" vs.toArray 0)).get? h'.objs.size = some (seqObj "list" vs.toArray 0) := Heap.get?_push_size _ rfl
  refine wpAny_bind (wpAny_holding (wpAny_call_entry slot_list_sort ⟨_, hoL, rfl⟩ entry_list_sort (SrtO.list_sort_ord O hoL hz (fun h2 => hS h2 _ _) fun out hs hb => ⟨_, rfl, ?_⟩) (args_list_sort _)))
  exact wpAny_pure ⟨_, rfl, h h' out hk hs hb⟩
end
def insI (x : Int) : List Int → List Int
  | [] => [x]
  | y :: r => if x ≤ y then x :: y :: r else y :: insI x r
def srtI : List Int → List Int
  | [] => []
  | x :: r => insI x (srtI r)
theorem insI_perm (x : Int) : ∀ l : List Int, (insI x l).Perm (x :: l)
  | [] => .refl _
  | y :: r => by
    unfold insI
    split
    · exact .refl _
    · exact ((insI_perm x r).cons y).trans (.swap x y r)
theorem srtI_perm : ∀ l : List Int, (srtI l).Perm l
  | [] => .refl _
  | x :: r => (insI_perm x (srtI r)).trans ((srtI_perm r).cons x)
theorem insI_sorted (x : Int) : ∀ l : List Int, l.Pairwise (· ≤ ·) → (insI x l).Pairwise (· ≤ ·)
  | [], _ => List.pairwise_singleton _ _
  | y :: r, h => by
    unfold insI
    obtain ⟨h1, h2⟩ := List.pairwise_cons.mp h
    split
    · rename_i hx
      exact List.pairwise_cons.mpr ⟨fun z hz => (List.mem_cons.mp hz).elim (fun e => by rw [e]; exact hx) (fun q => Int.le_trans hx (h1 z q)), h⟩
    · rename_i hx
      refine List.pairwise_cons.mpr ⟨fun z hz => ?_, insI_sorted x r h2⟩
      rcases List.mem_cons.mp ((insI_perm x r).mem_iff.mp hz) with e | q
      · rw [e]; omega
      · exact h1 z q
theorem srtI_sorted : ∀ l : List Int, (srtI l).Pairwise (· ≤ ·)
  | [] => .nil
  | x :: r => insI_sorted x _ (srtI_sorted r)
theorem sorted_uniq : ∀ {a b : List Int}, a.Perm b → a.Pairwise (· ≤ ·) → b.Pairwise (· ≤ ·) → a = b
  | [], b, p, _, _ => p.nil_eq
  | x :: a, [], p, _, _ => absurd p.length_eq (by simp)
  | x :: a, y :: b, p, ha, hb => by
    obtain ⟨h1, h2⟩ := List.pairwise_cons.mp ha
    obtain ⟨h3, h4⟩ := List.pairwise_cons.mp hb
    have hx : x ∈ y :: b := p.mem_iff.mp List.mem_cons_self
    have hy : y ∈ x :: a := p.mem_iff.mpr List.mem_cons_self
    have e : x = y := by
      rcases List.mem_cons.mp hx with e | q
      · exact e
      · rcases List.mem_cons.mp hy with e | q'
        · exact e.symm
        · exact Int.le_antisymm (h1 y q') (h3 x q)
    subst e
    rw [sorted_uniq p.cons_inv h2 h4]
theorem srtI_of {a b : List Int} (p : a.Perm b) (h : a.Pairwise (· ≤ ·)) : a = srtI b := sorted_uniq (p.trans (srtI_perm b).symm) h (srtI_sorted b)
def rSortB (K : PySem.W.Frag) : List V → Hp → VK → Prop := fun vs H Q => ∃ (a : Addr) (ns : List Int), vs = [V.ref a] ∧ (SqL K H a (ns.map V.int) ∨ SqT K H a (ns.map V.int)) ∧ ∀ p : Addr, H p = none → Q (.ref p) (upd H p (.lst ((srtI ns).map V.int)))
section
variable {X : Cx}
theorem cr_sortB : CallR X (.builtin "sorted") (rSortB X.K) := by
  intro pins s σ H vs us Q I r h
  obtain ⟨a, ns, rfl, hs, q⟩ := h
  rw [Vals.ref1 r]
  obtain ⟨its, T, o, n, hT, ho, hc, hd, rv, hz⟩ : ∃ (its : List Value) (T : String) (o : Obj) (n : Nat), (T = "list" ∨ T = "tuple") ∧ s.heap.get? a = some o ∧ o.cls = .type T ∧ o.data = .seq its.toArray n ∧ Vals (ns.map V.int) its ∧ its.length ≤ sizeLine := by
    rcases hs with hs | hs
    · obtain ⟨its, rv, pl, hz⟩ := I.list hs
      obtain ⟨o, ho, hc, n, hd⟩ := pl.isList
      exact ⟨its, "list", o, n, .inl rfl, ho, hc, hd, rv, by rw [← rv.length]; exact hz⟩
    · obtain ⟨its, rv, pl, hz⟩ := I.tuple hs
      obtain ⟨o, ho, hc, n, hd⟩ := pl
      exact ⟨its, "tuple", o, n, .inr rfl, ho, hc, hd, rv, by rw [← rv.length]; exact hz⟩
  have hi := rv.ints
  refine sorted_seq SrtO.swo_int hT ho hc hd hz (fun h2 h₁ a' => SrtO.ints_sortable hi h2) fun h' out hk h1 h2 => ?_
  obtain ⟨k1, k2, k3⟩ := SrtO.ints_out hi h1 h2
  have e := srtI_of k2 k3
  have I1 : Inv X pins σ H { s with heap := h' } := I.kept (t' := s.toks) hk
  have hob : (h'.push (seqObj "list" its.toArray 0)).get? h'.objs.size = some (seqObj "list" its.toArray 0) := Heap.get?_push_size _ rfl
  obtain ⟨ep, he'⟩ := PyProof.Rows.sortedHeap_at (vs := its) (out := out.toArray) hob
  have hlen : ((srtI ns).map V.int).length ≤ sizeLine := by
    rw [List.length_map, (srtI_perm ns).length_eq]
    have := rv.length
    rw [List.length_map] at this
    omega
  refine ⟨.ref _, upd H h'.objs.size (.lst ((srtI ns).map V.int)), I1.laid (t' := s.toks) (fun b ob z => ?_) (Nat.le_refl _) ⟨hlen, out, ep, ?_, he'⟩, rfl, q _ (I1.hok.fresh (Nat.le_refl _))⟩
  · exact PyProof.Rows.sortedHeap_old (Nat.ne_of_lt (Heap.lt_size z)) (Heap.lt_size (Heap.get?_push_of_some _ z)) ▸ Heap.get?_push_of_some _ z
  · rw [← e]; exact vals_of_ints k1
end
def dSort : D → Option D
  | .lst xs => (dInts xs).map fun ns => .lst ((srtI ns).map D.int)
  | .tup xs => (dInts xs).map fun ns => .lst ((srtI ns).map D.int)
  | _ => none
section
variable {C : Ct} {W : WX} {X : Cx} {m p m1 p1 m2 p2 : Bool} {a b : Expr} {fa fb : F D} {pn pos : Pos}
theorem fx_sort (ha : FX C W m p X a fa) (hm : X.mg "sorted" = none) (hg : Gl X "sorted") (he : starEach [a] X.env = (false, eval a X.env) :: starEach [] X.env := by rfl) (hpl : (backTo pos (starEach [] X.env)).any (·.1) = false := by rfl) : FX C W true p X (.Call (.Name "sorted" pn) [a] [] pos) (f1 dSort fa) :=
  fx_b1 cr_sortB (fun M H x dx d Q hd sx e k => by
    cases dx with
    | lst xs =>
      obtain ⟨ns, q, rfl⟩ := Option.map_eq_some_iff.mp e
      have ex := dInts_eq q
      subst ex
      obtain ⟨l, us, rfl, ha, r⟩ := sx.lstH
      have eu := r.ints
      subst eu
      exact ⟨l, ns, rfl, .inl (.inl (.inl ha)), fun q hq => k _ _ (Keep.new hq) (rep_newL hd hq (repL_ints _))⟩
    | tup xs =>
      obtain ⟨ns, q, rfl⟩ := Option.map_eq_some_iff.mp e
      have ex := dInts_eq q
      subst ex
      obtain ⟨l, us, rfl, ha, _, r⟩ := sx.tupH
      have eu := r.ints
      subst eu
      exact ⟨l, ns, rfl, .inr (.inl (.inl ha)), fun q hq => k _ _ (Keep.new hq) (rep_newL hd hq (repL_ints _))⟩
    | _ => cases e) ha (by rfl) hm hg (he := he) (hpl := hpl)
end
theorem q_sortT {ns : List Int} : dSort (.tup (ns.map D.int)) = some (.lst ((srtI ns).map D.int)) := by
  simp only [dSort, dInts_map, Option.map_some]

/-! ### a < b of nested tuples -/
def rLtP (K : PySem.W.Frag) : R2 := fun x y H Q => ∃ d e, Dp K H x d ∧ Dp K H y e ∧ PySem.W.alike d e = true ∧ d ≠ .none ∧ min d.depth e.depth ≤ 64 ∧ Q (.bl (PySem.W.dataLt d e)) H
theorem op_ltP {X : Cx} (hu : X.A.units + 64 < cLine) : OpR X (compareOp .Lt) (rLtP X.K) := by
  intro pins s σ H x y v u Q I rx ry h
  obtain ⟨d, e, hd, he, sd, se, hm, q⟩ := h
  obtain ⟨as, r1⟩ := Dp.reads I d x v hd rx
  obtain ⟨bs, r2⟩ := Dp.reads I e y u he ry
  exact PySem.W.lt_data r1 r2 sd se (by omega) ⟨.bl _, H, I, rfl, q⟩
def isNone' : PyData → Bool | .none => true | _ => false
def dLtT (x y : D) : Option D := match x.data, y.data with
  | some p, some q => if PySem.W.alike p q = true ∧ isNone' p = false ∧ min p.depth q.depth ≤ 64 then some (.bl (PySem.W.dataLt p q)) else none
  | _, _ => none
section
variable {C : Ct} {W : WX} {X : Cx} {m p m1 p1 m2 p2 : Bool} {a b : Expr} {fa fb : F D} {pn pos : Pos}
theorem op2_ltT : Op2 C (rLtP X.K) dLtT := fun M H x y dx dy d Q hd sx sy e k => by
  unfold dLtT at e
  cases q1 : dx.data with
  | none => rw [q1] at e; cases e
  | some p1 =>
    cases q2 : dy.data with
    | none => rw [q1, q2] at e; cases e
    | some p2 =>
      rw [q1, q2] at e
      simp only at e
      split at e
      · rename_i hz
        cases e
        exact ⟨p1, p2, sx.dp q1, sy.dp q2, hz.1, fun z => by rw [z] at hz; exact absurd hz.2.1 (by decide), hz.2.2, k _ H (Keep.refl _ _) (.bl _)⟩
      · cases e
theorem fx_ltT (hu : X.A.units + 64 < cLine) (ha : FX C W m1 p1 X a fa) (hb : FX C W m2 p2 X b fb) (hm : (m1 || p2) = true := by rfl) : FX C W true (p1 && p2) X (.Compare a [.Lt] [b] pos) (f2 dLtT fa fb) := fx_cmp (op_ltP hu) op2_ltT ha hb (nomark _) hm
theorem ft_ltT (hu : X.A.units + 64 < cLine) (ha : FX C W m1 p1 X a fa) (hb : FX C W m2 p2 X b fb) (hm : (m1 || p2) = true := by rfl) : FT C W (p1 && p2) X (.Compare a [.Lt] [b] pos) (f1 dBl (f2 dLtT fa fb)) := ft_cmp (op_ltP hu) op2_ltT ha hb (nomark _) hm
end
end FC

namespace FC
open PySem PySem.Spec PyProof.Rows L2

/-! ### min(a, b) of tuples -/
section
variable {prog : Program} {w : World} {A : Around} {E : Value → Shared → Prop} {s : Shared}
theorem call_min_twoH {a b : Value} {Q : Value → Shared → Prop}
    (h : wpAny (model prog w) A.in1 (pyIter (.ref s.heap.objs.size)) (fun it s₂ => ∃ I fp wr G n P St H bt, it = .ref I ∧ WalksS prog w A.in1 I fp wr G n P St ∧ St 0 s₂ ∧ (∀ b ∈ fp, b < s₂.heap.objs.size) ∧ 0 < n ∧
      (∀ b o, H.get? b = some o → b ∉ wr) ∧ (∀ b o, H.get? b = some o → s₂.heap.get? b = some o) ∧ CmpIn prog w A.in1 .Lt H P bt ∧ ∀ v s', P (argBest bt (n - 1)) v → Moved wr G s₂ s' → Q v s') E { s with heap := s.heap.push { cls := .type "tuple", data := .seq #[a, b] } }) :
    wpAny (model prog w) A (call (.builtin "min") [a, b]) Q E s := by
  have hname : (toString "min" ++ toString ".loop" : String) = "min.loop" := by decide
  refine call_function_tree F.kind_min F.plain_min F.entry_min (F.args_min2 _ _) ?_
  show wpAny _ A.in1 (Builtin.Builtins.bindParams "min" ["key", "default"] 0 ⟨[], []⟩ >>= _) _ _ s
  refine wpAny_bind (wpAny_of_eq (show Builtin.Builtins.bindParams "min" ["key", "default"] 0 ⟨[], []⟩ = pure [none, none] from rfl) ?_)
  show wpAny _ A.in1 (newTuple [a, b] >>= _) _ _ s
  refine wpAny_bind (wpAny_newObj_type ?_)
  refine wpAny_bind (wpAny_mono h (fun it s₂ h₂ => ?_) fun _ _ e => e)
  obtain ⟨I, fp, wr, G, n, P, St, H, bt, rfl, W, hst, hfp, hn, hw, hkeep, hcmp, hQ⟩ := h₂
  refine wpAny_bind (wpAny_newObj_type ?_)
  have hSf : s₂.heap.objs.size ∉ fp := fun hm => Nat.lt_irrefl _ (hfp _ hm)
  rw [hname]
  refine wpAny_pure ⟨plainId_quiet F.plain_min_loop _, codeAny_min_loop_firstH W H hw bt hcmp s₂.heap.objs.size hSf (fresh_in hkeep) _ hn (fun b o e => Heap.get?_push_of_some _ (hkeep b o e)) (W.frame 0 s₂ _ s₂.toks hst (Nat.le_refl _) fun b _ o e => Heap.get?_push_of_some _ e) (Heap.get?_push_size _ rfl) fun v s' hP hm => ?_⟩
  exact hQ v s' hP (Moved.drop_new (tk := s₂.toks) hm (Nat.le_refl _))
theorem min_two_data {a b : Value} {x y : PyData} {as bs : List Addr} {Q : Value → Shared → Prop} (hh : A.handled = none) (ra : Reads s.heap a x as) (rb : Reads s.heap b y bs) (ha : PySem.W.AlikeAll [x, y]) (hu : A.units + 1 + PyData.depthAll [x, y] < cLine)
    (h : ∀ h' tk, (∀ c o, s.heap.get? c = some o → h'.get? c = some o) → Q (if PySem.W.dataLt y x = true then b else a) { s with heap := h', toks := tk }) :
    wpAny (model prog w) A (call (.builtin "min") [a, b]) Q E s := by
  have hT : (s.heap.push { cls := .type "tuple", data := .seq #[a, b] }).IsTuple s.heap.objs.size #[a, b] := ⟨_, Heap.get?_push_size _ rfl, rfl, 0, rfl⟩
  have kp : ∀ c o, s.heap.get? c = some o → (s.heap.push { cls := .type "tuple", data := .seq #[a, b] }).get? c = some o := fun c o e => Heap.get?_push_of_some _ e
  refine call_min_twoH (PySem.W.iter_tupleW (A := A.in1) (s := { s with heap := s.heap.push { cls := .type "tuple", data := .seq #[a, b] } }) hh hT fun s₂ e W st hfp hw hk => ?_)
  refine ⟨_, _, _, _, _, _, _, _, _, rfl, W, st, hfp, by simp, hw, hk, PySem.W.cmpIn_lt (A := A.in1) (s := { s with heap := s.heap.push { cls := .type "tuple", data := .seq #[a, b] } }) (vs := #[a, b]) (xs := [x, y]) (.cons (Reads.keeps kp ra) (.cons (Reads.keeps kp rb) .nil)) ha (by show A.units + 1 + _ < _; exact hu), fun v s' hP m => ?_⟩
  obtain ⟨h', tk, rfl, hk'⟩ := PySem.W.moved_old e rfl m
  have hv : (if PySem.W.dataLt y x = true then b else a) = v := by
    cases hc : PySem.W.dataLt y x <;> simp [argBest, hc] at hP <;> simp [hP]
  rw [← hv]
  exact h h' tk fun c o e => hk' c o (kp c o e)
end
def minT (p q : PyData) (x y : D) : Option D := if PySem.W.alike p p = true ∧ PySem.W.alike p q = true ∧ PySem.W.alike q p = true ∧ PySem.W.alike q q = true ∧ isNone' p = false ∧ isNone' q = false ∧ PyData.depthAll [p, q] ≤ 60 then some (if PySem.W.dataLt q p = true then y else x) else none
def dMinT : D → D → Option D
  | .tup xs, .tup ys => (D.data (.tup xs)).bind fun p => (D.data (.tup ys)).bind fun q => minT p q (.tup xs) (.tup ys)
  | _, _ => none
def rMinT (K : PySem.W.Frag) : List V → Hp → VK → Prop := fun vs H Q => ∃ x y p q, vs = [x, y] ∧ Dp K H x p ∧ Dp K H y q ∧ PySem.W.AlikeAll [p, q] ∧ PyData.depthAll [p, q] ≤ 60 ∧ Q (if PySem.W.dataLt q p = true then y else x) H
section
variable {C : Ct} {W : WX} {X : Cx} {m p m1 p1 m2 p2 : Bool} {a b : Expr} {fa fb : F D} {pn pos : Pos}
theorem cr_minT (hc : X.calm = true) (hu : X.A.units + 64 < cLine) : CallR X (.builtin "min") (rMinT X.K) := by
  intro pins s σ H xs us Q I r h
  obtain ⟨x, y, p, q, rfl, hp, hq, al, dp, k⟩ := h
  obtain ⟨u, w', rfl, r1, r2⟩ := vals2 r
  obtain ⟨as, z1⟩ := Dp.reads I p x u hp r1
  obtain ⟨bs, z2⟩ := Dp.reads I q y w' hq r2
  refine min_two_data (I.ok.hd hc) z1 z2 al (by omega) fun h' tk kk => ⟨_, H, I.kept kk, ?_, k⟩
  cases PySem.W.dataLt q p with
  | true => exact r2
  | false => exact r1
theorem fx_minT (hcm : X.calm = true) (hu : X.A.units + 64 < cLine) (ha : FX C W m1 p1 X a fa) (hb : FX C W m2 p2 X b fb) (hm0 : X.mg "min" = none) (hg : Gl X "min") (hm : (m1 || p2) = true := by rfl)
    (he : starEach [a, b] X.env = (false, eval a X.env) :: starEach [b] X.env := by rfl) (he2 : starEach [b] X.env = (false, eval b X.env) :: starEach [] X.env := by rfl) (hpl : (backTo pos (starEach [b] X.env)).any (·.1) = false := by rfl) : FX C W true (p1 && p2) X (.Call (.Name "min" pn) [a, b] [] pos) (f2 dMinT fa fb) :=
  fx_b2 (cr_minT hcm hu) (fun M H x y dx dy d Q hd sx sy e k => by
    cases dx with
    | tup xs => cases dy with
      | tup ys =>
        obtain ⟨p1, q1, e⟩ := Option.bind_eq_some_iff.mp (show (D.data (.tup xs)).bind _ = some d from e)
        obtain ⟨p2, q2, e⟩ := Option.bind_eq_some_iff.mp e
        unfold minT at e
        split at e
        · rename_i hz
          obtain ⟨z1, z2, z3, z4, z5, z6, z7⟩ := hz
          have n1 : p1 ≠ .none := fun z => by rw [z] at z5; exact absurd z5 (by decide)
          have n2 : p2 ≠ .none := fun z => by rw [z] at z6; exact absurd z6 (by decide)
          refine ⟨x, y, p1, p2, rfl, sx.dp q1, sy.dp q2, ⟨?_, ?_⟩, z7, ?_⟩
          · intro a ha b hb
            simp only [List.mem_cons, List.not_mem_nil, or_false] at ha hb
            rcases ha with rfl | rfl <;> rcases hb with rfl | rfl <;> assumption
          · intro a ha
            simp only [List.mem_cons, List.not_mem_nil, or_false] at ha
            rcases ha with rfl | rfl <;> assumption
          · cases e
            obtain ⟨a1, v1, rfl, h1, m1, s1⟩ := sx.tupH
            obtain ⟨a2, v2, rfl, h2, m2, s2⟩ := sy.tupH
            cases hlt : PySem.W.dataLt p2 p1 with
            | true => rw [hlt] at k; exact k _ H (Keep.refl _ _) (.tup h2 m2 s2)
            | false => rw [hlt] at k; exact k _ H (Keep.refl _ _) (.tup h1 m1 s1)
        · cases e
      | _ => cases e
    | _ => cases dy <;> cases e) ha hb boot_min hm0 hg hm (he := he) (he2 := he2) (hpl := hpl)
end
end FC

namespace FC
open PySem PySem.Spec PyProof.Rows L2

/-! ### < of tuples of ints, of pairs -/
def ltZ : List Int → List Int → Bool
  | [], [] => false
  | [], _ :: _ => true
  | _ :: _, [] => false
  | x :: a, y :: b => if x = y then ltZ a b else decide (x < y)
theorem eqv_int (a b : Int) : PyData.eqv (.int a) (.int b) = decide (a = b) := by simp [PyData.eqv, beqI]
theorem eqv_ints (a b : List Int) : PyData.eqv (.tuple (a.map PyData.int)) (.tuple (b.map PyData.int)) = decide (a = b) := by
  rw [← ints_eqvAll]
  simp [PyData.eqv]
theorem toks_ints : ∀ a b : List Int, PyProof.Rows.lexLt itemOrd (PySem.W.keyToksAll (a.map PyData.int)) (PySem.W.keyToksAll (b.map PyData.int)) = ltZ a b
  | [], [] => by decide
  | [], y :: b => by
    rw [List.map_cons, PySem.W.toks_all_cons]
    exact (lex_diff (O := itemOrd) (by simp)).trans (show itemOrd.blt (Sum.inl 0) (Sum.inl 1) = true from by decide)
  | x :: a, [] => by
    rw [List.map_cons, PySem.W.toks_all_cons]
    exact (lex_diff (O := itemOrd) (by simp)).trans (show itemOrd.blt (Sum.inl 1) (Sum.inl 0) = false from by decide)
  | x :: a, y :: b => by
    rw [List.map_cons, List.map_cons]
    have h : PySem.W.alike (.int x) (.int y) = true := rfl
    unfold ltZ
    by_cases e : x = y
    · rw [if_pos e, PySem.W.dataLt_all_yes h (by rw [eqv_int]; exact decide_eq_true e)]
      exact toks_ints a b
    · rw [if_neg e, PySem.W.dataLt_all_no h (by rw [eqv_int]; exact decide_eq_false e)]
      exact PySem.W.dataLt_int x y
theorem lt_ints (a b : List Int) : PySem.W.dataLt (.tuple (a.map PyData.int)) (.tuple (b.map PyData.int)) = ltZ a b := (PySem.W.dataLt_tuple _ _).trans (toks_ints a b)
theorem alike_ints : ∀ a b : List Int, PySem.W.alikeAll (a.map PyData.int) (b.map PyData.int) = true
  | [], b => by simp [PySem.W.alikeAll]
  | x :: a, [] => by simp [PySem.W.alikeAll]
  | x :: a, y :: b => by
    simp only [List.map_cons, PySem.W.alikeAll, PySem.W.alike, Bool.true_and]
    exact alike_ints a b
/-- (n, xs) < (m, ys) -/
def ltLL (a b : List Int) : Bool := if a.length = b.length then ltZ a b else decide (a.length < b.length)
theorem q_ltLL (a b : List Int) : dLtT (.tup [.int a.length, .tup (a.map D.int)]) (.tup [.int b.length, .tup (b.map D.int)]) = some (.bl (ltLL a b)) := by
  have e1 : ∀ c : List Int, D.data (.tup [.int c.length, .tup (c.map D.int)]) = some (.tuple [.int c.length, .tuple (c.map PyData.int)]) := fun c => by
    simp only [D.data, D.dataL, ints_dataL, Option.map_some]
  have al : PySem.W.alike (.tuple [.int (a.length : Int), .tuple (a.map PyData.int)]) (.tuple [.int (b.length : Int), .tuple (b.map PyData.int)]) = true := by
    simp only [PySem.W.alike, PySem.W.alikeAll, Bool.true_and, Bool.and_true]
    exact alike_ints a b
  have dp : (PyData.tuple [.int (a.length : Int), .tuple (a.map PyData.int)]).depth ≤ 64 := by
    have := ints_depth a
    simp only [PyData.depth, PyData.depthAll]
    omega
  simp only [dLtT, e1]
  rw [if_pos ⟨al, rfl, by omega⟩, PySem.W.dataLt_tuple]
  unfold ltLL
  have h : PySem.W.alike (.int (a.length : Int)) (.int (b.length : Int)) = true := rfl
  by_cases e : a.length = b.length
  · rw [if_pos e, PySem.W.dataLt_all_yes h (by rw [eqv_int]; exact decide_eq_true (by rw [e]))]
    have h2 : PySem.W.alike (.tuple (a.map PyData.int)) (.tuple (b.map PyData.int)) = true := by
      simp only [PySem.W.alike]
      exact alike_ints a b
    by_cases e2 : a = b
    · rw [PySem.W.dataLt_all_yes h2 (by rw [eqv_ints]; exact decide_eq_true e2), e2]
      have : ∀ l : List Int, ltZ l l = false := fun l => by
        induction l with
        | nil => rfl
        | cons x l ih => simp only [ltZ, if_true, ih]
      rw [this]
      rfl
    · rw [PySem.W.dataLt_all_no h2 (by rw [eqv_ints]; exact decide_eq_false e2), lt_ints]
  · rw [if_neg e, PySem.W.dataLt_all_no h (by rw [eqv_int]; exact decide_eq_false (by omega)), PySem.W.dataLt_int]
    congr 2
    simp
/-- the less of two pairs of ints -/
def ltP2 (p q : Int × Int) : Bool := if p.1 = q.1 then decide (p.2 < q.2) else decide (p.1 < q.1)
theorem ltP2_iff {p q : Int × Int} : ltP2 p q = true ↔ p.1 < q.1 ∨ (p.1 = q.1 ∧ p.2 < q.2) := by
  unfold ltP2
  split
  · rw [decide_eq_true_eq]; omega
  · rw [decide_eq_true_eq]; omega
theorem q_minP (p q : Int × Int) : dMinT (limD p) (limD q) = some (limD (if ltP2 q p = true then q else p)) := by
  have e1 : ∀ p : Int × Int, D.data (.tup [.int p.1, .int p.2]) = some (.tuple [.int p.1, .int p.2]) := fun p => by simp only [D.data, D.dataL, Option.map_some]
  have lt : ∀ p q : Int × Int, PySem.W.dataLt (.tuple [.int p.1, .int p.2]) (.tuple [.int q.1, .int q.2]) = ltP2 p q := fun p q => by
    have := lt_ints [p.1, p.2] [q.1, q.2]
    simp only [List.map_cons, List.map_nil] at this
    rw [this]
    unfold ltP2 ltZ
    by_cases e : p.1 = q.1
    · rw [if_pos e, if_pos e]
      unfold ltZ
      by_cases e2 : p.2 = q.2
      · rw [if_pos e2, e2]
        simp [ltZ]
      · rw [if_neg e2]
    · rw [if_neg e, if_neg e]
  unfold limD
  simp only [dMinT, e1, Option.bind_some, minT, lt]
  rw [if_pos ⟨rfl, rfl, rfl, rfl, rfl, rfl, by simp [PyData.depth, PyData.depthAll]⟩]
  split <;> rfl

/-! ### lists in order -/
def leZ : List Int → List Int → Prop
  | [], _ => True
  | _ :: _, [] => False
  | x :: a, y :: b => x < y ∨ (x = y ∧ leZ a b)
theorem leZ_refl : ∀ a : List Int, leZ a a
  | [] => trivial
  | _ :: a => .inr ⟨rfl, leZ_refl a⟩
theorem leZ_antisymm : ∀ {a b : List Int}, leZ a b → leZ b a → a = b
  | [], [], _, _ => rfl
  | [], _ :: _, _, h => h.elim
  | _ :: _, [], h, _ => h.elim
  | x :: a, y :: b, h1, h2 => by
    rcases h1 with h1 | ⟨rfl, h1⟩
    · rcases h2 with h2 | ⟨e, _⟩ <;> omega
    · rcases h2 with h2 | ⟨_, h2⟩
      · omega
      · rw [leZ_antisymm h1 h2]
theorem leZ_trans : ∀ {a b c : List Int}, leZ a b → leZ b c → leZ a c
  | [], _, _, _, _ => trivial
  | _ :: _, [], _, h, _ => h.elim
  | _ :: _, _ :: _, [], _, h => h.elim
  | x :: a, y :: b, z :: c, h1, h2 => by
    rcases h1 with h1 | ⟨rfl, h1⟩
    · rcases h2 with h2 | ⟨rfl, _⟩
      · exact .inl (by omega)
      · exact .inl h1
    · rcases h2 with h2 | ⟨rfl, h2⟩
      · exact .inl h2
      · exact .inr ⟨rfl, leZ_trans h1 h2⟩
theorem ltZ_iff : ∀ {a b : List Int}, ltZ a b = false → leZ b a
  | [], [], _ => trivial
  | [], _ :: _, h => by cases h
  | _ :: _, [], _ => trivial
  | x :: a, y :: b, h => by
    unfold ltZ at h
    split at h
    · rename_i e
      exact .inr ⟨e.symm, ltZ_iff h⟩
    · have := of_decide_eq_false h
      exact .inl (by omega)
theorem ltZ_le : ∀ {a b : List Int}, ltZ a b = true → leZ a b
  | [], _, _ => trivial
  | _ :: _, [], h => by cases h
  | x :: a, y :: b, h => by
    unfold ltZ at h
    split at h
    · rename_i e
      exact .inr ⟨e, ltZ_le h⟩
    · exact .inl (of_decide_eq_true h)
theorem leZ_ins (x : Int) : ∀ {a b : List Int}, a.length = b.length → leZ a b → leZ (insI x a) (insI x b)
  | [], [], _, _ => leZ_refl _
  | [], _ :: _, h, _ => by cases h
  | _ :: _, [], h, _ => by cases h
  | y :: a, z :: b, h, hl => by
    have h' : a.length = b.length := by simpa using h
    unfold insI
    rcases hl with hl | ⟨rfl, hl⟩
    · by_cases h1 : x ≤ y
      · rw [if_pos h1, if_pos (by omega)]
        exact .inr ⟨rfl, .inl hl⟩
      · rw [if_neg h1]
        split
        · exact .inl (by omega)
        · exact .inl hl
    · by_cases h1 : x ≤ y
      · rw [if_pos h1, if_pos h1]
        exact .inr ⟨rfl, .inr ⟨rfl, hl⟩⟩
      · rw [if_neg h1, if_neg h1]
        exact .inr ⟨rfl, leZ_ins x h' hl⟩
theorem insI_head {x : Int} : ∀ {l : List Int}, (∀ y ∈ l, x ≤ y) → insI x l = x :: l
  | [], _ => rfl
  | y :: l, h => by
    unfold insI
    rw [if_pos (h y List.mem_cons_self)]
theorem srtI_snoc {l : List Int} (h : l.Pairwise (· ≤ ·)) (x : Int) : srtI (l ++ [x]) = insI x l :=
  (srtI_of ((insI_perm x l).trans (List.perm_append_comm (l₁ := [x]) (l₂ := l))) (insI_sorted x l h)).symm

/-! ### covers by numbers -/
def widA (ps : List (Int × Int)) (x : Int) : Int := (ps.getD x.toNat (1, 1)).1
def cstA (ps : List (Int × Int)) (x : Int) : Int := (ps.getD x.toNat (1, 1)).2
def amtA (ps : List (Int × Int)) (l : List Int) : Int := (l.map (cstA ps)).sum
def covA (ps : List (Int × Int)) (l : List Int) : Int := (l.map (widA ps)).sum
structure Vld (ps : List (Int × Int)) (k s : Nat) (l : List Int) : Prop where
  st : l.Pairwise (· ≤ ·)
  rg : ∀ x ∈ l, (k : Int) ≤ x ∧ x < ps.length
  cv : (s : Int) ≤ covA ps l
def btr (ps : List (Int × Int)) (a b : List Int) : Prop := amtA ps a < amtA ps b ∨ (amtA ps a = amtA ps b ∧ (a.length < b.length ∨ (a.length = b.length ∧ leZ a b)))
structure Bst (ps : List (Int × Int)) (k s : Nat) (l : List Int) : Prop where
  v : Vld ps k s l
  b : ∀ l', Vld ps k s l' → btr ps l l'
theorem btr_antisymm {ps : List (Int × Int)} {a b : List Int} (h1 : btr ps a b) (h2 : btr ps b a) : a = b := by
  unfold btr at h1 h2
  rcases h1 with h1 | ⟨e1, h1⟩
  · rcases h2 with h2 | ⟨e2, _⟩ <;> omega
  · rcases h2 with h2 | ⟨_, h2⟩
    · omega
    · rcases h1 with h1 | ⟨e, h1⟩
      · rcases h2 with h2 | ⟨e2, _⟩ <;> omega
      · rcases h2 with h2 | ⟨_, h2⟩
        · omega
        · exact leZ_antisymm h1 h2
theorem Bst.uniq {ps : List (Int × Int)} {k s : Nat} {a b : List Int} (h1 : Bst ps k s a) (h2 : Bst ps k s b) : a = b := btr_antisymm (h1.b b h2.v) (h2.b a h1.v)
theorem amtA_cons (ps : List (Int × Int)) (x : Int) (l : List Int) : amtA ps (x :: l) = cstA ps x + amtA ps l := by simp [amtA]
theorem covA_cons (ps : List (Int × Int)) (x : Int) (l : List Int) : covA ps (x :: l) = widA ps x + covA ps l := by simp [covA]
theorem sum_perm : ∀ {a b : List Int}, a.Perm b → a.sum = b.sum := fun h => by
  induction h with
  | nil => rfl
  | cons x _ ih => simp only [List.sum_cons, ih]
  | swap x y l => simp only [List.sum_cons]; omega
  | trans _ _ i1 i2 => exact i1.trans i2
theorem amtA_ins (ps : List (Int × Int)) (x : Int) (l : List Int) : amtA ps (insI x l) = cstA ps x + amtA ps l := by
  rw [← amtA_cons]
  exact sum_perm ((insI_perm x l).map _)
theorem covA_ins (ps : List (Int × Int)) (x : Int) (l : List Int) : covA ps (insI x l) = widA ps x + covA ps l := by
  rw [← covA_cons]
  exact sum_perm ((insI_perm x l).map _)
theorem insI_length (x : Int) (l : List Int) : (insI x l).length = l.length + 1 := (insI_perm x l).length_eq
section
variable {ps : List (Int × Int)}
theorem num_in (hp : ∀ p ∈ ps, In20 p) {x : Int} (h : 0 ≤ x ∧ x < ps.length) : 1 ≤ widA ps x ∧ widA ps x ≤ 20 ∧ 1 ≤ cstA ps x ∧ cstA ps x ≤ 20 := by
  have hx : x.toNat < ps.length := by omega
  unfold widA cstA
  rw [List.getD_eq_getElem?_getD, List.getElem?_eq_getElem hx]
  exact hp _ (List.getElem_mem hx)
theorem amt_ge (hp : ∀ p ∈ ps, In20 p) : ∀ {l : List Int}, (∀ x ∈ l, 0 ≤ x ∧ x < ps.length) → (l.length : Int) ≤ amtA ps l
  | [], _ => by simp [amtA]
  | x :: l, h => by
    have i1 := amt_ge hp (l := l) fun y hy => h y (List.mem_cons_of_mem _ hy)
    have i2 := num_in hp (h x List.mem_cons_self)
    rw [amtA_cons, List.length_cons]
    omega
theorem cov_ge (hp : ∀ p ∈ ps, In20 p) : ∀ {l : List Int}, (∀ x ∈ l, 0 ≤ x ∧ x < ps.length) → (l.length : Int) ≤ covA ps l
  | [], _ => by simp [covA]
  | x :: l, h => by
    have i1 := cov_ge hp (l := l) fun y hy => h y (List.mem_cons_of_mem _ hy)
    have i2 := num_in hp (h x List.mem_cons_self)
    rw [covA_cons, List.length_cons]
    omega
def rst (s : Nat) (w : Int) : Nat := ((s : Int) - w).toNat
theorem vld_cons (hp : ∀ p ∈ ps, In20 p) {k s : Nat} {x : Int} {l : List Int} (h : Vld ps k s (x :: l)) : Vld ps k (rst s (widA ps x)) l ∧ (∀ y ∈ l, x ≤ y) ∧ (k : Int) ≤ x ∧ x < ps.length := by
  obtain ⟨h1, h2⟩ := List.pairwise_cons.mp h.st
  refine ⟨⟨h2, fun y hy => h.rg y (List.mem_cons_of_mem _ hy), ?_⟩, h1, h.rg x List.mem_cons_self⟩
  have := h.cv
  rw [covA_cons] at this
  have n0 := cov_ge hp (l := l) fun y hy => by
    have := h.rg y (List.mem_cons_of_mem _ hy)
    omega
  unfold rst
  omega
end
end FC

namespace FC
open PySem PySem.Spec PyProof.Rows L2

/-! ### the best cover, step by step -/
def leLL (a b : List Int) : Prop := a.length < b.length ∨ (a.length = b.length ∧ leZ a b)
theorem leLL_trans {a b c : List Int} (h1 : leLL a b) (h2 : leLL b c) : leLL a c := by
  unfold leLL at *
  rcases h1 with h1 | ⟨e1, h1⟩
  · rcases h2 with h2 | ⟨e2, _⟩ <;> exact .inl (by omega)
  · rcases h2 with h2 | ⟨e2, h2⟩
    · exact .inl (by omega)
    · exact .inr ⟨by omega, leZ_trans h1 h2⟩
theorem leLL_of {a b : List Int} (h : ltLL a b = false) : leLL b a := by
  unfold ltLL at h
  split at h
  · rename_i e
    exact .inr ⟨e.symm, ltZ_iff h⟩
  · have := of_decide_eq_false h
    exact .inl (by omega)
theorem leLL_lt {a b : List Int} (h : ltLL a b = true) : leLL a b := by
  unfold ltLL at h
  split at h
  · rename_i e
    exact .inr ⟨e, ltZ_le h⟩
  · exact .inl (of_decide_eq_true h)
theorem leLL_refl (a : List Int) : leLL a a := .inr ⟨rfl, leZ_refl a⟩
theorem leLL_ins (x : Int) {a b : List Int} (h : leLL a b) : leLL (insI x a) (insI x b) := by
  rcases h with h | ⟨e, h⟩
  · exact .inl (by rw [insI_length, insI_length]; omega)
  · exact .inr ⟨by rw [insI_length, insI_length, e], leZ_ins x e h⟩
section
variable {ps : List (Int × Int)}
theorem wid_at {i : Nat} (h : i < ps.length) : widA ps i = (ps[i]).1 ∧ cstA ps i = (ps[i]).2 := by
  unfold widA cstA
  rw [Int.toNat_natCast, List.getD_eq_getElem?_getD, List.getElem?_eq_getElem h]
  exact ⟨rfl, rfl⟩
theorem bst_zero (G : Good ps) (k : Nat) : Bst ps k 0 [] := by
  refine ⟨⟨.nil, fun _ z => (nomatch z), by simp [covA]⟩, fun l v => ?_⟩
  have := amt_ge G.ins (l := l) fun x hx => by have := v.rg x hx; omega
  have e : amtA ps [] = 0 := rfl
  cases l with
  | nil => exact .inr ⟨rfl, .inr ⟨rfl, trivial⟩⟩
  | cons x l =>
    rw [List.length_cons] at this
    exact .inl (by rw [e]; omega)
theorem vld_ins {k s : Nat} {i : Nat} (hi : i < ps.length) (hk : k ≤ i) {l : List Int} (v : Vld ps k (rst s (widA ps i)) l) : Vld ps k s (insI i l) := by
  refine ⟨insI_sorted _ _ v.st, fun x hx => ?_, ?_⟩
  · rcases List.mem_cons.mp ((insI_perm _ _).mem_iff.mp hx) with e | q
    · rw [e]; omega
    · exact v.rg x q
  · have := v.cv
    rw [covA_ins]
    unfold rst at this
    omega
theorem best_step (G : Good ps) {k : Nat} {g : Nat → List Int} (hg : ∀ j, j ≤ k → Bst ps 0 j (g j) ∧ amtA ps (g j) = most ps j) {B : List Int} (hv : Vld ps 0 (k + 1) B) (ha : amtA ps B = most ps (k + 1))
    (hl : ∀ i : Nat, i < ps.length → cstA ps i + most ps (rst (k + 1) (widA ps i)) = most ps (k + 1) → leLL B (insI i (g (rst (k + 1) (widA ps i))))) : Bst ps 0 (k + 1) B := by
  refine ⟨hv, fun l v => ?_⟩
  cases l with
  | nil =>
    have := v.cv
    simp [covA] at this
    omega
  | cons x l =>
    obtain ⟨v2, hx, x0, xn⟩ := vld_cons G.ins v
    obtain ⟨i, rfl⟩ : ∃ i : Nat, x = i := ⟨x.toNat, by omega⟩
    have hi : i < ps.length := by omega
    have nm := num_in G.ins (x := (i : Int)) ⟨by omega, xn⟩
    have hr : rst (k + 1) (widA ps i) ≤ k := by unfold rst; omega
    obtain ⟨b1, b2⟩ := hg _ hr
    have b3 := b1.b l v2
    obtain ⟨e1, e2⟩ := wid_at hi
    have ml := most_le G k (List.getElem_mem hi)
    rw [← e1, ← e2] at ml
    have er : ((k : Int) + 1 - widA ps i).toNat = rst (k + 1) (widA ps i) := by unfold rst; congr 1
    rw [er] at ml
    unfold btr
    rw [amtA_cons, ha]
    rcases b3 with b3 | ⟨b3, b4⟩
    · exact .inl (by omega)
    · by_cases t : cstA ps i + most ps (rst (k + 1) (widA ps i)) = most ps (k + 1)
      · refine .inr ⟨by omega, ?_⟩
        have := leLL_trans (hl i hi t) (leLL_ins (i : Int) b4)
        rwa [insI_head hx] at this
      · exact .inl (by omega)
theorem best_amt {k : Nat} (G : Good ps) {g : Nat → List Int} (hg : ∀ j, j ≤ k → Bst ps 0 j (g j) ∧ amtA ps (g j) = most ps j) {i : Nat} (hi : i < ps.length) :
    Vld ps 0 (k + 1) (insI i (g (rst (k + 1) (widA ps i)))) ∧ amtA ps (insI i (g (rst (k + 1) (widA ps i)))) = cstA ps i + most ps (rst (k + 1) (widA ps i)) := by
  have nm := num_in G.ins (x := (i : Int)) ⟨by omega, by omega⟩
  have hr : rst (k + 1) (widA ps i) ≤ k := by unfold rst; omega
  obtain ⟨b1, b2⟩ := hg _ hr
  exact ⟨vld_ins hi (Nat.zero_le _) b1.v, by rw [amtA_ins, b2]⟩
theorem most_cap (G : Good ps) : ∀ n : Nat, most ps n ≤ 20 * n
  | 0 => by rw [most_zero]; omega
  | n + 1 => by
    obtain ⟨p, hp⟩ := List.exists_mem_of_ne_nil ps G.ne
    have h1 := most_le G n hp
    obtain ⟨a1, a2, a3, a4⟩ := G.ins p hp
    have h2 := most_mono G (a := ((n : Int) + 1 - p.1).toNat) (b := n) (by omega)
    have h3 := most_cap G n
    omega

/-! ### the tables -/
def TabE (ps : List (Int × Int)) (k s : Nat) (p : Int × Int) : Prop := ∃ l, Bst ps k s l ∧ p = (amtA ps l, (l.length : Int))
theorem TabE.eq {k s : Nat} {p q : Int × Int} (h1 : TabE ps k s p) (h2 : TabE ps k s q) : p = q := by
  obtain ⟨a, b1, rfl⟩ := h1
  obtain ⟨b, b2, rfl⟩ := h2
  rw [b1.uniq b2]
theorem tab_zero (G : Good ps) (k : Nat) : TabE ps k 0 (0, 0) := ⟨[], bst_zero G k, rfl⟩
/-- what stands behind k in a cover that begins with k -/
theorem bst_cons (G : Good ps) {k s : Nat} (hk : k < ps.length) {a l : List Int} (b : Bst ps k (rst s (widA ps k)) a) (v : Vld ps k s ((k : Int) :: l)) : btr ps ((k : Int) :: a) ((k : Int) :: l) := by
  obtain ⟨v2, hx, _, _⟩ := vld_cons G.ins v
  have h := b.b l v2
  unfold btr at *
  rw [amtA_cons, amtA_cons, List.length_cons, List.length_cons]
  rcases h with h | ⟨h1, h2 | ⟨h2, h3⟩⟩
  · exact .inl (by omega)
  · exact .inr ⟨by omega, .inl (by omega)⟩
  · exact .inr ⟨by omega, .inr ⟨by omega, .inr ⟨rfl, h3⟩⟩⟩
theorem vld_push {k s : Nat} (hk : k < ps.length) {a : List Int} (v : Vld ps k (rst s (widA ps k)) a) : Vld ps k s ((k : Int) :: a) := by
  have := vld_ins hk (Nat.le_refl k) v
  rwa [insI_head fun y hy => (v.rg y hy).1] at this
/-- a cover from k on begins with k, or is one from k + 1 on -/
theorem vld_cases (G : Good ps) {k s : Nat} (hs : 0 < s) {l : List Int} (v : Vld ps k s l) : (∃ l', l = (k : Int) :: l') ∨ (Vld ps (k + 1) s l ∧ k + 1 < ps.length ∧ ∃ x l', l = x :: l' ∧ (k : Int) < x) := by
  cases l with
  | nil =>
    have := v.cv
    simp [covA] at this
    omega
  | cons x l =>
    by_cases e : x = k
    · exact .inl ⟨l, by rw [e]⟩
    · obtain ⟨v2, hx, x0, xn⟩ := vld_cons G.ins v
      refine .inr ⟨⟨v.st, fun y hy => ⟨?_, (v.rg y hy).2⟩, v.cv⟩, by omega, x, l, rfl, by omega⟩
      rcases List.mem_cons.mp hy with e | q
      · rw [e]; omega
      · have := hx y q
        omega
theorem vld_mono {k s : Nat} {l : List Int} (v : Vld ps (k + 1) s l) : Vld ps k s l := ⟨v.st, fun x hx => by have := v.rg x hx; omega, v.cv⟩
theorem tab_last (G : Good ps) {k s : Nat} (hs : 0 < s) (hk : k + 1 = ps.length) {p : Int × Int} (h : TabE ps k (rst s (widA ps k)) p) : TabE ps k s (p.1 + cstA ps k, p.2 + 1) := by
  obtain ⟨a, b, rfl⟩ := h
  refine ⟨(k : Int) :: a, ⟨vld_push (by omega) b.v, fun l v => ?_⟩, by rw [amtA_cons, List.length_cons]; simp; omega⟩
  rcases vld_cases G hs v with ⟨l', rfl⟩ | ⟨_, h, _⟩
  · exact bst_cons G (by omega) b v
  · omega
theorem btr_trans {a b c : List Int} (h1 : btr ps a b) (h2 : btr ps b c) : btr ps a c := by
  unfold btr at *
  rcases h1 with h1 | ⟨e1, h1⟩
  · rcases h2 with h2 | ⟨e2, _⟩ <;> exact .inl (by omega)
  · rcases h2 with h2 | ⟨e2, h2⟩
    · exact .inl (by omega)
    · exact .inr ⟨by omega, leLL_trans h1 h2⟩
theorem tab_step (G : Good ps) {k s : Nat} (hs : 0 < s) (hk : k + 1 < ps.length) {p q : Int × Int} (h : TabE ps k (rst s (widA ps k)) p) (h2 : TabE ps (k + 1) s q) :
    TabE ps k s (if ltP2 q (p.1 + cstA ps k, p.2 + 1) = true then q else (p.1 + cstA ps k, p.2 + 1)) := by
  obtain ⟨a, b, rfl⟩ := h
  obtain ⟨c, d, rfl⟩ := h2
  have va : Vld ps k s ((k : Int) :: a) := vld_push (by omega) b.v
  split
  · rename_i hlt
    have hlt := ltP2_iff.mp hlt
    simp only at hlt
    refine ⟨c, ⟨vld_mono d.v, fun l v => ?_⟩, rfl⟩
    rcases vld_cases G hs v with ⟨l', rfl⟩ | ⟨v', _, _⟩
    · refine btr_trans ?_ (bst_cons G (by omega) b v)
      unfold btr
      rw [amtA_cons, List.length_cons]
      rcases hlt with h | ⟨h1, h2⟩
      · exact .inl (by omega)
      · exact .inr ⟨by omega, .inl (by omega)⟩
    · exact d.b l v'
  · rename_i hlt
    have hlt : ¬ _ := fun z => hlt (ltP2_iff.mpr z)
    simp only at hlt
    refine ⟨(k : Int) :: a, ⟨va, fun l v => ?_⟩, by rw [amtA_cons, List.length_cons]; simp; omega⟩
    rcases vld_cases G hs v with ⟨l', rfl⟩ | ⟨v', _, _⟩
    · exact bst_cons G (by omega) b v
    · refine btr_trans ?_ (d.b l v')
      obtain ⟨x, c', rfl, hx⟩ : ∃ x c', c = x :: c' ∧ (k : Int) < x := by
        rcases vld_cases G hs (vld_mono d.v) with ⟨c', e⟩ | ⟨_, _, h⟩
        · have := d.v.rg k (by rw [e]; exact List.mem_cons_self)
          omega
        · exact h
      unfold btr
      rw [amtA_cons ps (k : Int), List.length_cons]
      rw [List.length_cons] at hlt ⊢
      by_cases z : cstA ps k + amtA ps a < amtA ps (x :: c')
      · exact .inl z
      · refine .inr ⟨by omega, ?_⟩
        by_cases z2 : a.length < c'.length
        · exact .inl (by omega)
        · exact .inr ⟨by omega, .inl hx⟩
/-! ### the walk along the tables -/
theorem walk_take (G : Good ps) {k s : Nat} (hs : 0 < s) (hk : k < ps.length) {g : List Int} (b : Bst ps k s g) {p q : Int × Int} (hp : TabE ps k (rst s (widA ps k)) p) (hq : TabE ps k s q) (e : (p.1 + cstA ps k, p.2 + 1) = q) :
    ∃ g', g = (k : Int) :: g' ∧ Bst ps k (rst s (widA ps k)) g' := by
  obtain ⟨a, ba, rfl⟩ := hp
  obtain ⟨c, bc, rfl⟩ := hq
  have ec := bc.uniq b
  subst ec
  have e1 := (Prod.mk.inj e).1
  have e2 := (Prod.mk.inj e).2
  simp only at e1 e2
  have h := b.b _ (vld_push hk ba.v)
  have hh : c = (k : Int) :: a := by
    rcases vld_cases G hs b.v with ⟨l', rfl⟩ | ⟨_, _, x, l', rfl, hx⟩
    · exact btr_antisymm h (bst_cons G hk ba b.v)
    · exfalso
      unfold btr at h
      rw [amtA_cons ps (k : Int), List.length_cons (as := a)] at h
      rcases h with h | ⟨_, h | ⟨_, h⟩⟩
      · omega
      · omega
      · rcases h with h | ⟨h, _⟩ <;> omega
  exact ⟨a, hh, ba⟩
theorem walk_skip (G : Good ps) {k s : Nat} (hs : 0 < s) (hk : k < ps.length) {g : List Int} (b : Bst ps k s g) {p q : Int × Int} (hp : TabE ps k (rst s (widA ps k)) p) (hq : TabE ps k s q) (e : (p.1 + cstA ps k, p.2 + 1) ≠ q) :
    Bst ps (k + 1) s g ∧ k + 1 < ps.length := by
  obtain ⟨a, ba, rfl⟩ := hp
  obtain ⟨c, bc, rfl⟩ := hq
  have ec := bc.uniq b
  subst ec
  rcases vld_cases G hs b.v with ⟨l', rfl⟩ | ⟨v, h, _⟩
  · have h1 := bst_cons G hk ba b.v
    have h2 := b.b _ (vld_push hk ba.v)
    have := btr_antisymm h1 h2
    exfalso
    apply e
    rw [← this, amtA_cons, List.length_cons]
    simp
    omega
  · exact ⟨⟨v, fun l w => b.b l (vld_mono w)⟩, h⟩
theorem walk_end (G : Good ps) {k : Nat} {g : List Int} (b : Bst ps k 0 g) : g = [] := b.uniq (bst_zero G k)
end
end FC

namespace FC
open PySem PySem.Spec PyProof.Rows L2

/-! ### the best cover is there -/
theorem least_of : ∀ (cs : List (List Int)), cs ≠ [] → ∃ b ∈ cs, ∀ c ∈ cs, leLL b c
  | [], h => absurd rfl h
  | [c], _ => ⟨c, List.mem_singleton.mpr rfl, fun d hd => by rw [List.mem_singleton.mp hd]; exact leLL_refl c⟩
  | c :: d :: cs, _ => by
    obtain ⟨b, hb, hm⟩ := least_of (d :: cs) (by simp)
    cases h : ltLL c b with
    | true => exact ⟨c, List.mem_cons_self, fun x hx => (List.mem_cons.mp hx).elim (fun e => by rw [e]; exact leLL_refl c) fun q => leLL_trans (leLL_lt h) (hm x q)⟩
    | false => exact ⟨b, List.mem_cons_of_mem _ hb, fun x hx => (List.mem_cons.mp hx).elim (fun e => by rw [e]; exact leLL_of h) fun q => hm x q⟩
section
variable {ps : List (Int × Int)}
theorem bst_ex (G : Good ps) : ∀ n : Nat, ∀ j, j ≤ n → ∃ l, Bst ps 0 j l ∧ amtA ps l = most ps j
  | 0, j, h => by
    obtain rfl : j = 0 := by omega
    exact ⟨[], bst_zero G 0, by rw [most_zero]; rfl⟩
  | n + 1, j, h => by
    by_cases hj : j ≤ n
    · exact bst_ex G n j hj
    · obtain rfl : j = n + 1 := by omega
      have ih := bst_ex G n
      let g : Nat → List Int := fun j => if h : j ≤ n then (ih j h).choose else []
      have hg : ∀ j, j ≤ n → Bst ps 0 j (g j) ∧ amtA ps (g j) = most ps j := fun j h => by
        have e : g j = (ih j h).choose := dif_pos h
        rw [e]
        exact (ih j h).choose_spec
      let cs := ((List.range ps.length).filter fun i : Nat => decide (cstA ps i + most ps (rst (n + 1) (widA ps i)) = most ps (n + 1))).map fun i : Nat => insI i (g (rst (n + 1) (widA ps i)))
      have ne : cs ≠ [] := by
        obtain ⟨p, hp, e⟩ := most_is G n
        obtain ⟨i, hi, rfl⟩ := List.getElem_of_mem hp
        obtain ⟨e1, e2⟩ := wid_at hi
        refine List.ne_nil_of_mem (List.mem_map.mpr ⟨i, List.mem_filter.mpr ⟨List.mem_range.mpr hi, decide_eq_true ?_⟩, rfl⟩)
        rw [e2, e]
        unfold rst
        rw [e1]
        congr 2
      obtain ⟨b, hb, hm⟩ := least_of cs ne
      obtain ⟨i, hi, rfl⟩ := List.mem_map.mp hb
      obtain ⟨hi1, hi2⟩ := List.mem_filter.mp hi
      have hi1 := List.mem_range.mp hi1
      have hi2 := of_decide_eq_true hi2
      obtain ⟨v, a⟩ := best_amt G hg hi1
      refine ⟨_, best_step G hg v (a.trans hi2) fun i' h1 h2 => ?_, a.trans hi2⟩
      exact hm _ (List.mem_map.mpr ⟨i', List.mem_filter.mpr ⟨List.mem_range.mpr h1, decide_eq_true h2⟩, rfl⟩)
/-- the reason for a length -/
noncomputable def resS (ps : List (Int × Int)) (n : Nat) : List Int := open Classical in if h : ∃ l, Bst ps 0 n l ∧ amtA ps l = most ps n then h.choose else []
theorem res_spec (G : Good ps) (n : Nat) : Bst ps 0 n (resS ps n) ∧ amtA ps (resS ps n) = most ps n := by
  have h := bst_ex G n n (Nat.le_refl n)
  unfold resS
  rw [dif_pos h]
  exact h.choose_spec
theorem res_len (G : Good ps) (n : Nat) : ((resS ps n).length : Int) ≤ 20 * n := by
  obtain ⟨b, a⟩ := res_spec G n
  have h1 := amt_ge G.ins (l := resS ps n) fun x hx => by have := b.v.rg x hx; omega
  have h2 := most_cap G n
  omega
theorem res_zero (G : Good ps) : resS ps 0 = [] := walk_end G (res_spec G 0).1
theorem res_in (G : Good ps) {n : Nat} {x : Int} (h : x ∈ resS ps n) : 0 ≤ x ∧ x < ps.length := by
  have := (res_spec G n).1.v.rg x h
  omega
/-- what the program looks for at a length: the best so far -/
structure BestTo (ps : List (Int × Int)) (k j : Nat) (b : List Int) : Prop where
  v : Vld ps 0 (k + 1) b
  a : amtA ps b = most ps (k + 1)
  l : ∀ i : Nat, i < j → i < ps.length → cstA ps i + most ps (rst (k + 1) (widA ps i)) = most ps (k + 1) → leLL b (insI i (resS ps (rst (k + 1) (widA ps i))))
def bestD : Option (List Int) → D | none => .non | some b => .tup (b.map D.int)
def BestO (ps : List (Int × Int)) (k j : Nat) : Option (List Int) → Prop
  | none => ∀ i : Nat, i < j → i < ps.length → cstA ps i + most ps (rst (k + 1) (widA ps i)) ≠ most ps (k + 1)
  | some b => BestTo ps k j b
theorem best_zero (k : Nat) : BestO ps k 0 none := fun i h => absurd h (Nat.not_lt_zero i)
theorem best_skip {k j : Nat} {o : Option (List Int)} (h : BestO ps k j o) (ht : cstA ps j + most ps (rst (k + 1) (widA ps j)) ≠ most ps (k + 1)) : BestO ps k (j + 1) o := by
  cases o with
  | none =>
    intro i h1 h2
    by_cases e : i = j
    · rw [e]; exact ht
    · exact h i (by omega) h2
  | some b =>
    refine ⟨h.v, h.a, fun i h1 h2 h3 => ?_⟩
    by_cases e : i = j
    · rw [e] at h3; exact absurd h3 ht
    · exact h.l i (by omega) h2 h3
theorem best_first (G : Good ps) {k j : Nat} (h : BestO ps k j none) (hj : j < ps.length) (ht : cstA ps j + most ps (rst (k + 1) (widA ps j)) = most ps (k + 1)) : BestO ps k (j + 1) (some (insI j (resS ps (rst (k + 1) (widA ps j))))) := by
  obtain ⟨v, a⟩ := best_amt (k := k) G (g := resS ps) (fun j _ => res_spec G j) hj
  exact ⟨v, a.trans ht, fun i h1 h2 h3 => by
    by_cases e : i = j
    · rw [e]; exact leLL_refl _
    · exact absurd h3 (h i (by omega) h2)⟩
theorem best_less (G : Good ps) {k j : Nat} {b : List Int} (h : BestO ps k j (some b)) (hj : j < ps.length) (ht : cstA ps j + most ps (rst (k + 1) (widA ps j)) = most ps (k + 1)) (hl : ltLL (insI j (resS ps (rst (k + 1) (widA ps j)))) b = true) :
    BestO ps k (j + 1) (some (insI j (resS ps (rst (k + 1) (widA ps j))))) := by
  obtain ⟨v, a⟩ := best_amt (k := k) G (g := resS ps) (fun j _ => res_spec G j) hj
  exact ⟨v, a.trans ht, fun i h1 h2 h3 => by
    by_cases e : i = j
    · rw [e]; exact leLL_refl _
    · exact leLL_trans (leLL_lt hl) (h.l i (by omega) h2 h3)⟩
theorem best_keep {k j : Nat} {b : List Int} (h : BestO ps k j (some b)) (hl : ltLL (insI j (resS ps (rst (k + 1) (widA ps j)))) b = false) : BestO ps k (j + 1) (some b) :=
  ⟨h.v, h.a, fun i h1 h2 h3 => by
    by_cases e : i = j
    · rw [e]; exact leLL_of hl
    · exact h.l i (by omega) h2 h3⟩
theorem best_end (G : Good ps) {k : Nat} {o : Option (List Int)} (h : BestO ps k ps.length o) : o = some (resS ps (k + 1)) := by
  cases o with
  | none =>
    obtain ⟨p, hp, e⟩ := most_is G k
    obtain ⟨i, hi, rfl⟩ := List.getElem_of_mem hp
    obtain ⟨e1, e2⟩ := wid_at hi
    exfalso
    refine h i hi hi ?_
    rw [e2, e]
    unfold rst
    rw [e1]
    congr 2
  | some b =>
    have := best_step (k := k) G (g := resS ps) (fun j _ => res_spec G j) h.v h.a fun i h1 h2 => h.l i h1 h1 h2
    rw [this.uniq (res_spec G (k + 1)).1]
end
theorem q_sortSnoc {l : List Int} (h : l.Pairwise (· ≤ ·)) (x : Int) : dSort (.tup (l.map D.int ++ [.int x])) = some (.lst ((insI x l).map D.int)) := by
  have e : l.map D.int ++ [D.int x] = (l ++ [x]).map D.int := by simp
  rw [e, q_sortT, srtI_snoc h]
end FC

namespace FC
open PySem PySem.Spec PyProof.Rows L2

/-! ### o == o' by the own __eq__ -/
section
variable {C : Ct} {W : WX} {X : Cx} {m p q m1 p1 m2 p2 : Bool} {a b e' e : Expr} {es : List Expr} {fa fb : F D} {fo : F AV} {fr : F (List AV)} {x : Str} {pn pos : Pos} {i : Nat}
theorem fx_eqO {k c : Nat} {f : Addr} {N : List Str} {b' : F Fl} (he : FV C W q X e fo) (hb : FX C W true p X b fb) (sp : Spe X.K (C.cl c) "__eq__" f) (Fn : FnP X C k f N 2 b') (hr : RoomG k X.A) (tk : Takes X W) (hN : 2 ≤ N.length := by decide) : FX C W true false X (.Compare e [.Eq] [b] pos) (fAddO c N.length b' fo fb) := by
  refine PE.imp (t := fun σ H Q => tFV C W q fo σ H fun x H1 => ∃ a dx fs, x = .ref a ∧ H1 a = some (.ins (C.cl c) dx fs) ∧ tF C W true p fb σ H1 fun y H2 => (∃ dx' fs', H2 a = some (.ins (C.cl c) dx' fs')) ∧ (∃ a2 dx2 fs2, y = .ref a2 ∧ H2 a2 = some (.ins (C.cl c) dx2 fs2)) ∧ spF C N 2 b' [x, y] H2 Q (WE W σ)) ⟨fun pins s σ H Q I h => ?_⟩ fun σ H Q h => add_te hN h
  refine wpAny_Compare1 (thn (he.run pins s σ H _ I h) fun u s1 ⟨x, H1, I1, rx, o, dx, fs, ex, eo, q1⟩ => thn (hb.run pins s1 σ H1 _ I1 q1) fun v s2 ⟨y, H2, I2, ry, ⟨dx', fs', eo'⟩, ⟨o2, dx2, fs2, ey, eo2⟩, q2⟩ => ?_) (nomark _)
  subst ex ey
  cases (show u = Value.ref o from rx)
  cases (show v = Value.ref o2 from ry)
  obtain ⟨mA, O, _⟩ := ins_get I2.hok eo'
  obtain ⟨od, J, _⟩ := O.look
  obtain ⟨mA2, O2, _⟩ := ins_get I2.hok eo2
  obtain ⟨od2, J2, _⟩ := O2.look
  obtain ⟨m0, hF⟩ := I2.fr
  refine PySem.W.cmp_K (op := .Eq) hr.r.units0 hF I2.ok.mod.kin J J2.type (by simp [PySem.W.notFirst]) sp.at_ sp.fn (thn (wpAny_call (run_fnRS (us := [.ref o, .ref o2]) (vs := [.ref o, .ref o2]) (E := WE W) Fn hr (passAt tk σ) I2 (.cons rfl (.cons rfl .nil)) q2)) fun w s3 hv => ?_)
  obtain ⟨v', H3, I3, rv, q3⟩ := hv
  exact cmpBack_of rv ⟨v', H3, I3, rv, q3⟩
/-! ### x in o by the own __contains__ -/
def fInO (c N : Nat) (b : F Fl) (fa fb : F D) : F D := F.bind fa fun x => F.bind fb fun d γ2 => match d with
  | .ins c2 fs => if c2 = c then F.bind (callR N b [.d (.ins c2 fs), .d x]) (fun r γ => .ok r.1.d γ) γ2 else .st
  | _ => .st
theorem in_te {N : List Str} {c : Nat} {b : F Fl} {σ : L2.St} {H : Hp} {Q : VK} (hN : 2 ≤ N.length) (h : tF C W true false (fInO c N.length b fa fb) σ H Q) :
    tF C W true p1 fa σ H fun x H1 => tF C W true p2 fb σ H1 fun y H2 => (∃ a2 dx2 fs2, y = .ref a2 ∧ H2 a2 = some (.ins (C.cl c) dx2 fs2)) ∧ spF C N 2 b [y, x] H2 Q (WE W σ) := by
  obtain ⟨pens, M, γ, E, h⟩ := h
  refine ⟨pens, M, γ, E, ?_⟩
  unfold fInO at h
  cases ea : fa γ with
  | st => rw [bind_st ea] at h; exact h
  | ex x g => rw [bind_ex ea] at h; exact h
  | ok x γ1 =>
    rw [bind_ok ea] at h
    intro v1 H1 S1 P1 r1
    refine ⟨pens, M, γ1, S1.env, ?_⟩
    cases eb : fb γ1 with
    | st => rw [bind_st eb] at h; exact h
    | ex x γ' => rw [bind_ex eb] at h; exact fun cls d H' S2 re => h cls d H' (S1.trans S2) re
    | ok d γ2 =>
      rw [bind_ok eb] at h
      cases d with
      | ins c2 fs2 =>
        simp only at h
        split at h
        case isFalse => exact h.elim
        rename_i hz
        subst hz
        intro v2 H2 S2 P2 r2
        have k2 := S2.keep
        have r2 : Rep C M H2 v2 (.ins c2 fs2) := r2
        have r1a : AOk C M H1 σ γ1 v1 (.d x) := r1
        have r1' : AOk C M H2 σ γ2 v1 (.d x) := r1a.later (vs := []) (as := []) S1.env k2 S2.pat (fun _ z => .inl z) (fun _ z => nomatch z) (fun o z => by cases z)
        have ef : freshA [v2, v1] [.d (.ins c2 fs2), .d x] = [] := by cases v1 <;> cases v2 <;> rfl
        have A2 : AsOk C M H H2 σ γ2 [v2, v1] [.d (.ins c2 fs2), .d x] := ⟨.cons r2 (.cons r1' .nil), by rw [ef]; exact List.nodup_nil, fun b hb => by rw [ef] at hb; cases hb⟩
        obtain ⟨a2, dx2, vf2, e1, e2, _⟩ := (SRep.rep r2).insH
        refine ⟨⟨a2, dx2, vf2, e1, e2⟩, call_sp (M := M) (M1 := M) (as := [.d (.ins c2 fs2), .d x]) rfl hN E S2.env (S1.keep.trans (k2.mono fun _ z => S1.pat.symm.Own z)) (S1.pat.trans S2.pat) (fun _ z => z) (fun _ z => .inl z) A2 ?_⟩
        cases ek : callR N.length b [.d (.ins c2 fs2), .d x] γ2 with
        | st => rw [bind_st ek] at h; exact h
        | ex e γ3 => rw [bind_ex ek] at h; exact h
        | ok r γ3 =>
          rw [bind_ok ek] at h
          intro v H' M' af rr
          obtain ⟨S, r2⟩ := af.rep E rr
          exact h v H' S (fun z => by cases z) r2
      | _ => exact h.elim
def dBlR : D → Option D | .bl y => some (.bl y) | _ => none
theorem op1_blR : Op1 C (fun x H Q => ∃ y : Bool, x = .bl y ∧ Q (.bl y) H) dBlR := fun M H x dx d Q hd sx e k => by
  cases dx with
  | bl y => cases e; exact ⟨y, sx.blH, k _ H (Keep.refl _ _) (.bl y)⟩
  | _ => cases e
theorem fx_inO {k c : Nat} {f : Addr} {N : List Str} {b' : F Fl} (ha : FX C W true p1 X a fa) (hb : FX C W true p2 X b fb) (sp : Spe X.K (C.cl c) "__contains__" f) (Fn : FnP X C k f N 2 b') (hr : RoomG k X.A) (tk : Takes X W) (hN : 2 ≤ N.length := by decide) (hmk : behindInMarks .In b = false := by rfl) : FX C W true false X (.Compare a [.In] [b] pos) (f1 dBlR (fInO c N.length b' fa fb)) := by
  refine PE.imp (t := fun σ H Q => tF C W true p1 fa σ H fun x H1 => tF C W true p2 fb σ H1 fun y H2 => (∃ a2 dx2 fs2, y = .ref a2 ∧ H2 a2 = some (.ins (C.cl c) dx2 fs2)) ∧ spF C N 2 b' [y, x] H2 (fun v H3 => ∃ z : Bool, v = .bl z ∧ Q (.bl z) H3) (WE W σ)) ⟨fun pins s σ H Q I h => ?_⟩ fun σ H Q h => in_te hN (tF_f1 (m := true) (p := false) op1_blR h)
  refine wpAny_Compare1 (thn (ha.run pins s σ H _ I h) fun u s1 ⟨x, H1, I1, rx, q1⟩ => thn (hb.run pins s1 σ H1 _ I1 q1) fun v s2 ⟨y, H2, I2, ry, ⟨o2, dx2, fs2, ey, eo2⟩, q2⟩ => ?_) hmk
  subst ey
  cases (show v = Value.ref o2 from ry)
  obtain ⟨mA2, O2, _⟩ := ins_get I2.hok eo2
  obtain ⟨od2, J2, _⟩ := O2.look
  obtain ⟨m0, hF⟩ := I2.fr
  refine PySem.W.in_K hF I2.ok.mod.kin J2 sp.at_ sp.fn (thn (wpAny_call (run_fnRS (us := [.ref o2, u]) (vs := [.ref o2, x]) (E := WE W) Fn hr (passAt tk σ) I2 (.cons rfl (.cons rx .nil)) q2)) fun w s3 hv => ?_)
  obtain ⟨v', H3, I3, rv, z, rfl, q3⟩ := hv
  cases (show w = Value.bool z from rv)
  exact wpAny_truthy_bool ⟨.bl z, H3, I3, rfl, q3⟩
theorem tF_bl {σ : L2.St} {H : Hp} {Q : Bool → Hp → Prop} (h : tFB C W p (f1 dBl fa) σ H Q) : tF C W m p fa σ H (fun x H1 => ∃ k : Bool, x = .bl k ∧ Q k H1) := by
  obtain ⟨pens, M, γ, E, h⟩ := h
  refine ⟨pens, M, γ, E, ?_⟩
  unfold f1 F.bind at h
  cases ea : fa γ with
  | st => rw [ea] at h; exact h
  | ex e γ' => rw [ea] at h; exact h
  | ok d γ1 =>
    rw [ea] at h
    intro v H1 S1 P1 r1
    simp only [liftO] at h
    cases d with
    | bl k => exact ⟨k, (r1.s).blH, h H1 S1 P1⟩
    | _ => exact h.elim
theorem ft_inO {k c : Nat} {f : Addr} {N : List Str} {b' : F Fl} (ha : FX C W true p1 X a fa) (hb : FX C W true p2 X b fb) (sp : Spe X.K (C.cl c) "__contains__" f) (Fn : FnP X C k f N 2 b') (hr : RoomG k X.A) (tk : Takes X W) (hN : 2 ≤ N.length := by decide) (hmk : behindInMarks .In b = false := by rfl) : FT C W false X (.Compare a [.In] [b] pos) (f1 dBl (fInO c N.length b' fa fb)) := by
  refine PT.imp (t := fun σ H Q => tF C W true p1 fa σ H fun x H1 => tF C W true p2 fb σ H1 fun y H2 => (∃ a2 dx2 fs2, y = .ref a2 ∧ H2 a2 = some (.ins (C.cl c) dx2 fs2)) ∧ spF C N 2 b' [y, x] H2 (fun v H3 => ∃ z : Bool, v = .bl z ∧ Q z H3) (WE W σ)) ⟨fun pins s σ H Q I h => ?_⟩ fun σ H Q h => in_te hN (tF_bl (m := true) h)
  refine wpAny_isTrue_Compare1 (thn (ha.run pins s σ H _ I h) fun u s1 ⟨x, H1, I1, rx, q1⟩ => thn (hb.run pins s1 σ H1 _ I1 q1) fun v s2 ⟨y, H2, I2, ry, ⟨o2, dx2, fs2, ey, eo2⟩, q2⟩ => ?_) hmk
  subst ey
  cases (show v = Value.ref o2 from ry)
  obtain ⟨mA2, O2, _⟩ := ins_get I2.hok eo2
  obtain ⟨od2, J2, _⟩ := O2.look
  obtain ⟨m0, hF⟩ := I2.fr
  refine PySem.W.in_K hF I2.ok.mod.kin J2 sp.at_ sp.fn (thn (wpAny_call (run_fnRS (us := [.ref o2, u]) (vs := [.ref o2, x]) (E := WE W) Fn hr (passAt tk σ) I2 (.cons rfl (.cons rx .nil)) q2)) fun w s3 hv => ?_)
  obtain ⟨v', H3, I3, rv, z, rfl, q3⟩ := hv
  cases (show w = Value.bool z from rv)
  exact wpAny_truthy_bool (wpAny_truthy_bool ⟨H3, I3, q3⟩)
end
end FC

namespace FC
open PySem PySem.Spec PyProof.Rows L2

/-! ### more limits, fewer limits -/
section
variable {ps qs : List (Int × Int)}
theorem most_sub (G : Good ps) (H : Good qs) (h : ∀ q ∈ qs, q ∈ ps) : ∀ n k : Nat, k ≤ n → most ps k ≤ most qs k
  | 0, k, hk => by
    obtain rfl : k = 0 := by omega
    rw [most_zero, most_zero]
    exact Int.le_refl _
  | n + 1, k, hk => by
    cases k with
    | zero => rw [most_zero, most_zero]; exact Int.le_refl _
    | succ k =>
      obtain ⟨q, hq, e⟩ := most_is H k
      have a := most_le G k (h q hq)
      obtain ⟨q1, _⟩ := H.ins q hq
      have b := most_sub G H h n ((k : Int) + 1 - q.1).toNat (by omega)
      omega
theorem most_fol (G : Good ps) (H : Good qs) {p : Int × Int} (hp : In20 p) (hf : most qs p.1.toNat ≤ p.2) (h : ∀ q ∈ ps, q ∈ qs ∨ q = p) : ∀ n k : Nat, k ≤ n → most qs k ≤ most ps k
  | 0, k, hk => by
    obtain rfl : k = 0 := by omega
    rw [most_zero, most_zero]
    exact Int.le_refl _
  | n + 1, k, hk => by
    cases k with
    | zero => rw [most_zero, most_zero]; exact Int.le_refl _
    | succ k =>
      obtain ⟨q, hq, e⟩ := most_is G k
      obtain ⟨q1, _⟩ := G.ins q hq
      have b := most_fol G H hp hf h n ((k : Int) + 1 - q.1).toNat (by omega)
      rcases h q hq with z | rfl
      · have a := most_le H k z
        omega
      · have c := most_add H q.1.toNat ((k : Int) + 1 - q.1).toNat
        have d := most_mono H (a := k + 1) (b := q.1.toNat + ((k : Int) + 1 - q.1).toNat) (by omega)
        omega
theorem most_folE (G : Good ps) (H : Good qs) {p : Int × Int} (hp : In20 p) (hf : most qs p.1.toNat ≤ p.2) (h : ∀ q ∈ ps, q ∈ qs ∨ q = p) (h2 : ∀ q ∈ qs, q ∈ ps) (n : Nat) : most ps n = most qs n :=
  Int.le_antisymm (most_sub G H h2 n n (Nat.le_refl n)) (most_fol G H hp hf h n n (Nat.le_refl n))
abbrev woP (ps : List (Int × Int)) (p : Int × Int) : List (Int × Int) := ps.filter fun q => !decide (q = p)
theorem mem_wo {p q : Int × Int} : q ∈ woP ps p ↔ q ∈ ps ∧ q ≠ p := by simp [woP]
theorem step_most (G : Good ps) (p : Int × Int) (n : Nat) : most (shortStep ps p) n = most ps n := by
  unfold shortStep
  split
  · rename_i h
    by_cases hp : p ∈ ps
    · refine (most_folE (p := p) G (good_filter G h.1) (G.ins p hp) (of_decide_eq_true h.2) (fun q hq => ?_) (fun q hq => (mem_wo.mp hq).1) n).symm
      by_cases e : q = p
      · exact .inr e
      · exact .inl (mem_wo.mpr ⟨hq, e⟩)
    · have e : woP ps p = ps := List.filter_eq_self.mpr fun q hq => by
        have : q ≠ p := fun z => hp (by rw [← z]; exact hq)
        simp [this]
      rw [show ps.filter (fun q => !decide (q = p)) = ps from e]
  · rfl
theorem foldl_most : ∀ (qs : List (Int × Int)) {ps : List (Int × Int)}, Good ps → ∀ n, most (qs.foldl shortStep ps) n = most ps n
  | [], _, _, _ => rfl
  | q :: qs, ps, G, n => (foldl_most qs (good_shortStep G q) n).trans (step_most G q n)
theorem short_most (G : Good ps) (n : Nat) : most (shortS ps) n = most ps n := foldl_most _ G n
theorem step_mem {p q : Int × Int} (h : q ∈ shortStep ps p) : q ∈ ps := by
  unfold shortStep at h
  split at h
  · exact (List.mem_filter.mp h).1
  · exact h
theorem foldl_mem : ∀ (qs : List (Int × Int)) {ps : List (Int × Int)} {x : Int × Int}, x ∈ qs.foldl shortStep ps → x ∈ ps
  | [], _, _, h => h
  | q :: qs, ps, x, h => step_mem (foldl_mem qs (show x ∈ qs.foldl shortStep (shortStep ps q) from h))
theorem rest_free : ∀ (qs : List (Int × Int)) {ps : List (Int × Int)}, Good ps → ∀ p ∈ qs, p ∈ qs.foldl shortStep ps → woP (qs.foldl shortStep ps) p ≠ [] → folS (woP (qs.foldl shortStep ps) p) p = false
  | [], _, _, p, h, _, _ => nomatch h
  | q :: qs, ps, G, p, h, hm, ne => by
    have hm : p ∈ qs.foldl shortStep (shortStep ps q) := hm
    show folS (woP (qs.foldl shortStep (shortStep ps q)) p) p = false
    have ne : woP (qs.foldl shortStep (shortStep ps q)) p ≠ [] := ne
    by_cases hq : p ∈ qs
    · exact rest_free qs (good_shortStep G q) p hq hm ne
    · obtain rfl : p = q := by
        rcases List.mem_cons.mp h with e | e
        · exact e
        · exact absurd e hq
      have hs : p ∈ shortStep ps p := foldl_mem qs hm
      have sub : ∀ x ∈ woP (qs.foldl shortStep (shortStep ps p)) p, x ∈ woP ps p := fun x hx => by
        obtain ⟨h1, h2⟩ := mem_wo.mp hx
        exact mem_wo.mpr ⟨step_mem (foldl_mem qs h1), h2⟩
      have ne2 : woP ps p ≠ [] := by
        obtain ⟨x, hx⟩ := List.exists_mem_of_ne_nil _ ne
        exact List.ne_nil_of_mem (sub x hx)
      have R : Good (woP (qs.foldl shortStep (shortStep ps p)) p) := good_filter (good_foldl (good_shortStep G p) qs) ne
      have K : Good (woP ps p) := good_filter G ne2
      have big := most_sub K R sub p.1.toNat p.1.toNat (Nat.le_refl _)
      have nf : folS (woP ps p) p = false := by
        cases e : folS (woP ps p) p with
        | false => rfl
        | true =>
          exfalso
          unfold shortStep at hs
          rw [if_pos ⟨ne2, e⟩] at hs
          exact (mem_wo.mp hs).2 rfl
      unfold folS at nf ⊢
      have := of_decide_eq_false nf
      exact decide_eq_false (by omega)
theorem short_free (G : Good ps) {p : Int × Int} (h : p ∈ shortS ps) (ne : woP (shortS ps) p ≠ []) : folS (woP (shortS ps) p) p = false :=
  rest_free ps.reverse G p (List.mem_reverse.mpr (foldl_mem _ h)) h ne
theorem short_idem (G : Good ps) : shortS (shortS ps) = shortS ps := by
  have st : ∀ p ∈ shortS ps, shortStep (shortS ps) p = shortS ps := fun p hp => by
    unfold shortStep
    rw [if_neg]
    rintro ⟨ne, hf⟩
    rw [show folS ((shortS ps).filter fun q => !decide (q = p)) p = false from short_free G hp ne] at hf
    cases hf
  have go : ∀ qs : List (Int × Int), (∀ q ∈ qs, q ∈ shortS ps) → qs.foldl shortStep (shortS ps) = shortS ps := fun qs => by
    induction qs with
    | nil => exact fun _ => rfl
    | cons q qs ih =>
      intro h
      rw [List.foldl_cons, st q (h q List.mem_cons_self)]
      exact ih fun x hx => h x (List.mem_cons_of_mem _ hx)
  exact go _ fun q hq => List.mem_reverse.mp hq
theorem foldl_filter : ∀ (qs ps : List (Int × Int)), ∃ f : Int × Int → Bool, qs.foldl shortStep ps = ps.filter f
  | [], ps => ⟨fun _ => true, (List.filter_eq_self.mpr fun _ _ => rfl).symm⟩
  | q :: qs, ps => by
    obtain ⟨f, e⟩ := foldl_filter qs (shortStep ps q)
    rw [List.foldl_cons, e]
    unfold shortStep
    split
    · exact ⟨_, List.filter_filter ..⟩
    · exact ⟨f, rfl⟩
theorem short_filter : ps.filter (fun p => decide (p ∈ shortS ps)) = shortS ps := by
  obtain ⟨f, e⟩ := foldl_filter ps.reverse ps
  have e : shortS ps = ps.filter f := e
  rw [e]
  refine List.filter_congr fun x hx => ?_
  cases h : f x <;> simp [hx, h]
theorem good_short (G : Good ps) : Good (shortS ps) := good_foldl G _
theorem insF_none {full : Nat → List Int} : ∀ {qs : List (Int × Int)} {k : Nat}, (∀ q ∈ qs, folS ps q = true) → insF ps full k qs = .non
  | [], _, _ => rfl
  | q :: qs, k, h => by
    unfold insF
    rw [if_pos (h q List.mem_cons_self)]
    exact insF_none fun x hx => h x (List.mem_cons_of_mem _ hx)
theorem fol_own (G : Good ps) {p : Int × Int} (h : p ∈ ps) : folS ps p = true := decide_eq_true (most_one G h)
end
end FC

namespace FC
open PySem PySem.Spec PyProof.Rows L2

/-! ### calls by keyword -/
/-- the items at these places -/
def pickL {α : Type} (π : List Nat) (l : List α) : List α := π.filterMap fun i => l[i]?
theorem vals_pick {l : List V} {us : List Value} (r : Vals l us) : ∀ π : List Nat, Vals (pickL π l) (pickL π us)
  | [] => .nil
  | i :: π => by
    have ih := vals_pick r π
    unfold pickL at ih ⊢
    cases e : l[i]? with
    | none =>
      have e2 : us[i]? = none := by
        rw [List.getElem?_eq_none_iff] at e ⊢
        rw [← r.length]
        exact e
      rw [List.filterMap_cons_none e, List.filterMap_cons_none e2]
      exact ih
    | some x =>
      obtain ⟨u, e2, q⟩ := r.get e
      rw [List.filterMap_cons_some e, List.filterMap_cons_some e2]
      exact .cons q ih
theorem repL_pick {C : Ct} {M : Addr → Prop} {H : Hp} {vs : List V} {ds : List D} (r : RepL C M H vs ds) : ∀ π : List Nat, RepL C M H (pickL π vs) (pickL π ds)
  | [] => .nil
  | i :: π => by
    have ih := repL_pick r π
    unfold pickL at ih ⊢
    cases e : ds[i]? with
    | none =>
      have e2 : vs[i]? = none := by
        rw [List.getElem?_eq_none_iff] at e ⊢
        rw [r.length]
        exact e
      rw [List.filterMap_cons_none e, List.filterMap_cons_none e2]
      exact ih
    | some x =>
      obtain ⟨u, e2, q⟩ := r.get e
      rw [List.filterMap_cons_some e, List.filterMap_cons_some e2]
      exact .cons q ih
theorem pick_one {α : Type} {a z : α} : pickL [0, 1] ([a] ++ [z]) = [a, z] := rfl
/-- what a def promises where np arguments stand by place and the others by the names ks -/
def FnK (P : Program) (w : World) (K : PySem.W.Frag) (mg : Str → Option Value) (base : Heap) (CX : CXT) (k : Nat) (f : Addr) (ks : List Str) (np : Nat) (π : List Nat) (sp : Sp) : Prop :=
  ∀ (A : Around) (out : List Env) (s : Shared) (H : Hp) (us : List Value) (vs : List V) (ws : List Value) (zs : List V) (Q : VK) (E : XK), RoomG k A → Env0 P w K mg base A out s H → Vals vs us → Vals zs ws → vs.length = np → zs.length = ks.length →
    sp (pickL π (vs ++ zs)) H Q E → codeAny (model P w) A (.call (.ref f) ⟨us, ks.zip ws⟩) (CR CX out P w H s Q E) s
theorem bnd_args {CX : CXT} {P : Program} {w : World} {K : PySem.W.Frag} {mg : Str → Option Value} {base : Heap} {fd : FuncData} {args : Args} {ps : List Str} {A : Around} {out : List Env} {s : Shared} {H : Hp} {E : XK} {us : List Value} {vs : List V} (hb : BindsTo s fd args (ps.zip us)) (e0 : Env0 P w K mg base A out s H) (r : Vals vs us) (hl : vs.length = ps.length) :
    StX.Bnd CX P w K mg base fd args ps A out s H E fun xs H2 => xs = vs ∧ H2 = H := fun A' Ex Q q => hb _ A' Ex Q (q s H vs us e0 Un.refl rfl (fun _ _ x => x) r hl ⟨rfl, rfl⟩)
theorem fnK_ok {C : Ct} {P : Program} {w : World} {K : PySem.W.Frag} {mg : Str → Option Value} {base : Heap} {y qual : Str} {params : Arguments} {body : List Stmt} {scope : Scope} {f : Addr} {fd : FuncData} {N ps ks : List Str} {np : Nat} {π : List Nat} {k : Nat} {b : F Fl} (Fd : FunD K y qual params body scope [] [] f fd) (S : FnScope N ps scope)
    (hb : ∀ (kV doc pm : Value) (an : Option Addr) (cdv ct : Value) (us ws : List Value), us.length = np → ws.length = ks.length → bindArgs (PySem.W.fnOf y qual params body scope .none kV doc pm an cdv ct) ⟨us, ks.zip ws⟩ = pure (ps.zip (pickL π (us ++ ws))))
    (hbody : ∀ (cdv : Value) (A : Around) (outer : List Env) (s : Shared) (H : Hp) (E : XK), RoomG k (A.deeper (envOfC qual scope s.heap.objs.size f cdv)) → FSs C (WofE E) (bcx P w K mg base N qual scope f cdv A outer s H E) body b) :
    FnK P w K mg base (L2.CX P w) (k + 1) f ks np π (spF C N ps.length b) := by
  obtain ⟨oc, od, dV, kV, doc, pm, an, cdv, ct, osl, rfl, lk, hcd, hD, _⟩ := Fd.ex
  have eD : dV = .none := hD.elim (fun z => z.2) fun z => (z.1 rfl).elim
  subst eD
  intro A out s H us vs ws zs Q E hr e0 r rz l1 l2 hsp
  have hb2 : BindsTo s (PySem.W.fnOf y qual params body scope .none kV doc pm an cdv ct) ⟨us, ks.zip ws⟩ (ps.zip (pickL π (us ++ ws))) := .of_eq (hb kV doc pm an cdv ct us ws (r.length.symm.trans l1) (rz.length.symm.trans l2))
  refine StX.run_bnd lk hcd S hr.r e0 (bnd_args hb2 e0 (vals_pick (r.append rz) π) hsp.1) fun s2 H2 xs ⟨ex, eh⟩ hr2 => ?_
  subst ex eh
  exact ⟨_, hbody cdv A out s2 _ E ⟨hr2, hr.g⟩, hsp.2⟩
theorem run_fnKS {X : Cx} {CX : CXT} {k np : Nat} {f : Addr} {ks : List Str} {π : List Nat} {sp : Sp} {E : L2.St → XK} {Q : VK} {us ws : List Value} {vs zs : List V} {pins : List (Addr × Obj)} {σ : L2.St} {H : Hp} {s : Shared} (F : FnK X.prog X.w X.K X.mg X.base CX k f ks np π sp) (hr : RoomG k X.A) (hx : PassesAt CX X σ (E σ)) (I : Inv X pins σ H s) (r : Vals vs us) (rz : Vals zs ws) (l1 : vs.length = np) (l2 : zs.length = ks.length) (h : sp (pickL π (vs ++ zs)) H Q (E σ)) :
    codeAny (model X.prog X.w) X.A (.call (.ref f) ⟨us, ks.zip ws⟩) (fun r s' => match r with | .ok (.ret v) => EP X pins σ Q v s' | .ok _ => False | .error e => X.xe e s') s := by
  refine codeAny_mono (F X.A X.stack s H us vs ws zs Q (E σ) hr I.env0 r rz l1 l2 h) fun r s' hq => ?_
  match r, hq with
  | .error e, hq => exact hx pins H s e s' I hq
  | .ok (.ret u), hq => exact I.after hq
  | .ok .next, hq => exact hq.elim
  | .ok .brk, hq => exact hq.elim
  | .ok .cont, hq => exact hq.elim

/-! ### keywords as arguments -/
def FK (C : Ct) (W : WX) (p : Bool) (X : Cx) (kws : List Keyword) (f : F (List AV)) : Prop := PK X kws (tFA C W p f)
theorem PK.imp {X : Cx} {kws : List Keyword} {t t' : TA} (h : PK X kws t) (k : ∀ σ H Q, t' σ H Q → t σ H Q) : PK X kws t' := ⟨fun pos pins s σ H Q I q => h.run pos pins s σ H Q I (k σ H Q q)⟩
section
variable {C : Ct} {W : WX} {X : Cx} {m p m1 p1 m2 p2 m3 p3 : Bool} {a b c e' : Expr} {fa fb fc : F D} {fr : F (List AV)} {pos kpos pn apos : Pos} {e : Expr} {es : List Expr} {kws : List Keyword} {nm : Option Str} {x mt : Str}
theorem fk_nil : FK C W true X [] aNil := PK.imp pk_nil fun σ H Q ⟨pens, M, γ, E, h⟩ => h [] H M E (Keep.refl _ _) rfl (fun _ => ⟨rfl, Keep.refl _ _⟩) (fun _ z => z) (fun _ z => .inl z) ⟨.nil, List.nodup_nil, fun _ z => nomatch z⟩
theorem fk_val (he : FX C W true p1 X e fa) (hr : FK C W p2 X kws fr) : FK C W (p1 && p2) X (⟨nm, e, kpos⟩ :: kws) (aVal fa fr) := by
  refine PK.imp (pk_cons he hr) fun σ H Q ⟨pens, M, γ, E, h⟩ => ⟨pens, M, γ, E, ?_⟩
  unfold aVal at h
  cases ea : fa γ with
  | st => rw [bind_st ea] at h; exact h
  | ex x γ' => rw [bind_ex ea] at h; exact fun cls d H' S re => h cls d H' M S.env S.keep S.pat (fun _ z => z) (fun _ z => .inl z) re
  | ok d γ1 =>
    rw [bind_ok ea] at h
    intro v H1 S1 P1 r1
    refine ⟨pens, M, γ1, S1.env, ?_⟩
    cases eb : fr γ1 with
    | st => rw [bind_st eb] at h; exact h
    | ex x γ' =>
      rw [bind_ex eb] at h
      intro cls dd H' M' E' k' pt' up dn re
      refine h cls dd H' M' E' (S1.keep.trans (k'.mono fun _ z => S1.pat.symm.Own z)) (S1.pat.trans pt') up (fun a z => (dn a z).elim .inl fun q => ?_) re
      by_cases o : Own γ σ a
      · exact .inl (E.ownM o).1
      · exact .inr (S1.keep.free q o)
    | ok as γ2 =>
      rw [bind_ok eb] at h
      intro vs H2 M2 E2 k2 pt2 P2 up dn A
      have fH : ∀ a ∈ freshA vs as, H a = none := fun a ha => S1.keep.free (A.fr a ha) fun o => Own.tracked S1.env (A.fr a ha) (S1.pat.Own o)
      have F12 := stepM S1.env k2 dn A.fr
      have ef : freshA (v :: vs) (.d d :: as) = freshA vs as := by cases v <;> rfl
      refine h (v :: vs) H2 M2 E2 (S1.keep.trans (k2.mono fun _ z => S1.pat.symm.Own z)) (S1.pat.trans pt2) (purity P1 P2) up (fun a z => by rw [ef]; exact dn a z) ⟨.cons (show AOk C M2 H2 σ γ2 v (.d d) from Rep.fine F12 r1) A.ok, by rw [ef]; exact A.nd, fun a ha => by rw [ef] at ha; exact fH a ha⟩

/-- data in another order -/
def aPerm (π : List Nat) (fr : F (List AV)) : F (List AV) := F.bind fr fun as => F.bind (liftO (allD as)) fun ds γ => .ok ((pickL π ds).map AV.d) γ
theorem paired_data {M : Addr → Prop} {H : Hp} {σ : L2.St} {γ : Gm} : ∀ {ds : List D} {vs : List V}, RepL C M H vs ds → Paired (AOk C M H σ γ) vs (ds.map AV.d)
  | [], _, .nil => .nil
  | _ :: _, _, .cons r t => .cons r (paired_data t)
theorem perm_te {m : Nat} {π : List Nat} {σ : L2.St} {H : Hp} {R : List V → Hp → Prop} (hl : ArgsN m fr) (h : tFA C W p (aPerm π fr) σ H R) : tFA C W p fr σ H fun vs H1 => vs.length = m ∧ R (pickL π vs) H1 := by
  obtain ⟨pens, M, γ, E, h⟩ := h
  refine ⟨pens, M, γ, E, ?_⟩
  unfold aPerm at h
  cases ea : fr γ with
  | st => rw [bind_st ea] at h; exact h
  | ex x γ' => rw [bind_ex ea] at h; exact h
  | ok as γ1 =>
    rw [bind_ok ea] at h
    cases eb : allD as with
    | none => rw [bind_st (liftO_none eb _)] at h; exact h.elim
    | some ds =>
      rw [bind_ok (liftO_some eb _)] at h
      refine aftA_all E eb fun vs H1 S1 P1 r1 => ⟨by rw [hl _ _ _ ea, r1.length, allD_eq eb, List.length_map], ?_⟩
      have r2 := repL_pick r1 π
      refine h (pickL π vs) H1 M S1.env S1.keep S1.pat P1 (fun _ z => z) (fun _ z => .inl z) ⟨paired_data r2, by rw [freshA_all]; exact List.nodup_nil, fun a ha => by rw [freshA_all] at ha; cases ha⟩
theorem an_perm {n m : Nat} {π : List Nat} (hl : ArgsN m fr) (hp : ∀ i ∈ π, i < m) (hn : n = π.length) : ArgsN n (aPerm π fr) := fun γ as γ1 e => by
  unfold aPerm at e
  cases ea : fr γ with
  | st => rw [bind_st ea] at e; cases e
  | ex x γ' => rw [bind_ex ea] at e; cases e
  | ok bs γ1 =>
    rw [bind_ok ea] at e
    cases eb : allD bs with
    | none => rw [bind_st (liftO_none eb _)] at e; cases e
    | some ds =>
      rw [bind_ok (liftO_some eb _)] at e
      cases e
      have hd : ds.length = m := by rw [hl _ _ _ ea, allD_eq eb, List.length_map]
      rw [List.length_map, hn]
      clear hn
      induction π with
      | nil => rfl
      | cons i π ih =>
        have hi : i < ds.length := by rw [hd]; exact hp i List.mem_cons_self
        unfold pickL at ih ⊢
        rw [List.filterMap_cons_some (List.getElem?_eq_getElem hi), List.length_cons, List.length_cons, ih fun j hj => hp j (List.mem_cons_of_mem _ hj)]
theorem fx_defK {k n m : Nat} {f : Addr} {N ks : List Str} {π : List Nat} {b : F Fl} (Fn : FnK X.prog X.w X.K X.mg X.base (L2.CX X.prog X.w) k f ks 0 π (spF C N n b)) (hr : RoomG k X.A) (hg : Gl X x) (hm : X.mg x = some (.ref f)) (hk : PySem.W.keepIn X.K (.ref f) = true) (tk : Takes X W)
    (ha : FK C W p X kws fr) (hl : ArgsN m fr) (hm2 : m = ks.length := by rfl) (hp : ∀ i ∈ π, i < m := by decide) (hn : n = π.length := by rfl) (hN : n ≤ N.length := by decide) (hdb : (x == ("__debug__" : Str)) = false := by decide)
    (hall : (backToKw pos (keywordEach kws X.env)).all (·.1.isSome) = true := by rfl) (hks : (backToKw pos (keywordEach kws X.env)).filterMap (·.1) = ks := by rfl) (hpl : ((backTo pos (starEach [] X.env)).any (·.1) || (backToKw pos (keywordEach kws X.env)).any (·.1.isNone)) = false := by rfl) :
    FX C W true false X (.Call (.Name x pn) [] kws pos) (fCall N.length b (aPerm π fr)) := by
  refine ⟨fun pins s σ H Q I h => ?_⟩
  refine wpAny_Call_Name_kw (ld_glob I hg hm ?_ hdb)
  refine PySem.W.callWith_KW0 (h₀ := X.base) I.ok.mod.kin hk hall ?_ hpl
  refine thn (ha.run pos pins s σ H _ I (perm_te (p := p) hl (call_te (an_perm hl hp hn) hN h))) fun ws s2 ⟨zs, H2, I2, rz, l2, q2⟩ => ⟨I2.kIn, ?_⟩
  rw [hks]
  exact wpAny_call (run_fnKS (us := []) (vs := []) (E := WE W) Fn hr (passAt tk σ) I2 .nil rz rfl (l2.trans hm2) q2)
/-- C.m(k = v, ..), m a classmethod -/
theorem fx_cmethK {k n m c : Nat} {g pr : Addr} {mc : Value} {N ks : List Str} {π : List Nat} {b : F Fl} {pl : Sem Bool} (hm : X.mg x = some (.ref (C.cl c))) (hg : Gl X x) (r : ClX.CRead X.K (C.cl c) mc) (cm : ClX.CMet X.K (C.cl c) mc mt pr g) (Fn : FnK X.prog X.w X.K X.mg X.base (L2.CX X.prog X.w) k g ks 1 π (spF C N n b)) (hr : RoomG k X.A) (tk : Takes X W)
    (ha : FK C W p X kws fr) (hl : ArgsN m fr) (hm2 : m = ks.length := by rfl) (hp : ∀ i ∈ π, i < m + 1 := by decide) (hn : n = π.length := by rfl) (hN : n ≤ N.length := by decide) (hdb : (x == ("__debug__" : Str)) = false := by decide)
    (hall : (backToKw pos (keywordEach kws X.env)).all (·.1.isSome) = true := by rfl) (hks : (backToKw pos (keywordEach kws X.env)).filterMap (·.1) = ks := by rfl) (hpl : ((backTo pos (starEach [] X.env)).any (·.1) || (backToKw pos (keywordEach kws X.env)).any (·.1.isNone)) = false := by rfl)
    (ht : eval (.Call (.Attribute (.Name x pn) mt apos) [] kws pos) X.env = (do
      let ov ← eval (.Name x pn) X.env
      standAt apos.atName
      let (f, first) ← holding [ov] (getMethod ov mt pl)
      callWith pos f first (backTo pos (starEach [] X.env)) (backToKw pos (keywordEach kws X.env))) := by rfl) :
    FX C W true false X (.Call (.Attribute (.Name x pn) mt apos) [] kws pos) (fCall N.length b (aPerm π (aCls c fr))) := by
  refine PE.imp (t := fun σ H Q => tFA C W p fr σ H fun vs H1 => vs.length = m ∧ spF C N n b (pickL π ([.ref (C.cl c)] ++ vs)) H1 Q (WE W σ)) ⟨fun pins s σ H Q I h => ?_⟩ fun σ H Q h => tFA.mono (cls_te (perm_te (p := p) (an_cls hl) (call_te (an_perm (an_cls hl) hp hn) hN h))) fun vs H1 z => ⟨by simpa using z.1, z.2⟩
  refine PySem.W.methodCall_KW (pl := pl) (thn ((pe_glob (v := .ref (C.cl c)) (pos := pn) hg hm rfl hdb).run pins s σ H (fun v H1 => v = .ref (C.cl c) ∧ tFA C W p fr σ H1 fun vs H1 => vs.length = m ∧ spF C N n b (pickL π ([.ref (C.cl c)] ++ vs)) H1 Q (WE W σ)) I ⟨rfl, h⟩) fun u s1 ⟨y, H1, I1, ry, ey, q⟩ => ?_) ht
  subst ey
  cases (show u = Value.ref (C.cl c) from ry)
  refine ClX.getmethcm_ok I1 r cm fun s2 I2 => ?_
  refine PySem.W.callWith_of (P := PySem.W.MethP X.K s1.heap.objs.size g (.ref (C.cl c))) hpl (PySem.W.keeps_M cm.fi) (evalArgs_kw2_nil hall (thn (ha.run pos _ s2 σ H1 _ I2 q) fun us s3 ⟨vs, H2, I3, rv, l2, q2⟩ => ⟨⟨ClX.pin_at I3, I3.kIn⟩, ?_⟩))
  rw [hks]
  have z := wpAny_call (PySem.W.method_call (ClX.pin_at I3) (run_fnKS (us := [.ref (C.cl c)]) (vs := [.ref (C.cl c)]) (E := WE W) Fn hr (passAt tk σ) I3 (.cons rfl .nil) rv rfl (l2.trans hm2) q2))
  exact thn z fun _ _ y => ClX.unpinE y

/-! ### static methods -/
structure SMet (K : PySem.W.Frag) (Ca : Addr) (mc : Value) (m : Str) (g : Addr) : Prop where
  at_ : ∃ p, PySem.W.findCls K (.ref Ca) mc m = some (.get (.builtin "staticmethod.__get__") (.ref p) .none (.ref Ca)) ∧ ∃ rest, PySem.W.recIn K p "staticmethod" = some (.ref g :: rest)
  kp : PySem.W.keepIn K (.ref g) = true
theorem getsm_ok {pins : List (Addr × Obj)} {σ : L2.St} {H : Hp} {s : Shared} {Ca g : Addr} {mc : Value} {A : Around} {E : Value → Shared → Prop} {pl : Sem Bool} {Q : Value × List Value → Shared → Prop} (I : Inv X pins σ H s) (r : ClX.CRead X.K Ca mc) (k : SMet X.K Ca mc mt g) (h : ∀ s', Inv X pins σ H s' → Q (.ref g, []) s') : wpAny (model X.prog X.w) A (getMethod (.ref Ca) mt pl) Q E s := by
  obtain ⟨p, e, rest, hp⟩ := k.at_
  refine PySem.W.method_cls I.kIn r.ga (PySem.W.cls_bind I.kIn r.rd e (wpAny_call (PySem.W.sm_get (s := { s with toks := s.toks + 1 }) I.kIn hp (PySem.W.handed_on rfl (h _ (I.tok _))))))
/-- C.m(e, ..), m a staticmethod -/
theorem fx_smeth {k c n : Nat} {g : Addr} {mc : Value} {N : List Str} {b : F Fl} {pl : Sem Bool} (hm : X.mg x = some (.ref (C.cl c))) (hg : Gl X x) (r : ClX.CRead X.K (C.cl c) mc) (cm : SMet X.K (C.cl c) mc mt g) (Fn : FnP X C k g N n b) (hr : RoomG k X.A) (tk : Takes X W)
    (ha : FA C W p X (a :: es) fr) (hn : ArgsN n fr) (hN : n ≤ N.length := by decide) (hdb : (x == ("__debug__" : Str)) = false := by decide) (hst : starEach (a :: es) X.env = (false, eval a X.env) :: starEach es X.env := by rfl) (hpl : (backTo pos (starEach es X.env)).any (·.1) = false := by rfl)
    (ht : eval (.Call (.Attribute (.Name x pn) mt apos) (a :: es) [] pos) X.env = (do
      let ov ← eval (.Name x pn) X.env
      standAt apos.atName
      let (f, first) ← holding [ov] (getMethod ov mt pl)
      callWith pos f first (backTo pos (starEach (a :: es) X.env)) (backToKw pos (keywordEach [] X.env))) := by rfl) :
    FX C W true false X (.Call (.Attribute (.Name x pn) mt apos) (a :: es) [] pos) (fCall N.length b fr) := by
  refine PE.imp (t := fun σ H Q => tFA C W p fr σ H fun vs H1 => spF C N n b vs H1 Q (WE W σ)) ⟨fun pins s σ H Q I h => ?_⟩ fun σ H Q h => call_te hn hN h
  refine PySem.W.methodCall_KW (pl := pl) (thn ((pe_glob (v := .ref (C.cl c)) (pos := pn) hg hm rfl hdb).run pins s σ H (fun v H1 => v = .ref (C.cl c) ∧ tFA C W p fr σ H1 fun vs H1 => spF C N n b vs H1 Q (WE W σ)) I ⟨rfl, h⟩) fun u s1 ⟨y, H1, I1, ry, ey, q⟩ => ?_) ht
  subst ey
  cases (show u = Value.ref (C.cl c) from ry)
  refine getsm_ok I1 r cm fun s2 I2 => ?_
  refine PySem.W.callWith_K (h₀ := X.base) I.ok.mod.kin cm.kp (thn (ha.run pos pins s2 σ H1 _ I2 q) fun us s3 ⟨vs, H2, I3, rv, q2⟩ => ⟨I3.kIn, ?_⟩) hst hpl
  exact wpAny_call (run_fnRS (E := WE W) Fn hr (passAt tk σ) I3 rv q2)
/-- C.m(k = v, ..), m a staticmethod -/
theorem fx_smethK {k c n m : Nat} {g : Addr} {mc : Value} {N ks : List Str} {π : List Nat} {b : F Fl} {pl : Sem Bool} (hm : X.mg x = some (.ref (C.cl c))) (hg : Gl X x) (r : ClX.CRead X.K (C.cl c) mc) (cm : SMet X.K (C.cl c) mc mt g) (Fn : FnK X.prog X.w X.K X.mg X.base (L2.CX X.prog X.w) k g ks 0 π (spF C N n b)) (hr : RoomG k X.A) (tk : Takes X W)
    (ha : FK C W p X kws fr) (hl : ArgsN m fr) (hm2 : m = ks.length := by rfl) (hp : ∀ i ∈ π, i < m := by decide) (hn : n = π.length := by rfl) (hN : n ≤ N.length := by decide) (hdb : (x == ("__debug__" : Str)) = false := by decide)
    (hall : (backToKw pos (keywordEach kws X.env)).all (·.1.isSome) = true := by rfl) (hks : (backToKw pos (keywordEach kws X.env)).filterMap (·.1) = ks := by rfl) (hpl : ((backTo pos (starEach [] X.env)).any (·.1) || (backToKw pos (keywordEach kws X.env)).any (·.1.isNone)) = false := by rfl)
    (ht : eval (.Call (.Attribute (.Name x pn) mt apos) [] kws pos) X.env = (do
      let ov ← eval (.Name x pn) X.env
      standAt apos.atName
      let (f, first) ← holding [ov] (getMethod ov mt pl)
      callWith pos f first (backTo pos (starEach [] X.env)) (backToKw pos (keywordEach kws X.env))) := by rfl) :
    FX C W true false X (.Call (.Attribute (.Name x pn) mt apos) [] kws pos) (fCall N.length b (aPerm π fr)) := by
  refine PE.imp (t := fun σ H Q => tFA C W p fr σ H fun vs H1 => vs.length = m ∧ spF C N n b (pickL π vs) H1 Q (WE W σ)) ⟨fun pins s σ H Q I h => ?_⟩ fun σ H Q h => perm_te (p := p) hl (call_te (an_perm hl hp hn) hN h)
  refine PySem.W.methodCall_KW (pl := pl) (thn ((pe_glob (v := .ref (C.cl c)) (pos := pn) hg hm rfl hdb).run pins s σ H (fun v H1 => v = .ref (C.cl c) ∧ tFA C W p fr σ H1 fun vs H1 => vs.length = m ∧ spF C N n b (pickL π vs) H1 Q (WE W σ)) I ⟨rfl, h⟩) fun u s1 ⟨y, H1, I1, ry, ey, q⟩ => ?_) ht
  subst ey
  cases (show u = Value.ref (C.cl c) from ry)
  refine getsm_ok I1 r cm fun s2 I2 => ?_
  refine PySem.W.callWith_KW0 (h₀ := X.base) I.ok.mod.kin cm.kp hall ?_ hpl
  refine thn (ha.run pos pins s2 σ H1 _ I2 q) fun ws s3 ⟨zs, H2, I3, rz, l2, q2⟩ => ⟨I3.kIn, ?_⟩
  rw [hks]
  exact wpAny_call (run_fnKS (us := []) (vs := []) (E := WE W) Fn hr (passAt tk σ) I3 .nil rz rfl (l2.trans hm2) q2)
theorem callO_ofK {M : Model} {A : Around} {E : Value → Shared → Prop} {s : Shared} {a : Addr} {pos : Pos} {Q : Value → Shared → Prop} {args : List (Bool × Sem Value)} {kw : List (Option Str × Sem Value)} (hplain : (args.any (·.1) || kw.any (·.1.isNone)) = false)
    (h : wpAny M A (evalArgs (.ref a) true args kw) (fun z s₁ => (∃ C ox od, PySem.W.InstAt s₁.heap a ox C od ∧ ox.data = .plain) ∧ wpAny M A (call (.ref a) ([] ++ z.pos) z.kw) Q E s₁) E s) : wpAny M A (callWith pos (.ref a) [] args kw) Q E s := by
  unfold callWith
  refine wpAny_bind (wpAny_holding (wpAny_mono h (fun z s₁ h₁ => wpAny_bind (wpAny_standAt ?_)) fun _ _ y => y))
  obtain ⟨⟨C, ox, od, J, hd⟩, h₁⟩ := h₁
  have L := PySem.W.kco_keeper (M := M) J hd
  simp only [hplain]
  refine wpAny_bind (L.here ?_)
  have tail : ∀ {t : Sem Value}, wpAny M A t Q E s₁ → wpAny M A (t >>= fun r => holding [r] point >>= fun _ => pure r) Q E s₁ :=
    fun ht => wpAny_bind (wpAny_mono ht (fun r s₂ hr => wpAny_bind (wpAny_holding (wpAny_point (wpAny_pure hr)))) fun _ _ y => y)
  exact tail (wpAny_operateT h₁)
/-- o(k = v), o an instance that is called -/
theorem fx_callOK {k c : Nat} {f : Addr} {N : List Str} {kn : Str} {b : F Fl} {fo : F AV} {q : Bool} (he : FV C W q X e fo) (cl : StX.CallO X.K (C.cl c) f) (Fn : FnK X.prog X.w X.K X.mg X.base (L2.CX X.prog X.w) k f [kn] 1 [0, 1] (spF C N 2 b)) (hr : RoomG k X.A) (tk : Takes X W)
    (ha : FK C W p X kws fr) (hn : ArgsN 1 fr) (hN : 2 ≤ N.length := by decide)
    (hall : (backToKw pos (keywordEach kws X.env)).all (·.1.isSome) = true := by rfl) (hks : (backToKw pos (keywordEach kws X.env)).filterMap (·.1) = [kn] := by rfl) (hpl : ((backTo pos (starEach [] X.env)).any (·.1) || (backToKw pos (keywordEach kws X.env)).any (·.1.isNone)) = false := by rfl)
    (ht : eval (.Call e [] kws pos) X.env = (do callWith pos (← eval e X.env) [] (backTo pos (starEach [] X.env)) (backToKw pos (keywordEach kws X.env))) := by rfl) :
    FX C W true false X (.Call e [] kws pos) (fMth c ("" : Str) N.length b fo fr) := by
  have mk : PE X (.Call e [] kws pos) (fun σ H Q => tFV C W q fo σ H fun y H1 => ∃ o, y = .ref o ∧ tFA C W p fr σ H1 fun vs H2 => StX.InsC X H2 o (C.cl c) ∧ vs.length = 1 ∧ spF C N 2 b (.ref o :: vs) H2 Q (WE W σ)) := by
    refine ⟨fun pins s σ H Q I h => ?_⟩
    rw [ht]
    refine wpAny_bind (thn (he.run pins s σ H _ I h) fun u s1 ⟨y, H1, I1, ry, o, ey, q⟩ => ?_)
    subst ey
    have eu : u = Value.ref o := ry
    subst eu
    refine callO_ofK hpl (evalArgs_kw2_nil hall (thn (ha.run pos pins s1 σ H1 _ I1 q) fun ws s2 ⟨zs, H2, I2, rz, hi, l2, q2⟩ => ?_))
    obtain ⟨ox, od, J, hd⟩ := StX.insC_at I2 hi
    refine ⟨⟨_, ox, od, J, hd⟩, ?_⟩
    rw [hks]
    have q3 : spF C N 2 b (pickL [0, 1] ([.ref o] ++ zs)) H2 Q (WE W σ) := by
      match zs, l2, q2 with
      | [z], _, q2 => exact q2
    exact wpAny_call (PySem.W.kco_code I2.kIn J hd cl.at_ cl.fn cl.fi (run_fnKS (us := [.ref o]) (vs := [.ref o]) (E := WE W) Fn hr (passAt tk σ) I2 (.cons rfl .nil) rz rfl (by simpa using l2) q3))
  refine PE.imp mk fun σ H Q h => tFV.mono (meth_te (p := p) hn hN h) fun v H1 ⟨a, dx, fs, e1, e2, e3, t⟩ => ⟨a, e1, ?_⟩
  obtain ⟨pens, M, γ, E, t⟩ := t
  refine ⟨pens, M, γ, E, ?_⟩
  cases ea : fr γ with
  | st => rw [ea] at t; exact t
  | ex x g => rw [ea] at t; exact t
  | ok as g =>
    rw [ea] at t
    intro vs H' M' a1 a2 a3 a4 a5 a6 a7
    have z := t vs H' M' a1 a2 a3 a4 a5 a6 a7
    exact ⟨.inr z.1, by rw [Paired.length a7.ok, ← hn _ _ _ ea], by rw [← e1]; exact z.2⟩
/-- a list and a list: a new list of one's own -/
def gAddL : D → D → Option (List D)
  | .lst xs, .lst ys => if xs.length + ys.length ≤ sizeLine then some (xs ++ ys) else none
  | _, _ => none
theorem op2N_addL : Op2N C (rAddA X.K) gAddL := fun M H x y dx dy zs Q sx sy e k => by
  cases dx with
  | lst xs => cases dy with
    | lst ys =>
      simp only [gAddL] at e
      split at e
      · rename_i hz
        cases e
        obtain ⟨a, vs, rfl, ha, ra⟩ := sx.lstH
        obtain ⟨b, ws, rfl, hb, rb⟩ := sy.lstH
        exact .inr (.inl ⟨a, b, vs, ws, rfl, rfl, ha, hb, by rw [ra.length, rb.length]; exact hz, fun p hp => k p _ hp (ra.append rb)⟩)
      · cases e
    | _ => cases e
  | _ => cases dy <;> cases e
theorem fn_addL (ha : FX C W m1 p1 X a fa) (hb : FX C W m2 p2 X b fb) (hm : (m1 || p2) = true := by rfl) : FN C W (p1 && p2) X (.BinOp a .Add b pos) (n2 gAddL fa fb) := fn2 (r := rAddA X.K) ha hb (fun ta tb h1 h2 => pe_op op_addA h1 h2) op2N_addL hm
theorem wp_n2 {γ : Gm} {E : Ex → Gm → Prop} {gg : D → D → Option (List D)} {Q : MO → Gm → Prop} (h : Wp (fa γ) (fun x g => Wp (fb g) (fun y g2 => ∃ z, gg x y = some z ∧ Q (.lst z) g2) E) E) : Wp (n2 gg fa fb γ) Q E := by
  unfold n2
  refine wp_f2 (h.imp fun x g h => h.imp fun y g2 ⟨z, e, q⟩ => ⟨.lst z, by rw [e]; rfl, q⟩)
theorem wp_aPerm {γ : Gm} {E : Ex → Gm → Prop} {π : List Nat} {Q : List AV → Gm → Prop} (h : Wp (fr γ) (fun as g => ∃ ds, allD as = some ds ∧ Q ((pickL π ds).map AV.d) g) E) : Wp (aPerm π fr γ) Q E :=
  wp_bind (h.imp fun _ _ ⟨_, e, q⟩ => wp_bind (wp_lift e ⟨q⟩))
end
def smB (K : PySem.W.Frag) (Ca : Addr) (mn : Str) : Bool := He5.wrapB K Ca "staticmethod" "staticmethod.__get__" mn && PySem.W.keepIn K (.ref (He5.wf K Ca "staticmethod" mn))
theorem sread_of {K : PySem.W.Frag} {Ca : Addr} {mn : Str} (h : smB K Ca mn = true) : SMet K Ca (.type "type") mn (He5.wf K Ca "staticmethod" mn) := by
  obtain ⟨h1, h2⟩ := He5.wrapB_ok (He.ba h).1
  exact ⟨⟨_, h1, h2⟩, (He.ba h).2⟩
end FC

namespace FC
open PySem PySem.Spec PyProof.Rows L2

/-! ### the greatest length within a sum -/
def rchS (ps : List (Int × Int)) : Nat → List Int
  | 0 => [0]
  | n + 1 => rchS ps n ++ [maxI ((rchS ps n).getD n 0 :: (ps.filter fun p => decide (p.2 ≤ (n : Int) + 1)).map fun p => (rchS ps n).getD ((n : Int) + 1 - p.2).toNat 0 + p.1)]
theorem rchS_length (ps : List (Int × Int)) : ∀ n, (rchS ps n).length = n + 1
  | 0 => rfl
  | n + 1 => by simp [rchS, rchS_length ps n]
def rch (ps : List (Int × Int)) (n : Nat) : Int := (rchS ps n).getD n 0
theorem rchS_get (ps : List (Int × Int)) {k : Nat} : ∀ {n : Nat}, k ≤ n → (rchS ps n).getD k 0 = rch ps k
  | 0, h => by
    have : k = 0 := by omega
    subst this; rfl
  | n + 1, h => by
    by_cases e : k = n + 1
    · subst e; rfl
    · have hk : k ≤ n := by omega
      rw [← rchS_get ps hk, rchS]
      simp only [List.getD_eq_getElem?_getD]
      rw [List.getElem?_append_left (by rw [rchS_length]; omega)]
theorem rch_zero (ps : List (Int × Int)) : rch ps 0 = 0 := rfl
theorem rch_last (ps : List (Int × Int)) (n : Nat) : rchS ps (n + 1) = rchS ps n ++ [rch ps (n + 1)] := by
  have e : rch ps (n + 1) = maxI ((rchS ps n).getD n 0 :: (ps.filter fun p => decide (p.2 ≤ (n : Int) + 1)).map fun p => (rchS ps n).getD ((n : Int) + 1 - p.2).toNat 0 + p.1) := by
    unfold rch
    rw [rchS, List.getD_eq_getElem?_getD, List.getElem?_append_right (by rw [rchS_length]; omega), rchS_length]
    simp
  rw [e]
  rfl
theorem rch_succ {ps : List (Int × Int)} (hp : ∀ p ∈ ps, In20 p) (n : Nat) : rch ps (n + 1) = maxI (rch ps n :: (ps.filter fun p => decide (p.2 ≤ (n : Int) + 1)).map fun p => rch ps ((n : Int) + 1 - p.2).toNat + p.1) := by
  have e : rch ps (n + 1) = maxI ((rchS ps n).getD n 0 :: (ps.filter fun p => decide (p.2 ≤ (n : Int) + 1)).map fun p => (rchS ps n).getD ((n : Int) + 1 - p.2).toNat 0 + p.1) := by
    unfold rch
    rw [rchS, List.getD_eq_getElem?_getD, List.getElem?_append_right (by rw [rchS_length]; omega), rchS_length]
    simp
  rw [e]
  congr 2
  refine List.map_congr_left fun p h => ?_
  obtain ⟨_, _, h3, _⟩ := hp p (List.mem_filter.mp h).1
  rw [rchS_get ps (by omega)]
section
variable {ps : List (Int × Int)}
theorem rch_ge1 (G : Good ps) (n : Nat) : rch ps n ≤ rch ps (n + 1) := by
  rw [rch_succ G.ins]
  exact (maxI_spec (by simp)).2 _ List.mem_cons_self
theorem rch_ge2 (G : Good ps) (n : Nat) {p : Int × Int} (h : p ∈ ps) (hp : p.2 ≤ (n : Int) + 1) : rch ps ((n : Int) + 1 - p.2).toNat + p.1 ≤ rch ps (n + 1) := by
  rw [rch_succ G.ins n]
  exact (maxI_spec (by simp)).2 _ (List.mem_cons_of_mem _ (List.mem_map.mpr ⟨p, List.mem_filter.mpr ⟨h, decide_eq_true hp⟩, rfl⟩))
theorem rch_is (G : Good ps) (n : Nat) : rch ps (n + 1) = rch ps n ∨ ∃ p ∈ ps, p.2 ≤ (n : Int) + 1 ∧ rch ps (n + 1) = rch ps ((n : Int) + 1 - p.2).toNat + p.1 := by
  rw [rch_succ G.ins n]
  rcases List.mem_cons.mp (maxI_spec (ns := rch ps n :: (ps.filter fun p => decide (p.2 ≤ (n : Int) + 1)).map fun p => rch ps ((n : Int) + 1 - p.2).toNat + p.1) (by simp)).1 with e | e
  · exact .inl e
  · obtain ⟨p, h, e⟩ := List.mem_map.mp e
    obtain ⟨h1, h2⟩ := List.mem_filter.mp h
    exact .inr ⟨p, h1, of_decide_eq_true h2, e.symm⟩
theorem rch_nonneg (G : Good ps) : ∀ n, 0 ≤ rch ps n
  | 0 => Int.le_refl _
  | n + 1 => Int.le_trans (rch_nonneg G n) (rch_ge1 G n)
theorem rch_most (G : Good ps) : ∀ t : Nat, most ps (rch ps t).toNat ≤ t := fun t => by
  induction t using Nat.strongRecOn with
  | _ t ih =>
    cases t with
    | zero => exact Int.le_refl _
    | succ t =>
      rcases rch_is G t with e | ⟨p, h, hp, e⟩
      · rw [e]
        have := ih t (by omega)
        omega
      · obtain ⟨h1, _, h3, _⟩ := G.ins p h
        have i := ih ((t : Int) + 1 - p.2).toNat (by omega)
        have n0 := rch_nonneg G ((t : Int) + 1 - p.2).toNat
        have a := most_add G (rch ps ((t : Int) + 1 - p.2).toNat).toNat p.1.toNat
        have o := most_one G h
        rw [e, show (rch ps ((t : Int) + 1 - p.2).toNat + p.1).toNat = (rch ps ((t : Int) + 1 - p.2).toNat).toNat + p.1.toNat by omega]
        omega
theorem rch_ge (G : Good ps) : ∀ l t : Nat, most ps l ≤ t → (l : Int) ≤ rch ps t := fun l => by
  induction l using Nat.strongRecOn with
  | _ l ih =>
    intro t ht
    cases l with
    | zero => exact rch_nonneg G t
    | succ l =>
      obtain ⟨p, h, e⟩ := most_is G l
      obtain ⟨h1, _, h3, _⟩ := G.ins p h
      have n0 := most_nonneg G ((l : Int) + 1 - p.1).toNat
      cases t with
      | zero => omega
      | succ t =>
        have i := ih ((l : Int) + 1 - p.1).toNat (by omega) ((t : Int) + 1 - p.2).toNat (by omega)
        have := rch_ge2 G t h (by omega)
        omega
theorem rch_iff (G : Good ps) (l t : Nat) : (l : Int) ≤ rch ps t ↔ most ps l ≤ t := by
  refine ⟨fun h => ?_, rch_ge G l t⟩
  have := most_mono G (show l ≤ (rch ps t).toNat by omega)
  have := rch_most G t
  omega
/-- the bound -/
def bndP (l : Nat) (p : Int × Int) : Int := p.2 * (((l : Int) + p.1 - 1) / p.1)
def bndI (ps : List (Int × Int)) (l : Nat) : Int := minI (ps.map (bndP l))
theorem bnd_spec (G : Good ps) {l : Nat} (hl : l ≤ 1000) : most ps l ≤ bndI ps l ∧ bndI ps l ≤ 20400 := by
  obtain ⟨p, h, e⟩ := List.mem_map.mp (minI_spec (ns := ps.map (bndP l)) (by simpa using G.ne)).1
  obtain ⟨h1, h2, h3, h4⟩ := G.ins p h
  unfold bndI
  rw [← e]
  unfold bndP
  generalize hc : ((l : Int) + p.1 - 1) / p.1 = c
  have hm : p.1 * c + ((l : Int) + p.1 - 1) % p.1 = (l : Int) + p.1 - 1 := by rw [← hc]; exact Int.mul_ediv_add_emod _ _
  have r1 := Int.emod_lt_of_pos ((l : Int) + p.1 - 1) (show 0 < p.1 by omega)
  have r0 := Int.emod_nonneg ((l : Int) + p.1 - 1) (show p.1 ≠ 0 by omega)
  have c0 : 0 ≤ c := by rw [← hc]; exact Int.ediv_nonneg (by omega) (by omega)
  have cl : c ≤ (l : Int) + p.1 - 1 := by
    rw [← hc]
    exact Int.ediv_le_self _ (by omega)
  constructor
  · have t := most_times G h c.toNat
    have m := most_mono G (show l ≤ p.1.toNat * c.toNat by
      have e1 : ((p.1.toNat * c.toNat : Nat) : Int) = p.1 * c := by
        push_cast
        rw [Int.toNat_of_nonneg (by omega), Int.toNat_of_nonneg c0]
      have : (l : Int) ≤ p.1 * c := by omega
      omega)
    rw [Int.toNat_of_nonneg c0] at t
    omega
  · have : p.2 * c ≤ 20 * c := Int.mul_le_mul_of_nonneg_right h4 c0
    omega
/-- what is kept of the table -/
def keepR (l : Nat) (d : D) : Bool := match d with
  | .tup [.int _, .int f] => decide ((l : Int) ≤ f)
  | _ => false
def fstD (d : D) : D := match d with
  | .tup [x, _] => x
  | _ => .non
theorem rch_first (G : Good ps) (l : Nat) : ∀ n : Nat, ((n : Int) < most ps l → (enumD ((rchS ps n).map D.int)).filter (keepR l) = []) ∧
    (most ps l ≤ n → ∃ r, (enumD ((rchS ps n).map D.int)).filter (keepR l) = .tup [.int (most ps l), .int (rch ps (most ps l).toNat)] :: r)
  | 0 => by
    have e : (enumD ((rchS ps 0).map D.int)) = [.tup [.int 0, .int 0]] := rfl
    have i := rch_iff G l 0
    rw [rch_zero] at i
    have n0 := most_nonneg G l
    rw [e]
    constructor
    · intro h
      have : ¬ (l : Int) ≤ 0 := fun z => by have := i.mp z; omega
      have t2 : l ≠ 0 := by omega
      simp [keepR, t2]
    · intro h
      have e0 : most ps l = 0 := by omega
      have : (l : Int) ≤ 0 := i.mpr (by omega)
      have t2 : l = 0 := by omega
      refine ⟨[], ?_⟩
      rw [e0]
      simp [keepR, t2, rch_zero]
  | n + 1 => by
    obtain ⟨h1, h2⟩ := rch_first G l n
    have i := rch_iff G l (n + 1)
    have n0 := most_nonneg G l
    have ee : enumD ((rchS ps (n + 1)).map D.int) = enumD ((rchS ps n).map D.int) ++ [.tup [.int ((n + 1 : Nat) : Int), .int (rch ps (n + 1))]] := by
      rw [rch_last, List.map_append, List.map_singleton, enum_snoc, List.length_map, rchS_length]
    rw [ee, List.filter_append]
    constructor
    · intro h
      rw [h1 (by omega)]
      have : ¬ (l : Int) ≤ rch ps (n + 1) := fun z => by have := i.mp z; omega
      simp [keepR, this]
    · intro h
      by_cases c : most ps l ≤ n
      · obtain ⟨r, e⟩ := h2 c
        rw [e]
        exact ⟨_, rfl⟩
      · rw [h1 (by omega)]
        have em : most ps l = ((n + 1 : Nat) : Int) := by omega
        have hh : (l : Int) ≤ rch ps (n + 1) := i.mpr h
        refine ⟨[], ?_⟩
        rw [em, Int.toNat_natCast]
        simp [keepR, hh]
end
end FC

namespace FC
open PySem PySem.Spec PyProof.Rows L2

/-! ### a lambda is made -/
abbrev lamO (X : Cx) (params : Arguments) (body : Expr) (scope : Scope) (pm : Value) (c' : Addr) (ctv : Value) : Obj := PySem.W.kla_obj "<lambda>" (X.env.qual ++ "<lambda>") params body scope (cloFrom X.env.cells scope.names []) pm c' ctv
section
variable {X : Cx} {pins : List (Addr × Obj)} {σ : L2.St} {H : Hp} {s : Shared}
theorem keep_tbl {P c' : Addr} {q : Str} {ps qs : Array Value} (eP : H P = some (.tbl ps)) (e0 : H c' = none) (N : Addr → Prop) : Keep (.of N) H (upd (upd H P (.tbl qs)) c' (LamX.CodeO c' q)) := fun a o e _ => by
  rw [upd_ne (ne_of_none e e0)]
  by_cases z : a = P
  · subst z
    rw [eP] at e
    cases e
    exact ⟨fun t => (by cases t), fun _ => ⟨_, upd_same, rfl, trivial⟩⟩
  · rw [upd_ne z]
    exact ⟨fun _ => e, fun t => ⟨o, e, t, trivial⟩⟩
theorem lam_new {T : List (Addr × Str)} {c P : Addr} {params : Arguments} {body : Expr} {scope : Scope} {pos : Pos} {E : Value → Shared → Prop} {Q : Value → Shared → Prop} (I : Inv X pins σ H s) (tb : LamX.TabB X.base X.mg c P) (ec : X.env.code = .ref c)
    (inT : (P, X.env.qual ++ "<lambda>") ∈ T) (one : ∀ p ∈ T, p.1 = P → p.2 = X.env.qual ++ "<lambda>") (tt : LamX.Tabs T H) (nd : defaultsOf params X.env = ([], [])) (fr : ∀ y ∈ scope.names, y.2 = .free → ∃ c, X.env.cells.lookup y.1 = some c)
    (go : ∀ (f c' : Addr) (pm ctv : Value) (H1 : Hp) (s1 : Shared), Inv X pins σ H1 s1 → (∀ N : Addr → Prop, Keep (.of N) H H1) → (∀ b o, H b = some o → isTbl o = false → H1 b = some o) → LamX.Tabs T H1 → s1.heap.get? f = some (lamO X params body scope pm c' ctv) → H1 f = none → f ∉ frs X.stack → H1 c' = some (LamX.CodeO c' (X.env.qual ++ "<lambda>")) → Q (.ref f) s1) :
    wpAny (model X.prog X.w) X.A (eval (.Lambda params body scope pos) X.env) Q E s := by
  obtain ⟨ps, eP, tr, each⟩ := tt _ inT
  have atP := I.hok P _ eP
  have glob := I.mod.glob.keeps I.bk
  have bm := tb.bm.keeps I.bk
  have code := tb.code.keeps I.bk
  have far : ∀ f, s.heap.objs.size ≤ f → f ∉ frs X.stack := fun f hf z => (List.mem_cons.mp (I.stkSub _ z)).elim (fun e => by
    have lt := I.lt
    rw [← e] at lt
    exact Nat.lt_irrefl _ (Nat.lt_of_lt_of_le lt hf)) fun e => I.nofs hf e
  refine PySem.W.kla_eval nd ?_
  cases hc : codeAmong pos ps.toList with
  | some cv =>
    obtain ⟨c', e, co⟩ := each pos cv hc
    subst e
    refine PySem.W.kla_makeFunctionHit (P := P) (c := c) (ps := ps) (mg := X.mg) (closure_ok fr) I.ok.glob glob ec code atP tr hc bm fun ctv hh tk grow big => ?_
    exact go hh.objs.size c' _ ctv H _ (I.kept fun b o e => Heap.get?_push_of_some _ (grow b o e)) (fun N => Keep.refl _ H) (fun _ _ e _ => e) tt (Heap.get?_push_size _ rfl) (I.hok.fresh big) (far _ big) co
  | none =>
    refine PySem.W.kla_makeFunction (P := P) (c := c) (ps := ps) (mg := X.mg) (closure_ok fr) I.ok.glob glob ec code atP tr hc tb.gP bm fun c' ctv hh tk ext lo hi rec_ newP => ?_
    obtain ⟨c2, oc, vs, t, e2, o1, o2, o3⟩ := rec_
    cases e2
    have sz : s.heap.objs.size ≤ hh.objs.size := Nat.le_trans lo (Nat.le_of_lt hi)
    have e0 : H c' = none := I.hok.fresh lo
    have J := LamX.inv_table (q := X.env.qual ++ "<lambda>") (t' := tk) (more := #[rawInt pos.line, rawInt pos.col, .ref c']) (h' := hh.push (lamO X params body scope ((X.mg "__name__").getD .none) c' ctv)) I eP
      (fun b o ne e => Heap.get?_push_of_some _ (ext b o ne e)) (Heap.get?_push_of_some _ newP) lo ⟨oc, vs, t, Heap.get?_push_of_some _ o1, o2, o3⟩
    have kt := keep_tbl (q := X.env.qual ++ "<lambda>") (qs := ps ++ #[rawInt pos.line, rawInt pos.col, .ref c']) eP e0
    have ks : ∀ b o, H b = some o → isTbl o = false → upd (upd H P (.tbl (ps ++ #[rawInt pos.line, rawInt pos.col, .ref c']))) c' (LamX.CodeO c' (X.env.qual ++ "<lambda>")) b = some o := fun b o e z => (kt Nope b o e id).1 z
    have sum : (ps ++ #[rawInt pos.line, rawInt pos.col, .ref c']).toList = ps.toList ++ [rawInt pos.line, rawInt pos.col, .ref c'] := by simp
    have nP : hh.objs.size ≠ P := Nat.ne_of_gt (Nat.lt_of_lt_of_le (Heap.lt_size atP) sz)
    refine go hh.objs.size c' _ ctv _ _ J kt ks (fun p hp => ?_) (Heap.get?_push_size _ rfl) ?_ (far _ sz) upd_same
    · by_cases z : p.1 = P
      · rw [one p hp z, z]
        refine ⟨ps ++ #[rawInt pos.line, rawInt pos.col, .ref c'], by rw [upd_ne (ne_of_none eP e0), upd_same], by rw [sum]; exact PySem.TriplesOk_snoc _ _ _ _ tr, fun p2 cv hcv => ?_⟩
        rw [sum] at hcv
        rcases LamX.among_app _ tr hcv with y | y
        · obtain ⟨c0, k1, k2⟩ := each p2 cv y
          exact ⟨c0, k1, ks _ _ k2 rfl⟩
        · exact ⟨c', y, upd_same⟩
      · obtain ⟨ps2, a1, a2, a3⟩ := tt p hp
        refine ⟨ps2, by rw [upd_ne (ne_of_none a1 e0), upd_ne z]; exact a1, a2, fun p2 cv hcv => ?_⟩
        obtain ⟨c0, k1, k2⟩ := a3 p2 cv hcv
        exact ⟨c0, k1, ks _ _ k2 rfl⟩
    · rw [upd_ne (Nat.ne_of_gt hi), upd_ne nP]
      exact I.hok.fresh sz
/-- what the slots hold stands while a lambda is made -/
theorem EnvRep.lam {C : Ct} {pens : Nat → Addr} {M : Addr → Prop} {γ : Gm} {H1 : Hp} (E : EnvRep C pens M γ σ H) (k : ∀ b o, H b = some o → isTbl o = false → H1 b = some o) (kn : Keep (.of Nope) H H1) (t : LamX.Tabs C.T H1) : EnvRep C pens M γ σ H1 where
  len := E.len
  ok := fun i sv x h1 h2 => (E.ok i sv x h1 h2).fine ⟨fun a o e _ z => k a o e z, fun _ _ _ z => z⟩ (fun _ z => z) (fun a vs q => by
    rcases q with ⟨o, h⟩ | q
    · exact .inl ⟨o, k _ _ h rfl⟩
    · exact .inr q) fun _ _ a _ _ u q z => k _ _ q z
  inj := E.inj
  dom := fun a m => by obtain ⟨o, e⟩ := E.dom a m; exact kn.there e id
  tab := t

/-! ### it is called in the def that got it -/
theorem pe_lamRun {CXg : CXT} {Eg : XK} {Ng : List Str} {qg : Str} {sg : Scope} {g f c' : Addr} {cdg pm ctv : Value} {params : Arguments} {body : Expr} {scope : Scope} {k i : Nat} {a : Str} {pn : List (Addr × Obj)} {xe : Value → Shared → Prop} {W : WX} {E : XK} {tb : TE} {p1 p2 : Pos}
    (I : Inv X pins σ H s) (L : LamX.LamS X.env.scope scope) (fo : s.heap.get? f = some (lamO X params body scope pm c' ctv)) (f0 : H f = none) (ff : f ∉ frs X.stack)
    (bd : bindArgs (PySem.W.kla_fn "<lambda>" (X.env.qual ++ "<lambda>") params body scope (cloFrom X.env.cells scope.names []) pm (.ref c') ctv) ⟨[], []⟩ = pure [])
    (tk : Takes ((cxOf CXg X.prog X.w X.K X.mg X.base Ng qg sg g cdg X.A X.stack s H Eg).tr pn xe) W) (up : ∀ cls d σ1 H1, E cls d H1 → W cls d σ1 H1) (hr : RoomG (k + 1) (X.A.deeper (envOfC qg sg s.heap.objs.size g cdg)))
    (hb : ∀ (A : Around) (out : List Env) (t : Shared) (G : Hp), RoomG k (A.deeper (LamX.lamEnv X scope t.heap.objs.size f c')) → PE (LamX.lamCx X A out t G E scope f c') body tb)
    (hN : Ng[i]? = some a) (hv : Vis sg a) (hd : (a == ("__debug__" : Str)) = false := by decide) (hcd : (a == ("__classdict__" : Str)) = false := by decide) :
    PE ((cxOf CXg X.prog X.w X.K X.mg X.base Ng qg sg g cdg X.A X.stack s H Eg).tr pn xe) (.Call (.Name a p1) [] [] p2) (fun σ1 G Q => σ1[i]? = some (some (.ref f)) ∧ G c' = some (LamX.CodeO c' (X.env.qual ++ "<lambda>")) ∧ tb σ G Q) := by
  refine ⟨fun pz sz σz G Q J ⟨hs, hc, ht⟩ => ?_⟩
  refine wpAny_Call_Name_kw (thn ((pe_var (pos := p1) (i := i) hN hv hd hcd).run pz sz σz G (fun v K1 => v = .ref f ∧ K1 = G) J ⟨.ref f, hs, rfl, rfl⟩) fun u t ⟨v, K1, J1, r1, ev, eK⟩ => ?_)
  subst ev
  rw [eK] at J1
  obtain rfl : u = Value.ref f := r1
  have fat : t.heap.get? f = some (lamO X params body scope pm c' ctv) := J1.base.keep f _ fo f0 ff (fun z => nomatch (show f ∈ ([] : List Addr) from z))
  refine PySem.W.callWith_F0 ⟨_, _, _, _, fat⟩ ?_
  have un : Un (frs X.stack) [] H G s.heap t.heap := J1.base
  obtain ⟨⟨oc, vs, tt, o1, o2, o3⟩, _, _⟩ := J1.hok c' _ hc
  have rc : codeAny (model X.prog X.w) (X.A.deeper (envOfC qg sg s.heap.objs.size g cdg)) (.call (.ref f) ⟨[], []⟩) (CR (L2.CX X.prog X.w) (envOfC qg sg s.heap.objs.size g cdg :: X.stack) X.prog X.w G t Q E) t := by
    refine PySem.W.kla_callFunE hr.r.depth fat rfl L.co L.gen rfl ⟨c', oc, vs, tt, rfl, o1, o2, o3⟩ ?_
    rw [bd]
    refine wpAny_pure (wpAny_newFunctionEnv (fun y hy => (L.own y hy).2) (fun y hy => absurd hy List.not_mem_nil) (fun hh hns hsb => ⟨J1.nolimit.fresh _ hsb, ?_⟩) L.kind)
    show codeAny _ _ (.expr body (LamX.lamEnv X scope t.heap.objs.size f c')) _ _
    have kp : ∀ b o, t.heap.get? b = some o → hh.get? b = some o := fun b o e => hsb.extBut b o (Nat.ne_of_lt (Heap.lt_size e)) (Heap.get?_push_of_some _ e)
    have J2 := LamX.lam_start2 (E := E) (f := f) (c' := c') (tk := t.toks + ([] : List (Str × Value)).length) I L J1.env0 hr.r.hd un hns kp
    refine PySem.W.kla_codeExpr (wpAny_mono ((hb _ _ t G (hr.deeper _)).run [] _ _ G Q J2 ht) (fun v s2 ⟨w2, H2, J3, rv, q⟩ => ?_) fun _ _ z => z)
    exact ⟨w2, H2, J3.os, J3.bare, J3.base, J3.hok, rv, q⟩
  have px : Passes (L2.CX X.prog X.w) ((cxOf CXg X.prog X.w X.K X.mg X.base Ng qg sg g cdg X.A X.stack s H Eg).tr pn xe) E := passes_call tk up
  refine wpAny_call (codeAny_mono rc fun r s2 hq => ?_)
  match r, hq with
  | .error e, hq => exact px pz σz G t e s2 J1 hq
  | .ok (.ret u), hq => exact J1.after hq
  | .ok .next, hq => exact hq.elim
  | .ok .brk, hq => exact hq.elim
  | .ok .cont, hq => exact hq.elim

/-! ### said(lambda: e), where nothing is raised -/
def noX {α : Type} (f : F α) : F α := fun γ => match f γ with
  | .ok a g => .ok a g
  | _ => .st
def fSaid0 (f : F D) : F D := f1 dRepr (noX f)
theorem take_lam {A : Around} {out : List Env} {t : Shared} {G : Hp} {E : XK} {scope : Scope} {f c' : Addr} : Takes (LamX.lamCx X A out t G E scope f c') (WofE E) := takes_of rfl rfl rfl rfl
variable {C : Ct} {W : WX} {m p : Bool} {fb : F D}
theorem fx_said0 {k : Nat} {x a e nE : Str} {g c P : Addr} {fd : FuncData} {pg params : Arguments} {bg : List Stmt} {sg scope : Scope} {Ng : List Str} {i : Nat} {CS : Addr} {body : Expr} {b0 : Stmt} {bs : List Stmt} {q1 q2 q3 q4 q5 q6 q7 q8 : Pos} {lpos pn pos : Pos}
    (Fd : FunD X.K x x pg bg sg [] [] g fd) (eb : bg = [.Try [.Return (some (.Call (.Name "repr" q1) [.Call (.Name a q2) [] [] q3] [] q4)) q5] [.ExceptHandler (some (.Name nE q6)) (some e) (b0 :: bs) q7] [] [] q8]) (Sg : FnScope Ng [a] sg) (hNg : Ng[0]? = some a) (hva : Vis sg a) (hie : Ng[i]? = some e) (hle : sg.names.lookup e = some .local)
    (hge : sg.names.lookup nE = some .globalImplicit) (hme : X.mg nE = some (.ref CS)) (hgr : sg.names.lookup ("repr" : Str) = some .globalImplicit) (hmr : X.mg "repr" = none)
    (hg : Gl X x) (hm : X.mg x = some (.ref g)) (hk : PySem.W.keepIn X.K (.ref g) = true) (hb : Binds X.K fd [a] [])
    (eK : C.K = X.K) (tb : LamX.TabB X.base X.mg c P) (ec : X.env.code = .ref c) (inT : (P, X.env.qual ++ "<lambda>") ∈ C.T) (one : ∀ p ∈ C.T, p.1 = P → p.2 = X.env.qual ++ "<lambda>") (hr : RoomG (k + 2) X.A) (L : LamX.LamS X.env.scope scope) (nd : defaultsOf params X.env = ([], []))
    (bd : ∀ (q : Str) (cl : List (Str × Addr)) (pm cv ctv : Value), bindArgs (PySem.W.kla_fn "<lambda>" q params body scope cl pm cv ctv) ⟨[], []⟩ = pure [])
    (hbody : ∀ (A : Around) (out : List Env) (t : Shared) (G : Hp) (f c' : Addr), RoomG k (A.deeper (LamX.lamEnv X scope t.heap.objs.size f c')) → FX C W0 m p (LamX.lamCx X A out t G (fun _ _ _ => False) scope f c') body fb)
    (hdb : (x == ("__debug__" : Str)) = false := by decide) (hd : (a == ("__debug__" : Str)) = false := by decide) (hcd : (a == ("__classdict__" : Str)) = false := by decide) (hde : (nE == ("__debug__" : Str)) = false := by decide) :
    FX C W true false X (.Call (.Name x pn) [.Lambda params body scope lpos] [] pos) (fSaid0 fb) := by
  obtain ⟨oc, od, dV, kV, doc, pm, an, cdv, ct, osl, rfl, lk, hcg, hD, _⟩ := Fd.ex
  subst eb
  refine ⟨fun pins s σ H Q I ⟨pens, M, γ, E, h⟩ => ?_⟩
  refine wpAny_Call_Name_kw (ld_glob I hg hm ?_ hdb)
  refine PySem.W.callWith_K (h₀ := X.base) I.ok.mod.kin hk ?_ (by rfl) (by rfl)
  show wpAny _ _ (spliced ((false, eval (.Lambda params body scope lpos) X.env) :: backTo pos (starEach [] X.env))) _ _ s
  refine Calls.spliced_cons (lam_new I tb ec inT one E.tab nd (L.has I.ok) fun f c' pm1 ctv H1 s1 I1 kN kS T1 fo f0 ff co => ?_)
  refine Calls.spliced_nil ⟨I1.kIn, ?_⟩
  have E1 : EnvRep C pens M γ σ H1 := E.lam kS (kN _) T1
  have rc : codeAny (model X.prog X.w) X.A (.call (.ref g) ⟨[.ref f], []⟩) (CR C8.CX0 X.stack X.prog X.w H1 s1 Q C8.E0) s1 := by
    refine LamX.run_ofS (N := Ng) (ps := [a]) (us := [.ref f]) (vs := [.ref f]) lk hcg Sg hr.r I1.env0 (hb s1 [.ref f] I1.kIn rfl) (.cons rfl .nil) rfl fun hr' => ?_
    have hrG : RoomG (k + 1) (X.A.deeper (envOfC x sg s1.heap.objs.size g cdv)) := ⟨hr', hr.g⟩
    refine ⟨_, (pss_one (ps_try_as (X := (cxOf C8.CX0 X.prog X.w X.K X.mg X.base Ng x sg g cdv X.A X.stack s1 H1 C8.E0).nox) (c := .ref CS) (i := i) (ts := fun _ _ _ => tNever)
      (tb := fun _ => fun D σ1 G => σ1[0]? = some (some (.ref f)) ∧ G c' = some (LamX.CodeO c' (X.env.qual ++ "<lambda>")) ∧ tF C W0 m p fb σ G fun v G2 => (fun xs H3 Q3 => ∃ v p y, xs = [v] ∧ Dp X.K H3 v p ∧ p.hasDict = false ∧ shownD p = some y ∧ Q3 (.str y) H3) [v] G2 D.rt)
      rfl rfl Sg.nd hie hle ⟨hge, hde, .inl hme⟩ LamX.takes0 (fun W1 pn1 xe1 tk1 _ => ?_) (fun a2 oe cls d pn2 _ _ => pss_never))).nox, ?_⟩
    · have hp := pe_lamRun (CXg := C8.CX0) (Eg := C8.E0) (Ng := Ng) (i := 0) (E := fun _ _ _ => False) (p1 := q2) (p2 := q3) I1 L fo f0 ff (bd _ _ _ _ _) tk1 (fun _ _ _ _ z => z.elim) hrG (fun A out t G hr2 => hbody A out t G f c' hr2) hNg hva hd hcd
      have gl : Gl ((cxOf C8.CX0 X.prog X.w X.K X.mg X.base Ng x sg g cdv X.A X.stack s1 H1 C8.E0).tr pn1 xe1) ("repr" : Str) := hgr
      have hc := pe_callB (p := q1) (pos := q4) (call_reprD (X := (cxOf C8.CX0 X.prog X.w X.K X.mg X.base Ng x sg g cdv X.A X.stack s1 H1 C8.E0).tr pn1 xe1) (k := k + 1) hrG) gl hmr (by rfl) (pa_cons hp pa_nil (by rfl))
      exact pss_one (ps_ret hc)
    · refine ⟨start_at (v := V.ref f) rfl, co, pens, M, γ, E1, ?_⟩
      unfold fSaid0 f1 at h
      cases ef : fb γ with
      | st => rw [bind_st (show noX fb γ = .st by unfold noX; rw [ef])] at h; exact h
      | ex y g1 => rw [bind_st (show noX fb γ = .st by unfold noX; rw [ef])] at h; exact h.elim
      | ok d γ1 =>
        rw [bind_ok (show noX fb γ = .ok d γ1 by unfold noX; rw [ef])] at h
        intro v G2 S1 P1 r1
        cases ed : dRepr d with
        | none => rw [liftO_none ed] at h; exact h.elim
        | some d2 =>
          rw [liftO_some ed] at h
          obtain ⟨pd, k1, k2⟩ := Option.bind_eq_some_iff.mp ed
          obtain ⟨y, k3, rfl⟩ := Option.map_eq_some_iff.mp k2
          exact ⟨v, pd, y, rfl, r1.s.dp k1, data_noDict k1, k3, h (.str y) G2 ⟨S1.env, (kN _).trans S1.keep, S1.pat⟩ (fun z => by cases z) (.str _)⟩
  refine wpAny_call (codeAny_mono rc fun r s2 hq => ?_)
  match r, hq with
  | .error e, hq => exact (show False from hq).elim
  | .ok (.ret u), hq => exact I1.after hq
  | .ok .next, hq => exact hq.elim
  | .ok .brk, hq => exact hq.elim
  | .ok .cont, hq => exact hq.elim
end
end FC

namespace FC
open PySem PySem.Spec PyProof.Rows L2

/-! ### defs that hold lambdas -/
theorem codeA_eq {K : PySem.W.Frag} {f : Addr} {oc : Value} {od : Option Addr} {osl : Array (Option Value)} {name qual : Str} {params : Arguments} {body : List Stmt} {scope : Scope} {dV kV doc pm cdv ct : Value} {an : Option Addr}
    (lk : K.lookup f = some ⟨oc, od, .func (PySem.W.fnOf name qual params body scope dV kV doc pm an cdv ct), osl⟩) (hc : PySem.W.codeIn K cdv qual = true) : cdv = .ref (codeA K f) := by
  obtain ⟨c, rfl⟩ := He.codeIn_ref hc
  unfold codeA
  rw [lk]
theorem fnL_ok {C : Ct} {P : Program} {w : World} {K : PySem.W.Frag} {mg : Str → Option Value} {base : Heap} {y qual : Str} {params : Arguments} {body : List Stmt} {scope : Scope} {f : Addr} {fd : FuncData} {N ps : List Str} {k : Nat} {b : F Fl} (Fd : FunD K y qual params body scope [] [] f fd) (S : FnScope N ps scope) (hb : Binds K fd ps [])
    (hbody : ∀ (cdv : Value) (A : Around) (outer : List Env) (s : Shared) (H : Hp) (E : XK), cdv = .ref (codeA K f) → RoomG k (A.deeper (envOfC qual scope s.heap.objs.size f cdv)) → FSs C (WofE E) (bcx P w K mg base N qual scope f cdv A outer s H E) body b) :
    FnG P w K mg base (L2.CX P w) (k + 1) f (spF C N ps.length b) := by
  obtain ⟨oc, od, dV, kV, doc, pm, an, cdv, ct, osl, rfl, lk, hcd, _⟩ := Fd.ex
  intro A out s H us vs Q E hr e0 r hsp
  refine StX.run_bnd lk hcd S hr.r e0 (bnd_pos hb e0 r hsp.1) fun s2 H2 xs ⟨ex, eh⟩ hr2 => ?_
  subst ex eh
  exact ⟨_, hbody cdv A out s2 _ E (codeA_eq lk hcd) ⟨hr2, hr.g⟩, hsp.2⟩
theorem lam_in {lf : List DefP} {K : PySem.W.Frag} {d : DefP} {j : Nat} (h : lf[j]? = some d) : (tabA K (d.ad K), lamQ d) ∈ lf.map fun d => (tabA K (d.ad K), lamQ d) := List.mem_map.mpr ⟨d, List.mem_of_getElem? h, rfl⟩
theorem lam_one {lf : List DefP} {K : PySem.W.Frag} {d : DefP} (hd : d ∈ lf) (nd : (lf.map fun d => tabA K (d.ad K)).Nodup) : ∀ p ∈ lf.map (fun d => (tabA K (d.ad K), lamQ d)), p.1 = tabA K (d.ad K) → p.2 = lamQ d := fun p hp e => by
  obtain ⟨d2, h2, rfl⟩ := List.mem_map.mp hp
  have e2 : tabA K (d2.ad K) = tabA K (d.ad K) := e
  clear hp e
  induction lf with
  | nil => cases hd
  | cons x xs ih =>
    obtain ⟨n1, n2⟩ := List.nodup_cons.mp nd
    rcases List.mem_cons.mp hd with q1 | q1 <;> rcases List.mem_cons.mp h2 with q2 | q2
    · rw [q1, q2]
    · exact (n1 (List.mem_map.mpr ⟨d2, q2, by rw [e2, q1]⟩)).elim
    · exact (n1 (List.mem_map.mpr ⟨d, q1, by rw [← e2, q2]⟩)).elim
    · exact ih q1 n2 q2
section
variable {X : Cx} {C : Ct} {W : WX} {m p : Bool} {fb : F D}
theorem fx_saidL {fbs : List Fb} {fn lf : List DefP} {k j : Nat} {d : DefP} {x a e nE : Str} {g : Addr} {pg params : Arguments} {bg : List Stmt} {sg scope : Scope} {Ng : List Str} {i : Nat} {CS : Addr} {body : Expr} {b0 : Stmt} {bs : List Stmt} {q1 q2 q3 q4 q5 q6 q7 q8 : Pos} {lpos pn pos : Pos}
    (S : Sy fbs fn lf X.K X.mg X.base) (hd : lf[j]? = some d) (eT : C.T = lf.map fun d => (tabA X.K (d.ad X.K), lamQ d)) (eK : C.K = X.K) (ec : X.env.code = .ref (codeA X.K (d.ad X.K))) (eq : X.env.qual ++ "<lambda>" = lamQ d)
    (Fd : ∃ fd, FunD X.K x x pg bg sg [] [] g fd) (hb : ∀ (kV doc pm : Value) (an : Option Addr) (cdv ct : Value) (us : List Value), us.length = 1 → bindArgs (PySem.W.fnOf x x pg bg sg .none kV doc pm an cdv ct) ⟨us, []⟩ = pure ([a].zip us))
    (eb : bg = [.Try [.Return (some (.Call (.Name "repr" q1) [.Call (.Name a q2) [] [] q3] [] q4)) q5] [.ExceptHandler (some (.Name nE q6)) (some e) (b0 :: bs) q7] [] [] q8]) (Sg : FnScope Ng [a] sg) (hNg : Ng[0]? = some a) (hva : Vis sg a) (hie : Ng[i]? = some e) (hle : sg.names.lookup e = some .local)
    (hge : sg.names.lookup nE = some .globalImplicit) (hme : X.mg nE = some (.ref CS)) (hgr : sg.names.lookup ("repr" : Str) = some .globalImplicit) (hmr : X.mg "repr" = none)
    (hg : Gl X x) (hm : X.mg x = some (.ref g)) (hk : PySem.W.keepIn X.K (.ref g) = true)
    (hr : RoomG (k + 2) X.A) (L : LamX.LamS X.env.scope scope) (nd : defaultsOf params X.env = ([], []))
    (bd : ∀ (q : Str) (cl : List (Str × Addr)) (pm cv ctv : Value), bindArgs (PySem.W.kla_fn "<lambda>" q params body scope cl pm cv ctv) ⟨[], []⟩ = pure [])
    (hbody : ∀ (A : Around) (out : List Env) (t : Shared) (G : Hp) (f c' : Addr), RoomG k (A.deeper (LamX.lamEnv X scope t.heap.objs.size f c')) → FX C W0 m p (LamX.lamCx X A out t G (fun _ _ _ => False) scope f c') body fb)
    (hdb : (x == ("__debug__" : Str)) = false := by decide) (hda : (a == ("__debug__" : Str)) = false := by decide) (hcd : (a == ("__classdict__" : Str)) = false := by decide) (hde : (nE == ("__debug__" : Str)) = false := by decide) :
    FX C W true false X (.Call (.Name x pn) [.Lambda params body scope lpos] [] pos) (fSaid0 fb) := by
  obtain ⟨fd, Fd⟩ := Fd
  have hmem : d ∈ lf := List.mem_of_getElem? hd
  refine fx_said0 (c := codeA X.K (d.ad X.K)) (P := tabA X.K (d.ad X.K)) Fd eb Sg hNg hva hie hle hge hme hgr hmr hg hm hk (Fd.bindsN hb) eK (S.tb d hmem) ec ?_ ?_ hr L nd bd hbody hdb hda hcd hde
  · rw [eT, eq]
    exact lam_in hd
  · rw [eT, eq]
    exact lam_one hmem S.nd
end
/-! ### a test o == o' by the own __eq__ -/
section
variable {C : Ct} {W : WX} {X : Cx} {p q : Bool} {b e : Expr} {fb : F D} {fo : F AV} {pos : Pos}
theorem ft_eqO {k c : Nat} {f : Addr} {N : List Str} {b' : F Fl} (he : FV C W q X e fo) (hb : FX C W true p X b fb) (sp : Spe X.K (C.cl c) "__eq__" f) (Fn : FnP X C k f N 2 b') (hr : RoomG k X.A) (tk : Takes X W) (hN : 2 ≤ N.length := by decide) : FT C W false X (.Compare e [.Eq] [b] pos) (f1 dBl (fAddO c N.length b' fo fb)) := by
  refine PT.imp (t := fun σ H Q => tFV C W q fo σ H fun x H1 => ∃ a dx fs, x = .ref a ∧ H1 a = some (.ins (C.cl c) dx fs) ∧ tF C W true p fb σ H1 fun y H2 => (∃ dx' fs', H2 a = some (.ins (C.cl c) dx' fs')) ∧ (∃ a2 dx2 fs2, y = .ref a2 ∧ H2 a2 = some (.ins (C.cl c) dx2 fs2)) ∧ spF C N 2 b' [x, y] H2 (fun v H3 => ∃ z : Bool, v = .bl z ∧ Q z H3) (WE W σ)) ⟨fun pins s σ H Q I h => ?_⟩ fun σ H Q h => add_te hN (tF_bl (m := true) h)
  refine wpAny_isTrue_Compare1 (thn (he.run pins s σ H _ I h) fun u s1 ⟨x, H1, I1, rx, o, dx, fs, ex, eo, q1⟩ => thn (hb.run pins s1 σ H1 _ I1 q1) fun v s2 ⟨y, H2, I2, ry, ⟨dx', fs', eo'⟩, ⟨o2, dx2, fs2, ey, eo2⟩, q2⟩ => ?_) (nomark _)
  subst ex ey
  cases (show u = Value.ref o from rx)
  cases (show v = Value.ref o2 from ry)
  obtain ⟨mA, O, _⟩ := ins_get I2.hok eo'
  obtain ⟨od, J, _⟩ := O.look
  obtain ⟨mA2, O2, _⟩ := ins_get I2.hok eo2
  obtain ⟨od2, J2, _⟩ := O2.look
  obtain ⟨m0, hF⟩ := I2.fr
  refine PySem.W.cmp_K (op := .Eq) hr.r.units0 hF I2.ok.mod.kin J J2.type (by simp [PySem.W.notFirst]) sp.at_ sp.fn (thn (wpAny_call (run_fnRS (us := [.ref o, .ref o2]) (vs := [.ref o, .ref o2]) (E := WE W) Fn hr (passAt tk σ) I2 (.cons rfl (.cons rfl .nil)) q2)) fun w s3 hv => ?_)
  obtain ⟨v', H3, I3, rv, z, rfl, q3⟩ := hv
  cases (show w = Value.bool z from rv)
  exact wpAny_truthy_bool ⟨H3, I3, q3⟩
end
/-! ### mirrors: said -/
theorem wp_said0 {γ : Gm} {E : Ex → Gm → Prop} {fb : F D} {Q : D → Gm → Prop} (h : Wp (fb γ) (fun d g => ∃ y, dRepr d = some y ∧ Q y g) E0) : Wp (fSaid0 fb γ) Q E := by
  unfold fSaid0
  refine wp_f1 ?_
  obtain ⟨d, g, e, q⟩ := h.out
  exact wp_ok (show noX fb γ = .ok d g by unfold noX; rw [e]) q
end FC

namespace G23
open PySem PySem.Spec PyProof.Rows L2 FC
theorem u64 {k : Nat} {A : Around} (hr : RoomG k A) : A.units + 64 < cLine := by have := hr.r.un; omega
theorem u65 {k : Nat} {A : Around} (hr : RoomG k A) : A.units + 65 < cLine := by have := hr.r.un; omega
def b__law_pen : F Fl := (sRetNew (nLst (aVal (f2 dMax2 (f0 (.int 0)) (f2 dSub (fLook 0) (f2 dPow (f0 (.int 10)) (f0 (.int 18))))) (aVal (f2 dAdd (f2 dMod (fLook 0) (f0 (.int 2147483629))) (f0 (.int 1))) (aVal (f0 (.int 0)) aNil)))))
def b__law_cell_at : F Fl := (sSeq (sIf (f1 dBl (f2 dLt (fLook 1) (fSeeLen 0))) (sRet (fSeeIx 0 (fLook 1))) sNil) (sRet (f0 (.int 0))))
def b__law_draw : F Fl := (sSeq (sIf (f1 dBl (f2 dGt (f2 dIx (fLook 0) (f0 (.int 0))) (f0 (.int 0)))) (sSeq (sSet 2 (f2 dMod (f2 dIx (fLook 0) (f0 (.int 0))) (fLook 1))) (sSeq (sSetIx 0 (f0 (.int 0)) (f2 dFdiv (f2 dIx (fLook 0) (f0 (.int 0))) (fLook 1))) (sRetVar 2))) sNil) (sSeq (sSetIx 0 (f0 (.int 2)) (f2 dAdd (f2 dIx (fLook 0) (f0 (.int 2))) (f0 (.int 1)))) (sSeq (sSetIx 0 (f0 (.int 1)) (f2 dMod (f2 dAdd (f2 dAdd (f2 dMulT (f2 dIx (fLook 0) (f0 (.int 1))) (f0 (.int 48271))) (f2 dMulT (f0 (.int 1009)) (f2 dIx (fLook 0) (f0 (.int 2))))) (f0 (.int 7))) (f0 (.int 2147483647)))) (sSeq (sSet 3 (f2 dMod (f2 dAdd (f2 dAdd (f2 dMulT (f2 dIx (fLook 0) (f0 (.int 1))) (f2 dIx (fLook 0) (f0 (.int 1)))) (f2 dMulT (f0 (.int 69621)) (f2 dIx (fLook 0) (f0 (.int 1))))) (f0 (.int 11))) (f0 (.int 2147483629)))) (sSeq (sSet 3 (f2 dMod (f2 dAdd (f2 dMulT (fLook 3) (fLook 3)) (f2 dMulT (f0 (.int 40014)) (fLook 3))) (f0 (.int 2147483587)))) (sRet (f2 dMod (f2 dFdiv (fLook 3) (f0 (.int 16))) (fLook 1))))))))
def b__law_pick : F Fl := (sRet (f2 dIx (fVar 1) (fCall 4 b__law_draw (aVar 0 (aVal (f1 dLen (fLook 1)) aNil)))))
def L__law_pairs_1 : F Fl := (sSeq (sSet 5 (fTup (aVal (f2 dAdd (f0 (.int 1)) (fCall 4 b__law_draw (aVar 0 (aVar 2 aNil)))) (aVal (f2 dAdd (f0 (.int 1)) (fCall 4 b__law_draw (aVar 0 (aVar 2 aNil)))) aNil)))) (sIf (f1 dBl (f2 dNotIn (fLook 5) (fLook 3))) (sExpr (fM1 3 gApp (fVar 5))) sNil))
def b__law_pairs : F Fl := (sSeq (sPar [2, 3] (aVal (fCall 2 b__law_pick (aVar 0 (aVal (fD (nLst (aVal (f0 (.int 3)) (aVal (f0 (.int 5)) (aVal (f0 (.int 9)) (aVal (f0 (.int 20)) aNil)))))) aNil))) (aNew (nLst aNil) aNil))) (sSeq (sFor (iArgs dRng1 (aVal (f2 dAdd (f0 (.int 1)) (fCall 4 b__law_draw (aVar 0 (aVar 1 aNil)))) aNil)) (gNm 4) L__law_pairs_1) (sFrz 3 (sRet (f1 dTuple (fLook 3))))))
def b_is_integer : F Fl := (sRet (vAnd (f1 (fun d => (dIsi (isiB "int") (fun _ => none) d).map D.bl) (fLook 0)) (f1 vNot (f1 (fun d => (dIsi (isiB "bool") (fun _ => none) d).map D.bl) (fLook 0)))))
def b_is_between : F Fl := (sRet (vAnd (fCall 1 b_is_integer (aVar 0 aNil)) (fChain dLe dLe (fLook 1) (fLook 0) (fLook 2))))
def b_is_pair : F Fl := (sSeq (sIf (tOrF (tNotF (f1 dTruth (f1 (fun d => (dIsi (isiB "tuple") (fun _ => none) d).map D.bl) (fLook 0)))) (f1 dBl (f2 dNe (f1 dLen (fLook 0)) (f0 (.int 2))))) (sRet (f0 (.bl false))) sNil) (sRet (vAnd (fCall 3 b_is_between (aVal (f2 dIx (fLook 0) (f0 (.int 0))) (aVal (f0 (.int 1)) (aVal (f0 (.int 20)) aNil)))) (fCall 3 b_is_between (aVal (f2 dIx (fLook 0) (f0 (.int 1))) (aVal (f0 (.int 1)) (aVal (f0 (.int 20)) aNil)))))))
def b_are_pairs : F Fl := (sRet (vAnd (f2 dGt (f1 dLen (fLook 0)) (f0 (.int 0))) (vAnd (f1 dAll (fD (nLc (iSeqF (fVar 0)) (gNm 1) tTrue (fCall 1 b_is_pair (aVar 1 aNil)) [1]))) (f2 dEq (f1 dLenSet (fLook 0)) (f1 dLen (fLook 0))))))
def b_Limits___init__ : F Fl := (sSeq (sIf (tNotF (f1 dTruth (fCall 2 b_are_pairs (aVar 1 aNil)))) sSt sNil) (sSeq (sIf (f1 dBl (f2 dGt (f1 dLen (fLook 1)) (f0 (.int 6)))) sSt sNil) (sSetF [0] 0 "kept" (fVar 1))))
def b__law_direct : F Fl := (sSeq (sIf (f1 dBl (f2 dEq (f1 dLen (fLook 0)) (f0 (.int 0)))) (sRet (fD (nMakeS 0 2 b_Limits___init__ aNil))) sNil) (sSeq (sIf (f1 dBl (f2 dEq (f1 dLen (fLook 0)) (f0 (.int 1)))) (sRet (fD (nMakeS 0 2 b_Limits___init__ (aVal (f2 dIx (fLook 0) (f0 (.int 0))) aNil)))) sNil) (sSeq (sIf (f1 dBl (f2 dEq (f1 dLen (fLook 0)) (f0 (.int 2)))) (sRet (fD (nMakeS 0 2 b_Limits___init__ (aVal (f2 dIx (fLook 0) (f0 (.int 0))) (aVal (f2 dIx (fLook 0) (f0 (.int 1))) aNil))))) sNil) (sSeq (sIf (f1 dBl (f2 dEq (f1 dLen (fLook 0)) (f0 (.int 3)))) (sRet (fD (nMakeS 0 2 b_Limits___init__ (aVal (f2 dIx (fLook 0) (f0 (.int 0))) (aVal (f2 dIx (fLook 0) (f0 (.int 1))) (aVal (f2 dIx (fLook 0) (f0 (.int 2))) aNil)))))) sNil) (sSeq (sIf (f1 dBl (f2 dEq (f1 dLen (fLook 0)) (f0 (.int 4)))) (sRet (fD (nMakeS 0 2 b_Limits___init__ (aVal (f2 dIx (fLook 0) (f0 (.int 0))) (aVal (f2 dIx (fLook 0) (f0 (.int 1))) (aVal (f2 dIx (fLook 0) (f0 (.int 2))) (aVal (f2 dIx (fLook 0) (f0 (.int 3))) aNil))))))) sNil) (sSeq (sIf (f1 dBl (f2 dEq (f1 dLen (fLook 0)) (f0 (.int 5)))) (sRet (fD (nMakeS 0 2 b_Limits___init__ (aVal (f2 dIx (fLook 0) (f0 (.int 0))) (aVal (f2 dIx (fLook 0) (f0 (.int 1))) (aVal (f2 dIx (fLook 0) (f0 (.int 2))) (aVal (f2 dIx (fLook 0) (f0 (.int 3))) (aVal (f2 dIx (fLook 0) (f0 (.int 4))) aNil)))))))) sNil) (sSeq (sIf (f1 dBl (f2 dEq (f1 dLen (fLook 0)) (f0 (.int 6)))) (sRet (fD (nMakeS 0 2 b_Limits___init__ (aVal (f2 dIx (fLook 0) (f0 (.int 0))) (aVal (f2 dIx (fLook 0) (f0 (.int 1))) (aVal (f2 dIx (fLook 0) (f0 (.int 2))) (aVal (f2 dIx (fLook 0) (f0 (.int 3))) (aVal (f2 dIx (fLook 0) (f0 (.int 4))) (aVal (f2 dIx (fLook 0) (f0 (.int 5))) aNil))))))))) sNil) (sRet (fD (nMakeS 0 2 b_Limits___init__ (aVal (f2 dIx (fLook 0) (f0 (.int 0))) (aVal (f2 dIx (fLook 0) (f0 (.int 1))) (aVal (f2 dIx (fLook 0) (f0 (.int 2))) (aVal (f2 dIx (fLook 0) (f0 (.int 3))) (aVal (f2 dIx (fLook 0) (f0 (.int 4))) (aVal (f2 dIx (fLook 0) (f0 (.int 5))) (aVal (f2 dIx (fLook 0) (f0 (.int 6))) aNil)))))))))))))))))
def b_Limits___eq__ : F Fl := (sRet (vAnd (f1 (dIsC [(0, true)]) (fLook 1)) (f2 dEq (f1 (dFld [0] "kept") (fLook 0)) (f1 (dFld [0] "kept") (fLook 1)))))
def b_Limits___getitem__ : F Fl := (sSeq (sIf (tNotF (f1 dTruth (fCall 3 b_is_between (aVar 1 (aVal (f0 (.int 0)) (aVal (f2 dSub (f1 dLen (f1 (dFld [0] "kept") (fLook 0))) (f0 (.int 1))) aNil)))))) sSt sNil) (sRet (f2 dIx (f1 (dFld [0] "kept") (fLook 0)) (fLook 1))))
def b_Limits_pairs : F Fl := (sRet (f1 (dFld [0] "kept") (fLook 0)))
def b_Limits___len__ : F Fl := (sRet (f1 dLen (f1 (dFld [0] "kept") (fLook 0))))
def b_Limits___repr__ : F Fl := (sRet (fJ [(f0 (.str "Limits(")), (f1 dFmt (f1 dLen (f1 (dFld [0] "kept") (fLook 0)))), (f0 (.str " limits)"))] Str.empty))
def El_Limits_text_1 : F D := (fJ [(f0 (.str "at most ")), (f1 dFmt (fLook 2)), (f0 (.str " in ")), (f1 dFmt (fLook 1)), (f0 (.str "\n"))] Str.empty)
def b_Limits_text : F Fl := (sRet (fS1 dJoin (f0 (.str "")) (fD (nLc (iSeqF (f1 (dFld [0] "kept") (fLook 0))) (gTupD 2 (gsCons (gNm 1) (gsCons (gNm 2) gsNil))) tTrue El_Limits_text_1 [1, 2]))))
def El__law_seen_1 : F D := (fMth 0 "" 2 b_Limits___getitem__ (vVar 0) (aVal (fVar 2) aNil))
def b__law_seen : F Fl := (sSeq (sSetNew 1 (nLc (iArgs dRng1 (aVal (f1 dLenR (fMth 0 "" 1 b_Limits___len__ (vVar 0) aNil)) aNil)) (gNm 2) tTrue El__law_seen_1 [2])) (sFrz 1 (sRet (fD (nLst (aVal (fProp 0 1 b_Limits_pairs (vVar 0)) (aVal (f1 dLenR (fMth 0 "" 1 b_Limits___len__ (vVar 0) aNil)) (aVar 1 (aVal (f1 dStrR (fMth 0 "" 1 b_Limits___repr__ (vVar 0) aNil)) (aVal (fMth 0 "text" 3 b_Limits_text (vVar 0) aNil) aNil))))))))))
def El__law_text_1 : F D := (f2 dAdd (f2 dAdd (f2 dAdd (f2 dAdd (f0 (.str "at most ")) (f1 dStr (fVar 2))) (f0 (.str " in "))) (f1 dStr (fVar 1))) (f0 (.str "\n")))
def b__law_text : F Fl := (sRet (fS1 dJoin (f0 (.str "")) (fD (nLc (iSeqF (fVar 0)) (gTupD 2 (gsCons (gNm 1) (gsCons (gNm 2) gsNil))) tTrue El__law_text_1 [1, 2]))))
def b_number_in : F Fl := (sSeq (sIf (tOrF (tNotF (f1 dBl (fChain dLe dLe (f0 (.int 1)) (f1 dLen (fLook 0)) (f0 (.int 2))))) (tOrF (tNotF (f1 dTruth (f1 dAll (fD (nLc (iStrF (fVar 0)) (gNm 1) tTrue (f2 dIn (fLook 1) (f0 (.str "0123456789"))) [1]))))) (f1 dBl (f2 dEq (f2 dIx (fLook 0) (f0 (.int 0))) (f0 (.str "0")))))) (sRet (f0 (.int 0))) sNil) (sRet (f1 dIntS (fVar 0))))
def b_pair_in : F Fl := (sSeq (sIf (tNotF (f1 dTruth (fS1 dStarts (fLook 0) (f0 (.str "at most "))))) (sRet (fTup aNil)) sNil) (sMt 1 2 "in" (fD (fS1 (fun x y => (dSplit x y).map MO.lst) (fSlL (fLook 0) (f1 dLen (f0 (.str "at most ")))) (f0 (.str " ")))) (sRet (fTup (aVal (fCall 2 b_number_in (aVar 2 aNil)) (aVal (fCall 2 b_number_in (aVar 1 aNil)) aNil)))) (sRet (fTup aNil))))
def b_Limits_read : F Fl := (sSeq (sIf (tOrF (tNotF (f1 dTruth (f1 (fun d => (dIsi (isiB "str") (fun _ => none) d).map D.bl) (fLook 1)))) (tNotF (f1 dTruth (fS1 dEnds (fLook 1) (f0 (.str "\n")))))) sSt sNil) (sSeq (sSetNew 2 (nLc (iSeqF (fD (fS1 (fun x y => (dSplit x y).map MO.lst) (fSlH (fLook 1) (f1 dNeg (f0 (.int 1)))) (f0 (.str "\n"))))) (gNm 3) tTrue (fCall 3 b_pair_in (aVar 3 aNil)) [3])) (sFrz 2 (sSeq (sIf (tOrF (tNotF (f1 dTruth (fCall 2 b_are_pairs (aVar 2 aNil)))) (f1 dBl (f2 dGt (f1 dLen (fLook 2)) (f0 (.int 6))))) sSt sNil) (sRet (fD (nMakeL 0 0 2 b_Limits___init__ (aStar (fLook 2) aNil))))))))
def b__law_due : F Fl := (sRet (fD (nLst (aVar 0 (aVal (f1 dLen (fLook 0)) (aVal (fD (n1 dList (fLook 0))) (aVal (f2 dAdd (f2 dAdd (f0 (.str "Limits(")) (f1 dStr (f1 dLen (fLook 0)))) (f0 (.str " limits)"))) (aVal (fCall 3 b__law_text (aVar 0 aNil)) aNil))))))))
def L_law_1 : F Fl := (sSeq (sSet 7 (fSaid0 (fCall 3 b__law_seen (aVal (fCall 4 b_Limits_read (aCls 0 (aVal (fMth 0 "text" 3 b_Limits_text (vVar 5) aNil) aNil))) aNil)))) (sSeq (sIf (tOrF (f1 dBl (f2 dNe (fMth 0 "text" 3 b_Limits_text (vVar 5) aNil) (fCall 3 b__law_text (aVar 4 aNil)))) (f1 dBl (f2 dNe (fVar 7) (f1 dRepr (fCall 1 b__law_due (aVar 4 aNil)))))) (sRet (f0 (.bl false))) sNil) (sIf (tNotF (f1 dBl (fAddO 0 2 b_Limits___eq__ (vVar 5) (fCall 4 b_Limits_read (aCls 0 (aVal (fMth 0 "text" 3 b_Limits_text (vVar 5) aNil) aNil)))))) (sRet (f0 (.bl false))) sNil)))
def L_law_2 : F Fl := (sSeq (sSet 4 (fCall 6 b__law_pairs (aVar 2 (aVal (f0 (.int 6)) aNil)))) (sSeq (sSet 5 (fCall 1 b__law_direct (aVar 4 aNil))) (sFor (iArgs dRng1 (aVal (f0 (.int 2)) aNil)) (gNm 6) L_law_1)))
def L_law_3 : F Fl := (sSeq (sSetNew 2 (nCall 1 b__law_pen (aVar 1 aNil))) (sFor (iArgs dRng1 (aVal (f0 (.int 12)) aNil)) (gNm 3) L_law_2))
def b_law : F Fl := (sSeq (sFor (iSeqF (f2 dAdd (fD (nLst (aVal (fCall 2 b__law_cell_at (aVar 0 (aVal (f0 (.int 0)) aNil))) aNil))) (fSeeSl 0 1 3))) (gNm 1) L_law_3) (sRet (f0 (.bl true))))
def cn : Nat → Str
  | 0 => "Limits"
  | _ => ""
abbrev Cc (K : PySem.W.Frag) : Ct := ⟨K, fun c => He.ga K (cn c), fun c => He.ga K (cn c), lf.map fun d => (tabA K (d.ad K), lamQ d)⟩
section
variable {P : Program} {w : World} {K : PySem.W.Frag} {mg : Str → Option Value} {base : Heap}
theorem sc__law_pen : FnScope N__law_pen ["_law_cell"] (defScope s__law_pen) := ⟨rfl, rfl, rfl, by decide +kernel, rfl, by decide +kernel, by decide +kernel⟩
theorem ok__law_pen (S : Sy fb fn lf K mg base) : FnG P w K mg base (L2.CX P w) 1 (He.ga K "_law_pen") (spF (Cc K) N__law_pen 1 b__law_pen) := by
  obtain ⟨fd, Fd⟩ : ∃ fd : FuncData, FunD K "_law_pen" "_law_pen" (defArgs s__law_pen) (defBody s__law_pen) (defScope s__law_pen) [] [] (He.ga K "_law_pen") fd := S.def_ 0 rfl
  exact fnP_ok (ps := ["_law_cell"]) Fd sc__law_pen (Fd.bindsN fun _ _ _ _ _ _ us hl => match us, hl with | [_], _ => rfl) (fun cdv A outer s H E hr => (fss_one (fs_retNew (fn_lst (fa_val (fx_max2 rfl fx_int (fx_sub (fx_look (pv 0)) (fx_pow fx_int fx_int)) (S.free 0) rfl) (fa_val (fx_add (fx_mod (fx_look (pv 0)) fx_int) fx_int) (fa_val fx_int fa_nil)))))))
theorem sc__law_cell_at : FnScope N__law_cell_at ["_law_script", "_law_k"] (defScope s__law_cell_at) := ⟨rfl, rfl, rfl, by decide +kernel, rfl, by decide +kernel, by decide +kernel⟩
theorem ok__law_cell_at (S : Sy fb fn lf K mg base) : FnG P w K mg base (L2.CX P w) 1 (He.ga K "_law_cell_at") (spF (Cc K) N__law_cell_at 2 b__law_cell_at) := by
  obtain ⟨fd, Fd⟩ : ∃ fd : FuncData, FunD K "_law_cell_at" "_law_cell_at" (defArgs s__law_cell_at) (defBody s__law_cell_at) (defScope s__law_cell_at) [] [] (He.ga K "_law_cell_at") fd := S.def_ 1 rfl
  exact fnP_ok (ps := ["_law_script", "_law_k"]) Fd sc__law_cell_at (Fd.bindsN fun _ _ _ _ _ _ us hl => match us, hl with | [_, _], _ => rfl) (fun cdv A outer s H E hr => (fss_cons (fs_if (ft_lt (fx_look (pv 1)) (fx_seeLen (pv 0) (S.free 1) rfl)) (fss_one (fs_ret (fx_seeIx (pv 0) (fx_look (pv 1))))) fss_nil) (fss_one (fs_ret fx_int))))
theorem sc__law_draw : FnScope N__law_draw ["_law_pen_here", "_law_many"] (defScope s__law_draw) := ⟨rfl, rfl, rfl, by decide +kernel, rfl, by decide +kernel, by decide +kernel⟩
theorem ok__law_draw (S : Sy fb fn lf K mg base) : FnG P w K mg base (L2.CX P w) 1 (He.ga K "_law_draw") (spF (Cc K) N__law_draw 2 b__law_draw) := by
  obtain ⟨fd, Fd⟩ : ∃ fd : FuncData, FunD K "_law_draw" "_law_draw" (defArgs s__law_draw) (defBody s__law_draw) (defScope s__law_draw) [] [] (He.ga K "_law_draw") fd := S.def_ 2 rfl
  exact fnP_ok (ps := ["_law_pen_here", "_law_many"]) Fd sc__law_draw (Fd.bindsN fun _ _ _ _ _ _ us hl => match us, hl with | [_, _], _ => rfl) (fun cdv A outer s H E hr => (fss_cons (fs_if (ft_gt (fx_ix (fx_look (pv 0)) fx_int) fx_int) (fss_cons (fs_set sc__law_draw.nd rfl (by first | exact Or.inl rfl | exact Or.inr rfl) (fx_mod (fx_ix (fx_look (pv 0)) fx_int) (fx_look (pv 1)))) (fss_cons (fs_setIx (pv 0) fx_int (fx_fdiv (fx_ix (fx_look (pv 0)) fx_int) (fx_look (pv 1)))) (fss_one (fs_retVar (pv 2))))) fss_nil) (fss_cons (fs_setIx (pv 0) fx_int (fx_add (fx_ix (fx_look (pv 0)) fx_int) fx_int)) (fss_cons (fs_setIx (pv 0) fx_int (fx_mod (fx_add (fx_add (fx_mulT (fx_ix (fx_look (pv 0)) fx_int) fx_int) (fx_mulT fx_int (fx_ix (fx_look (pv 0)) fx_int))) fx_int) fx_int)) (fss_cons (fs_set sc__law_draw.nd rfl (by first | exact Or.inl rfl | exact Or.inr rfl) (fx_mod (fx_add (fx_add (fx_mulT (fx_ix (fx_look (pv 0)) fx_int) (fx_ix (fx_look (pv 0)) fx_int)) (fx_mulT fx_int (fx_ix (fx_look (pv 0)) fx_int))) fx_int) fx_int)) (fss_cons (fs_set sc__law_draw.nd rfl (by first | exact Or.inl rfl | exact Or.inr rfl) (fx_mod (fx_add (fx_mulT (fx_look (pv 3)) (fx_look (pv 3))) (fx_mulT fx_int (fx_look (pv 3)))) fx_int)) (fss_one (fs_ret (fx_mod (fx_fdiv (fx_look (pv 3)) fx_int) (fx_look (pv 1)))))))))))
theorem sc__law_pick : FnScope N__law_pick ["_law_pen_here", "_law_some"] (defScope s__law_pick) := ⟨rfl, rfl, rfl, by decide +kernel, rfl, by decide +kernel, by decide +kernel⟩
theorem ok__law_pick (S : Sy fb fn lf K mg base) : FnG P w K mg base (L2.CX P w) 2 (He.ga K "_law_pick") (spF (Cc K) N__law_pick 2 b__law_pick) := by
  obtain ⟨fd, Fd⟩ : ∃ fd : FuncData, FunD K "_law_pick" "_law_pick" (defArgs s__law_pick) (defBody s__law_pick) (defScope s__law_pick) [] [] (He.ga K "_law_pick") fd := S.def_ 3 rfl
  exact fnP_ok (ps := ["_law_pen_here", "_law_some"]) Fd sc__law_pick (Fd.bindsN fun _ _ _ _ _ _ us hl => match us, hl with | [_, _], _ => rfl) (fun cdv A outer s H E hr => (fss_one (fs_ret (fx_ix (fx_var (pv 1)) (fx_def (k := 1) (f := (He.ga K "_law_draw")) (N := N__law_draw) (b := b__law_draw) (ok__law_draw S) (hr.mono (by decide)) rfl (S.glo 2) (S.keep 3) take_bcx (fa_var (pv 0) (fa_val (fx_len (fx_look (pv 1)) (S.free 1) rfl) fa_nil)) (an_var (an_val an_nil)))))))
theorem sc__law_pairs : FnScope N__law_pairs ["_law_pen_here", "_law_many"] (defScope s__law_pairs) := ⟨rfl, rfl, rfl, by decide +kernel, rfl, by decide +kernel, by decide +kernel⟩
theorem ok__law_pairs (S : Sy fb fn lf K mg base) : FnG P w K mg base (L2.CX P w) 3 (He.ga K "_law_pairs") (spF (Cc K) N__law_pairs 2 b__law_pairs) := by
  obtain ⟨fd, Fd⟩ : ∃ fd : FuncData, FunD K "_law_pairs" "_law_pairs" (defArgs s__law_pairs) (defBody s__law_pairs) (defScope s__law_pairs) [] [] (He.ga K "_law_pairs") fd := S.def_ 4 rfl
  exact fnP_ok (ps := ["_law_pen_here", "_law_many"]) Fd sc__law_pairs (Fd.bindsN fun _ _ _ _ _ _ us hl => match us, hl with | [_, _], _ => rfl) (fun cdv A outer s H E hr => (fss_cons (fs_par rfl sc__law_pairs.nd rfl rfl (by decide) rfl rfl (fa_val (fx_def (k := 2) (f := (He.ga K "_law_pick")) (N := N__law_pick) (b := b__law_pick) (ok__law_pick S) (hr.mono (by decide)) rfl (S.glo 4) (S.keep 5) take_bcx (fa_var (pv 0) (fa_val (fx_new (fn_lst (fa_val fx_int (fa_val fx_int (fa_val fx_int (fa_val fx_int fa_nil)))))) fa_nil)) (an_var (an_val an_nil))) (fa_new (fn_lst fa_nil) fa_nil)) (by rfl)) (fss_cons (fs_for pass_bcx rfl (fi_rng1 rfl (S.free 6) (fa_val (fx_add fx_int (fx_def (k := 1) (f := (He.ga K "_law_draw")) (N := N__law_draw) (b := b__law_draw) (ok__law_draw S) (hr.mono (by decide)) rfl (S.glo 2) (S.keep 3) take_bcx (fa_var (pv 0) (fa_var (pv 1) fa_nil)) (an_var (an_var an_nil)))) fa_nil)) (fg_name sc__law_pairs.nd rfl (by first | exact Or.inl rfl | exact Or.inr rfl)) (fss_cons (fs_set sc__law_pairs.nd rfl (by first | exact Or.inl rfl | exact Or.inr rfl) (fx_tup (fa_val (fx_add fx_int (fx_def (k := 1) (f := (He.ga K "_law_draw")) (N := N__law_draw) (b := b__law_draw) (ok__law_draw S) (hr.mono (by decide)) rfl (S.glo 2) (S.keep 3) take_bcx (fa_var (pv 0) (fa_var (pv 2) fa_nil)) (an_var (an_var an_nil)))) (fa_val (fx_add fx_int (fx_def (k := 1) (f := (He.ga K "_law_draw")) (N := N__law_draw) (b := b__law_draw) (ok__law_draw S) (hr.mono (by decide)) rfl (S.glo 2) (S.keep 3) take_bcx (fa_var (pv 0) (fa_var (pv 2) fa_nil)) (an_var (an_var an_nil)))) fa_nil)))) (fss_one (fs_if (ft_notIn (u65 hr) (fx_look (pv 5)) (fx_look (pv 3))) (fss_one (fs_expr (fx_append mt_append (pv 3) (fx_var (pv 5))))) fss_nil)))) (fss_freeze (i := 3) (fss_one (fs_ret (fx_tuple (fx_look (pv 3)) (S.free 7) rfl)))))))
theorem sc_is_integer : FnScope N_is_integer ["thing"] (defScope s_is_integer) := ⟨rfl, rfl, rfl, by decide +kernel, rfl, by decide +kernel, by decide +kernel⟩
theorem ok_is_integer (S : Sy fb fn lf K mg base) : FnG P w K mg base (L2.CX P w) 1 (He.ga K "is_integer") (spF (Cc K) N_is_integer 1 b_is_integer) := by
  obtain ⟨fd, Fd⟩ : ∃ fd : FuncData, FunD K "is_integer" "is_integer" (defArgs s_is_integer) (defBody s_is_integer) (defScope s_is_integer) [] [] (He.ga K "is_integer") fd := S.def_ 5 rfl
  exact fnP_ok (ps := ["thing"]) Fd sc_is_integer (Fd.bindsN fun _ _ _ _ _ _ us hl => match us, hl with | [_], _ => rfl) (fun cdv A outer s H E hr => (fss_one (fs_ret (fx_and (fx_isi (pe_bltn (v := .ty "int") (u := .type "int") rfl (S.free 8) rfl rfl) (ClsV.ty "int") (fun _ _ => isiB_ok) (fun _ _ h => nomatch h) (fx_look (pv 0)) (S.free 9) rfl) (fx_one (fx_not (fx_isi (pe_bltn (v := .ty "bool") (u := .type "bool") rfl (S.free 10) rfl rfl) (ClsV.ty "bool") (fun _ _ => isiB_ok) (fun _ _ h => nomatch h) (fx_look (pv 0)) (S.free 9) rfl)))))))
theorem sc_is_between : FnScope N_is_between ["thing", "least", "most"] (defScope s_is_between) := ⟨rfl, rfl, rfl, by decide +kernel, rfl, by decide +kernel, by decide +kernel⟩
theorem ok_is_between (S : Sy fb fn lf K mg base) : FnG P w K mg base (L2.CX P w) 2 (He.ga K "is_between") (spF (Cc K) N_is_between 3 b_is_between) := by
  obtain ⟨fd, Fd⟩ : ∃ fd : FuncData, FunD K "is_between" "is_between" (defArgs s_is_between) (defBody s_is_between) (defScope s_is_between) [] [] (He.ga K "is_between") fd := S.def_ 6 rfl
  exact fnP_ok (ps := ["thing", "least", "most"]) Fd sc_is_between (Fd.bindsN fun _ _ _ _ _ _ us hl => match us, hl with | [_, _, _], _ => rfl) (fun cdv A outer s H E hr => (fss_one (fs_ret (fx_and (fx_def (k := 1) (f := (He.ga K "is_integer")) (N := N_is_integer) (b := b_is_integer) (ok_is_integer S) (hr.mono (by decide)) rfl (S.glo 11) (S.keep 12) take_bcx (fa_var (pv 0) fa_nil) (an_var an_nil)) (fx_one (fx_chain op_le op_le op2_le op2_le (fx_look (pv 1)) (fx_look (pv 0)) (fx_look (pv 2)) (by rfl)))))))
theorem sc_is_pair : FnScope N_is_pair ["thing"] (defScope s_is_pair) := ⟨rfl, rfl, rfl, by decide +kernel, rfl, by decide +kernel, by decide +kernel⟩
theorem ok_is_pair (S : Sy fb fn lf K mg base) : FnG P w K mg base (L2.CX P w) 3 (He.ga K "is_pair") (spF (Cc K) N_is_pair 1 b_is_pair) := by
  obtain ⟨fd, Fd⟩ : ∃ fd : FuncData, FunD K "is_pair" "is_pair" (defArgs s_is_pair) (defBody s_is_pair) (defScope s_is_pair) [] [] (He.ga K "is_pair") fd := S.def_ 7 rfl
  exact fnP_ok (ps := ["thing"]) Fd sc_is_pair (Fd.bindsN fun _ _ _ _ _ _ us hl => match us, hl with | [_], _ => rfl) (fun cdv A outer s H E hr => (fss_cons (fs_if (ft_w (fw_or (ft_not (ft_truth (fx_isi (pe_bltn (v := .ty "tuple") (u := .type "tuple") rfl (S.free 7) rfl rfl) (ClsV.ty "tuple") (fun _ _ => isiB_ok) (fun _ _ h => nomatch h) (fx_look (pv 0)) (S.free 9) rfl))) (fw_or1 (ft_ne (u64 hr) (fx_len (fx_look (pv 0)) (S.free 1) rfl) fx_int)))) (fss_one (fs_ret fx_bl)) fss_nil) (fss_one (fs_ret (fx_and (fx_def (k := 2) (f := (He.ga K "is_between")) (N := N_is_between) (b := b_is_between) (ok_is_between S) (hr.mono (by decide)) rfl (S.glo 14) (S.keep 15) take_bcx (fa_val (fx_ix (fx_look (pv 0)) fx_int) (fa_val fx_int (fa_val (fx_gint (S.int 13) rfl) fa_nil))) (an_val (an_val (an_val an_nil)))) (fx_one (fx_def (k := 2) (f := (He.ga K "is_between")) (N := N_is_between) (b := b_is_between) (ok_is_between S) (hr.mono (by decide)) rfl (S.glo 14) (S.keep 15) take_bcx (fa_val (fx_ix (fx_look (pv 0)) fx_int) (fa_val fx_int (fa_val (fx_gint (S.int 16) rfl) fa_nil))) (an_val (an_val (an_val an_nil))))))))))
theorem sc_are_pairs : FnScope N_are_pairs ["things"] (defScope s_are_pairs) := ⟨rfl, rfl, rfl, by decide +kernel, rfl, by decide +kernel, by decide +kernel⟩
theorem ok_are_pairs (S : Sy fb fn lf K mg base) : FnG P w K mg base (L2.CX P w) 4 (He.ga K "are_pairs") (spF (Cc K) N_are_pairs 1 b_are_pairs) := by
  obtain ⟨fd, Fd⟩ : ∃ fd : FuncData, FunD K "are_pairs" "are_pairs" (defArgs s_are_pairs) (defBody s_are_pairs) (defScope s_are_pairs) [] [] (He.ga K "are_pairs") fd := S.def_ 8 rfl
  exact fnP_ok (ps := ["things"]) Fd sc_are_pairs (Fd.bindsN fun _ _ _ _ _ _ us hl => match us, hl with | [_], _ => rfl) (fun cdv A outer s H E hr => (fss_one (fs_ret (fx_and (fx_gt (fx_len (fx_look (pv 0)) (S.free 1) rfl) fx_int) (fx_and (fx_all rfl (fx_new (fn_lc rfl sc_are_pairs.nd (fi_seq (fx_var (pv 0))) (blkOk_by (own := [("thing", 1)]) (by rfl)) (fun _ _ _ _ _ => (fg_name sc_are_pairs.nd rfl (by first | exact Or.inl rfl | exact Or.inr rfl))) (fun _ _ _ _ _ => fts_nil) (fun _ _ _ _ _ => (fx_def (k := 3) (f := (He.ga K "is_pair")) (N := N_is_pair) (b := b_is_pair) (ok_is_pair S) (hr.mono (by decide)) rfl (S.glo 17) (S.keep 18) takes0 (fa_var (pv 1) fa_nil) (an_var an_nil))))) (S.free 19) rfl) (fx_one (fx_eq (u64 hr) (fx_lenSet rfl (u64 hr) rfl (S.free 1) rfl (S.free 20) (fx_look (pv 0))) (fx_len (fx_look (pv 0)) (S.free 1) rfl))))))))
theorem sc_Limits___init__ : FnScope N_Limits___init__ ["self", "pairs"] (defScope s_Limits___init__) := ⟨rfl, rfl, rfl, by decide +kernel, rfl, by decide +kernel, by decide +kernel⟩
theorem ok_Limits___init__ (S : Sy fb fn lf K mg base) : FnG P w K mg base (L2.CX P w) 5 (He.ma K (He.ga K "Limits") "__init__") (spStar (Cc K) N_Limits___init__ b_Limits___init__) := by
  obtain ⟨fd, Fd⟩ : ∃ fd : FuncData, FunD K "__init__" "Limits.__init__" (defArgs s_Limits___init__) (defBody s_Limits___init__) (defScope s_Limits___init__) [] [] (He.ma K (He.ga K "Limits") "__init__") fd := S.def_ 9 rfl
  exact starF_ok Fd sc_Limits___init__ (fun kV doc pm an cdv ct => StX.bind_star1 (B := fun us => bindArgs (PySem.W.fnOf "__init__" "Limits.__init__" (defArgs s_Limits___init__) (defBody s_Limits___init__) (defScope s_Limits___init__) .none kV doc pm an cdv ct) ⟨us, []⟩) (p1 := "self") (pv := "pairs") (fun _ => rfl) (fun _ _ _ => rfl)) (fun cdv A outer s H E hr => (fss_cons (fs_if (ft_not (ft_truth (fx_def (k := 4) (f := (He.ga K "are_pairs")) (N := N_are_pairs) (b := b_are_pairs) (ok_are_pairs S) (hr.mono (by decide)) rfl (S.glo 21) (S.keep 22) take_bcx (fa_var (pv 1) fa_nil) (an_var an_nil)))) (fss_one fs_st) fss_nil) (fss_cons (fs_if (ft_gt (fx_len (fx_look (pv 1)) (S.free 1) rfl) (fx_gint (S.int 23) rfl)) (fss_one fs_st) fss_nil) (fss_one (fs_setF (cs := [0]) (fun c h => by cases h with | head => exact ⟨(S.cls 24), (S.noat 25)⟩ | tail _ h => cases h) (pv 0) (fx_var (pv 1)))))))
theorem sc__law_direct : FnScope N__law_direct ["_law_some"] (defScope s__law_direct) := ⟨rfl, rfl, rfl, by decide +kernel, rfl, by decide +kernel, by decide +kernel⟩
theorem ok__law_direct (S : Sy fb fn lf K mg base) : FnG P w K mg base (L2.CX P w) 7 (He.ga K "_law_direct") (spF (Cc K) N__law_direct 1 b__law_direct) := by
  obtain ⟨fd, Fd⟩ : ∃ fd : FuncData, FunD K "_law_direct" "_law_direct" (defArgs s__law_direct) (defBody s__law_direct) (defScope s__law_direct) [] [] (He.ga K "_law_direct") fd := S.def_ 10 rfl
  exact fnP_ok (ps := ["_law_some"]) Fd sc__law_direct (Fd.bindsN fun _ _ _ _ _ _ us hl => match us, hl with | [_], _ => rfl) (fun cdv A outer s H E hr => (fss_cons (fs_if (ft_eq (u64 hr) (fx_len (fx_look (pv 0)) (S.free 1) rfl) fx_int) (fss_one (fs_ret (fx_new (fn_makeS0 (c := 0) (k := 5) (f := (He.ma K (He.ga K "Limits") "__init__")) (N := N_Limits___init__) (b := b_Limits___init__) (S.mkr 26) (ok_Limits___init__ S) (hr.mono (by decide)) rfl (S.glo 27) take_bcx)))) fss_nil) (fss_cons (fs_if (ft_eq (u64 hr) (fx_len (fx_look (pv 0)) (S.free 1) rfl) fx_int) (fss_one (fs_ret (fx_new (fn_makeS (c := 0) (k := 5) (f := (He.ma K (He.ga K "Limits") "__init__")) (N := N_Limits___init__) (b := b_Limits___init__) (S.mkr 26) (ok_Limits___init__ S) (hr.mono (by decide)) rfl (S.glo 27) take_bcx (fa_val (fx_ix (fx_look (pv 0)) fx_int) fa_nil))))) fss_nil) (fss_cons (fs_if (ft_eq (u64 hr) (fx_len (fx_look (pv 0)) (S.free 1) rfl) fx_int) (fss_one (fs_ret (fx_new (fn_makeS (c := 0) (k := 5) (f := (He.ma K (He.ga K "Limits") "__init__")) (N := N_Limits___init__) (b := b_Limits___init__) (S.mkr 26) (ok_Limits___init__ S) (hr.mono (by decide)) rfl (S.glo 27) take_bcx (fa_val (fx_ix (fx_look (pv 0)) fx_int) (fa_val (fx_ix (fx_look (pv 0)) fx_int) fa_nil)))))) fss_nil) (fss_cons (fs_if (ft_eq (u64 hr) (fx_len (fx_look (pv 0)) (S.free 1) rfl) fx_int) (fss_one (fs_ret (fx_new (fn_makeS (c := 0) (k := 5) (f := (He.ma K (He.ga K "Limits") "__init__")) (N := N_Limits___init__) (b := b_Limits___init__) (S.mkr 26) (ok_Limits___init__ S) (hr.mono (by decide)) rfl (S.glo 27) take_bcx (fa_val (fx_ix (fx_look (pv 0)) fx_int) (fa_val (fx_ix (fx_look (pv 0)) fx_int) (fa_val (fx_ix (fx_look (pv 0)) fx_int) fa_nil))))))) fss_nil) (fss_cons (fs_if (ft_eq (u64 hr) (fx_len (fx_look (pv 0)) (S.free 1) rfl) fx_int) (fss_one (fs_ret (fx_new (fn_makeS (c := 0) (k := 5) (f := (He.ma K (He.ga K "Limits") "__init__")) (N := N_Limits___init__) (b := b_Limits___init__) (S.mkr 26) (ok_Limits___init__ S) (hr.mono (by decide)) rfl (S.glo 27) take_bcx (fa_val (fx_ix (fx_look (pv 0)) fx_int) (fa_val (fx_ix (fx_look (pv 0)) fx_int) (fa_val (fx_ix (fx_look (pv 0)) fx_int) (fa_val (fx_ix (fx_look (pv 0)) fx_int) fa_nil)))))))) fss_nil) (fss_cons (fs_if (ft_eq (u64 hr) (fx_len (fx_look (pv 0)) (S.free 1) rfl) fx_int) (fss_one (fs_ret (fx_new (fn_makeS (c := 0) (k := 5) (f := (He.ma K (He.ga K "Limits") "__init__")) (N := N_Limits___init__) (b := b_Limits___init__) (S.mkr 26) (ok_Limits___init__ S) (hr.mono (by decide)) rfl (S.glo 27) take_bcx (fa_val (fx_ix (fx_look (pv 0)) fx_int) (fa_val (fx_ix (fx_look (pv 0)) fx_int) (fa_val (fx_ix (fx_look (pv 0)) fx_int) (fa_val (fx_ix (fx_look (pv 0)) fx_int) (fa_val (fx_ix (fx_look (pv 0)) fx_int) fa_nil))))))))) fss_nil) (fss_cons (fs_if (ft_eq (u64 hr) (fx_len (fx_look (pv 0)) (S.free 1) rfl) fx_int) (fss_one (fs_ret (fx_new (fn_makeS (c := 0) (k := 5) (f := (He.ma K (He.ga K "Limits") "__init__")) (N := N_Limits___init__) (b := b_Limits___init__) (S.mkr 26) (ok_Limits___init__ S) (hr.mono (by decide)) rfl (S.glo 27) take_bcx (fa_val (fx_ix (fx_look (pv 0)) fx_int) (fa_val (fx_ix (fx_look (pv 0)) fx_int) (fa_val (fx_ix (fx_look (pv 0)) fx_int) (fa_val (fx_ix (fx_look (pv 0)) fx_int) (fa_val (fx_ix (fx_look (pv 0)) fx_int) (fa_val (fx_ix (fx_look (pv 0)) fx_int) fa_nil)))))))))) fss_nil) (fss_one (fs_ret (fx_new (fn_makeS (c := 0) (k := 5) (f := (He.ma K (He.ga K "Limits") "__init__")) (N := N_Limits___init__) (b := b_Limits___init__) (S.mkr 26) (ok_Limits___init__ S) (hr.mono (by decide)) rfl (S.glo 27) take_bcx (fa_val (fx_ix (fx_look (pv 0)) fx_int) (fa_val (fx_ix (fx_look (pv 0)) fx_int) (fa_val (fx_ix (fx_look (pv 0)) fx_int) (fa_val (fx_ix (fx_look (pv 0)) fx_int) (fa_val (fx_ix (fx_look (pv 0)) fx_int) (fa_val (fx_ix (fx_look (pv 0)) fx_int) (fa_val (fx_ix (fx_look (pv 0)) fx_int) fa_nil)))))))))))))))))))
theorem sc__law_said : FnScope N__law_said ["_law_call"] (defScope s__law_said) := ⟨rfl, rfl, rfl, by decide +kernel, rfl, by decide +kernel, by decide +kernel⟩
theorem sc_Limits___eq__ : FnScope N_Limits___eq__ ["self", "other"] (defScope s_Limits___eq__) := ⟨rfl, rfl, rfl, by decide +kernel, rfl, by decide +kernel, by decide +kernel⟩
theorem ok_Limits___eq__ (S : Sy fb fn lf K mg base) : FnG P w K mg base (L2.CX P w) 1 (He.ma K (He.ga K "Limits") "__eq__") (spF (Cc K) N_Limits___eq__ 2 b_Limits___eq__) := by
  obtain ⟨fd, Fd⟩ : ∃ fd : FuncData, FunD K "__eq__" "Limits.__eq__" (defArgs s_Limits___eq__) (defBody s_Limits___eq__) (defScope s_Limits___eq__) [] [] (He.ma K (He.ga K "Limits") "__eq__") fd := S.def_ 12 rfl
  exact fnP_ok (ps := ["self", "other"]) Fd sc_Limits___eq__ (Fd.bindsN fun _ _ _ _ _ _ us hl => match us, hl with | [_, _], _ => rfl) (fun cdv A outer s H E hr => (fss_one (fs_ret (fx_and (fx_isi (pe_glob (v := .ref (He.ga K "Limits")) rfl (S.glo 27) rfl) (ClsV.own _) (isiCb_ok (S.bool (f := fun K => isiN (He.ga K "Limits") K) 28)) (isiC1_ok ⟨S.isi 29, S.kit 30⟩) (fx_look (pv 1)) (S.free 9) rfl) (fx_one (fx_eq (u64 hr) (fx_fld (cs := [0]) (fun c h => by cases h with | head => exact ⟨(S.cls 24), (S.noat 25)⟩ | tail _ h => cases h) (fx_look (pv 0))) (fx_fld (cs := [0]) (fun c h => by cases h with | head => exact ⟨(S.cls 24), (S.noat 25)⟩ | tail _ h => cases h) (fx_look (pv 1)))))))))
theorem sc_Limits___getitem__ : FnScope N_Limits___getitem__ ["self", "number"] (defScope s_Limits___getitem__) := ⟨rfl, rfl, rfl, by decide +kernel, rfl, by decide +kernel, by decide +kernel⟩
theorem ok_Limits___getitem__ (S : Sy fb fn lf K mg base) : FnG P w K mg base (L2.CX P w) 3 (He.ma K (He.ga K "Limits") "__getitem__") (spF (Cc K) N_Limits___getitem__ 2 b_Limits___getitem__) := by
  obtain ⟨fd, Fd⟩ : ∃ fd : FuncData, FunD K "__getitem__" "Limits.__getitem__" (defArgs s_Limits___getitem__) (defBody s_Limits___getitem__) (defScope s_Limits___getitem__) [] [] (He.ma K (He.ga K "Limits") "__getitem__") fd := S.def_ 13 rfl
  exact fnP_ok (ps := ["self", "number"]) Fd sc_Limits___getitem__ (Fd.bindsN fun _ _ _ _ _ _ us hl => match us, hl with | [_, _], _ => rfl) (fun cdv A outer s H E hr => (fss_cons (fs_if (ft_not (ft_truth (fx_def (k := 2) (f := (He.ga K "is_between")) (N := N_is_between) (b := b_is_between) (ok_is_between S) (hr.mono (by decide)) rfl (S.glo 14) (S.keep 15) take_bcx (fa_var (pv 1) (fa_val fx_int (fa_val (fx_sub (fx_len (fx_fld (cs := [0]) (fun c h => by cases h with | head => exact ⟨(S.cls 24), (S.noat 25)⟩ | tail _ h => cases h) (fx_look (pv 0))) (S.free 1) rfl) fx_int) fa_nil))) (an_var (an_val (an_val an_nil)))))) (fss_one fs_st) fss_nil) (fss_one (fs_ret (fx_ix (fx_fld (cs := [0]) (fun c h => by cases h with | head => exact ⟨(S.cls 24), (S.noat 25)⟩ | tail _ h => cases h) (fx_look (pv 0))) (fx_look (pv 1)))))))
theorem sc_Limits_pairs : FnScope N_Limits_pairs ["self"] (defScope s_Limits_pairs) := ⟨rfl, rfl, rfl, by decide +kernel, rfl, by decide +kernel, by decide +kernel⟩
theorem ok_Limits_pairs (S : Sy fb fn lf K mg base) : FnG P w K mg base (L2.CX P w) 1 (prG K (He.ga K "Limits") "pairs") (spF (Cc K) N_Limits_pairs 1 b_Limits_pairs) := by
  obtain ⟨fd, Fd⟩ : ∃ fd : FuncData, FunD K "pairs" "Limits.pairs" (defArgs s_Limits_pairs) (defBody s_Limits_pairs) (defScope s_Limits_pairs) [] [] (prG K (He.ga K "Limits") "pairs") fd := S.def_ 14 rfl
  exact fnP_ok (ps := ["self"]) Fd sc_Limits_pairs (Fd.bindsN fun _ _ _ _ _ _ us hl => match us, hl with | [_], _ => rfl) (fun cdv A outer s H E hr => (fss_one (fs_ret (fx_fld (cs := [0]) (fun c h => by cases h with | head => exact ⟨(S.cls 24), (S.noat 25)⟩ | tail _ h => cases h) (fx_look (pv 0))))))
theorem sc_Limits___len__ : FnScope N_Limits___len__ ["self"] (defScope s_Limits___len__) := ⟨rfl, rfl, rfl, by decide +kernel, rfl, by decide +kernel, by decide +kernel⟩
theorem ok_Limits___len__ (S : Sy fb fn lf K mg base) : FnG P w K mg base (L2.CX P w) 1 (He.ma K (He.ga K "Limits") "__len__") (spF (Cc K) N_Limits___len__ 1 b_Limits___len__) := by
  obtain ⟨fd, Fd⟩ : ∃ fd : FuncData, FunD K "__len__" "Limits.__len__" (defArgs s_Limits___len__) (defBody s_Limits___len__) (defScope s_Limits___len__) [] [] (He.ma K (He.ga K "Limits") "__len__") fd := S.def_ 15 rfl
  exact fnP_ok (ps := ["self"]) Fd sc_Limits___len__ (Fd.bindsN fun _ _ _ _ _ _ us hl => match us, hl with | [_], _ => rfl) (fun cdv A outer s H E hr => (fss_one (fs_ret (fx_len (fx_fld (cs := [0]) (fun c h => by cases h with | head => exact ⟨(S.cls 24), (S.noat 25)⟩ | tail _ h => cases h) (fx_look (pv 0))) (S.free 1) rfl))))
theorem sc_Limits___repr__ : FnScope N_Limits___repr__ ["self"] (defScope s_Limits___repr__) := ⟨rfl, rfl, rfl, by decide +kernel, rfl, by decide +kernel, by decide +kernel⟩
theorem ok_Limits___repr__ (S : Sy fb fn lf K mg base) : FnG P w K mg base (L2.CX P w) 1 (He.ma K (He.ga K "Limits") "__repr__") (spF (Cc K) N_Limits___repr__ 1 b_Limits___repr__) := by
  obtain ⟨fd, Fd⟩ : ∃ fd : FuncData, FunD K "__repr__" "Limits.__repr__" (defArgs s_Limits___repr__) (defBody s_Limits___repr__) (defScope s_Limits___repr__) [] [] (He.ma K (He.ga K "Limits") "__repr__") fd := S.def_ 16 rfl
  exact fnP_ok (ps := ["self"]) Fd sc_Limits___repr__ (Fd.bindsN fun _ _ _ _ _ _ us hl => match us, hl with | [_], _ => rfl) (fun cdv A outer s H E hr => (fss_one (fs_ret (fx_joined (FXs.cons ⟨_, fx_str⟩ (FXs.cons ⟨_, (fx_fmt (fx_len (fx_fld (cs := [0]) (fun c h => by cases h with | head => exact ⟨(S.cls 24), (S.noat 25)⟩ | tail _ h => cases h) (fx_look (pv 0))) (S.free 1) rfl))⟩ (FXs.cons ⟨_, fx_str⟩ FXs.nil)))))))
theorem sc_Limits_text : FnScope N_Limits_text ["self"] (defScope s_Limits_text) := ⟨rfl, rfl, rfl, by decide +kernel, rfl, by decide +kernel, by decide +kernel⟩
theorem ok_Limits_text (S : Sy fb fn lf K mg base) : FnG P w K mg base (L2.CX P w) 1 (He.ma K (He.ga K "Limits") "text") (spF (Cc K) N_Limits_text 1 b_Limits_text) := by
  obtain ⟨fd, Fd⟩ : ∃ fd : FuncData, FunD K "text" "Limits.text" (defArgs s_Limits_text) (defBody s_Limits_text) (defScope s_Limits_text) [] [] (He.ma K (He.ga K "Limits") "text") fd := S.def_ 17 rfl
  exact fnP_ok (ps := ["self"]) Fd sc_Limits_text (Fd.bindsN fun _ _ _ _ _ _ us hl => match us, hl with | [_], _ => rfl) (fun cdv A outer s H E hr => (fss_one (fs_ret (fx_join fx_str (fx_new (fn_lc rfl sc_Limits_text.nd (fi_seq (fx_fld (cs := [0]) (fun c h => by cases h with | head => exact ⟨(S.cls 24), (S.noat 25)⟩ | tail _ h => cases h) (fx_look (pv 0)))) (blkOk_by (own := [("length", 1), ("most", 2)]) (by rfl)) (fun _ _ _ _ _ => (fg_tup rfl (fgs_cons (fg_name sc_Limits_text.nd rfl (by first | exact Or.inl rfl | exact Or.inr rfl)) (fgs_cons (fg_name sc_Limits_text.nd rfl (by first | exact Or.inl rfl | exact Or.inr rfl)) fgs_nil)))) (fun _ _ _ _ _ => fts_nil) (fun _ _ _ _ _ => (fx_joined (FXs.cons ⟨_, fx_str⟩ (FXs.cons ⟨_, (fx_fmt (fx_look (pv 2)))⟩ (FXs.cons ⟨_, fx_str⟩ (FXs.cons ⟨_, (fx_fmt (fx_look (pv 1)))⟩ (FXs.cons ⟨_, fx_str⟩ FXs.nil)))))))))))))
theorem sc__law_seen : FnScope N__law_seen ["_law_made"] (defScope s__law_seen) := ⟨rfl, rfl, rfl, by decide +kernel, rfl, by decide +kernel, by decide +kernel⟩
theorem ok__law_seen (S : Sy fb fn lf K mg base) : FnG P w K mg base (L2.CX P w) 5 (He.ga K "_law_seen") (spF (Cc K) N__law_seen 1 b__law_seen) := by
  obtain ⟨fd, Fd⟩ : ∃ fd : FuncData, FunD K "_law_seen" "_law_seen" (defArgs s__law_seen) (defBody s__law_seen) (defScope s__law_seen) [] [] (He.ga K "_law_seen") fd := S.def_ 18 rfl
  exact fnP_ok (ps := ["_law_made"]) Fd sc__law_seen (Fd.bindsN fun _ _ _ _ _ _ us hl => match us, hl with | [_], _ => rfl) (fun cdv A outer s H E hr => (fss_cons (fs_setLc rfl sc__law_seen.nd rfl rfl (sw_true rfl rfl rfl rfl) (fi_rng1 (by rfl) (S.free 6) (fa_val (fx_lenO (c := 0) (k := 1) (f := (He.ma K (He.ga K "Limits") "__len__")) (N := N_Limits___len__) (b := b_Limits___len__) (fv_var (pv 0)) (S.spec 31) (ok_Limits___len__ S) (hr.mono (by decide)) take_bcx (S.free 1) (by rfl)) fa_nil)) (blkOk_by (own := [("_law_at", 2)]) (by rfl)) (fun _ _ _ _ _ => (fg_name sc__law_seen.nd rfl (by first | exact Or.inl rfl | exact Or.inr rfl))) (fun _ _ _ _ _ => fts_nil) (fun _ _ _ _ _ => (fx_getO (c := 0) (k := 3) (f := (He.ma K (He.ga K "Limits") "__getitem__")) (N := N_Limits___getitem__) (b := b_Limits___getitem__) (fv_var (pv 0)) (fx_var (pv 2)) (S.spec 32) (ok_Limits___getitem__ S) (hr.mono (by decide)) takes0))) (fss_freeze (i := 1) (fss_one (fs_ret (fx_new (fn_lst (fa_val (fx_prop (c := 0) (k := 1) (g := (prG K (He.ga K "Limits") "pairs")) (N := N_Limits_pairs) (b := b_Limits_pairs) (fv_var (pv 0)) (S.cls 24) (S.prop 36) (ok_Limits_pairs S) (hr.mono (by decide))) (fa_val (fx_lenO (c := 0) (k := 1) (f := (He.ma K (He.ga K "Limits") "__len__")) (N := N_Limits___len__) (b := b_Limits___len__) (fv_var (pv 0)) (S.spec 31) (ok_Limits___len__ S) (hr.mono (by decide)) take_bcx (S.free 1) rfl) (fa_var (pv 1) (fa_val (fx_reprO (c := 0) (k := 1) (f := (He.ma K (He.ga K "Limits") "__repr__")) (N := N_Limits___repr__) (b := b_Limits___repr__) (fv_var (pv 0)) (S.spec 34) (ok_Limits___repr__ S) (hr.mono (by decide)) take_bcx (S.free 35) rfl) (fa_val (fx_meth0 (c := 0) (k := 1) (f := (He.ma K (He.ga K "Limits") "text")) (N := N_Limits_text) (b := b_Limits_text) (fv_var (pv 0)) (S.cls 24) (S.meth 33) (ok_Limits_text S) (hr.mono (by decide)) take_bcx) fa_nil))))))))))))
theorem sc__law_text : FnScope N__law_text ["_law_pairs_here"] (defScope s__law_text) := ⟨rfl, rfl, rfl, by decide +kernel, rfl, by decide +kernel, by decide +kernel⟩
theorem ok__law_text (S : Sy fb fn lf K mg base) : FnG P w K mg base (L2.CX P w) 1 (He.ga K "_law_text") (spF (Cc K) N__law_text 1 b__law_text) := by
  obtain ⟨fd, Fd⟩ : ∃ fd : FuncData, FunD K "_law_text" "_law_text" (defArgs s__law_text) (defBody s__law_text) (defScope s__law_text) [] [] (He.ga K "_law_text") fd := S.def_ 19 rfl
  exact fnP_ok (ps := ["_law_pairs_here"]) Fd sc__law_text (Fd.bindsN fun _ _ _ _ _ _ us hl => match us, hl with | [_], _ => rfl) (fun cdv A outer s H E hr => (fss_one (fs_ret (fx_join fx_str (fx_new (fn_lc rfl sc__law_text.nd (fi_seq (fx_var (pv 0))) (blkOk_by (own := [("_law_size", 1), ("_law_number", 2)]) (by rfl)) (fun _ _ _ _ _ => (fg_tup rfl (fgs_cons (fg_name sc__law_text.nd rfl (by first | exact Or.inl rfl | exact Or.inr rfl)) (fgs_cons (fg_name sc__law_text.nd rfl (by first | exact Or.inl rfl | exact Or.inr rfl)) fgs_nil)))) (fun _ _ _ _ _ => fts_nil) (fun _ _ _ _ _ => (fx_add (fx_add (fx_add (fx_add fx_str (fx_strI (fx_var (pv 2)) (S.free 37) rfl)) fx_str) (fx_strI (fx_var (pv 1)) (S.free 37) rfl)) fx_str))))))))
theorem sc_number_in : FnScope N_number_in ["word"] (defScope s_number_in) := ⟨rfl, rfl, rfl, by decide +kernel, rfl, by decide +kernel, by decide +kernel⟩
theorem ok_number_in (S : Sy fb fn lf K mg base) : FnG P w K mg base (L2.CX P w) 1 (He.ga K "number_in") (spF (Cc K) N_number_in 1 b_number_in) := by
  obtain ⟨fd, Fd⟩ : ∃ fd : FuncData, FunD K "number_in" "number_in" (defArgs s_number_in) (defBody s_number_in) (defScope s_number_in) [] [] (He.ga K "number_in") fd := S.def_ 20 rfl
  exact fnP_ok (ps := ["word"]) Fd sc_number_in (Fd.bindsN fun _ _ _ _ _ _ us hl => match us, hl with | [_], _ => rfl) (fun cdv A outer s H E hr => (fss_cons (fs_if (ft_w (fw_or (ft_not (ft_chain op_le op_le op2_le op2_le fx_int (fx_len (fx_look (pv 0)) (S.free 1) rfl) fx_int (by rfl))) (fw_or (ft_not (ft_truth (fx_all rfl (fx_new (fn_lc rfl sc_number_in.nd (fi_str (fx_var (pv 0))) (blkOk_by (own := [("sign", 1)]) (by rfl)) (fun _ _ _ _ _ => (fg_name sc_number_in.nd rfl (by first | exact Or.inl rfl | exact Or.inr rfl))) (fun _ _ _ _ _ => fts_nil) (fun _ _ _ _ _ => (fx_in (u65 hr) (fx_look (pv 1)) (fx_gstr (S.str 38) rfl))))) (S.free 19) rfl))) (fw_or1 (ft_eq (u64 hr) (fx_ix (fx_look (pv 0)) fx_int) fx_str))))) (fss_one (fs_ret fx_int)) fss_nil) (fss_one (fs_ret (fx_intS (fx_var (pv 0)) (S.free 8) rfl)))))
theorem sc_pair_in : FnScope N_pair_in ["line"] (defScope s_pair_in) := ⟨rfl, rfl, rfl, by decide +kernel, rfl, by decide +kernel, by decide +kernel⟩
theorem ok_pair_in (S : Sy fb fn lf K mg base) : FnG P w K mg base (L2.CX P w) 2 (He.ga K "pair_in") (spF (Cc K) N_pair_in 1 b_pair_in) := by
  obtain ⟨fd, Fd⟩ : ∃ fd : FuncData, FunD K "pair_in" "pair_in" (defArgs s_pair_in) (defBody s_pair_in) (defScope s_pair_in) [] [] (He.ga K "pair_in") fd := S.def_ 21 rfl
  exact fnP_ok (ps := ["line"]) Fd sc_pair_in (Fd.bindsN fun _ _ _ _ _ _ us hl => match us, hl with | [_], _ => rfl) (fun cdv A outer s H E hr => (fss_cons (fs_if (ft_not (ft_truth (fx_startswith (fx_look (pv 0)) (fx_gstr (S.str 39) rfl)))) (fss_one (fs_ret (fx_tup fa_nil))) fss_nil) (fss_one (fs_mt rfl (fx_new (fn_split (fx_slL (fx_look (pv 0)) (fx_len (fx_gstr (S.str 39) rfl) (S.free 1) rfl)) fx_str)) (fss_one (fs_ret (fx_tup (fa_val (fx_def (k := 1) (f := (He.ga K "number_in")) (N := N_number_in) (b := b_number_in) (ok_number_in S) (hr.mono (by decide)) rfl (S.glo 40) (S.keep 41) take_bcx (fa_var (pv 2) fa_nil) (an_var an_nil)) (fa_val (fx_def (k := 1) (f := (He.ga K "number_in")) (N := N_number_in) (b := b_number_in) (ok_number_in S) (hr.mono (by decide)) rfl (S.glo 40) (S.keep 41) take_bcx (fa_var (pv 1) fa_nil) (an_var an_nil)) fa_nil))))) (fss_one (fs_ret (fx_tup fa_nil))) sc_pair_in.nd rfl (by first | exact Or.inl rfl | exact Or.inr rfl) rfl (by first | exact Or.inl rfl | exact Or.inr rfl)))))
theorem sc_Limits_read : FnScope N_Limits_read ["cls", "text"] (defScope s_Limits_read) := ⟨rfl, rfl, rfl, by decide +kernel, rfl, by decide +kernel, by decide +kernel⟩
theorem ok_Limits_read (S : Sy fb fn lf K mg base) : FnG P w K mg base (L2.CX P w) 7 (He5.wf K (He.ga K "Limits") "classmethod" "read") (spF (Cc K) N_Limits_read 2 b_Limits_read) := by
  obtain ⟨fd, Fd⟩ : ∃ fd : FuncData, FunD K "read" "Limits.read" (defArgs s_Limits_read) (defBody s_Limits_read) (defScope s_Limits_read) [] [] (He5.wf K (He.ga K "Limits") "classmethod" "read") fd := S.def_ 22 rfl
  exact fnP_ok (ps := ["cls", "text"]) Fd sc_Limits_read (Fd.bindsN fun _ _ _ _ _ _ us hl => match us, hl with | [_, _], _ => rfl) (fun cdv A outer s H E hr => (fss_cons (fs_if (ft_w (fw_or (ft_not (ft_truth (fx_isi (pe_bltn (v := .ty "str") (u := .type "str") rfl (S.free 37) rfl rfl) (ClsV.ty "str") (fun _ _ => isiB_ok) (fun _ _ h => nomatch h) (fx_look (pv 1)) (S.free 9) rfl))) (fw_or1 (ft_not (ft_truth (fx_endswith (fx_look (pv 1)) fx_str)))))) (fss_one fs_st) fss_nil) (fss_cons (fs_setLc rfl sc_Limits_read.nd rfl rfl (sw_true rfl rfl rfl rfl) (fi_seq (fx_new (fn_split (fx_slH (fx_look (pv 1)) (fx_neg fx_int)) fx_str))) (blkOk_by (own := [("line", 3)]) (by rfl)) (fun _ _ _ _ _ => (fg_name sc_Limits_read.nd rfl (by first | exact Or.inl rfl | exact Or.inr rfl))) (fun _ _ _ _ _ => fts_nil) (fun _ _ _ _ _ => (fx_def (k := 2) (f := (He.ga K "pair_in")) (N := N_pair_in) (b := b_pair_in) (ok_pair_in S) (hr.mono (by decide)) rfl (S.glo 42) (S.keep 43) takes0 (fa_var (pv 3) fa_nil) (an_var an_nil)))) (fss_freeze (i := 2) (fss_cons (fs_if (ft_w (fw_or (ft_not (ft_truth (fx_def (k := 4) (f := (He.ga K "are_pairs")) (N := N_are_pairs) (b := b_are_pairs) (ok_are_pairs S) (hr.mono (by decide)) rfl (S.glo 21) (S.keep 22) take_bcx (fa_var (pv 2) fa_nil) (an_var an_nil)))) (fw_or1 (ft_gt (fx_len (fx_look (pv 2)) (S.free 1) rfl) (fx_gint (S.int 23) rfl))))) (fss_one fs_st) fss_nil) (fss_one (fs_ret (fx_new (fn_makeLStar (c := 0) (k := 5) (f := (He.ma K (He.ga K "Limits") "__init__")) (N := N_Limits___init__) (b := b_Limits___init__) (pv 0) (S.mkr 26) (ok_Limits___init__ S) (hr.mono (by decide)) take_bcx (fx_look (pv 2)) rfl)))))))))
theorem sc__law_due : FnScope N__law_due ["_law_pairs_here"] (defScope s__law_due) := ⟨rfl, rfl, rfl, by decide +kernel, rfl, by decide +kernel, by decide +kernel⟩
theorem ok__law_due (S : Sy fb fn lf K mg base) : FnG P w K mg base (L2.CX P w) 2 (He.ga K "_law_due") (spF (Cc K) N__law_due 1 b__law_due) := by
  obtain ⟨fd, Fd⟩ : ∃ fd : FuncData, FunD K "_law_due" "_law_due" (defArgs s__law_due) (defBody s__law_due) (defScope s__law_due) [] [] (He.ga K "_law_due") fd := S.def_ 23 rfl
  exact fnP_ok (ps := ["_law_pairs_here"]) Fd sc__law_due (Fd.bindsN fun _ _ _ _ _ _ us hl => match us, hl with | [_], _ => rfl) (fun cdv A outer s H E hr => (fss_one (fs_ret (fx_new (fn_lst (fa_var (pv 0) (fa_val (fx_len (fx_look (pv 0)) (S.free 1) rfl) (fa_val (fx_new (fn_list (fx_look (pv 0)) (S.free 46) rfl)) (fa_val (fx_add (fx_add fx_str (fx_strI (fx_len (fx_look (pv 0)) (S.free 1) rfl) (S.free 37) rfl)) fx_str) (fa_val (fx_def (k := 1) (f := (He.ga K "_law_text")) (N := N__law_text) (b := b__law_text) (ok__law_text S) (hr.mono (by decide)) rfl (S.glo 44) (S.keep 45) take_bcx (fa_var (pv 0) fa_nil) (an_var an_nil)) fa_nil))))))))))
theorem sc_law : FnScope N_law ["_law_script"] (defScope s_law) := ⟨rfl, rfl, rfl, by decide +kernel, rfl, by decide +kernel, by decide +kernel⟩
theorem ok_law (S : Sy fb fn lf K mg base) : FnG P w K mg base (L2.CX P w) 10 (He.ga K "law") (spF (Cc K) N_law 1 b_law) := by
  obtain ⟨fd, Fd⟩ : ∃ fd : FuncData, FunD K "law" "law" (defArgs s_law) (defBody s_law) (defScope s_law) [] [] (He.ga K "law") fd := S.def_ 24 rfl
  exact fnL_ok (ps := ["_law_script"]) Fd sc_law (Fd.bindsN fun _ _ _ _ _ _ us hl => match us, hl with | [_], _ => rfl) (fun cdv A outer s H E hc hr => (fss_cons (fs_for pass_bcx rfl (fi_seq (fx_add (fx_new (fn_lst (fa_val (fx_def (k := 1) (f := (He.ga K "_law_cell_at")) (N := N__law_cell_at) (b := b__law_cell_at) (ok__law_cell_at S) (hr.mono (by decide)) rfl (S.glo 47) (S.keep 48) take_bcx (fa_var (pv 0) (fa_val fx_int fa_nil)) (an_var (an_val an_nil))) fa_nil))) (fx_seeSl (pv 0)))) (fg_name sc_law.nd rfl (by first | exact Or.inl rfl | exact Or.inr rfl)) (fss_cons (fs_setNew sc_law.nd rfl (by first | exact Or.inl rfl | exact Or.inr rfl) (fn_def (k := 1) (f := (He.ga K "_law_pen")) (N := N__law_pen) (b := b__law_pen) (ok__law_pen S) (hr.mono (by decide)) rfl (S.glo 49) (S.keep 50) take_bcx (fa_var (pv 1) fa_nil) (an_var an_nil))) (fss_one (fs_for pass_bcx rfl (fi_rng1 rfl (S.free 6) (fa_val fx_int fa_nil)) (fg_name sc_law.nd rfl (by first | exact Or.inl rfl | exact Or.inr rfl)) (fss_cons (fs_set sc_law.nd rfl (by first | exact Or.inl rfl | exact Or.inr rfl) (fx_def (k := 3) (f := (He.ga K "_law_pairs")) (N := N__law_pairs) (b := b__law_pairs) (ok__law_pairs S) (hr.mono (by decide)) rfl (S.glo 51) (S.keep 52) take_bcx (fa_var (pv 2) (fa_val fx_int fa_nil)) (an_var (an_val an_nil)))) (fss_cons (fs_set sc_law.nd rfl (by first | exact Or.inl rfl | exact Or.inr rfl) (fx_def (k := 7) (f := (He.ga K "_law_direct")) (N := N__law_direct) (b := b__law_direct) (ok__law_direct S) (hr.mono (by decide)) rfl (S.glo 53) (S.keep 54) take_bcx (fa_var (pv 4) fa_nil) (an_var an_nil))) (fss_one (fs_for pass_bcx rfl (fi_rng1 rfl (S.free 6) (fa_val fx_int fa_nil)) (fg_name sc_law.nd rfl (by first | exact Or.inl rfl | exact Or.inr rfl)) (fss_cons (fs_set sc_law.nd rfl (by first | exact Or.inl rfl | exact Or.inr rfl) (fx_saidL (C := Cc K) (k := 7) (j := 0) (a := "_law_call") (Ng := N__law_said) (i := 1) (CS := He.ga K "BurstError") S rfl rfl rfl hc rfl (S.def_ 11 rfl) (fun _ _ _ _ _ _ us hl => match us, hl with | [_], _ => rfl) rfl sc__law_said rfl (.inl rfl) rfl rfl rfl (S.glo 59) rfl (S.free 35) rfl (S.glo 60) (S.keep 61) (hr.mono (by decide)) (LamX.lamS_by (by rfl)) rfl (fun _ _ _ _ _ => rfl) (fun A out t G f c hr => (fx_def (k := 5) (f := (He.ga K "_law_seen")) (N := N__law_seen) (b := b__law_seen) (ok__law_seen S) (hr.mono (by decide)) rfl (S.glo 57) (S.keep 58) take_lam (fa_val (fx_cmeth (c := 0) (k := 7) (g := (He5.wf K (He.ga K "Limits") "classmethod" "read")) (N := N_Limits_read) (b := b_Limits_read) (S.glo 27) rfl (cread_of (S.bool 55)) (cmet_of (S.bool 56)) (ok_Limits_read S) (hr.mono (by decide)) take_lam (fa_val (fx_meth0 (c := 0) (k := 1) (f := (He.ma K (He.ga K "Limits") "text")) (N := N_Limits_text) (b := b_Limits_text) (fv_var (pv 5)) (S.cls 24) (S.meth 33) (ok_Limits_text S) (hr.mono (by decide)) take_lam) fa_nil) (an_val an_nil)) fa_nil) (an_val an_nil))))) (fss_cons (fs_if (ft_w (fw_or (ft_ne (u64 hr) (fx_meth0 (c := 0) (k := 1) (f := (He.ma K (He.ga K "Limits") "text")) (N := N_Limits_text) (b := b_Limits_text) (fv_var (pv 5)) (S.cls 24) (S.meth 33) (ok_Limits_text S) (hr.mono (by decide)) take_bcx) (fx_def (k := 1) (f := (He.ga K "_law_text")) (N := N__law_text) (b := b__law_text) (ok__law_text S) (hr.mono (by decide)) rfl (S.glo 44) (S.keep 45) take_bcx (fa_var (pv 4) fa_nil) (an_var an_nil))) (fw_or1 (ft_ne (u64 hr) (fx_var (pv 7)) (fx_repr hr (fx_def (k := 2) (f := (He.ga K "_law_due")) (N := N__law_due) (b := b__law_due) (ok__law_due S) (hr.mono (by decide)) rfl (S.glo 62) (S.keep 63) take_bcx (fa_var (pv 4) fa_nil) (an_var an_nil)) (S.free 35) rfl))))) (fss_one (fs_ret fx_bl)) fss_nil) (fss_one (fs_if (ft_not (ft_eqO (c := 0) (k := 1) (f := (He.ma K (He.ga K "Limits") "__eq__")) (N := N_Limits___eq__) (b' := b_Limits___eq__) (fv_var (pv 5)) (fx_cmeth (c := 0) (k := 7) (g := (He5.wf K (He.ga K "Limits") "classmethod" "read")) (N := N_Limits_read) (b := b_Limits_read) (S.glo 27) rfl (cread_of (S.bool 55)) (cmet_of (S.bool 56)) (ok_Limits_read S) (hr.mono (by decide)) take_bcx (fa_val (fx_meth0 (c := 0) (k := 1) (f := (He.ma K (He.ga K "Limits") "text")) (N := N_Limits_text) (b := b_Limits_text) (fv_var (pv 5)) (S.cls 24) (S.meth 33) (ok_Limits_text S) (hr.mono (by decide)) take_bcx) fa_nil) (an_val an_nil)) (S.spec 64) (ok_Limits___eq__ S) (hr.mono (by decide)) take_bcx)) (fss_one (fs_ret fx_bl)) fss_nil)))))))))))) (fss_one (fs_ret fx_bl))))
end
end G23

namespace G23
open PySem PySem.Spec PyProof.Rows L2 FC
local macro_rules | `(tactic| and_intros) => `(tactic| (repeat (first
  | with_reducible refine wp_seq ?_ | with_reducible refine wp_nx ?_ | with_reducible refine wp_rt ?_ | with_reducible refine wp_nil ?_ | with_reducible refine dk_val ?_ | with_reducible refine dk_lst ?_ | with_reducible refine ok_lst ?_ | with_reducible refine dk_ins ?_ | with_reducible refine ok_ins ?_ | with_reducible refine lp_nx ?_ | with_reducible refine lp_rt ?_ | with_reducible refine lp_ct ?_ | with_reducible refine lp_bk ?_ | with_reducible refine wp_bk ?_ | with_reducible refine wp_ctn ?_
  | with_reducible refine wp_if ?_ | with_reducible refine wp_ret ?_ | with_reducible refine wp_set ?_ | with_reducible refine wp_setN ?_ | with_reducible refine wp_retN ?_ | with_reducible refine wp_retNew ?_ | with_reducible refine wp_brk ?_ | with_reducible refine wp_ct ?_
  | with_reducible refine wp_f0 ?_ | with_reducible refine wp_f1 ?_ | with_reducible refine wp_f2 ?_
  | ((with_reducible apply wp_look); rfl) | ((with_reducible apply wp_var); rfl) | ((with_reducible apply wp_lookL); rfl) | ((with_reducible apply wp_retVar); rfl) | ((with_reducible apply wp_retVarO); rfl)
  | with_reducible refine wp_and ?_ | with_reducible refine wp_tand ?_ | with_reducible refine wp_tor ?_ | with_reducible refine wp_tnot ?_ | with_reducible refine wp_fIf ?_
  | with_reducible refine wp_call ?_ | with_reducible refine wp_nCall ?_ | with_reducible refine wp_mth ?_ | with_reducible refine wp_prop ?_ | ((with_reducible apply wp_vVar); rfl) | with_reducible refine wp_vVal ?_
  | with_reducible refine wp_aNil ?_ | with_reducible refine wp_aVal ?_ | with_reducible refine wp_aNew ?_
  | ((with_reducible apply wp_aVar); rfl) | ((with_reducible apply wp_aVarS); rfl) | ((with_reducible apply wp_aVarW); rfl)
  | ((with_reducible apply wp_frz); rfl) | ((with_reducible apply wp_frzV); rfl)
  | with_reducible refine wp_tup ?_ | with_reducible refine wp_nLst ?_ | with_reducible refine wp_fD ?_ | with_reducible refine wp_iArgs ?_ | with_reducible refine wp_iSeq ?_ | with_reducible refine wp_for ?_
  | with_reducible refine wp_expr ?_ | with_reducible refine wp_makeS ?_ | ((with_reducible apply wp_makeL); rfl) | with_reducible refine wp_aCls ?_ | with_reducible refine wp_addO ?_ | with_reducible refine wp_exI ?_ | with_reducible refine wp_fJ0 ?_ | with_reducible refine wp_fJ1 ?_ | with_reducible refine wp_exS ?_ | with_reducible refine wp_s1 ?_ | with_reducible refine wp_n1 ?_ | with_reducible refine wp_aStar ?_ | with_reducible refine wp_par ?_ | with_reducible refine wp_asg ?_ | with_reducible refine wp_sl2 ?_
  | with_reducible refine wp_chain ?_ | with_reducible refine wp_or ?_ | with_reducible refine wp_exb ?_ | with_reducible refine wp_ex gt_nm ?_ | with_reducible refine wp_ex gt_2 ?_ | with_reducible refine wp_ex gt_2l ?_ | ((with_reducible apply wp_ex); first | with_reducible exact q_rvO | with_reducible exact q_dlL | with_reducible exact q_dlT | with_reducible exact q_strR | with_reducible exact q_isC_non | with_reducible exact q_isC_bl | with_reducible exact q_isC_int | with_reducible exact q_isC_str | with_reducible exact q_isC_lst | with_reducible exact q_isC_tup | with_reducible exact q_isC_ins rfl | with_reducible exact dEq_int _ _ | with_reducible exact dNe_int _ _ | with_reducible exact q_add | with_reducible exact q_sub | with_reducible exact q_lt | with_reducible exact q_le | with_reducible exact q_gt | with_reducible exact q_ge | with_reducible exact q_max2 | with_reducible exact q_min2 | with_reducible exact q_neg | with_reducible exact q_bl | with_reducible exact q_not | with_reducible exact q_trB | with_reducible exact q_trI | with_reducible exact q_trL | with_reducible exact q_trT | with_reducible exact q_lenL | with_reducible exact q_lenT | with_reducible exact q_itL | with_reducible exact q_itT | with_reducible exact q_int | with_reducible exact q_tupL | with_reducible exact q_tupT | with_reducible exact q_lstL | with_reducible exact q_lstT | with_reducible exact q_isN_non | with_reducible exact q_notN_non | with_reducible exact q_isNB_non | with_reducible exact q_notNB_non | with_reducible exact q_i_int_non | with_reducible exact q_i_bool_non | with_reducible exact q_i_str_non | with_reducible exact q_i_tuple_non | with_reducible exact q_i_list_non | with_reducible exact q_isN_bl | with_reducible exact q_notN_bl | with_reducible exact q_isNB_bl | with_reducible exact q_notNB_bl | with_reducible exact q_i_int_bl | with_reducible exact q_i_bool_bl | with_reducible exact q_i_str_bl | with_reducible exact q_i_tuple_bl | with_reducible exact q_i_list_bl | with_reducible exact q_isN_int | with_reducible exact q_notN_int | with_reducible exact q_isNB_int | with_reducible exact q_notNB_int | with_reducible exact q_i_int_int | with_reducible exact q_i_bool_int | with_reducible exact q_i_str_int | with_reducible exact q_i_tuple_int | with_reducible exact q_i_list_int | with_reducible exact q_isN_str | with_reducible exact q_notN_str | with_reducible exact q_isNB_str | with_reducible exact q_notNB_str | with_reducible exact q_i_int_str | with_reducible exact q_i_bool_str | with_reducible exact q_i_str_str | with_reducible exact q_i_tuple_str | with_reducible exact q_i_list_str | with_reducible exact q_isN_lst | with_reducible exact q_notN_lst | with_reducible exact q_isNB_lst | with_reducible exact q_notNB_lst | with_reducible exact q_i_int_lst | with_reducible exact q_i_bool_lst | with_reducible exact q_i_str_lst | with_reducible exact q_i_tuple_lst | with_reducible exact q_i_list_lst | with_reducible exact q_isN_tup | with_reducible exact q_notN_tup | with_reducible exact q_isNB_tup | with_reducible exact q_notNB_tup | with_reducible exact q_i_int_tup | with_reducible exact q_i_bool_tup | with_reducible exact q_i_str_tup | with_reducible exact q_i_tuple_tup | with_reducible exact q_i_list_tup | with_reducible exact q_fld | with_reducible exact q_al0 | with_reducible exact q_al1 | with_reducible exact q_al2 | with_reducible exact q_al3 | with_reducible exact q_al4 | with_reducible exact q_al5 | with_reducible exact q_al6 | with_reducible exact q_al7 | with_reducible exact q_al8 | ((with_reducible show FC.putAll _ _ _ = some _); rfl)) | ((with_reducible apply wp_exP); ((with_reducible show FC.avC _ _ = some _); rfl)) | ((with_reducible apply wp_exbl); first | with_reducible exact q_le | with_reducible exact q_lt | with_reducible exact q_ge | with_reducible exact q_gt | with_reducible exact dEq_int _ _ | with_reducible exact dNe_int _ _)
  | with_reducible refine ifTt ?_ | with_reducible refine ifFf ?_ | with_reducible refine ifNt ?_ | with_reducible refine ifNf ?_
  | with_reducible refine wp_lk1 (by decide) ?_ | with_reducible refine wp_lk2 (by decide) (by decide) ?_ | with_reducible refine wp_lk3 (by decide) (by decide) (by decide) ?_ | ((with_reducible apply wp_avm); rfl)
  | ((with_reducible apply wp_szR); rfl))))
/-! ### limits: the program's defs -/
theorem is_integer_rt (i : Int) : Rt 1 b_is_integer [.int i] (.bl true) := by
  refine Rt.of ?_
  unfold b_is_integer
  and_intros
  rfl
theorem is_between_rt (i a c : Int) : Rt 3 b_is_between [.int i, .int a, .int c] (.bl (decide (a ≤ i ∧ i ≤ c))) := by
  refine Rt.of ?_
  unfold b_is_between
  and_intros
  refine wpc_rt (is_integer_rt i) rfl ?_
  and_intros
  refine ifd (fun h => ?_) (fun h => ?_)
  · and_intros
    simp [h]
  · simp [h]
theorem is_pair_rt (p : Int × Int) : Rt 1 b_is_pair [limD p] (.bl (decide (In20 p))) := by
  refine Rt.of ?_
  unfold b_is_pair
  unfold limD
  and_intros
  refine ifN (by simp) ?_
  and_intros
  refine wp_ex (q_ixTE (k := 0) rfl rfl) ?_
  and_intros
  refine wpc_rt (is_between_rt p.1 1 20) rfl ?_
  and_intros
  refine ifd (fun h => ?_) (fun h => ?_)
  · and_intros
    refine wp_ex (q_ixTE (k := 1) rfl rfl) ?_
    and_intros
    refine wpc_rt (is_between_rt p.2 1 20) rfl ?_
    and_intros
    simp [In20, h]
  · have : ¬ In20 p := fun z => h ⟨z.1, z.2.1⟩
    simp [this]
theorem are_pairs_rt {ps : List (Int × Int)} (G : Good ps) : Rt 2 b_are_pairs [.tup (limsD ps)] (.bl true) := by
  have few := G.few
  have hl : (limsD ps).length = ps.length := limsD_length ps
  have pos : 0 < ps.length := List.length_pos_iff.mpr G.ne
  refine Rt.of ?_
  unfold b_are_pairs
  and_intros
  refine ifd (fun _ => ?_) (fun h => absurd (show (0 : Int) < (limsD ps).length by omega) h)
  and_intros
  refine wp_lcA (fun _ => .bl true) ?_
  and_intros
  refine ⟨len_szN (by omega), rfl, fun d hd => ?_, ?_⟩
  · obtain ⟨p, hp, rfl⟩ := List.mem_map.mp hd
    refine ⟨_, gt_nm, ?_⟩
    and_intros
    refine wpc_rt (is_pair_rt p) rfl ?_
    and_intros
    exact ⟨by rw [decide_eq_true (G.ins p hp)], rfl⟩
  · and_intros
    refine wp_ex (show dAll (.lst (List.map (fun _ => D.bl true) (limsD ps))) = some (.bl true) by
      have e : List.map (fun _ => D.bl true) (limsD ps) = (ps.map fun _ => true).map D.bl := by simp [limsD]
      rw [e, q_all]
      simp) ?_
    and_intros
    refine wp_ex (dLenSet_pr G.nd (by omega)) ?_
    and_intros
    simp [hl]
theorem init_mk {ps : List (Int × Int)} (G : Good ps) : Mk1 0 2 b_Limits___init__ (limsD ps) [("kept", .tup (limsD ps))] := by
  have few := G.few
  have hl : (limsD ps).length = ps.length := limsD_length ps
  refine Mk1.of ?_
  unfold b_Limits___init__
  and_intros
  refine wpc_rt (are_pairs_rt G) rfl ?_
  and_intros
  refine ifd (fun h => absurd h (by omega)) (fun _ => ?_)
  and_intros
  refine wp_ok (a := .nx) (g := [.own (some 0) (.ins 0 [("kept", .tup (limsD ps))]), .val (.tup (limsD ps))]) ?_ ⟨rfl, _, rfl⟩
  simp [sSetF, fVar, oIns, putD, F.bind, padG]
theorem pairs_rt (ps : List (Int × Int)) : Rt 1 b_Limits_pairs [lim ps] (.tup (limsD ps)) := by
  refine Rt.of ?_
  unfold b_Limits_pairs
  and_intros
  rfl
end G23
namespace G23
open PySem PySem.Spec PyProof.Rows L2 FC
local macro_rules | `(tactic| and_intros) => `(tactic| (repeat (first
  | with_reducible refine wp_seq ?_ | with_reducible refine wp_nx ?_ | with_reducible refine wp_rt ?_ | with_reducible refine wp_nil ?_ | with_reducible refine dk_val ?_ | with_reducible refine dk_lst ?_ | with_reducible refine ok_lst ?_ | with_reducible refine dk_ins ?_ | with_reducible refine ok_ins ?_ | with_reducible refine lp_nx ?_ | with_reducible refine lp_rt ?_ | with_reducible refine lp_ct ?_ | with_reducible refine lp_bk ?_ | with_reducible refine wp_bk ?_ | with_reducible refine wp_ctn ?_
  | with_reducible refine wp_if ?_ | with_reducible refine wp_ret ?_ | with_reducible refine wp_set ?_ | with_reducible refine wp_setN ?_ | with_reducible refine wp_retN ?_ | with_reducible refine wp_retNew ?_ | with_reducible refine wp_brk ?_ | with_reducible refine wp_ct ?_
  | with_reducible refine wp_f0 ?_ | with_reducible refine wp_f1 ?_ | with_reducible refine wp_f2 ?_
  | ((with_reducible apply wp_look); rfl) | ((with_reducible apply wp_var); rfl) | ((with_reducible apply wp_lookL); rfl) | ((with_reducible apply wp_retVar); rfl) | ((with_reducible apply wp_retVarO); rfl)
  | with_reducible refine wp_and ?_ | with_reducible refine wp_tand ?_ | with_reducible refine wp_tor ?_ | with_reducible refine wp_tnot ?_ | with_reducible refine wp_fIf ?_
  | with_reducible refine wp_call ?_ | with_reducible refine wp_nCall ?_ | with_reducible refine wp_mth ?_ | with_reducible refine wp_prop ?_ | ((with_reducible apply wp_vVar); rfl) | with_reducible refine wp_vVal ?_
  | with_reducible refine wp_aNil ?_ | with_reducible refine wp_aVal ?_ | with_reducible refine wp_aNew ?_
  | ((with_reducible apply wp_aVar); rfl) | ((with_reducible apply wp_aVarS); rfl) | ((with_reducible apply wp_aVarW); rfl)
  | ((with_reducible apply wp_frz); rfl) | ((with_reducible apply wp_frzV); rfl)
  | with_reducible refine wp_tup ?_ | with_reducible refine wp_nLst ?_ | with_reducible refine wp_fD ?_ | with_reducible refine wp_iArgs ?_ | with_reducible refine wp_iSeq ?_ | with_reducible refine wp_for ?_
  | with_reducible refine wp_expr ?_ | with_reducible refine wp_makeS ?_ | ((with_reducible apply wp_makeL); rfl) | with_reducible refine wp_aCls ?_ | with_reducible refine wp_addO ?_ | with_reducible refine wp_exI ?_ | with_reducible refine wp_fJ0 ?_ | with_reducible refine wp_fJ1 ?_ | with_reducible refine wp_exS ?_ | with_reducible refine wp_s1 ?_ | with_reducible refine wp_n1 ?_ | with_reducible refine wp_aStar ?_ | with_reducible refine wp_par ?_ | with_reducible refine wp_asg ?_ | with_reducible refine wp_sl2 ?_
  | with_reducible refine wp_chain ?_ | with_reducible refine wp_or ?_ | with_reducible refine wp_exb ?_ | with_reducible refine wp_ex gt_nm ?_ | with_reducible refine wp_ex gt_2 ?_ | with_reducible refine wp_ex gt_2l ?_ | ((with_reducible apply wp_ex); first | with_reducible exact q_rvO | with_reducible exact q_dlL | with_reducible exact q_dlT | with_reducible exact q_strR | with_reducible exact q_isC_non | with_reducible exact q_isC_bl | with_reducible exact q_isC_int | with_reducible exact q_isC_str | with_reducible exact q_isC_lst | with_reducible exact q_isC_tup | with_reducible exact q_isC_ins rfl | with_reducible exact dEq_int _ _ | with_reducible exact dNe_int _ _ | with_reducible exact q_add | with_reducible exact q_sub | with_reducible exact q_lt | with_reducible exact q_le | with_reducible exact q_gt | with_reducible exact q_ge | with_reducible exact q_max2 | with_reducible exact q_min2 | with_reducible exact q_neg | with_reducible exact q_bl | with_reducible exact q_not | with_reducible exact q_trB | with_reducible exact q_trI | with_reducible exact q_trL | with_reducible exact q_trT | with_reducible exact q_lenL | with_reducible exact q_lenT | with_reducible exact q_itL | with_reducible exact q_itT | with_reducible exact q_int | with_reducible exact q_tupL | with_reducible exact q_tupT | with_reducible exact q_lstL | with_reducible exact q_lstT | with_reducible exact q_isN_non | with_reducible exact q_notN_non | with_reducible exact q_isNB_non | with_reducible exact q_notNB_non | with_reducible exact q_i_int_non | with_reducible exact q_i_bool_non | with_reducible exact q_i_str_non | with_reducible exact q_i_tuple_non | with_reducible exact q_i_list_non | with_reducible exact q_isN_bl | with_reducible exact q_notN_bl | with_reducible exact q_isNB_bl | with_reducible exact q_notNB_bl | with_reducible exact q_i_int_bl | with_reducible exact q_i_bool_bl | with_reducible exact q_i_str_bl | with_reducible exact q_i_tuple_bl | with_reducible exact q_i_list_bl | with_reducible exact q_isN_int | with_reducible exact q_notN_int | with_reducible exact q_isNB_int | with_reducible exact q_notNB_int | with_reducible exact q_i_int_int | with_reducible exact q_i_bool_int | with_reducible exact q_i_str_int | with_reducible exact q_i_tuple_int | with_reducible exact q_i_list_int | with_reducible exact q_isN_str | with_reducible exact q_notN_str | with_reducible exact q_isNB_str | with_reducible exact q_notNB_str | with_reducible exact q_i_int_str | with_reducible exact q_i_bool_str | with_reducible exact q_i_str_str | with_reducible exact q_i_tuple_str | with_reducible exact q_i_list_str | with_reducible exact q_isN_lst | with_reducible exact q_notN_lst | with_reducible exact q_isNB_lst | with_reducible exact q_notNB_lst | with_reducible exact q_i_int_lst | with_reducible exact q_i_bool_lst | with_reducible exact q_i_str_lst | with_reducible exact q_i_tuple_lst | with_reducible exact q_i_list_lst | with_reducible exact q_isN_tup | with_reducible exact q_notN_tup | with_reducible exact q_isNB_tup | with_reducible exact q_notNB_tup | with_reducible exact q_i_int_tup | with_reducible exact q_i_bool_tup | with_reducible exact q_i_str_tup | with_reducible exact q_i_tuple_tup | with_reducible exact q_i_list_tup | with_reducible exact q_fld | with_reducible exact q_al0 | with_reducible exact q_al1 | with_reducible exact q_al2 | with_reducible exact q_al3 | with_reducible exact q_al4 | with_reducible exact q_al5 | with_reducible exact q_al6 | with_reducible exact q_al7 | with_reducible exact q_al8 | ((with_reducible show FC.putAll _ _ _ = some _); rfl)) | ((with_reducible apply wp_exP); ((with_reducible show FC.avC _ _ = some _); rfl)) | ((with_reducible apply wp_exbl); first | with_reducible exact q_le | with_reducible exact q_lt | with_reducible exact q_ge | with_reducible exact q_gt | with_reducible exact dEq_int _ _ | with_reducible exact dNe_int _ _)
  | with_reducible refine ifTt ?_ | with_reducible refine ifFf ?_ | with_reducible refine ifNt ?_ | with_reducible refine ifNf ?_
  | with_reducible refine wp_lk1 (by decide) ?_ | with_reducible refine wp_lk2 (by decide) (by decide) ?_ | with_reducible refine wp_lk3 (by decide) (by decide) (by decide) ?_ | ((with_reducible apply wp_avm); rfl)
  | ((with_reducible apply wp_szR); rfl))))
/-! ### what limits tell of themselves -/
theorem len_rt (ps : List (Int × Int)) : Rt 1 b_Limits___len__ [lim ps] (.int ps.length) := by
  refine Rt.of ?_
  unfold b_Limits___len__
  and_intros
  rw [limsD_length]
theorem get_rt {ps : List (Int × Int)} {k : Nat} (hk : k < ps.length) : Rt 2 b_Limits___getitem__ [lim ps, .int k] (limD ps[k]) := by
  have hl : (limsD ps).length = ps.length := limsD_length ps
  refine Rt.of ?_
  unfold b_Limits___getitem__
  and_intros
  refine wpc_rt (is_between_rt k 0 _) rfl ?_
  and_intros
  refine ifn (fun h => absurd (by omega) h) (fun _ => ?_)
  and_intros
  refine wp_ex (q_ixTE (k := k) (d := limD ps[k]) rfl (by unfold limsD; rw [List.getElem?_map, List.getElem?_eq_getElem hk]; rfl)) ?_
  and_intros
  rfl
theorem repr_rt {ps : List (Int × Int)} (hl : ps.length ≤ 1000) : Rt 1 b_Limits___repr__ [lim ps] (.str (nameS ps.length)) := by
  have hl2 : (limsD ps).length = ps.length := limsD_length ps
  refine Rt.of ?_
  unfold b_Limits___repr__
  and_intros
  refine ⟨len_szN (by decide), ?_⟩
  and_intros
  rw [hl2]
  refine wp_ex (q_fmtI (log_small (by omega))) ?_
  have nl := numS_len (i := (ps.length : Int)) (by omega)
  have e1 : (("Limits(" : String) : Str).length = 7 := by decide
  have e2 : ((" limits)" : String) : Str).length = 8 := by decide
  have e0 : Str.empty.length = 0 := rfl
  and_intros
  refine ⟨len_szN (by simp only [strLen_add]; omega), ?_⟩
  and_intros
  refine ⟨len_szN (by simp only [strLen_add]; omega), ?_⟩
  and_intros
  rw [empty_app]
  rfl
def lineF : D → D | .tup [.int a, .int b] => .str (lineS (a, b)) | _ => .non
theorem lineF_map (ps : List (Int × Int)) : (limsD ps).map lineF = (ps.map lineS).map D.str := by simp [limsD, limD, lineF, List.map_map, Function.comp_def]
theorem text_rt {ps : List (Int × Int)} (h : ∀ p ∈ ps, In20 p) (hl : ps.length ≤ 1000) : Rt 3 b_Limits_text [lim ps] (.str (limText ps)) := by
  have hl2 : (limsD ps).length = ps.length := limsD_length ps
  refine Rt.of ?_
  unfold b_Limits_text
  and_intros
  refine wp_lcA lineF ?_
  and_intros
  refine ⟨len_szN (by omega), rfl, fun d hd => ?_, ?_⟩
  · obtain ⟨p, hp, rfl⟩ := List.mem_map.mp hd
    obtain ⟨h1, h2, h3, h4⟩ := h p hp
    have n1 := numS_len (i := p.1) (by omega)
    have n2 := numS_len (i := p.2) (by omega)
    have e1 : (("at most " : String) : Str).length = 8 := by decide
    have e2 : ((" in " : String) : Str).length = 4 := by decide
    have e3 : (("\n" : String) : Str).length = 1 := by decide
    have e0 : Str.empty.length = 0 := rfl
    refine ⟨_, gt_2l, ?_⟩
    unfold El_Limits_text_1
    and_intros
    refine ⟨len_szN (by decide), ?_⟩
    and_intros
    refine wp_ex (q_fmtI (log_small (by omega))) ?_
    and_intros
    refine ⟨len_szN (by simp only [strLen_add]; omega), ?_⟩
    and_intros
    refine ⟨len_szN (by simp only [strLen_add]; omega), ?_⟩
    and_intros
    refine wp_ex (q_fmtI (log_small (by omega))) ?_
    and_intros
    refine ⟨len_szN (by simp only [strLen_add]; omega), ?_⟩
    and_intros
    refine ⟨len_szN (by simp only [strLen_add]; omega), ?_⟩
    and_intros
    refine ⟨?_, rfl⟩
    rw [empty_app]
    rfl
  · rw [lineF_map]
    and_intros
    have := lines_sum h
    refine wp_ex (q_joinL (by
      have e : (("" : String) : Str).length = 0 := by decide
      rw [e]
      omega)) ?_
    and_intros
    rfl
theorem law_text_rt {ps : List (Int × Int)} (h : ∀ p ∈ ps, In20 p) (hl : ps.length ≤ 1000) : Rt 3 b__law_text [.tup (limsD ps)] (.str (limText ps)) := by
  have hl2 : (limsD ps).length = ps.length := limsD_length ps
  refine Rt.of ?_
  unfold b__law_text
  and_intros
  refine wp_lcA lineF ?_
  and_intros
  refine ⟨len_szN (by omega), rfl, fun d hd => ?_, ?_⟩
  · obtain ⟨p, hp, rfl⟩ := List.mem_map.mp hd
    obtain ⟨h1, h2, h3, h4⟩ := h p hp
    have n1 := numS_len (i := p.1) (by omega)
    have n2 := numS_len (i := p.2) (by omega)
    have e1 : (("at most " : String) : Str).length = 8 := by decide
    have e2 : ((" in " : String) : Str).length = 4 := by decide
    have e3 : (("\n" : String) : Str).length = 1 := by decide
    refine ⟨_, gt_2l, ?_⟩
    unfold El__law_text_1
    and_intros
    refine wp_ex (q_strI (log_small (by omega))) ?_
    refine wp_ex (q_addS (len_szN (by omega))) ?_
    and_intros
    refine wp_ex (q_addS (len_szN (by simp only [strLen_add]; omega))) ?_
    and_intros
    refine wp_ex (q_strI (log_small (by omega))) ?_
    refine wp_ex (q_addS (len_szN (by simp only [strLen_add]; omega))) ?_
    and_intros
    refine wp_ex (q_addS (len_szN (by simp only [strLen_add]; omega))) ?_
    exact ⟨rfl, rfl⟩
  · rw [lineF_map]
    and_intros
    have := lines_sum h
    refine wp_ex (q_joinL (by
      have e : (("" : String) : Str).length = 0 := by decide
      rw [e]
      omega)) ?_
    and_intros
    rfl
theorem seen_rt {ps : List (Int × Int)} (h : ∀ p ∈ ps, In20 p) (hl : ps.length ≤ 1000) : Rt 3 b__law_seen [lim ps] (seenD ps) := by
  refine Rt.of ?_
  unfold b__law_seen
  and_intros
  refine wp_lcA (fun d => match d with | .int i => (limsD ps).getD i.toNat .non | _ => .non) ?_
  and_intros
  refine wpc_rt (len_rt ps) rfl ?_
  and_intros
  refine wp_ex (q_lenR (by omega)) ?_
  and_intros
  refine wp_ex (q_rng1 rfl (by omega)) ?_
  refine ⟨len_szN (by rw [rngL_len]; omega), rfl, fun d hd => ?_, ?_⟩
  · obtain ⟨i, hi, rfl⟩ := mem_rng0 hd
    refine ⟨_, gt_nm, ?_⟩
    unfold El__law_seen_1
    and_intros
    refine wpc_rt (get_rt hi) rfl ?_
    and_intros
    refine ⟨?_, rfl⟩
    simp only [Int.toNat_natCast, limsD]
    rw [List.getD_eq_getElem?_getD, List.getElem?_map, List.getElem?_eq_getElem hi]
    rfl
  · have e : List.map (fun d => match d with | .int i => (limsD ps).getD i.toNat .non | _ => .non) (rngL 0 1 ps.length) = limsD ps := by
      refine List.ext_getElem? fun k => ?_
      rw [List.getElem?_map]
      by_cases hk : k < ps.length
      · have e1 : (rngL 0 1 ps.length)[k]? = some (.int k) := by simp [rngL, hk]
        rw [e1]
        have hk2 : k < (limsD ps).length := by rw [limsD_length]; exact hk
        simp [List.getElem?_eq_getElem hk2]
      · have e1 : (rngL 0 1 ps.length)[k]? = none := by rw [List.getElem?_eq_none]; rw [rngL_len]; omega
        rw [e1, List.getElem?_eq_none (by rw [limsD_length]; omega)]
        rfl
    rw [e]
    and_intros
    refine wpc_rt (pairs_rt ps) rfl ?_
    and_intros
    refine wpc_rt (len_rt ps) rfl ?_
    and_intros
    refine wp_ex (q_lenR (by omega)) ?_
    and_intros
    refine wpc_rt (repr_rt hl) rfl ?_
    and_intros
    refine wpc_rt (text_rt h hl) rfl ?_
    and_intros
    rfl
theorem due_rt {ps : List (Int × Int)} (h : ∀ p ∈ ps, In20 p) (hl : ps.length ≤ 1000) : Rt 1 b__law_due [.tup (limsD ps)] (seenD ps) := by
  have hl2 : (limsD ps).length = ps.length := limsD_length ps
  refine Rt.of ?_
  unfold b__law_due
  and_intros
  have nl := numS_len (i := (ps.length : Int)) (by omega)
  have e1 : (("Limits(" : String) : Str).length = 7 := by decide
  have e2 : ((" limits)" : String) : Str).length = 8 := by decide
  rw [hl2]
  refine wp_ex (q_strI (log_small (by omega))) ?_
  refine wp_ex (q_addS (len_szN (by omega))) ?_
  and_intros
  refine wp_ex (q_addS (len_szN (by simp only [strLen_add]; omega))) ?_
  and_intros
  refine wpc_rt (law_text_rt h hl) rfl ?_
  and_intros
  rfl
end G23
namespace G23
open PySem PySem.Spec PyProof.Rows L2 FC
local macro_rules | `(tactic| and_intros) => `(tactic| (repeat (first
  | with_reducible refine wp_seq ?_ | with_reducible refine wp_nx ?_ | with_reducible refine wp_rt ?_ | with_reducible refine wp_nil ?_ | with_reducible refine dk_val ?_ | with_reducible refine dk_lst ?_ | with_reducible refine ok_lst ?_ | with_reducible refine dk_ins ?_ | with_reducible refine ok_ins ?_ | with_reducible refine lp_nx ?_ | with_reducible refine lp_rt ?_ | with_reducible refine lp_ct ?_ | with_reducible refine lp_bk ?_ | with_reducible refine wp_bk ?_ | with_reducible refine wp_ctn ?_
  | with_reducible refine wp_if ?_ | with_reducible refine wp_ret ?_ | with_reducible refine wp_set ?_ | with_reducible refine wp_setN ?_ | with_reducible refine wp_retN ?_ | with_reducible refine wp_retNew ?_ | with_reducible refine wp_brk ?_ | with_reducible refine wp_ct ?_
  | with_reducible refine wp_f0 ?_ | with_reducible refine wp_f1 ?_ | with_reducible refine wp_f2 ?_
  | ((with_reducible apply wp_look); rfl) | ((with_reducible apply wp_var); rfl) | ((with_reducible apply wp_lookL); rfl) | ((with_reducible apply wp_retVar); rfl) | ((with_reducible apply wp_retVarO); rfl)
  | with_reducible refine wp_and ?_ | with_reducible refine wp_tand ?_ | with_reducible refine wp_tor ?_ | with_reducible refine wp_tnot ?_ | with_reducible refine wp_fIf ?_
  | with_reducible refine wp_call ?_ | with_reducible refine wp_nCall ?_ | with_reducible refine wp_mth ?_ | with_reducible refine wp_prop ?_ | ((with_reducible apply wp_vVar); rfl) | with_reducible refine wp_vVal ?_
  | with_reducible refine wp_aNil ?_ | with_reducible refine wp_aVal ?_ | with_reducible refine wp_aNew ?_
  | ((with_reducible apply wp_aVar); rfl) | ((with_reducible apply wp_aVarS); rfl) | ((with_reducible apply wp_aVarW); rfl)
  | ((with_reducible apply wp_frz); rfl) | ((with_reducible apply wp_frzV); rfl)
  | with_reducible refine wp_tup ?_ | with_reducible refine wp_nLst ?_ | with_reducible refine wp_fD ?_ | with_reducible refine wp_iArgs ?_ | with_reducible refine wp_iSeq ?_ | with_reducible refine wp_for ?_
  | with_reducible refine wp_expr ?_ | with_reducible refine wp_makeS ?_ | ((with_reducible apply wp_makeL); rfl) | with_reducible refine wp_aCls ?_ | with_reducible refine wp_addO ?_ | with_reducible refine wp_exI ?_ | with_reducible refine wp_fJ0 ?_ | with_reducible refine wp_fJ1 ?_ | with_reducible refine wp_exS ?_ | with_reducible refine wp_s1 ?_ | with_reducible refine wp_n1 ?_ | with_reducible refine wp_aStar ?_ | with_reducible refine wp_par ?_ | with_reducible refine wp_asg ?_ | with_reducible refine wp_sl2 ?_
  | with_reducible refine wp_chain ?_ | with_reducible refine wp_or ?_ | with_reducible refine wp_exb ?_ | with_reducible refine wp_ex gt_nm ?_ | with_reducible refine wp_ex gt_2 ?_ | with_reducible refine wp_ex gt_2l ?_ | ((with_reducible apply wp_ex); first | with_reducible exact q_rvO | with_reducible exact q_dlL | with_reducible exact q_dlT | with_reducible exact q_strR | with_reducible exact q_isC_non | with_reducible exact q_isC_bl | with_reducible exact q_isC_int | with_reducible exact q_isC_str | with_reducible exact q_isC_lst | with_reducible exact q_isC_tup | with_reducible exact q_isC_ins rfl | with_reducible exact dEq_int _ _ | with_reducible exact dNe_int _ _ | with_reducible exact q_add | with_reducible exact q_sub | with_reducible exact q_lt | with_reducible exact q_le | with_reducible exact q_gt | with_reducible exact q_ge | with_reducible exact q_max2 | with_reducible exact q_min2 | with_reducible exact q_neg | with_reducible exact q_bl | with_reducible exact q_not | with_reducible exact q_trB | with_reducible exact q_trI | with_reducible exact q_trL | with_reducible exact q_trT | with_reducible exact q_lenL | with_reducible exact q_lenT | with_reducible exact q_itL | with_reducible exact q_itT | with_reducible exact q_int | with_reducible exact q_tupL | with_reducible exact q_tupT | with_reducible exact q_lstL | with_reducible exact q_lstT | with_reducible exact q_isN_non | with_reducible exact q_notN_non | with_reducible exact q_isNB_non | with_reducible exact q_notNB_non | with_reducible exact q_i_int_non | with_reducible exact q_i_bool_non | with_reducible exact q_i_str_non | with_reducible exact q_i_tuple_non | with_reducible exact q_i_list_non | with_reducible exact q_isN_bl | with_reducible exact q_notN_bl | with_reducible exact q_isNB_bl | with_reducible exact q_notNB_bl | with_reducible exact q_i_int_bl | with_reducible exact q_i_bool_bl | with_reducible exact q_i_str_bl | with_reducible exact q_i_tuple_bl | with_reducible exact q_i_list_bl | with_reducible exact q_isN_int | with_reducible exact q_notN_int | with_reducible exact q_isNB_int | with_reducible exact q_notNB_int | with_reducible exact q_i_int_int | with_reducible exact q_i_bool_int | with_reducible exact q_i_str_int | with_reducible exact q_i_tuple_int | with_reducible exact q_i_list_int | with_reducible exact q_isN_str | with_reducible exact q_notN_str | with_reducible exact q_isNB_str | with_reducible exact q_notNB_str | with_reducible exact q_i_int_str | with_reducible exact q_i_bool_str | with_reducible exact q_i_str_str | with_reducible exact q_i_tuple_str | with_reducible exact q_i_list_str | with_reducible exact q_isN_lst | with_reducible exact q_notN_lst | with_reducible exact q_isNB_lst | with_reducible exact q_notNB_lst | with_reducible exact q_i_int_lst | with_reducible exact q_i_bool_lst | with_reducible exact q_i_str_lst | with_reducible exact q_i_tuple_lst | with_reducible exact q_i_list_lst | with_reducible exact q_isN_tup | with_reducible exact q_notN_tup | with_reducible exact q_isNB_tup | with_reducible exact q_notNB_tup | with_reducible exact q_i_int_tup | with_reducible exact q_i_bool_tup | with_reducible exact q_i_str_tup | with_reducible exact q_i_tuple_tup | with_reducible exact q_i_list_tup | with_reducible exact q_fld | with_reducible exact q_al0 | with_reducible exact q_al1 | with_reducible exact q_al2 | with_reducible exact q_al3 | with_reducible exact q_al4 | with_reducible exact q_al5 | with_reducible exact q_al6 | with_reducible exact q_al7 | with_reducible exact q_al8 | ((with_reducible show FC.putAll _ _ _ = some _); rfl)) | ((with_reducible apply wp_exP); ((with_reducible show FC.avC _ _ = some _); rfl)) | ((with_reducible apply wp_exbl); first | with_reducible exact q_le | with_reducible exact q_lt | with_reducible exact q_ge | with_reducible exact q_gt | with_reducible exact dEq_int _ _ | with_reducible exact dNe_int _ _)
  | with_reducible refine ifTt ?_ | with_reducible refine ifFf ?_ | with_reducible refine ifNt ?_ | with_reducible refine ifNf ?_
  | with_reducible refine wp_lk1 (by decide) ?_ | with_reducible refine wp_lk2 (by decide) (by decide) ?_ | with_reducible refine wp_lk3 (by decide) (by decide) (by decide) ?_ | ((with_reducible apply wp_avm); rfl)
  | ((with_reducible apply wp_szR); rfl))))
/-! ### draws -/
theorem draw_ok (t : Option Nat) (a b c n : Int) (h0 : 0 < n) (h1 : n < 1073741824) : ∃ (r a' b' c' : Int) (s2 s3 : SV), 0 ≤ r ∧ r < n ∧ b__law_draw (padG 4 [.own t (.lst [.int a, .int b, .int c]), .val (.int n)]) = .ok (.ret (.val (.int r))) [.own t (.lst [.int a', .int b', .int c']), .val (.int n), s2, s3] := by
  by_cases h : 0 < a
  · refine ⟨a % n, a / n, b, c, .val (.int (a % n)), .none, Int.emod_nonneg _ (by omega), Int.emod_lt_of_pos _ h0, ?_⟩
    simp [b__law_draw, padG, sSeq, sIf, f1, f2, F.bind, fLook, f0, liftO, dGt, dBl, dIx, atI, ixN, h, h0, h1, dMod, dFdiv, sSet, sSetIx, oList, sRetVar]
  · obtain ⟨b', eb⟩ : ∃ b', b' = (b * 48271 + 1009 * (c + 1) + 7) % 2147483647 := ⟨_, rfl⟩
    obtain ⟨m, em⟩ : ∃ m, m = (b' * b' + 69621 * b' + 11) % 2147483629 := ⟨_, rfl⟩
    obtain ⟨m2, em2⟩ : ∃ m2, m2 = (m * m + 40014 * m) % 2147483587 := ⟨_, rfl⟩
    have hb0 : 0 ≤ b' := by rw [eb]; exact Int.emod_nonneg _ (by omega)
    have hb1 : b' < 2147483647 := by rw [eb]; exact Int.emod_lt_of_pos _ (by omega)
    have hm0 : 0 ≤ m := by rw [em]; exact Int.emod_nonneg _ (by omega)
    have hm1 : m < 2147483629 := by rw [em]; exact Int.emod_lt_of_pos _ (by omega)
    have kb : (-18446744073709551616 < b' ∧ b' < 18446744073709551616) := by omega
    have km : (-18446744073709551616 < m ∧ m < 18446744073709551616) := by omega
    refine ⟨m2 / 16 % n, a, b', c + 1, .none, .val (.int m2), Int.emod_nonneg _ (by omega), Int.emod_lt_of_pos _ h0, ?_⟩
    simp [b__law_draw, padG, sSeq, sIf, f1, f2, F.bind, fLook, f0, liftO, dGt, dBl, dIx, atI, ixN, h, h0, h1, dMod, dFdiv, dMulT, dMul, dAdd, sSet, sSetIx, oList, sRet, sNil, kb, km, ← eb, ← em, ← em2]
theorem draw_dr (n : Int) (h0 : 0 < n) (h1 : n < 1073741824) : Dr 4 b__law_draw [.int n] (fun v => ∃ k : Int, v = .int k ∧ 0 ≤ k ∧ k < n) := Dr.of fun t xs hp => by
  obtain ⟨a, b, c, rfl⟩ := hp
  obtain ⟨r, a', b', c', s2, s3, r0, r1, e⟩ := draw_ok t a b c n h0 h1
  exact wp_ok e ⟨.int r, [.int a', .int b', .int c'], [.val (.int n), s2, s3], rfl, rfl, ⟨a', b', c', rfl⟩, r, rfl, r0, r1⟩
theorem pen_ok (z : Int) : ∃ xs, Pen xs ∧ b__law_pen (padG 1 [.val (.int z)]) = .ok (.ret (.own (.lst xs))) [.val (.int z)] := by
  refine ⟨[.int (if z - 1000000000000000000 > 0 then z - 1000000000000000000 else 0), .int (z % 2147483629 + 1), .int 0], ⟨_, _, _, rfl⟩, ?_⟩
  simp [b__law_pen, padG, sRetNew, bindA_, f0A, f1A, f2A, liftS, liftN, seqA, ifA, retA, setA, setNA, exprA, nilA, aNilA, aValA, aNewA, callA, nCallA, fDA, vAndA, tAndA, tOrA, tNotA, fTupA, nLstA, iArgsA, forA, parA, nMakeSA, fLook, dPow, dSub, dMax2, dMod, dAdd, allD, dLst, sizeLine_eq]
theorem wpc_pen {γ : Gm} {E : Ex → Gm → Prop} {Q : RV → Gm → Prop} {z : Int} (q : ∀ xs, Pen xs → Q (.own (.lst xs)) γ) : WpC 1 b__law_pen [.d (.int z)] γ Q E := by
  obtain ⟨xs, hp, e⟩ := pen_ok z
  refine wpc_in (bind_d rfl) ?_
  rw [show ([D.int z].map SV.val) = [SV.val (.int z)] from rfl, e]
  exact ⟨_, rfl, q xs hp⟩
end G23
namespace G23
open PySem PySem.Spec PyProof.Rows L2 FC
local macro_rules | `(tactic| and_intros) => `(tactic| (repeat (first
  | with_reducible refine wp_seq ?_ | with_reducible refine wp_nx ?_ | with_reducible refine wp_rt ?_ | with_reducible refine wp_nil ?_ | with_reducible refine dk_val ?_ | with_reducible refine dk_lst ?_ | with_reducible refine ok_lst ?_ | with_reducible refine dk_ins ?_ | with_reducible refine ok_ins ?_ | with_reducible refine lp_nx ?_ | with_reducible refine lp_rt ?_ | with_reducible refine lp_ct ?_ | with_reducible refine lp_bk ?_ | with_reducible refine wp_bk ?_ | with_reducible refine wp_ctn ?_
  | with_reducible refine wp_if ?_ | with_reducible refine wp_ret ?_ | with_reducible refine wp_set ?_ | with_reducible refine wp_setN ?_ | with_reducible refine wp_retN ?_ | with_reducible refine wp_retNew ?_ | with_reducible refine wp_brk ?_ | with_reducible refine wp_ct ?_
  | with_reducible refine wp_f0 ?_ | with_reducible refine wp_f1 ?_ | with_reducible refine wp_f2 ?_
  | ((with_reducible apply wp_look); rfl) | ((with_reducible apply wp_var); rfl) | ((with_reducible apply wp_lookL); rfl) | ((with_reducible apply wp_retVar); rfl) | ((with_reducible apply wp_retVarO); rfl)
  | with_reducible refine wp_and ?_ | with_reducible refine wp_tand ?_ | with_reducible refine wp_tor ?_ | with_reducible refine wp_tnot ?_ | with_reducible refine wp_fIf ?_
  | with_reducible refine wp_call ?_ | with_reducible refine wp_nCall ?_ | with_reducible refine wp_mth ?_ | with_reducible refine wp_prop ?_ | ((with_reducible apply wp_vVar); rfl) | with_reducible refine wp_vVal ?_
  | with_reducible refine wp_aNil ?_ | with_reducible refine wp_aVal ?_ | with_reducible refine wp_aNew ?_
  | ((with_reducible apply wp_aVar); rfl) | ((with_reducible apply wp_aVarS); rfl) | ((with_reducible apply wp_aVarW); rfl)
  | ((with_reducible apply wp_frz); rfl) | ((with_reducible apply wp_frzV); rfl)
  | with_reducible refine wp_tup ?_ | with_reducible refine wp_nLst ?_ | with_reducible refine wp_fD ?_ | with_reducible refine wp_iArgs ?_ | with_reducible refine wp_iSeq ?_ | with_reducible refine wp_for ?_
  | with_reducible refine wp_expr ?_ | with_reducible refine wp_makeS ?_ | ((with_reducible apply wp_makeL); rfl) | with_reducible refine wp_aCls ?_ | with_reducible refine wp_addO ?_ | with_reducible refine wp_exI ?_ | with_reducible refine wp_fJ0 ?_ | with_reducible refine wp_fJ1 ?_ | with_reducible refine wp_exS ?_ | with_reducible refine wp_s1 ?_ | with_reducible refine wp_n1 ?_ | with_reducible refine wp_aStar ?_ | with_reducible refine wp_par ?_ | with_reducible refine wp_asg ?_ | with_reducible refine wp_sl2 ?_
  | with_reducible refine wp_chain ?_ | with_reducible refine wp_or ?_ | with_reducible refine wp_exb ?_ | with_reducible refine wp_ex gt_nm ?_ | with_reducible refine wp_ex gt_2 ?_ | with_reducible refine wp_ex gt_2l ?_ | ((with_reducible apply wp_ex); first | with_reducible exact q_rvO | with_reducible exact q_dlL | with_reducible exact q_dlT | with_reducible exact q_strR | with_reducible exact q_isC_non | with_reducible exact q_isC_bl | with_reducible exact q_isC_int | with_reducible exact q_isC_str | with_reducible exact q_isC_lst | with_reducible exact q_isC_tup | with_reducible exact q_isC_ins rfl | with_reducible exact dEq_int _ _ | with_reducible exact dNe_int _ _ | with_reducible exact q_add | with_reducible exact q_sub | with_reducible exact q_lt | with_reducible exact q_le | with_reducible exact q_gt | with_reducible exact q_ge | with_reducible exact q_max2 | with_reducible exact q_min2 | with_reducible exact q_neg | with_reducible exact q_bl | with_reducible exact q_not | with_reducible exact q_trB | with_reducible exact q_trI | with_reducible exact q_trL | with_reducible exact q_trT | with_reducible exact q_lenL | with_reducible exact q_lenT | with_reducible exact q_itL | with_reducible exact q_itT | with_reducible exact q_int | with_reducible exact q_tupL | with_reducible exact q_tupT | with_reducible exact q_lstL | with_reducible exact q_lstT | with_reducible exact q_isN_non | with_reducible exact q_notN_non | with_reducible exact q_isNB_non | with_reducible exact q_notNB_non | with_reducible exact q_i_int_non | with_reducible exact q_i_bool_non | with_reducible exact q_i_str_non | with_reducible exact q_i_tuple_non | with_reducible exact q_i_list_non | with_reducible exact q_isN_bl | with_reducible exact q_notN_bl | with_reducible exact q_isNB_bl | with_reducible exact q_notNB_bl | with_reducible exact q_i_int_bl | with_reducible exact q_i_bool_bl | with_reducible exact q_i_str_bl | with_reducible exact q_i_tuple_bl | with_reducible exact q_i_list_bl | with_reducible exact q_isN_int | with_reducible exact q_notN_int | with_reducible exact q_isNB_int | with_reducible exact q_notNB_int | with_reducible exact q_i_int_int | with_reducible exact q_i_bool_int | with_reducible exact q_i_str_int | with_reducible exact q_i_tuple_int | with_reducible exact q_i_list_int | with_reducible exact q_isN_str | with_reducible exact q_notN_str | with_reducible exact q_isNB_str | with_reducible exact q_notNB_str | with_reducible exact q_i_int_str | with_reducible exact q_i_bool_str | with_reducible exact q_i_str_str | with_reducible exact q_i_tuple_str | with_reducible exact q_i_list_str | with_reducible exact q_isN_lst | with_reducible exact q_notN_lst | with_reducible exact q_isNB_lst | with_reducible exact q_notNB_lst | with_reducible exact q_i_int_lst | with_reducible exact q_i_bool_lst | with_reducible exact q_i_str_lst | with_reducible exact q_i_tuple_lst | with_reducible exact q_i_list_lst | with_reducible exact q_isN_tup | with_reducible exact q_notN_tup | with_reducible exact q_isNB_tup | with_reducible exact q_notNB_tup | with_reducible exact q_i_int_tup | with_reducible exact q_i_bool_tup | with_reducible exact q_i_str_tup | with_reducible exact q_i_tuple_tup | with_reducible exact q_i_list_tup | with_reducible exact q_fld | with_reducible exact q_al0 | with_reducible exact q_al1 | with_reducible exact q_al2 | with_reducible exact q_al3 | with_reducible exact q_al4 | with_reducible exact q_al5 | with_reducible exact q_al6 | with_reducible exact q_al7 | with_reducible exact q_al8 | ((with_reducible show FC.putAll _ _ _ = some _); rfl)) | ((with_reducible apply wp_exP); ((with_reducible show FC.avC _ _ = some _); rfl)) | ((with_reducible apply wp_exbl); first | with_reducible exact q_le | with_reducible exact q_lt | with_reducible exact q_ge | with_reducible exact q_gt | with_reducible exact dEq_int _ _ | with_reducible exact dNe_int _ _)
  | with_reducible refine ifTt ?_ | with_reducible refine ifFf ?_ | with_reducible refine ifNt ?_ | with_reducible refine ifNf ?_
  | with_reducible refine wp_lk1 (by decide) ?_ | with_reducible refine wp_lk2 (by decide) (by decide) ?_ | with_reducible refine wp_lk3 (by decide) (by decide) (by decide) ?_ | ((with_reducible apply wp_avm); rfl)
  | ((with_reducible apply wp_szR); rfl))))
theorem pick_dr {items : List D} (hne : items ≠ []) (hs : items.length ≤ 1000) : Dr 2 b__law_pick [.lst items] (fun v => v ∈ items) := Dr.of fun t xs hp => by
  have hl : 0 < items.length := List.length_pos_iff.mpr hne
  unfold b__law_pick
  and_intros
  refine wpc_dr (draw_dr items.length (by omega) (by omega)) rfl rfl hp ?_
  rintro v xs' hp' ⟨k, rfl, k0, k1⟩
  and_intros
  have hk : k.toNat < items.length := by omega
  refine wp_ex (q_ixE (k := k.toNat) (d := items[k.toNat]) (by omega) (List.getElem?_eq_getElem hk)) ?_
  exact ⟨_, xs', _, rfl, rfl, hp', List.getElem_mem hk⟩
end G23
namespace G23
open PySem PySem.Spec PyProof.Rows L2 FC
local macro_rules | `(tactic| and_intros) => `(tactic| (repeat (first
  | with_reducible refine wp_seq ?_ | with_reducible refine wp_nx ?_ | with_reducible refine wp_rt ?_ | with_reducible refine wp_nil ?_ | with_reducible refine dk_val ?_ | with_reducible refine dk_lst ?_ | with_reducible refine ok_lst ?_ | with_reducible refine dk_ins ?_ | with_reducible refine ok_ins ?_ | with_reducible refine lp_nx ?_ | with_reducible refine lp_rt ?_ | with_reducible refine lp_ct ?_ | with_reducible refine lp_bk ?_ | with_reducible refine wp_bk ?_ | with_reducible refine wp_ctn ?_
  | with_reducible refine wp_if ?_ | with_reducible refine wp_ret ?_ | with_reducible refine wp_set ?_ | with_reducible refine wp_setN ?_ | with_reducible refine wp_retN ?_ | with_reducible refine wp_retNew ?_ | with_reducible refine wp_brk ?_ | with_reducible refine wp_ct ?_
  | with_reducible refine wp_f0 ?_ | with_reducible refine wp_f1 ?_ | with_reducible refine wp_f2 ?_
  | ((with_reducible apply wp_look); rfl) | ((with_reducible apply wp_var); rfl) | ((with_reducible apply wp_lookL); rfl) | ((with_reducible apply wp_retVar); rfl) | ((with_reducible apply wp_retVarO); rfl)
  | with_reducible refine wp_and ?_ | with_reducible refine wp_tand ?_ | with_reducible refine wp_tor ?_ | with_reducible refine wp_tnot ?_ | with_reducible refine wp_fIf ?_
  | with_reducible refine wp_call ?_ | with_reducible refine wp_nCall ?_ | with_reducible refine wp_mth ?_ | with_reducible refine wp_prop ?_ | ((with_reducible apply wp_vVar); rfl) | with_reducible refine wp_vVal ?_
  | with_reducible refine wp_aNil ?_ | with_reducible refine wp_aVal ?_ | with_reducible refine wp_aNew ?_
  | ((with_reducible apply wp_aVar); rfl) | ((with_reducible apply wp_aVarS); rfl) | ((with_reducible apply wp_aVarW); rfl)
  | ((with_reducible apply wp_frz); rfl) | ((with_reducible apply wp_frzV); rfl)
  | with_reducible refine wp_tup ?_ | with_reducible refine wp_nLst ?_ | with_reducible refine wp_fD ?_ | with_reducible refine wp_iArgs ?_ | with_reducible refine wp_iSeq ?_ | with_reducible refine wp_for ?_
  | with_reducible refine wp_expr ?_ | with_reducible refine wp_makeS ?_ | ((with_reducible apply wp_makeL); rfl) | with_reducible refine wp_aCls ?_ | with_reducible refine wp_addO ?_ | with_reducible refine wp_exI ?_ | with_reducible refine wp_fJ0 ?_ | with_reducible refine wp_fJ1 ?_ | with_reducible refine wp_exS ?_ | with_reducible refine wp_s1 ?_ | with_reducible refine wp_n1 ?_ | with_reducible refine wp_aStar ?_ | with_reducible refine wp_par ?_ | with_reducible refine wp_asg ?_ | with_reducible refine wp_sl2 ?_
  | with_reducible refine wp_chain ?_ | with_reducible refine wp_or ?_ | with_reducible refine wp_exb ?_ | with_reducible refine wp_ex gt_nm ?_ | with_reducible refine wp_ex gt_2 ?_ | with_reducible refine wp_ex gt_2l ?_ | ((with_reducible apply wp_ex); first | with_reducible exact q_rvO | with_reducible exact q_dlL | with_reducible exact q_dlT | with_reducible exact q_strR | with_reducible exact q_isC_non | with_reducible exact q_isC_bl | with_reducible exact q_isC_int | with_reducible exact q_isC_str | with_reducible exact q_isC_lst | with_reducible exact q_isC_tup | with_reducible exact q_isC_ins rfl | with_reducible exact dEq_int _ _ | with_reducible exact dNe_int _ _ | with_reducible exact q_add | with_reducible exact q_sub | with_reducible exact q_lt | with_reducible exact q_le | with_reducible exact q_gt | with_reducible exact q_ge | with_reducible exact q_max2 | with_reducible exact q_min2 | with_reducible exact q_neg | with_reducible exact q_bl | with_reducible exact q_not | with_reducible exact q_trB | with_reducible exact q_trI | with_reducible exact q_trL | with_reducible exact q_trT | with_reducible exact q_lenL | with_reducible exact q_lenT | with_reducible exact q_itL | with_reducible exact q_itT | with_reducible exact q_int | with_reducible exact q_tupL | with_reducible exact q_tupT | with_reducible exact q_lstL | with_reducible exact q_lstT | with_reducible exact q_isN_non | with_reducible exact q_notN_non | with_reducible exact q_isNB_non | with_reducible exact q_notNB_non | with_reducible exact q_i_int_non | with_reducible exact q_i_bool_non | with_reducible exact q_i_str_non | with_reducible exact q_i_tuple_non | with_reducible exact q_i_list_non | with_reducible exact q_isN_bl | with_reducible exact q_notN_bl | with_reducible exact q_isNB_bl | with_reducible exact q_notNB_bl | with_reducible exact q_i_int_bl | with_reducible exact q_i_bool_bl | with_reducible exact q_i_str_bl | with_reducible exact q_i_tuple_bl | with_reducible exact q_i_list_bl | with_reducible exact q_isN_int | with_reducible exact q_notN_int | with_reducible exact q_isNB_int | with_reducible exact q_notNB_int | with_reducible exact q_i_int_int | with_reducible exact q_i_bool_int | with_reducible exact q_i_str_int | with_reducible exact q_i_tuple_int | with_reducible exact q_i_list_int | with_reducible exact q_isN_str | with_reducible exact q_notN_str | with_reducible exact q_isNB_str | with_reducible exact q_notNB_str | with_reducible exact q_i_int_str | with_reducible exact q_i_bool_str | with_reducible exact q_i_str_str | with_reducible exact q_i_tuple_str | with_reducible exact q_i_list_str | with_reducible exact q_isN_lst | with_reducible exact q_notN_lst | with_reducible exact q_isNB_lst | with_reducible exact q_notNB_lst | with_reducible exact q_i_int_lst | with_reducible exact q_i_bool_lst | with_reducible exact q_i_str_lst | with_reducible exact q_i_tuple_lst | with_reducible exact q_i_list_lst | with_reducible exact q_isN_tup | with_reducible exact q_notN_tup | with_reducible exact q_isNB_tup | with_reducible exact q_notNB_tup | with_reducible exact q_i_int_tup | with_reducible exact q_i_bool_tup | with_reducible exact q_i_str_tup | with_reducible exact q_i_tuple_tup | with_reducible exact q_i_list_tup | with_reducible exact q_fld | with_reducible exact q_al0 | with_reducible exact q_al1 | with_reducible exact q_al2 | with_reducible exact q_al3 | with_reducible exact q_al4 | with_reducible exact q_al5 | with_reducible exact q_al6 | with_reducible exact q_al7 | with_reducible exact q_al8 | ((with_reducible show FC.putAll _ _ _ = some _); rfl)) | ((with_reducible apply wp_exP); ((with_reducible show FC.avC _ _ = some _); rfl)) | ((with_reducible apply wp_exbl); first | with_reducible exact q_le | with_reducible exact q_lt | with_reducible exact q_ge | with_reducible exact q_gt | with_reducible exact dEq_int _ _ | with_reducible exact dNe_int _ _)
  | with_reducible refine ifTt ?_ | with_reducible refine ifFf ?_ | with_reducible refine ifNt ?_ | with_reducible refine ifNf ?_
  | with_reducible refine wp_lk1 (by decide) ?_ | with_reducible refine wp_lk2 (by decide) (by decide) ?_ | with_reducible refine wp_lk3 (by decide) (by decide) (by decide) ?_ | ((with_reducible apply wp_avm); rfl)
  | ((with_reducible apply wp_szR); rfl))))
/-! ### limits drawn -/
theorem pairs_dr {many : Int} (h1 : 1 ≤ many) (h2 : many ≤ 6) : Dr 6 b__law_pairs [.int many] (fun v => ∃ ps, Good ps ∧ (ps.length : Int) ≤ many ∧ v = .tup (limsD ps)) := Dr.of fun t xs hp => by
  unfold b__law_pairs
  and_intros
  refine wpc_dr (pick_dr (items := [.int 3, .int 5, .int 9, .int 20]) (by simp) (by simp)) rfl rfl hp ?_
  rintro v xs hp hv
  obtain ⟨great, hg, hg2, rfl⟩ : ∃ great : Int, 1 ≤ great ∧ great ≤ 20 ∧ v = .int great := by
    simp only [List.mem_cons, List.not_mem_nil, or_false] at hv
    rcases hv with h | h | h | h <;> exact ⟨_, by omega, by omega, h⟩
  and_intros
  refine wpc_dr (draw_dr many (by omega) (by omega)) rfl rfl hp ?_
  rintro v xs hp ⟨k, rfl, k0, k1⟩
  and_intros
  refine wp_ex (q_rng1m (by omega)) ?_
  refine wp_forN (fun j g => ∃ (ws : List D) (ps : List (Int × Int)) (s4 s5 : SV), Pen ws ∧ ps.Nodup ∧ (∀ p ∈ ps, In20 p) ∧ ps.length ≤ j ∧ (0 < j → ps ≠ []) ∧ g = [.own t (.lst ws), .val (.int many), .val (.int great), .own none (.lst (limsD ps)), s4, s5]) ⟨xs, [], .none, .none, hp, List.nodup_nil, (fun _ h => nomatch h), Nat.le_refl _, (fun h => absurd h (Nat.lt_irrefl 0)), rfl⟩ ?_ ?_
  · rintro j g d hj hd ⟨ws, ps, s4, s5, hw, nd, hin, hlen, hne, rfl⟩
    rw [rngL_len] at hj
    refine ⟨_, gt_nm, ?_⟩
    unfold L__law_pairs_1
    and_intros
    refine wpc_dr (draw_dr great (by omega) (by omega)) rfl rfl hw ?_
    rintro v us hu ⟨a, rfl, a0, a1⟩
    and_intros
    refine wpc_dr (draw_dr great (by omega) (by omega)) rfl rfl hu ?_
    rintro v vs hv ⟨b, rfl, b0, b1⟩
    and_intros
    refine wp_ex (q_notInP (1 + a, 1 + b) ps) ?_
    and_intros
    refine ifn (fun hm => ?_) (fun hm => ?_)
    · refine wp_expr (wp_app ⟨⟨_, rfl⟩, ?_⟩)
      and_intros
      refine ⟨none, limsD ps, rfl, lt_szN (by rw [limsD_length]; omega), ?_⟩
      and_intros
      refine ⟨vs, ps ++ [(1 + a, 1 + b)], .val d, .val (limD (1 + a, 1 + b)), hv, ?_, ?_, ?_, ?_, ?_⟩
      · exact List.nodup_append.mpr ⟨nd, by simp, by
          intro x hx y hy
          simp only [List.mem_singleton] at hy
          subst hy
          exact fun q => hm (by rw [← q]; exact hx)⟩
      · intro q hq
        rcases List.mem_append.mp hq with h | h
        · exact hin q h
        · rw [List.mem_singleton.mp h]
          exact ⟨by simp; omega, by simp; omega, by simp; omega, by simp; omega⟩
      · rw [List.length_append, List.length_singleton]; omega
      · intro _; simp
      · rw [limsD_append]
        rfl
    · and_intros
      exact ⟨vs, ps, _, _, hv, nd, hin, by omega, fun _ => List.ne_nil_of_mem hm, rfl⟩
  · rintro g ⟨ws, ps, s4, s5, hw, nd, hin, hlen, hne, rfl⟩
    rw [rngL_len] at hlen hne
    and_intros
    exact ⟨_, ws, _, rfl, rfl, hw, ps, ⟨hne (by omega), nd, by omega, hin⟩, by omega, rfl⟩
theorem ixL {ps : List (Int × Int)} {k : Nat} {p : Int × Int} (h : ps[k]? = some p) : dIx (.tup (limsD ps)) (.int k) = some (limD p) := q_ixTE rfl (by unfold limsD; rw [List.getElem?_map, h]; rfl)
end G23
namespace G23
open PySem PySem.Spec PyProof.Rows L2 FC
local macro_rules | `(tactic| and_intros) => `(tactic| (repeat (first
  | with_reducible refine wp_seq ?_ | with_reducible refine wp_nx ?_ | with_reducible refine wp_rt ?_ | with_reducible refine wp_nil ?_ | with_reducible refine dk_val ?_ | with_reducible refine dk_lst ?_ | with_reducible refine ok_lst ?_ | with_reducible refine dk_ins ?_ | with_reducible refine ok_ins ?_ | with_reducible refine lp_nx ?_ | with_reducible refine lp_rt ?_ | with_reducible refine lp_ct ?_ | with_reducible refine lp_bk ?_ | with_reducible refine wp_bk ?_ | with_reducible refine wp_ctn ?_
  | with_reducible refine wp_if ?_ | with_reducible refine wp_ret ?_ | with_reducible refine wp_set ?_ | with_reducible refine wp_setN ?_ | with_reducible refine wp_retN ?_ | with_reducible refine wp_retNew ?_ | with_reducible refine wp_brk ?_ | with_reducible refine wp_ct ?_
  | with_reducible refine wp_f0 ?_ | with_reducible refine wp_f1 ?_ | with_reducible refine wp_f2 ?_
  | ((with_reducible apply wp_look); rfl) | ((with_reducible apply wp_var); rfl) | ((with_reducible apply wp_lookL); rfl) | ((with_reducible apply wp_retVar); rfl) | ((with_reducible apply wp_retVarO); rfl)
  | with_reducible refine wp_and ?_ | with_reducible refine wp_tand ?_ | with_reducible refine wp_tor ?_ | with_reducible refine wp_tnot ?_ | with_reducible refine wp_fIf ?_
  | with_reducible refine wp_call ?_ | with_reducible refine wp_nCall ?_ | with_reducible refine wp_mth ?_ | with_reducible refine wp_prop ?_ | ((with_reducible apply wp_vVar); rfl) | with_reducible refine wp_vVal ?_
  | with_reducible refine wp_aNil ?_ | with_reducible refine wp_aVal ?_ | with_reducible refine wp_aNew ?_
  | ((with_reducible apply wp_aVar); rfl) | ((with_reducible apply wp_aVarS); rfl) | ((with_reducible apply wp_aVarW); rfl)
  | ((with_reducible apply wp_frz); rfl) | ((with_reducible apply wp_frzV); rfl)
  | with_reducible refine wp_tup ?_ | with_reducible refine wp_nLst ?_ | with_reducible refine wp_fD ?_ | with_reducible refine wp_iArgs ?_ | with_reducible refine wp_iSeq ?_ | with_reducible refine wp_for ?_
  | with_reducible refine wp_expr ?_ | with_reducible refine wp_makeS ?_ | ((with_reducible apply wp_makeL); rfl) | with_reducible refine wp_aCls ?_ | with_reducible refine wp_addO ?_ | with_reducible refine wp_exI ?_ | with_reducible refine wp_fJ0 ?_ | with_reducible refine wp_fJ1 ?_ | with_reducible refine wp_exS ?_ | with_reducible refine wp_s1 ?_ | with_reducible refine wp_n1 ?_ | with_reducible refine wp_aStar ?_ | with_reducible refine wp_par ?_ | with_reducible refine wp_asg ?_ | with_reducible refine wp_sl2 ?_
  | with_reducible refine wp_chain ?_ | with_reducible refine wp_or ?_ | with_reducible refine wp_exb ?_ | with_reducible refine wp_ex gt_nm ?_ | with_reducible refine wp_ex gt_2 ?_ | with_reducible refine wp_ex gt_2l ?_ | ((with_reducible apply wp_ex); first | with_reducible exact q_rvO | with_reducible exact q_dlL | with_reducible exact q_dlT | with_reducible exact q_strR | with_reducible exact q_isC_non | with_reducible exact q_isC_bl | with_reducible exact q_isC_int | with_reducible exact q_isC_str | with_reducible exact q_isC_lst | with_reducible exact q_isC_tup | with_reducible exact q_isC_ins rfl | with_reducible exact dEq_int _ _ | with_reducible exact dNe_int _ _ | with_reducible exact q_add | with_reducible exact q_sub | with_reducible exact q_lt | with_reducible exact q_le | with_reducible exact q_gt | with_reducible exact q_ge | with_reducible exact q_max2 | with_reducible exact q_min2 | with_reducible exact q_neg | with_reducible exact q_bl | with_reducible exact q_not | with_reducible exact q_trB | with_reducible exact q_trI | with_reducible exact q_trL | with_reducible exact q_trT | with_reducible exact q_lenL | with_reducible exact q_lenT | with_reducible exact q_itL | with_reducible exact q_itT | with_reducible exact q_int | with_reducible exact q_tupL | with_reducible exact q_tupT | with_reducible exact q_lstL | with_reducible exact q_lstT | with_reducible exact q_isN_non | with_reducible exact q_notN_non | with_reducible exact q_isNB_non | with_reducible exact q_notNB_non | with_reducible exact q_i_int_non | with_reducible exact q_i_bool_non | with_reducible exact q_i_str_non | with_reducible exact q_i_tuple_non | with_reducible exact q_i_list_non | with_reducible exact q_isN_bl | with_reducible exact q_notN_bl | with_reducible exact q_isNB_bl | with_reducible exact q_notNB_bl | with_reducible exact q_i_int_bl | with_reducible exact q_i_bool_bl | with_reducible exact q_i_str_bl | with_reducible exact q_i_tuple_bl | with_reducible exact q_i_list_bl | with_reducible exact q_isN_int | with_reducible exact q_notN_int | with_reducible exact q_isNB_int | with_reducible exact q_notNB_int | with_reducible exact q_i_int_int | with_reducible exact q_i_bool_int | with_reducible exact q_i_str_int | with_reducible exact q_i_tuple_int | with_reducible exact q_i_list_int | with_reducible exact q_isN_str | with_reducible exact q_notN_str | with_reducible exact q_isNB_str | with_reducible exact q_notNB_str | with_reducible exact q_i_int_str | with_reducible exact q_i_bool_str | with_reducible exact q_i_str_str | with_reducible exact q_i_tuple_str | with_reducible exact q_i_list_str | with_reducible exact q_isN_lst | with_reducible exact q_notN_lst | with_reducible exact q_isNB_lst | with_reducible exact q_notNB_lst | with_reducible exact q_i_int_lst | with_reducible exact q_i_bool_lst | with_reducible exact q_i_str_lst | with_reducible exact q_i_tuple_lst | with_reducible exact q_i_list_lst | with_reducible exact q_isN_tup | with_reducible exact q_notN_tup | with_reducible exact q_isNB_tup | with_reducible exact q_notNB_tup | with_reducible exact q_i_int_tup | with_reducible exact q_i_bool_tup | with_reducible exact q_i_str_tup | with_reducible exact q_i_tuple_tup | with_reducible exact q_i_list_tup | with_reducible exact q_fld | with_reducible exact q_al0 | with_reducible exact q_al1 | with_reducible exact q_al2 | with_reducible exact q_al3 | with_reducible exact q_al4 | with_reducible exact q_al5 | with_reducible exact q_al6 | with_reducible exact q_al7 | with_reducible exact q_al8 | ((with_reducible show FC.putAll _ _ _ = some _); rfl)) | ((with_reducible apply wp_exP); ((with_reducible show FC.avC _ _ = some _); rfl)) | ((with_reducible apply wp_exbl); first | with_reducible exact q_le | with_reducible exact q_lt | with_reducible exact q_ge | with_reducible exact q_gt | with_reducible exact dEq_int _ _ | with_reducible exact dNe_int _ _)
  | with_reducible refine ifTt ?_ | with_reducible refine ifFf ?_ | with_reducible refine ifNt ?_ | with_reducible refine ifNf ?_
  | with_reducible refine wp_lk1 (by decide) ?_ | with_reducible refine wp_lk2 (by decide) (by decide) ?_ | with_reducible refine wp_lk3 (by decide) (by decide) (by decide) ?_ | ((with_reducible apply wp_avm); rfl)
  | ((with_reducible apply wp_szR); rfl))))
/-! ### limits made one by one -/
theorem dirE {ps : List (Int × Int)} {k : Int} {f : F D} {rest : F Fl} {v : D} (hT : (ps.length : Int) = k → Wp (f [.val (.tup (limsD ps))]) (fun d _ => d = v) FC.E0) (hF : ¬ (ps.length : Int) = k → Wp (rest [.val (.tup (limsD ps))]) (fun f _ => f = .ret (.val v)) FC.E0) : Wp (sSeq (sIf (f1 dBl (f2 dEq (f1 dLen (fLook 0)) (f0 (.int k)))) (sRet f) sNil) rest [.val (.tup (limsD ps))]) (fun f _ => f = .ret (.val v)) FC.E0 := by
  and_intros
  rw [limsD_length]
  refine ifd (fun h => ?_) (fun h => ?_)
  · refine wp_ret ((hT h).imp fun d g e => ?_)
    subst e
    rfl
  · and_intros
    exact hF h
theorem mkQ {ps : List (Int × Int)} {ds : List D} {g : Gm} (G : Good ps) (e : ds = limsD ps) : ∃ fs, Mk1 0 2 b_Limits___init__ ds fs ∧ oK (fun d _ => d = lim ps) (.ins 0 fs) g := by
  subst e
  exact ⟨_, init_mk G, ok_ins rfl⟩
theorem dirM1 {p0 : Int × Int} (G : Good [p0]) : Wp (fD (nMakeS 0 2 b_Limits___init__ (aVal (f2 dIx (fLook 0) (f0 (.int 0))) aNil)) [.val (.tup (limsD [p0]))]) (fun d _ => d = lim [p0]) FC.E0 := by
  and_intros
  refine wp_ex (ixL (k := 0) rfl) ?_
  and_intros
  exact mkQ G rfl
theorem dirM2 {p0 p1 : Int × Int} (G : Good [p0, p1]) : Wp (fD (nMakeS 0 2 b_Limits___init__ (aVal (f2 dIx (fLook 0) (f0 (.int 0))) (aVal (f2 dIx (fLook 0) (f0 (.int 1))) aNil))) [.val (.tup (limsD [p0, p1]))]) (fun d _ => d = lim [p0, p1]) FC.E0 := by
  and_intros
  refine wp_ex (ixL (k := 0) rfl) ?_
  and_intros
  refine wp_ex (ixL (k := 1) rfl) ?_
  and_intros
  exact mkQ G rfl
theorem dirM3 {p0 p1 p2 : Int × Int} (G : Good [p0, p1, p2]) : Wp (fD (nMakeS 0 2 b_Limits___init__ (aVal (f2 dIx (fLook 0) (f0 (.int 0))) (aVal (f2 dIx (fLook 0) (f0 (.int 1))) (aVal (f2 dIx (fLook 0) (f0 (.int 2))) aNil)))) [.val (.tup (limsD [p0, p1, p2]))]) (fun d _ => d = lim [p0, p1, p2]) FC.E0 := by
  and_intros
  refine wp_ex (ixL (k := 0) rfl) ?_
  and_intros
  refine wp_ex (ixL (k := 1) rfl) ?_
  and_intros
  refine wp_ex (ixL (k := 2) rfl) ?_
  and_intros
  exact mkQ G rfl
theorem dirM4 {p0 p1 p2 p3 : Int × Int} (G : Good [p0, p1, p2, p3]) : Wp (fD (nMakeS 0 2 b_Limits___init__ (aVal (f2 dIx (fLook 0) (f0 (.int 0))) (aVal (f2 dIx (fLook 0) (f0 (.int 1))) (aVal (f2 dIx (fLook 0) (f0 (.int 2))) (aVal (f2 dIx (fLook 0) (f0 (.int 3))) aNil))))) [.val (.tup (limsD [p0, p1, p2, p3]))]) (fun d _ => d = lim [p0, p1, p2, p3]) FC.E0 := by
  and_intros
  refine wp_ex (ixL (k := 0) rfl) ?_
  and_intros
  refine wp_ex (ixL (k := 1) rfl) ?_
  and_intros
  refine wp_ex (ixL (k := 2) rfl) ?_
  and_intros
  refine wp_ex (ixL (k := 3) rfl) ?_
  and_intros
  exact mkQ G rfl
theorem dirM5 {p0 p1 p2 p3 p4 : Int × Int} (G : Good [p0, p1, p2, p3, p4]) : Wp (fD (nMakeS 0 2 b_Limits___init__ (aVal (f2 dIx (fLook 0) (f0 (.int 0))) (aVal (f2 dIx (fLook 0) (f0 (.int 1))) (aVal (f2 dIx (fLook 0) (f0 (.int 2))) (aVal (f2 dIx (fLook 0) (f0 (.int 3))) (aVal (f2 dIx (fLook 0) (f0 (.int 4))) aNil)))))) [.val (.tup (limsD [p0, p1, p2, p3, p4]))]) (fun d _ => d = lim [p0, p1, p2, p3, p4]) FC.E0 := by
  and_intros
  refine wp_ex (ixL (k := 0) rfl) ?_
  and_intros
  refine wp_ex (ixL (k := 1) rfl) ?_
  and_intros
  refine wp_ex (ixL (k := 2) rfl) ?_
  and_intros
  refine wp_ex (ixL (k := 3) rfl) ?_
  and_intros
  refine wp_ex (ixL (k := 4) rfl) ?_
  and_intros
  exact mkQ G rfl
theorem dirM6 {p0 p1 p2 p3 p4 p5 : Int × Int} (G : Good [p0, p1, p2, p3, p4, p5]) : Wp (fD (nMakeS 0 2 b_Limits___init__ (aVal (f2 dIx (fLook 0) (f0 (.int 0))) (aVal (f2 dIx (fLook 0) (f0 (.int 1))) (aVal (f2 dIx (fLook 0) (f0 (.int 2))) (aVal (f2 dIx (fLook 0) (f0 (.int 3))) (aVal (f2 dIx (fLook 0) (f0 (.int 4))) (aVal (f2 dIx (fLook 0) (f0 (.int 5))) aNil))))))) [.val (.tup (limsD [p0, p1, p2, p3, p4, p5]))]) (fun d _ => d = lim [p0, p1, p2, p3, p4, p5]) FC.E0 := by
  and_intros
  refine wp_ex (ixL (k := 0) rfl) ?_
  and_intros
  refine wp_ex (ixL (k := 1) rfl) ?_
  and_intros
  refine wp_ex (ixL (k := 2) rfl) ?_
  and_intros
  refine wp_ex (ixL (k := 3) rfl) ?_
  and_intros
  refine wp_ex (ixL (k := 4) rfl) ?_
  and_intros
  refine wp_ex (ixL (k := 5) rfl) ?_
  and_intros
  exact mkQ G rfl
theorem direct_rt {ps : List (Int × Int)} (G : Good ps) : Rt 1 b__law_direct [.tup (limsD ps)] (lim ps) := by
  have few := G.few
  have ne := List.length_pos_iff.mpr G.ne
  refine Rt.of ?_
  show Wp (b__law_direct [.val (.tup (limsD ps))]) _ _
  unfold b__law_direct
  refine dirE (fun h => absurd h (by omega)) fun _ => dirE (fun h => ?_) fun _ => dirE (fun h => ?_) fun _ => dirE (fun h => ?_) fun _ => dirE (fun h => ?_) fun _ => dirE (fun h => ?_) fun _ => dirE (fun h => ?_) fun _ => absurd few (by omega)
  · match ps, G, h with
    | [p0], G, _ => exact dirM1 G
  · match ps, G, h with
    | [p0, p1], G, _ => exact dirM2 G
  · match ps, G, h with
    | [p0, p1, p2], G, _ => exact dirM3 G
  · match ps, G, h with
    | [p0, p1, p2, p3], G, _ => exact dirM4 G
  · match ps, G, h with
    | [p0, p1, p2, p3, p4], G, _ => exact dirM5 G
  · match ps, G, h with
    | [p0, p1, p2, p3, p4, p5], G, _ => exact dirM6 G
end G23
namespace G23
open PySem PySem.Spec PyProof.Rows L2 FC
local macro_rules | `(tactic| and_intros) => `(tactic| (repeat (first
  | with_reducible refine wp_seq ?_ | with_reducible refine wp_nx ?_ | with_reducible refine wp_rt ?_ | with_reducible refine wp_nil ?_ | with_reducible refine dk_val ?_ | with_reducible refine dk_lst ?_ | with_reducible refine ok_lst ?_ | with_reducible refine dk_ins ?_ | with_reducible refine ok_ins ?_ | with_reducible refine lp_nx ?_ | with_reducible refine lp_rt ?_ | with_reducible refine lp_ct ?_ | with_reducible refine lp_bk ?_ | with_reducible refine wp_bk ?_ | with_reducible refine wp_ctn ?_
  | with_reducible refine wp_if ?_ | with_reducible refine wp_ret ?_ | with_reducible refine wp_set ?_ | with_reducible refine wp_setN ?_ | with_reducible refine wp_retN ?_ | with_reducible refine wp_retNew ?_ | with_reducible refine wp_brk ?_ | with_reducible refine wp_ct ?_
  | with_reducible refine wp_f0 ?_ | with_reducible refine wp_f1 ?_ | with_reducible refine wp_f2 ?_
  | ((with_reducible apply wp_look); rfl) | ((with_reducible apply wp_var); rfl) | ((with_reducible apply wp_lookL); rfl) | ((with_reducible apply wp_retVar); rfl) | ((with_reducible apply wp_retVarO); rfl)
  | with_reducible refine wp_and ?_ | with_reducible refine wp_tand ?_ | with_reducible refine wp_tor ?_ | with_reducible refine wp_tnot ?_ | with_reducible refine wp_fIf ?_
  | with_reducible refine wp_call ?_ | with_reducible refine wp_nCall ?_ | with_reducible refine wp_mth ?_ | with_reducible refine wp_prop ?_ | ((with_reducible apply wp_vVar); rfl) | with_reducible refine wp_vVal ?_
  | with_reducible refine wp_aNil ?_ | with_reducible refine wp_aVal ?_ | with_reducible refine wp_aNew ?_
  | ((with_reducible apply wp_aVar); rfl) | ((with_reducible apply wp_aVarS); rfl) | ((with_reducible apply wp_aVarW); rfl)
  | ((with_reducible apply wp_frz); rfl) | ((with_reducible apply wp_frzV); rfl)
  | with_reducible refine wp_tup ?_ | with_reducible refine wp_nLst ?_ | with_reducible refine wp_fD ?_ | with_reducible refine wp_iArgs ?_ | with_reducible refine wp_iSeq ?_ | with_reducible refine wp_for ?_
  | with_reducible refine wp_expr ?_ | with_reducible refine wp_makeS ?_ | ((with_reducible apply wp_makeL); rfl) | with_reducible refine wp_aCls ?_ | with_reducible refine wp_addO ?_ | with_reducible refine wp_exI ?_ | with_reducible refine wp_fJ0 ?_ | with_reducible refine wp_fJ1 ?_ | with_reducible refine wp_exS ?_ | with_reducible refine wp_s1 ?_ | with_reducible refine wp_n1 ?_ | with_reducible refine wp_aStar ?_ | with_reducible refine wp_par ?_ | with_reducible refine wp_asg ?_ | with_reducible refine wp_sl2 ?_
  | with_reducible refine wp_chain ?_ | with_reducible refine wp_or ?_ | with_reducible refine wp_exb ?_ | with_reducible refine wp_ex gt_nm ?_ | with_reducible refine wp_ex gt_2 ?_ | with_reducible refine wp_ex gt_2l ?_ | ((with_reducible apply wp_ex); first | with_reducible exact q_rvO | with_reducible exact q_dlL | with_reducible exact q_dlT | with_reducible exact q_strR | with_reducible exact q_isC_non | with_reducible exact q_isC_bl | with_reducible exact q_isC_int | with_reducible exact q_isC_str | with_reducible exact q_isC_lst | with_reducible exact q_isC_tup | with_reducible exact q_isC_ins rfl | with_reducible exact dEq_int _ _ | with_reducible exact dNe_int _ _ | with_reducible exact q_add | with_reducible exact q_sub | with_reducible exact q_lt | with_reducible exact q_le | with_reducible exact q_gt | with_reducible exact q_ge | with_reducible exact q_max2 | with_reducible exact q_min2 | with_reducible exact q_neg | with_reducible exact q_bl | with_reducible exact q_not | with_reducible exact q_trB | with_reducible exact q_trI | with_reducible exact q_trL | with_reducible exact q_trT | with_reducible exact q_lenL | with_reducible exact q_lenT | with_reducible exact q_itL | with_reducible exact q_itT | with_reducible exact q_int | with_reducible exact q_tupL | with_reducible exact q_tupT | with_reducible exact q_lstL | with_reducible exact q_lstT | with_reducible exact q_isN_non | with_reducible exact q_notN_non | with_reducible exact q_isNB_non | with_reducible exact q_notNB_non | with_reducible exact q_i_int_non | with_reducible exact q_i_bool_non | with_reducible exact q_i_str_non | with_reducible exact q_i_tuple_non | with_reducible exact q_i_list_non | with_reducible exact q_isN_bl | with_reducible exact q_notN_bl | with_reducible exact q_isNB_bl | with_reducible exact q_notNB_bl | with_reducible exact q_i_int_bl | with_reducible exact q_i_bool_bl | with_reducible exact q_i_str_bl | with_reducible exact q_i_tuple_bl | with_reducible exact q_i_list_bl | with_reducible exact q_isN_int | with_reducible exact q_notN_int | with_reducible exact q_isNB_int | with_reducible exact q_notNB_int | with_reducible exact q_i_int_int | with_reducible exact q_i_bool_int | with_reducible exact q_i_str_int | with_reducible exact q_i_tuple_int | with_reducible exact q_i_list_int | with_reducible exact q_isN_str | with_reducible exact q_notN_str | with_reducible exact q_isNB_str | with_reducible exact q_notNB_str | with_reducible exact q_i_int_str | with_reducible exact q_i_bool_str | with_reducible exact q_i_str_str | with_reducible exact q_i_tuple_str | with_reducible exact q_i_list_str | with_reducible exact q_isN_lst | with_reducible exact q_notN_lst | with_reducible exact q_isNB_lst | with_reducible exact q_notNB_lst | with_reducible exact q_i_int_lst | with_reducible exact q_i_bool_lst | with_reducible exact q_i_str_lst | with_reducible exact q_i_tuple_lst | with_reducible exact q_i_list_lst | with_reducible exact q_isN_tup | with_reducible exact q_notN_tup | with_reducible exact q_isNB_tup | with_reducible exact q_notNB_tup | with_reducible exact q_i_int_tup | with_reducible exact q_i_bool_tup | with_reducible exact q_i_str_tup | with_reducible exact q_i_tuple_tup | with_reducible exact q_i_list_tup | with_reducible exact q_fld | with_reducible exact q_al0 | with_reducible exact q_al1 | with_reducible exact q_al2 | with_reducible exact q_al3 | with_reducible exact q_al4 | with_reducible exact q_al5 | with_reducible exact q_al6 | with_reducible exact q_al7 | with_reducible exact q_al8 | ((with_reducible show FC.putAll _ _ _ = some _); rfl)) | ((with_reducible apply wp_exP); ((with_reducible show FC.avC _ _ = some _); rfl)) | ((with_reducible apply wp_exbl); first | with_reducible exact q_le | with_reducible exact q_lt | with_reducible exact q_ge | with_reducible exact q_gt | with_reducible exact dEq_int _ _ | with_reducible exact dNe_int _ _)
  | with_reducible refine ifTt ?_ | with_reducible refine ifFf ?_ | with_reducible refine ifNt ?_ | with_reducible refine ifNf ?_
  | with_reducible refine wp_lk1 (by decide) ?_ | with_reducible refine wp_lk2 (by decide) (by decide) ?_ | with_reducible refine wp_lk3 (by decide) (by decide) (by decide) ?_ | ((with_reducible apply wp_avm); rfl)
  | ((with_reducible apply wp_szR); rfl))))
/-! ### Limits.read -/
theorem alldM : ∀ xs : List D, allD (xs.map AV.d) = some xs
  | [] => rfl
  | x :: xs => by simp only [List.map_cons, allD, alldM xs, Option.map_some]
theorem number_rt {i : Int} (h : 1 ≤ i ∧ i ≤ 20) : Rt 2 b_number_in [.str (numS i)] (.int i) := by
  obtain ⟨a, rfl⟩ : ∃ a : Fin 20, i = (a.val : Int) + 1 := ⟨⟨(i - 1).toNat, by omega⟩, by show i = (((i - 1).toNat : Nat) : Int) + 1; omega⟩
  obtain ⟨a, ha⟩ := a
  match a, ha with
  | 0, _ => exact ⟨⟨[.val (.str (numS (((0 : Nat) : Int) + 1))), .none], by kernel_rfl⟩⟩
  | 1, _ => exact ⟨⟨[.val (.str (numS (((1 : Nat) : Int) + 1))), .none], by kernel_rfl⟩⟩
  | 2, _ => exact ⟨⟨[.val (.str (numS (((2 : Nat) : Int) + 1))), .none], by kernel_rfl⟩⟩
  | 3, _ => exact ⟨⟨[.val (.str (numS (((3 : Nat) : Int) + 1))), .none], by kernel_rfl⟩⟩
  | 4, _ => exact ⟨⟨[.val (.str (numS (((4 : Nat) : Int) + 1))), .none], by kernel_rfl⟩⟩
  | 5, _ => exact ⟨⟨[.val (.str (numS (((5 : Nat) : Int) + 1))), .none], by kernel_rfl⟩⟩
  | 6, _ => exact ⟨⟨[.val (.str (numS (((6 : Nat) : Int) + 1))), .none], by kernel_rfl⟩⟩
  | 7, _ => exact ⟨⟨[.val (.str (numS (((7 : Nat) : Int) + 1))), .none], by kernel_rfl⟩⟩
  | 8, _ => exact ⟨⟨[.val (.str (numS (((8 : Nat) : Int) + 1))), .none], by kernel_rfl⟩⟩
  | 9, _ => exact ⟨⟨[.val (.str (numS (((9 : Nat) : Int) + 1))), .none], by kernel_rfl⟩⟩
  | 10, _ => exact ⟨⟨[.val (.str (numS (((10 : Nat) : Int) + 1))), .none], by kernel_rfl⟩⟩
  | 11, _ => exact ⟨⟨[.val (.str (numS (((11 : Nat) : Int) + 1))), .none], by kernel_rfl⟩⟩
  | 12, _ => exact ⟨⟨[.val (.str (numS (((12 : Nat) : Int) + 1))), .none], by kernel_rfl⟩⟩
  | 13, _ => exact ⟨⟨[.val (.str (numS (((13 : Nat) : Int) + 1))), .none], by kernel_rfl⟩⟩
  | 14, _ => exact ⟨⟨[.val (.str (numS (((14 : Nat) : Int) + 1))), .none], by kernel_rfl⟩⟩
  | 15, _ => exact ⟨⟨[.val (.str (numS (((15 : Nat) : Int) + 1))), .none], by kernel_rfl⟩⟩
  | 16, _ => exact ⟨⟨[.val (.str (numS (((16 : Nat) : Int) + 1))), .none], by kernel_rfl⟩⟩
  | 17, _ => exact ⟨⟨[.val (.str (numS (((17 : Nat) : Int) + 1))), .none], by kernel_rfl⟩⟩
  | 18, _ => exact ⟨⟨[.val (.str (numS (((18 : Nat) : Int) + 1))), .none], by kernel_rfl⟩⟩
  | 19, _ => exact ⟨⟨[.val (.str (numS (((19 : Nat) : Int) + 1))), .none], by kernel_rfl⟩⟩
  | n + 20, h => exact absurd h (by omega)
theorem pairIn_rt {p : Int × Int} (h : In20 p) : Rt 3 b_pair_in [.str (lineN p)] (limD p) := by
  obtain ⟨h1, h2, h3, h4⟩ := id h
  have ll := line_len h
  refine Rt.of ?_
  unfold b_pair_in
  unfold fSlL
  and_intros
  refine wp_ex (show dStarts (lineN p) (.str (("at most " : String) : Str)) = some (.bl true) by simp only [dStarts, line_starts h]) ?_
  and_intros
  refine wp_mt ?_
  and_intros
  refine wp_ex (show dLen (.str (("at most " : String) : Str)) = some (.int 8) by rfl) ?_
  refine wp_ex (show ((dInt (.int 8)).bind fun i => dSl (.str (lineN p)) (some i) none) = some (.str (cutS (lineN p) (some 8) none)) by
    simp only [dInt, Option.bind_some, dSl]
    rw [if_pos (len_szN (by omega))]) ?_
  refine ⟨_, rfl, ?_⟩
  and_intros
  refine wp_ex (show (dSplit (cutS (lineN p) (some 8) none) (.str ((" " : String) : Str))).map MO.lst = some (.lst (([numS p.2, (("in" : String) : Str), numS p.1] : List Str).map D.str)) by
    have e : (((" " : String) : Str).length == 0) = false := by decide
    have l := cutS_length (lineN p) (some 8) none
    simp only [dSplit]
    rw [if_pos ⟨e, len_szN (by omega)⟩, line_words h]
    rfl) ?_
  and_intros
  refine ⟨_, rfl, .inl ⟨_, _, rfl, ?_⟩⟩
  and_intros
  refine wpc_rt (number_rt (i := p.1) ⟨h1, h2⟩) rfl ?_
  and_intros
  refine wpc_rt (number_rt (i := p.2) ⟨h3, h4⟩) rfl ?_
  and_intros
  rfl
theorem are_pairsL_rt {ps : List (Int × Int)} (G : Good ps) : Rt 2 b_are_pairs [.lst (limsD ps)] (.bl true) := by
  have few := G.few
  have hl : (limsD ps).length = ps.length := limsD_length ps
  have pos : 0 < ps.length := List.length_pos_iff.mpr G.ne
  refine Rt.of ?_
  unfold b_are_pairs
  and_intros
  refine ifd (fun _ => ?_) (fun h => absurd (show (0 : Int) < (limsD ps).length by omega) h)
  and_intros
  refine wp_lcA (fun _ => .bl true) ?_
  and_intros
  refine ⟨len_szN (by omega), rfl, fun d hd => ?_, ?_⟩
  · obtain ⟨p, hp, rfl⟩ := List.mem_map.mp hd
    refine ⟨_, gt_nm, ?_⟩
    and_intros
    refine wpc_rt (is_pair_rt p) rfl ?_
    and_intros
    exact ⟨by rw [decide_eq_true (G.ins p hp)], rfl⟩
  · and_intros
    refine wp_ex (show dAll (.lst (List.map (fun _ => D.bl true) (limsD ps))) = some (.bl true) by
      have e : List.map (fun _ => D.bl true) (limsD ps) = (ps.map fun _ => true).map D.bl := by simp [limsD]
      rw [e, q_all]
      simp) ?_
    and_intros
    refine wp_ex (show dLenSet (.lst (limsD ps)) = some _ from dLenSet_pr G.nd (by omega)) ?_
    and_intros
    simp [hl]
theorem read_rt {ps : List (Int × Int)} (G : Good ps) : Rt 4 b_Limits_read [.cls 0, .str (limText ps)] (lim ps) := by
  have few := G.few
  have hl : (limsD ps).length = ps.length := limsD_length ps
  have tl1 := limText_len G.ins
  have tl2 := joinN_len G.ne G.ins
  refine Rt.of ?_
  unfold b_Limits_read
  unfold fSlH
  and_intros
  refine wp_ex (show dEnds (limText ps) (.str (("\n" : String) : Str)) = some (.bl true) by
    show some (D.bl (Txt.endswith (limText ps) nlS)) = _
    rw [limText_ends G.ne]) ?_
  and_intros
  refine wp_lcI (fun k acc g => acc = (limsD ps).take k ∧ g = [.val (.cls 0), .val (.str (limText ps)), .none, .none]) ?_
  and_intros
  refine wp_ex (show ((dInt (.int (-1))).bind fun i => dSl (.str (limText ps)) none (some i)) = some (.str (Txt.join nlS (ps.map lineN))) by
    simp only [dInt, Option.bind_some, dSl]
    rw [if_pos (len_szN (by omega)), limText_cut G.ne]) ?_
  refine ⟨_, rfl, ?_⟩
  and_intros
  refine wp_ex (show (dSplit (Txt.join nlS (ps.map lineN)) (.str (("\n" : String) : Str))).map MO.lst = some (.lst ((ps.map lineN).map D.str)) by
    have e : ((("\n" : String) : Str).length == 0) = false := by decide
    simp only [dSplit]
    rw [if_pos ⟨e, len_szN (by omega)⟩]
    have := limText_lines G.ne G.ins
    rw [show Txt.split (Txt.join nlS (ps.map lineN)) (("\n" : String) : Str) = ps.map lineN from this]
    rfl) ?_
  and_intros
  refine ⟨len_szN (by simp; omega), rfl, ⟨by simp, rfl⟩, ?_, ?_⟩
  · rintro k acc d _ hd ⟨rfl, rfl⟩
    rw [List.getElem?_map, List.getElem?_map] at hd
    cases q : ps[k]? with
    | none => rw [q] at hd; cases hd
    | some p =>
      rw [q] at hd
      cases hd
      refine ⟨_, gt_nm, ?_⟩
      and_intros
      refine wpc_rt (pairIn_rt (G.ins p (List.mem_of_getElem? q))) rfl ?_
      and_intros
      refine ⟨?_, rfl⟩
      rw [List.take_succ]
      congr 1
      unfold limsD
      rw [List.getElem?_map, q]
      rfl
  · rintro acc g ⟨rfl, rfl⟩
    rw [show ((ps.map lineN).map D.str).length = (limsD ps).length by simp [limsD], List.take_length]
    and_intros
    refine wpc_rt (are_pairsL_rt G) rfl ?_
    and_intros
    refine ifd (fun h => absurd h (by omega)) (fun _ => ?_)
    and_intros
    refine ⟨limsD ps, by rw [List.append_nil]; exact alldM _, len_szN (by omega), _, init_mk G, ok_ins rfl⟩
end G23
namespace G23
open PySem PySem.Spec PyProof.Rows L2 FC
local macro_rules | `(tactic| and_intros) => `(tactic| (repeat (first
  | with_reducible refine wp_seq ?_ | with_reducible refine wp_nx ?_ | with_reducible refine wp_rt ?_ | with_reducible refine wp_nil ?_ | with_reducible refine dk_val ?_ | with_reducible refine dk_lst ?_ | with_reducible refine ok_lst ?_ | with_reducible refine dk_ins ?_ | with_reducible refine ok_ins ?_ | with_reducible refine lp_nx ?_ | with_reducible refine lp_rt ?_ | with_reducible refine lp_ct ?_ | with_reducible refine lp_bk ?_ | with_reducible refine wp_bk ?_ | with_reducible refine wp_ctn ?_
  | with_reducible refine wp_if ?_ | with_reducible refine wp_ret ?_ | with_reducible refine wp_set ?_ | with_reducible refine wp_setN ?_ | with_reducible refine wp_retN ?_ | with_reducible refine wp_retNew ?_ | with_reducible refine wp_brk ?_ | with_reducible refine wp_ct ?_
  | with_reducible refine wp_f0 ?_ | with_reducible refine wp_f1 ?_ | with_reducible refine wp_f2 ?_
  | ((with_reducible apply wp_look); rfl) | ((with_reducible apply wp_var); rfl) | ((with_reducible apply wp_lookL); rfl) | ((with_reducible apply wp_retVar); rfl) | ((with_reducible apply wp_retVarO); rfl)
  | with_reducible refine wp_and ?_ | with_reducible refine wp_tand ?_ | with_reducible refine wp_tor ?_ | with_reducible refine wp_tnot ?_ | with_reducible refine wp_fIf ?_
  | with_reducible refine wp_call ?_ | with_reducible refine wp_nCall ?_ | with_reducible refine wp_mth ?_ | with_reducible refine wp_prop ?_ | ((with_reducible apply wp_vVar); rfl) | with_reducible refine wp_vVal ?_
  | with_reducible refine wp_aNil ?_ | with_reducible refine wp_aVal ?_ | with_reducible refine wp_aNew ?_
  | ((with_reducible apply wp_aVar); rfl) | ((with_reducible apply wp_aVarS); rfl) | ((with_reducible apply wp_aVarW); rfl)
  | ((with_reducible apply wp_frz); rfl) | ((with_reducible apply wp_frzV); rfl)
  | with_reducible refine wp_tup ?_ | with_reducible refine wp_nLst ?_ | with_reducible refine wp_fD ?_ | with_reducible refine wp_iArgs ?_ | with_reducible refine wp_iSeq ?_ | with_reducible refine wp_for ?_
  | with_reducible refine wp_expr ?_ | with_reducible refine wp_makeS ?_ | ((with_reducible apply wp_makeL); rfl) | with_reducible refine wp_aCls ?_ | with_reducible refine wp_addO ?_ | with_reducible refine wp_exI ?_ | with_reducible refine wp_fJ0 ?_ | with_reducible refine wp_fJ1 ?_ | with_reducible refine wp_exS ?_ | with_reducible refine wp_s1 ?_ | with_reducible refine wp_n1 ?_ | with_reducible refine wp_aStar ?_ | with_reducible refine wp_par ?_ | with_reducible refine wp_asg ?_ | with_reducible refine wp_sl2 ?_
  | with_reducible refine wp_chain ?_ | with_reducible refine wp_or ?_ | with_reducible refine wp_exb ?_ | with_reducible refine wp_ex gt_nm ?_ | with_reducible refine wp_ex gt_2 ?_ | with_reducible refine wp_ex gt_2l ?_ | ((with_reducible apply wp_ex); first | with_reducible exact q_rvO | with_reducible exact q_dlL | with_reducible exact q_dlT | with_reducible exact q_strR | with_reducible exact q_isC_non | with_reducible exact q_isC_bl | with_reducible exact q_isC_int | with_reducible exact q_isC_str | with_reducible exact q_isC_lst | with_reducible exact q_isC_tup | with_reducible exact q_isC_ins rfl | with_reducible exact dEq_int _ _ | with_reducible exact dNe_int _ _ | with_reducible exact q_add | with_reducible exact q_sub | with_reducible exact q_lt | with_reducible exact q_le | with_reducible exact q_gt | with_reducible exact q_ge | with_reducible exact q_max2 | with_reducible exact q_min2 | with_reducible exact q_neg | with_reducible exact q_bl | with_reducible exact q_not | with_reducible exact q_trB | with_reducible exact q_trI | with_reducible exact q_trL | with_reducible exact q_trT | with_reducible exact q_lenL | with_reducible exact q_lenT | with_reducible exact q_itL | with_reducible exact q_itT | with_reducible exact q_int | with_reducible exact q_tupL | with_reducible exact q_tupT | with_reducible exact q_lstL | with_reducible exact q_lstT | with_reducible exact q_isN_non | with_reducible exact q_notN_non | with_reducible exact q_isNB_non | with_reducible exact q_notNB_non | with_reducible exact q_i_int_non | with_reducible exact q_i_bool_non | with_reducible exact q_i_str_non | with_reducible exact q_i_tuple_non | with_reducible exact q_i_list_non | with_reducible exact q_isN_bl | with_reducible exact q_notN_bl | with_reducible exact q_isNB_bl | with_reducible exact q_notNB_bl | with_reducible exact q_i_int_bl | with_reducible exact q_i_bool_bl | with_reducible exact q_i_str_bl | with_reducible exact q_i_tuple_bl | with_reducible exact q_i_list_bl | with_reducible exact q_isN_int | with_reducible exact q_notN_int | with_reducible exact q_isNB_int | with_reducible exact q_notNB_int | with_reducible exact q_i_int_int | with_reducible exact q_i_bool_int | with_reducible exact q_i_str_int | with_reducible exact q_i_tuple_int | with_reducible exact q_i_list_int | with_reducible exact q_isN_str | with_reducible exact q_notN_str | with_reducible exact q_isNB_str | with_reducible exact q_notNB_str | with_reducible exact q_i_int_str | with_reducible exact q_i_bool_str | with_reducible exact q_i_str_str | with_reducible exact q_i_tuple_str | with_reducible exact q_i_list_str | with_reducible exact q_isN_lst | with_reducible exact q_notN_lst | with_reducible exact q_isNB_lst | with_reducible exact q_notNB_lst | with_reducible exact q_i_int_lst | with_reducible exact q_i_bool_lst | with_reducible exact q_i_str_lst | with_reducible exact q_i_tuple_lst | with_reducible exact q_i_list_lst | with_reducible exact q_isN_tup | with_reducible exact q_notN_tup | with_reducible exact q_isNB_tup | with_reducible exact q_notNB_tup | with_reducible exact q_i_int_tup | with_reducible exact q_i_bool_tup | with_reducible exact q_i_str_tup | with_reducible exact q_i_tuple_tup | with_reducible exact q_i_list_tup | with_reducible exact q_fld | with_reducible exact q_al0 | with_reducible exact q_al1 | with_reducible exact q_al2 | with_reducible exact q_al3 | with_reducible exact q_al4 | with_reducible exact q_al5 | with_reducible exact q_al6 | with_reducible exact q_al7 | with_reducible exact q_al8 | ((with_reducible show FC.putAll _ _ _ = some _); rfl)) | ((with_reducible apply wp_exP); ((with_reducible show FC.avC _ _ = some _); rfl)) | ((with_reducible apply wp_exbl); first | with_reducible exact q_le | with_reducible exact q_lt | with_reducible exact q_ge | with_reducible exact q_gt | with_reducible exact dEq_int _ _ | with_reducible exact dNe_int _ _)
  | with_reducible refine ifTt ?_ | with_reducible refine ifFf ?_ | with_reducible refine ifNt ?_ | with_reducible refine ifNf ?_
  | with_reducible refine wp_lk1 (by decide) ?_ | with_reducible refine wp_lk2 (by decide) (by decide) ?_ | with_reducible refine wp_lk3 (by decide) (by decide) (by decide) ?_ | ((with_reducible apply wp_avm); rfl)
  | ((with_reducible apply wp_szR); rfl))))
/-! ### o == o' -/
theorem eq_rt (ps qs : List (Int × Int)) : Rt 2 b_Limits___eq__ [lim ps, lim qs] (.bl (decide (ps = qs))) := by
  refine Rt.of ?_
  unfold b_Limits___eq__
  and_intros
  refine wp_ex (dEq_lims ps qs) ?_
  rfl
end G23
namespace G23
open PySem PySem.Spec PyProof.Rows L2 FC
local macro_rules | `(tactic| and_intros) => `(tactic| (repeat (first
  | with_reducible refine wp_seq ?_ | with_reducible refine wp_nx ?_ | with_reducible refine wp_rt ?_ | with_reducible refine wp_nil ?_ | with_reducible refine dk_val ?_ | with_reducible refine dk_lst ?_ | with_reducible refine ok_lst ?_ | with_reducible refine dk_ins ?_ | with_reducible refine ok_ins ?_ | with_reducible refine lp_nx ?_ | with_reducible refine lp_rt ?_ | with_reducible refine lp_ct ?_ | with_reducible refine lp_bk ?_ | with_reducible refine wp_bk ?_ | with_reducible refine wp_ctn ?_
  | with_reducible refine wp_if ?_ | with_reducible refine wp_ret ?_ | with_reducible refine wp_set ?_ | with_reducible refine wp_setN ?_ | with_reducible refine wp_retN ?_ | with_reducible refine wp_retNew ?_ | with_reducible refine wp_brk ?_ | with_reducible refine wp_ct ?_
  | with_reducible refine wp_f0 ?_ | with_reducible refine wp_f1 ?_ | with_reducible refine wp_f2 ?_
  | ((with_reducible apply wp_look); rfl) | ((with_reducible apply wp_var); rfl) | ((with_reducible apply wp_lookL); rfl) | ((with_reducible apply wp_retVar); rfl) | ((with_reducible apply wp_retVarO); rfl)
  | with_reducible refine wp_and ?_ | with_reducible refine wp_tand ?_ | with_reducible refine wp_tor ?_ | with_reducible refine wp_tnot ?_ | with_reducible refine wp_fIf ?_
  | with_reducible refine wp_call ?_ | with_reducible refine wp_nCall ?_ | with_reducible refine wp_mth ?_ | with_reducible refine wp_prop ?_ | ((with_reducible apply wp_vVar); rfl) | with_reducible refine wp_vVal ?_
  | with_reducible refine wp_aNil ?_ | with_reducible refine wp_aVal ?_ | with_reducible refine wp_aNew ?_
  | ((with_reducible apply wp_aVar); rfl) | ((with_reducible apply wp_aVarS); rfl) | ((with_reducible apply wp_aVarW); rfl)
  | ((with_reducible apply wp_frz); rfl) | ((with_reducible apply wp_frzV); rfl)
  | with_reducible refine wp_tup ?_ | with_reducible refine wp_nLst ?_ | with_reducible refine wp_fD ?_ | with_reducible refine wp_iArgs ?_ | with_reducible refine wp_iSeq ?_ | with_reducible refine wp_for ?_
  | with_reducible refine wp_expr ?_ | with_reducible refine wp_makeS ?_ | ((with_reducible apply wp_makeL); rfl) | with_reducible refine wp_aCls ?_ | with_reducible refine wp_addO ?_ | with_reducible refine wp_exI ?_ | with_reducible refine wp_fJ0 ?_ | with_reducible refine wp_fJ1 ?_ | with_reducible refine wp_exS ?_ | with_reducible refine wp_s1 ?_ | with_reducible refine wp_n1 ?_ | with_reducible refine wp_aStar ?_ | with_reducible refine wp_par ?_ | with_reducible refine wp_asg ?_ | with_reducible refine wp_sl2 ?_
  | with_reducible refine wp_chain ?_ | with_reducible refine wp_or ?_ | with_reducible refine wp_exb ?_ | with_reducible refine wp_ex gt_nm ?_ | with_reducible refine wp_ex gt_2 ?_ | with_reducible refine wp_ex gt_2l ?_ | ((with_reducible apply wp_ex); first | with_reducible exact q_rvO | with_reducible exact q_dlL | with_reducible exact q_dlT | with_reducible exact q_strR | with_reducible exact q_isC_non | with_reducible exact q_isC_bl | with_reducible exact q_isC_int | with_reducible exact q_isC_str | with_reducible exact q_isC_lst | with_reducible exact q_isC_tup | with_reducible exact q_isC_ins rfl | with_reducible exact dEq_int _ _ | with_reducible exact dNe_int _ _ | with_reducible exact q_add | with_reducible exact q_sub | with_reducible exact q_lt | with_reducible exact q_le | with_reducible exact q_gt | with_reducible exact q_ge | with_reducible exact q_max2 | with_reducible exact q_min2 | with_reducible exact q_neg | with_reducible exact q_bl | with_reducible exact q_not | with_reducible exact q_trB | with_reducible exact q_trI | with_reducible exact q_trL | with_reducible exact q_trT | with_reducible exact q_lenL | with_reducible exact q_lenT | with_reducible exact q_itL | with_reducible exact q_itT | with_reducible exact q_int | with_reducible exact q_tupL | with_reducible exact q_tupT | with_reducible exact q_lstL | with_reducible exact q_lstT | with_reducible exact q_isN_non | with_reducible exact q_notN_non | with_reducible exact q_isNB_non | with_reducible exact q_notNB_non | with_reducible exact q_i_int_non | with_reducible exact q_i_bool_non | with_reducible exact q_i_str_non | with_reducible exact q_i_tuple_non | with_reducible exact q_i_list_non | with_reducible exact q_isN_bl | with_reducible exact q_notN_bl | with_reducible exact q_isNB_bl | with_reducible exact q_notNB_bl | with_reducible exact q_i_int_bl | with_reducible exact q_i_bool_bl | with_reducible exact q_i_str_bl | with_reducible exact q_i_tuple_bl | with_reducible exact q_i_list_bl | with_reducible exact q_isN_int | with_reducible exact q_notN_int | with_reducible exact q_isNB_int | with_reducible exact q_notNB_int | with_reducible exact q_i_int_int | with_reducible exact q_i_bool_int | with_reducible exact q_i_str_int | with_reducible exact q_i_tuple_int | with_reducible exact q_i_list_int | with_reducible exact q_isN_str | with_reducible exact q_notN_str | with_reducible exact q_isNB_str | with_reducible exact q_notNB_str | with_reducible exact q_i_int_str | with_reducible exact q_i_bool_str | with_reducible exact q_i_str_str | with_reducible exact q_i_tuple_str | with_reducible exact q_i_list_str | with_reducible exact q_isN_lst | with_reducible exact q_notN_lst | with_reducible exact q_isNB_lst | with_reducible exact q_notNB_lst | with_reducible exact q_i_int_lst | with_reducible exact q_i_bool_lst | with_reducible exact q_i_str_lst | with_reducible exact q_i_tuple_lst | with_reducible exact q_i_list_lst | with_reducible exact q_isN_tup | with_reducible exact q_notN_tup | with_reducible exact q_isNB_tup | with_reducible exact q_notNB_tup | with_reducible exact q_i_int_tup | with_reducible exact q_i_bool_tup | with_reducible exact q_i_str_tup | with_reducible exact q_i_tuple_tup | with_reducible exact q_i_list_tup | with_reducible exact q_fld | with_reducible exact q_al0 | with_reducible exact q_al1 | with_reducible exact q_al2 | with_reducible exact q_al3 | with_reducible exact q_al4 | with_reducible exact q_al5 | with_reducible exact q_al6 | with_reducible exact q_al7 | with_reducible exact q_al8 | ((with_reducible show FC.putAll _ _ _ = some _); rfl)) | ((with_reducible apply wp_exP); ((with_reducible show FC.avC _ _ = some _); rfl)) | ((with_reducible apply wp_exbl); first | with_reducible exact q_le | with_reducible exact q_lt | with_reducible exact q_ge | with_reducible exact q_gt | with_reducible exact dEq_int _ _ | with_reducible exact dNe_int _ _)
  | with_reducible refine ifTt ?_ | with_reducible refine ifFf ?_ | with_reducible refine ifNt ?_ | with_reducible refine ifNf ?_
  | with_reducible refine wp_lk1 (by decide) ?_ | with_reducible refine wp_lk2 (by decide) (by decide) ?_ | with_reducible refine wp_lk3 (by decide) (by decide) (by decide) ?_ | ((with_reducible apply wp_avm); rfl)
  | ((with_reducible apply wp_szR); rfl))))
/-! ### a cell of the script -/
theorem cell_ok : CellOk b__law_cell_at := fun ns sv k h => by
  have h1 : Wp (b__law_cell_at [sv, .val (.int k)]) (fun f g => ∃ z : Int, f = .ret (.val (.int z)) ∧ g = [sv, .val (.int k)]) FC.E0 := by
    unfold b__law_cell_at
    and_intros
    refine wp_seeLen h rfl ?_
    and_intros
    refine ifd (fun hk => ?_) (fun hk => ?_)
    · and_intros
      refine wp_seeIx h rfl ?_
      and_intros
      have hk : k < ns.length := by omega
      exact ⟨k, ns[k], rfl, List.getElem?_eq_getElem hk, _, rfl, rfl⟩
    · and_intros
      exact ⟨0, rfl, rfl⟩
  obtain ⟨f, g, e, z, rfl, rfl⟩ := h1.out
  exact ⟨z, e⟩
end G23
namespace G23
open PySem PySem.Spec PyProof.Rows L2 FC
local macro_rules | `(tactic| and_intros) => `(tactic| (repeat (first
  | with_reducible refine wp_seq ?_ | with_reducible refine wp_nx ?_ | with_reducible refine wp_rt ?_ | with_reducible refine wp_nil ?_ | with_reducible refine dk_val ?_ | with_reducible refine dk_lst ?_ | with_reducible refine ok_lst ?_ | with_reducible refine dk_ins ?_ | with_reducible refine ok_ins ?_ | with_reducible refine lp_nx ?_ | with_reducible refine lp_rt ?_ | with_reducible refine lp_ct ?_ | with_reducible refine lp_bk ?_ | with_reducible refine wp_bk ?_ | with_reducible refine wp_ctn ?_
  | with_reducible refine wp_if ?_ | with_reducible refine wp_ret ?_ | with_reducible refine wp_set ?_ | with_reducible refine wp_setN ?_ | with_reducible refine wp_retN ?_ | with_reducible refine wp_retNew ?_ | with_reducible refine wp_brk ?_ | with_reducible refine wp_ct ?_
  | with_reducible refine wp_f0 ?_ | with_reducible refine wp_f1 ?_ | with_reducible refine wp_f2 ?_
  | ((with_reducible apply wp_look); rfl) | ((with_reducible apply wp_var); rfl) | ((with_reducible apply wp_lookL); rfl) | ((with_reducible apply wp_retVar); rfl) | ((with_reducible apply wp_retVarO); rfl)
  | with_reducible refine wp_and ?_ | with_reducible refine wp_tand ?_ | with_reducible refine wp_tor ?_ | with_reducible refine wp_tnot ?_ | with_reducible refine wp_fIf ?_
  | with_reducible refine wp_call ?_ | with_reducible refine wp_nCall ?_ | with_reducible refine wp_mth ?_ | with_reducible refine wp_prop ?_ | ((with_reducible apply wp_vVar); rfl) | with_reducible refine wp_vVal ?_
  | with_reducible refine wp_aNil ?_ | with_reducible refine wp_aVal ?_ | with_reducible refine wp_aNew ?_
  | ((with_reducible apply wp_aVar); rfl) | ((with_reducible apply wp_aVarS); rfl) | ((with_reducible apply wp_aVarW); rfl)
  | ((with_reducible apply wp_frz); rfl) | ((with_reducible apply wp_frzV); rfl)
  | with_reducible refine wp_tup ?_ | with_reducible refine wp_nLst ?_ | with_reducible refine wp_fD ?_ | with_reducible refine wp_iArgs ?_ | with_reducible refine wp_iSeq ?_ | with_reducible refine wp_for ?_
  | with_reducible refine wp_expr ?_ | with_reducible refine wp_makeS ?_ | ((with_reducible apply wp_makeL); rfl) | with_reducible refine wp_aCls ?_ | with_reducible refine wp_addO ?_ | with_reducible refine wp_exI ?_ | with_reducible refine wp_fJ0 ?_ | with_reducible refine wp_fJ1 ?_ | with_reducible refine wp_exS ?_ | with_reducible refine wp_s1 ?_ | with_reducible refine wp_n1 ?_ | with_reducible refine wp_aStar ?_ | with_reducible refine wp_par ?_ | with_reducible refine wp_asg ?_ | with_reducible refine wp_sl2 ?_
  | with_reducible refine wp_chain ?_ | with_reducible refine wp_or ?_ | with_reducible refine wp_exb ?_ | with_reducible refine wp_ex gt_nm ?_ | with_reducible refine wp_ex gt_2 ?_ | with_reducible refine wp_ex gt_2l ?_ | ((with_reducible apply wp_ex); first | with_reducible exact q_rvO | with_reducible exact q_dlL | with_reducible exact q_dlT | with_reducible exact q_strR | with_reducible exact q_isC_non | with_reducible exact q_isC_bl | with_reducible exact q_isC_int | with_reducible exact q_isC_str | with_reducible exact q_isC_lst | with_reducible exact q_isC_tup | with_reducible exact q_isC_ins rfl | with_reducible exact dEq_int _ _ | with_reducible exact dNe_int _ _ | with_reducible exact q_add | with_reducible exact q_sub | with_reducible exact q_lt | with_reducible exact q_le | with_reducible exact q_gt | with_reducible exact q_ge | with_reducible exact q_max2 | with_reducible exact q_min2 | with_reducible exact q_neg | with_reducible exact q_bl | with_reducible exact q_not | with_reducible exact q_trB | with_reducible exact q_trI | with_reducible exact q_trL | with_reducible exact q_trT | with_reducible exact q_lenL | with_reducible exact q_lenT | with_reducible exact q_itL | with_reducible exact q_itT | with_reducible exact q_int | with_reducible exact q_tupL | with_reducible exact q_tupT | with_reducible exact q_lstL | with_reducible exact q_lstT | with_reducible exact q_isN_non | with_reducible exact q_notN_non | with_reducible exact q_isNB_non | with_reducible exact q_notNB_non | with_reducible exact q_i_int_non | with_reducible exact q_i_bool_non | with_reducible exact q_i_str_non | with_reducible exact q_i_tuple_non | with_reducible exact q_i_list_non | with_reducible exact q_isN_bl | with_reducible exact q_notN_bl | with_reducible exact q_isNB_bl | with_reducible exact q_notNB_bl | with_reducible exact q_i_int_bl | with_reducible exact q_i_bool_bl | with_reducible exact q_i_str_bl | with_reducible exact q_i_tuple_bl | with_reducible exact q_i_list_bl | with_reducible exact q_isN_int | with_reducible exact q_notN_int | with_reducible exact q_isNB_int | with_reducible exact q_notNB_int | with_reducible exact q_i_int_int | with_reducible exact q_i_bool_int | with_reducible exact q_i_str_int | with_reducible exact q_i_tuple_int | with_reducible exact q_i_list_int | with_reducible exact q_isN_str | with_reducible exact q_notN_str | with_reducible exact q_isNB_str | with_reducible exact q_notNB_str | with_reducible exact q_i_int_str | with_reducible exact q_i_bool_str | with_reducible exact q_i_str_str | with_reducible exact q_i_tuple_str | with_reducible exact q_i_list_str | with_reducible exact q_isN_lst | with_reducible exact q_notN_lst | with_reducible exact q_isNB_lst | with_reducible exact q_notNB_lst | with_reducible exact q_i_int_lst | with_reducible exact q_i_bool_lst | with_reducible exact q_i_str_lst | with_reducible exact q_i_tuple_lst | with_reducible exact q_i_list_lst | with_reducible exact q_isN_tup | with_reducible exact q_notN_tup | with_reducible exact q_isNB_tup | with_reducible exact q_notNB_tup | with_reducible exact q_i_int_tup | with_reducible exact q_i_bool_tup | with_reducible exact q_i_str_tup | with_reducible exact q_i_tuple_tup | with_reducible exact q_i_list_tup | with_reducible exact q_fld | with_reducible exact q_al0 | with_reducible exact q_al1 | with_reducible exact q_al2 | with_reducible exact q_al3 | with_reducible exact q_al4 | with_reducible exact q_al5 | with_reducible exact q_al6 | with_reducible exact q_al7 | with_reducible exact q_al8 | ((with_reducible show FC.putAll _ _ _ = some _); rfl)) | ((with_reducible apply wp_exP); ((with_reducible show FC.avC _ _ = some _); rfl)) | ((with_reducible apply wp_exbl); first | with_reducible exact q_le | with_reducible exact q_lt | with_reducible exact q_ge | with_reducible exact q_gt | with_reducible exact dEq_int _ _ | with_reducible exact dNe_int _ _)
  | with_reducible refine ifTt ?_ | with_reducible refine ifFf ?_ | with_reducible refine ifNt ?_ | with_reducible refine ifNf ?_
  | with_reducible refine wp_lk1 (by decide) ?_ | with_reducible refine wp_lk2 (by decide) (by decide) ?_ | with_reducible refine wp_lk3 (by decide) (by decide) (by decide) ?_ | ((with_reducible apply wp_avm); rfl)
  | ((with_reducible apply wp_szR); rfl))))
theorem dNe_strS (x : Str) : dNe (.str x) (.str x) = some (.bl false) := by
  have h := dEq_str x x
  simp only [dEq, dNe, D.data] at h ⊢
  split at h
  · rename_i hz
    rw [if_pos hz]
    have e := congrArg (fun o : Option D => o) h
    simp only [decide_true, Option.some.injEq, D.bl.injEq] at e
    rw [e]
    rfl
  · cases h
theorem plain (ns : List Int) (hl : ns.length ≤ 63) (hb : ∀ z ∈ ns, Builtin.Int.intBits z ≤ 1048576) : ∀ sv, SvScript ns sv → ∃ g, b_law (padG N_law.length [sv]) = .ok (.ret (.val (.bl true))) g := by
  intro sv h
  have w : Wp (b_law [sv, .none, .none, .none, .none, .none, .none, .none]) (fun f _ => f = .ret (.val (.bl true))) FC.E0 := by
    unfold b_law
    refine wp_seq (wp_for (wp_cells cell_ok hl h rfl fun zs => ?_))
    refine wp_forI (fun ds g => ∃ (zs : List Int) (s1 s2 s3 s4 s5 s6 s7 : SV), ds = zs.map D.int ∧ g = [sv, s1, s2, s3, s4, s5, s6, s7]) ⟨zs, _, _, _, _, _, _, _, rfl, rfl⟩ ?_ ?_
    · rintro d ds g ⟨zs, s1, s2, s3, s4, s5, s6, s7, e, rfl⟩
      cases zs with
      | nil => cases e
      | cons z zs =>
        cases e
        refine ⟨_, gt_nm, ?_⟩
        unfold L_law_3
        and_intros
        refine wpc_pen fun xs hp => ?_
        and_intros
        refine wp_ex (q_rng1 (n := 12) rfl (by omega)) ?_
        refine wp_forI (fun _ g => ∃ (xs : List D) (s3 s4 s5 s6 s7 : SV), Pen xs ∧ g = [sv, .val (.int z), .own none (.lst xs), s3, s4, s5, s6, s7]) ⟨xs, _, _, _, _, _, hp, rfl⟩ ?_ ?_
        · rintro d ds g ⟨xs, s3, s4, s5, s6, s7, hp, rfl⟩
          refine ⟨_, gt_nm, ?_⟩
          unfold L_law_2
          and_intros
          refine wpc_dr (pairs_dr (many := 6) (by omega) (by omega)) rfl rfl hp ?_
          rintro v xs' hp' ⟨ps, G, hl3, rfl⟩
          have few := G.few
          and_intros
          refine wpc_rt (direct_rt G) rfl ?_
          and_intros
          refine wp_ex (q_rng1 (n := 2) rfl (by omega)) ?_
          refine wp_forI (fun _ g => ∃ (s6 s7 : SV), g = [sv, .val (.int z), .own none (.lst xs'), .val d, .val (.tup (limsD ps)), .val (lim ps), s6, s7]) ⟨_, _, rfl⟩ ?_ ?_
          · rintro d ds g ⟨s6, s7, rfl⟩
            obtain ⟨f1, f2, f3⟩ := seen_fine G.ins (by omega)
            refine ⟨_, gt_nm, ?_⟩
            unfold L_law_1
            and_intros
            refine wp_said0 ?_
            and_intros
            refine wpc_rt (text_rt G.ins (by omega)) rfl ?_
            and_intros
            refine wpc_rt (read_rt G) rfl ?_
            and_intros
            refine wpc_rt (seen_rt G.ins (by omega)) rfl ?_
            and_intros
            refine wp_ex (dRepr_fine (seen_data ps) f1 (by omega) (by omega)) ?_
            and_intros
            refine wpc_rt (text_rt G.ins (by omega)) rfl ?_
            and_intros
            refine wpc_rt (law_text_rt G.ins (by omega)) rfl ?_
            and_intros
            refine wp_ex (dNe_strS _) ?_
            and_intros
            refine wpc_rt (due_rt G.ins (by omega)) rfl ?_
            and_intros
            refine wp_ex (dRepr_fine (seen_data ps) f1 (by omega) (by omega)) ?_
            refine wp_ex (dNe_strS _) ?_
            and_intros
            refine wpc_rt (text_rt G.ins (by omega)) rfl ?_
            and_intros
            refine wpc_rt (read_rt G) rfl ?_
            and_intros
            refine wpc_rt (eq_rt ps ps) rfl ?_
            rw [decide_eq_true (show ps = ps from rfl)]
            and_intros
            exact ⟨_, _, rfl⟩
          · rintro g ⟨s6, s7, rfl⟩
            and_intros
            exact ⟨xs', _, _, _, _, _, hp', rfl⟩
        · rintro g ⟨xs, s3, s4, s5, s6, s7, hp, rfl⟩
          and_intros
          exact ⟨zs, _, _, _, _, _, _, _, rfl, rfl⟩
    · rintro g ⟨zs, s1, s2, s3, s4, s5, s6, s7, e, rfl⟩
      and_intros
      rfl
  obtain ⟨f, g, e, rfl⟩ := w.out
  exact ⟨g, e⟩
end G23
open PySem PySem.W PySem.Calls PyProof.Rows
theorem PySem.Challenge.cw_burstlimits_k23_texts_of_limits_holds : PySem.Challenge.rw_burstlimits_k23_texts_of_limits.Holds := by
  w_on; o_law
  refine HandSHeadRun.head_any (r := OpenLaw.row PySem.Challenge.rw_burstlimits_k23_texts_of_limits) (q := view (OpenLaw.row PySem.Challenge.rw_burstlimits_k23_texts_of_limits).prog [45]) (H := G23.hk) (ob := G23.ob) (M := 9000) (loose := G23.loose) (d := HandSHeadRun.topDef (OpenLaw.row PySem.Challenge.rw_burstlimits_k23_texts_of_limits).prog 45) (kwd := []) G23.ob_eq
    (by kernel_rfl) (fun s => by kernel_rfl) G23.run (by kernel_rfl) (by kernel_rfl) (by kernel_rfl) (by rfl) (by first | assumption | decide +kernel) (by decide +kernel) ⟨rfl, rfl, rfl, rfl, rfl, by decide +kernel⟩ ?hw ?hc
  case hw => w_witness2
  case hc =>
    refine FC.walk_G (l := PySem.Challenge.rw_burstlimits_k23_texts_of_limits) (n := 63) (k := 10) rfl (by decide) (by kernel_rfl) ⟨⟨rfl, by decide, by decide⟩, rfl⟩ ?F
    intro w mg fa h Y G hmg0
    obtain ⟨K, KX, c, tz⟩ := Y
    have S : FC.Sy G23.fb G23.fn [] K mg h := ⟨⟨h, KX, G⟩, c, (fun _ z => nomatch z), List.nodup_nil⟩
    have hmg : mg ("law" : PySem.Str) = some (.ref fa) := by
      have e : (HandSHeadRun.topDef (OpenLaw.row PySem.Challenge.rw_burstlimits_k23_texts_of_limits).prog 45).name = ("law" : PySem.Str) := by kernel_rfl
      rw [← e]
      exact hmg0
    have e := hmg.symm.trans (S.glo 65)
    cases e
    exact ⟨K, KX, FC.lawG_of (C := G23.Cc K) rfl rfl tz (by decide) (fun base kb nb tb => G23.ok_law ⟨⟨base, kb, nb⟩, c, tb, tz.nd⟩) G23.plain⟩

