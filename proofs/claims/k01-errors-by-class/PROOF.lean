import PyProof.Rows.All
import Wide.All
import OpenK.AllK
import Wide.FinOn
import HandS.ForMost
import HandS.ForExc
import HandS.Lambda
import HandS.Exc
import KE.KDictKeyed
import HandS.TupAny
import HandS.Deep
import HandS.Flow
import HandS.Walk
import HandS.Style
import HandS.DictComp
import HandS.Property
import HandS.MakeKwOnly
import HandS.IsInst
import HandS.Defaults
import PyProof.ReprRoads
import PyProof.StrLawsRepr
import PyProof.Rows.StrDigits
import PyProof.Rows.StrMeet
import HandS.ListItems
import HandS.Finally
import HandS.SlotsOwn
import PyProof.InstEq
import PyProof.RulesMatch
import KE.GoesMore
import KE.GoesEnum
import HandS.SetFor
import HandS.Strs
import HandS.ClsMeth
import HandS.Conv
import KE.KExcSuper
import HandS.Base
import HandS.Call
import HandS.ExcInit
import HandS.ExcOwn
import KE.KExcIs
import KE.KIsAll
import HandS.ExcIs
import HandS.ExcField
import KE.KExcHand
import HandS.More
import PyProof.Rows.StrFin3
import KE.GoesZip
import HandS.Zip
import HandS.Star
import HandS.RaiseMore
import KE.KEqNest
import HandS.Sort
import HandS.Small
import HandS.WordsExc
import HandS.Words
import HandS.Steps
import HandS.TryOnly
import PySem.Challenge.RW_staleview_k01_errors_by_class
set_option Elab.async false
set_option linter.all false
set_option maxRecDepth 100000
set_option maxHeartbeats 2000000
namespace Fl
open PySem L2
/-- a value as a tree, no addresses but a class's -/
inductive D where
  | non | bl (b : Bool) | int (i : Int) | str (s : Str)
  | lst (xs : List D) | tup (xs : List D)
  | dic (ks : List Key) (vs : List D)
  | ins (C : Addr) (ns : List Str) (vs : List D)
  | nd (p : Addr)
  | exc (C : Addr) (ns : List Str) (vs : List D)

/-- at a: an exception of the class cls, its dict at d -/
def ExK (a : Addr) (cls : Value) (d : Option Addr) : HO := .ext fun h => ∃ (oe : Obj) (vs : Array Value), h.get? a = some oe ∧ Zc cls d oe ∧ oe.data = .fields vs
/-- a text of signs, not too long -/
def sOk (x : Str) : Bool := PyData.strOk x && decide (x.length ≤ 1000000)
/-- H extends G -/
def Ex (G H : Hp) : Prop := ∀ a o, G a = some o → H a = some o
theorem Ex.rfl {G : Hp} : Ex G G := fun _ _ h => h
theorem Ex.tr {A B C : Hp} (x : Ex A B) (y : Ex B C) : Ex A C := fun a o h => y a o (x a o h)
theorem Ex.put {G : Hp} {p : Addr} {o : HO} (h : G p = none) : Ex G (upd G p o) := fun a u e => by
  rw [upd_ne (ne_of_none e h)]; exact e
theorem Ex.fresh {G H : Hp} {p : Addr} (x : Ex G H) (h : H p = none) : G p = none := by
  cases e : G p with
  | none => rfl
  | some o => rw [x p o e] at h; cases h
theorem Ex.both {G H : Hp} {p : Addr} {o : HO} (x : Ex G H) : Ex (upd G p o) (upd H p o) := fun a u e => by
  by_cases q : a = p
  · subst q; rw [upd_same] at e ⊢; exact e
  · rw [upd_ne q] at e ⊢; exact x a u e
theorem Ex.under {G H : Hp} {p : Addr} {o : HO} (x : Ex G H) (h : G p = none) : Ex G (upd H p o) := fun a u e => by
  rw [upd_ne (ne_of_none e h)]; exact x a u e

mutual
/-- v stands in G for the tree -/
inductive Dd (K : PySem.W.Frag) (G : Hp) : V → D → Prop
  | non : Dd K G .non .non
  | bl (b : Bool) : Dd K G (.bl b) (.bl b)
  | int (i : Int) : Dd K G (.int i) (.int i)
  | str (x : Str) (h : sOk x = true) : Dd K G (.str x) (.str x)
  | lst {a : Addr} {us : List V} {xs : List D} : G a = some (.lst us) → DdL K G us xs → Dd K G (.ref a) (.lst xs)
  | tup {a : Addr} {us : List V} {xs : List D} : SqT K G a us → DdL K G us xs → Dd K G (.ref a) (.tup xs)
  | dic {a : Addr} {ks : List Key} {us : List V} {vs : List D} : G a = some (.dK (ks.zip us)) → ks.length = us.length → ks.Nodup → DdL K G us vs → Dd K G (.ref a) (.dic ks vs)
  | ins {a C dx : Addr} {ns : List Str} {us : List V} {vs : List D} : G a = some (.ins C dx (ns.zip us)) → ns.length = us.length → G dx = some (.own a) → DdL K G us vs → Dd K G (.ref a) (.ins C ns vs)
  | nd (p : Addr) : Dd K G (.ref p) (.nd p)
  | exc0 {a C : Addr} : G a = some (ExK a (.ref C) none) → Dd K G (.ref a) (.exc C [] [])
  | exc1 {a C dx : Addr} {ns : List Str} {us : List V} {vs : List D} : G a = some (ExK a (.ref C) (some dx)) → ns.length = us.length → G dx = some (.xd (ns.zip us)) → DdL K G us vs → Dd K G (.ref a) (.exc C ns vs)
inductive DdL (K : PySem.W.Frag) (G : Hp) : List V → List D → Prop
  | nil : DdL K G [] []
  | cons {v : V} {us : List V} {x : D} {xs : List D} : Dd K G v x → DdL K G us xs → DdL K G (v :: us) (x :: xs)
end

section
variable {K : PySem.W.Frag} {G H : Hp}
theorem sqT_ex {a : Addr} {xs : List V} (e : Ex G H) (h : SqT K G a xs) : SqT K H a xs := by
  rcases h with (h | ⟨o, h⟩) | h
  · exact .inl (.inl (e _ _ h))
  · exact .inl (.inr ⟨o, e _ _ h⟩)
  · exact .inr h
theorem sqL_ex {a : Addr} {xs : List V} (e : Ex G H) (h : SqL K G a xs) : SqL K H a xs := by
  rcases h with (h | ⟨o, h⟩) | h
  · exact .inl (.inl (e _ _ h))
  · exact .inl (.inr ⟨o, e _ _ h⟩)
  · exact .inr h
mutual
theorem Dd.ex (e : Ex G H) : ∀ {v : V} {x : D}, Dd K G v x → Dd K H v x
  | _, _, .non => .non
  | _, _, .bl b => .bl b
  | _, _, .int i => .int i
  | _, _, .str x h => .str x h
  | _, _, .lst h t => .lst (e _ _ h) (DdL.ex e t)
  | _, _, .tup h t => .tup (sqT_ex e h) (DdL.ex e t)
  | _, _, .dic h l n t => .dic (e _ _ h) l n (DdL.ex e t)
  | _, _, .ins h l o t => .ins (e _ _ h) l (e _ _ o) (DdL.ex e t)
  | _, _, .nd p => .nd p
  | _, _, .exc0 h => .exc0 (e _ _ h)
  | _, _, .exc1 h l o t => .exc1 (e _ _ h) l (e _ _ o) (DdL.ex e t)
theorem DdL.ex (e : Ex G H) : ∀ {us : List V} {xs : List D}, DdL K G us xs → DdL K H us xs
  | _, _, .nil => .nil
  | _, _, .cons a t => .cons (Dd.ex e a) (DdL.ex e t)
end
theorem DdL.len : ∀ {us : List V} {xs : List D}, DdL K G us xs → us.length = xs.length
  | _, _, .nil => rfl
  | _, _, .cons _ t => by rw [List.length_cons, List.length_cons, DdL.len t]
theorem DdL.app : ∀ {us : List V} {xs : List D} {vs : List V} {ys : List D}, DdL K G us xs → DdL K G vs ys → DdL K G (us ++ vs) (xs ++ ys)
  | _, _, _, _, .nil, q => q
  | _, _, _, _, .cons a t, q => .cons a (DdL.app t q)
theorem DdL.get : ∀ {us : List V} {xs : List D} {i : Nat} {x : D}, DdL K G us xs → xs[i]? = some x → ∃ v, us[i]? = some v ∧ Dd K G v x
  | _, _, 0, _, .cons a _, h => ⟨_, rfl, by cases h; exact a⟩
  | _, _, i + 1, _, .cons _ t, h => by
    obtain ⟨v, e, r⟩ := DdL.get (i := i) t (by simpa using h)
    exact ⟨v, by simpa using e, r⟩
theorem DdL.get' : ∀ {us : List V} {xs : List D} {i : Nat} {v : V}, DdL K G us xs → us[i]? = some v → ∃ x, xs[i]? = some x ∧ Dd K G v x
  | _, _, 0, _, .cons a _, h => ⟨_, rfl, by cases h; exact a⟩
  | _, _, i + 1, _, .cons _ t, h => by
    obtain ⟨v, e, r⟩ := DdL.get' (i := i) t (by simpa using h)
    exact ⟨v, by simpa using e, r⟩
theorem DdL.take : ∀ {us : List V} {xs : List D} (n : Nat), DdL K G us xs → DdL K G (us.take n) (xs.take n)
  | _, _, 0, _ => .nil
  | _, _, _ + 1, .nil => .nil
  | _, _, n + 1, .cons a t => .cons a (DdL.take n t)
theorem DdL.drop : ∀ {us : List V} {xs : List D} (n : Nat), DdL K G us xs → DdL K G (us.drop n) (xs.drop n)
  | _, _, 0, h => h
  | _, _, _ + 1, .nil => .nil
  | _, _, n + 1, .cons _ t => DdL.drop n t
theorem DdL.set {v : V} {x : D} (h : Dd K G v x) : ∀ {us : List V} {xs : List D} (i : Nat), DdL K G us xs → DdL K G (us.set i v) (xs.set i x)
  | _, _, _, .nil => .nil
  | _, _, 0, .cons _ t => .cons h t
  | _, _, i + 1, .cons a t => .cons a (DdL.set h i t)
theorem DdL.ints {ws : List Int} : ∀ {us : List V}, DdL K G us (ws.map D.int) → us = ws.map V.int := by
  induction ws with
  | nil => intro us h; cases h; rfl
  | cons w ws ih =>
    intro us h
    cases h with
    | cons a t => cases a; rw [ih t]; rfl
end

mutual
/-- the key that data are -/
def keyN : D → Option NestedKey
  | .non => some .none
  | .bl b => some (.num (if b = true then 1 else 0))
  | .int i => some (.num i)
  | .str s => some (.text s)
  | .tup xs => match keysN xs with
    | some ks => some (.tup ks)
    | none => none
  | _ => none
def keysN : List D → Option (List NestedKey)
  | [] => some []
  | x :: xs => match keyN x, keysN xs with
    | some k, some ks => some (k :: ks)
    | _, _ => none
end
/-- entries and what they are -/
def KNR (kvs : List (NestedKey × Addr × V)) (xs : List (NestedKey × Addr × Value)) : Prop := PySem.Paired (fun p q => p.1 = q.1 ∧ p.2.1 = q.2.1 ∧ RelV p.2.2 q.2.2) kvs xs
/-- the object at D is a dict with these entries -/
def dNO (P : Program) (w : World) (D : Addr) (kvs : List (NestedKey × Addr × V)) : HO := .ext fun h => ∃ xs, KNR kvs xs ∧ ∃ o es ep, h.get? D = some o ∧ o.ExactDict ∧ o.data = .dict es ep ∧ es.toList = xs.map (entryOfKey (nestedKind P w)) ∧ (xs.map (·.1)).Nodup
abbrev MEnt := NestedKey × Value × Value
def enM (w : World) (x : MEnt) : DictEntry := ⟨x.1.hash w, x.2.1, x.2.2⟩
def KMR (kvs : List (NestedKey × V × V)) (xs : List MEnt) : Prop := PySem.Paired (fun p q => p.1 = q.1 ∧ RelV p.2.1 q.2.1 ∧ RelV p.2.2 q.2.2) kvs xs
/-- the object at D is a dict with these entries, the keys texts and tuples -/
def dMO (w : World) (D : Addr) (kvs : List (NestedKey × V × V)) : HO := .ext fun h => ∃ xs, KMR kvs xs ∧ ∃ o es ep, h.get? D = some o ∧ o.ExactDict ∧ o.data = .dict es ep ∧ es.toList = xs.map (enM w) ∧ (xs.map (·.1)).Nodup
/-- data that may be such a key -/
def keyTT : D → Bool
  | .str _ => true
  | .tup _ => true
  | _ => false
/-- the entries as data -/
inductive KVM (K : PySem.W.Frag) (G : Hp) : List (NestedKey × V × V) → List D → List D → Prop
  | nil : KVM K G [] [] []
  | cons {k : NestedKey} {u v : V} {x y : D} {kvs ks vs} : Dd K G u x → keyN x = some k → k.depth ≤ 8 → keyTT x = true → Dd K G v y → KVM K G kvs ks vs → KVM K G ((k, u, v) :: kvs) (x :: ks) (y :: vs)
inductive KVD (K : PySem.W.Frag) (G : Hp) : List (NestedKey × Addr × V) → List D → List D → Prop
  | nil : KVD K G [] [] []
  | cons {k : NestedKey} {b : Addr} {v : V} {x y : D} {kvs ks vs} : Dd K G (.ref b) x → keyN x = some k → k.depth ≤ 8 → Dd K G v y → KVD K G kvs ks vs → KVD K G ((k, b, v) :: kvs) (x :: ks) (y :: vs)
/-- a dict whose keys are tuples; one whose keys are texts and tuples; an exception without fields -/
inductive XO where
  | dn (pw : Program × World) (ks vs : List D)
  | dm (pw : Program × World) (ks vs : List D)
  | ex (C : Addr)
  | bx (p : Addr) (ks : List Key) (vs : List D)
inductive XC (K : PySem.W.Frag) (G : Hp) (p : Addr) : HO → XO → Prop
  | dn {pw kvs ks vs} : KVD K G kvs ks vs → XC K G p (dNO pw.1 pw.2 p kvs) (.dn pw ks vs)
  | dm {pw kvs ks vs} : KVM K G kvs ks vs → XC K G p (dMO pw.2 p kvs) (.dm pw ks vs)
  | ex {C} : XC K G p (ExK p (.ref C) none) (.ex C)
  | bx {us ks vs} : ks.length = us.length → ks.Nodup → DdL K G us vs → XC K G p (.dK (ks.zip us)) (.bx p ks vs)
/-- no code object is told so -/
theorem dNO_nc {P : Program} {w : World} {p : Addr} {kvs : List (NestedKey × Addr × V)} {q : Str} : dNO P w p kvs ≠ LamX.CodeO p q := fun z => by
  have e := HO.ext.inj z
  have hc : ∃ (oc : Obj) (vs : Array Value) (t : Tok), ({ objs := Array.replicate (p + 1) { cls := .none, data := .fields #[.none, .str q 0] } } : Heap).get? p = some oc ∧ oc.data = .fields vs ∧ vs[1]? = some (.str q t) := by
    refine ⟨{ cls := .none, data := .fields #[.none, .str q 0] }, #[.none, .str q 0], 0, ?_, rfl, rfl⟩
    unfold Heap.get?
    rw [Array.getElem?_replicate, if_pos (Nat.lt_succ_self p)]
  have hd := (congrFun e ({ objs := Array.replicate (p + 1) { cls := .none, data := .fields #[.none, .str q 0] } } : Heap)).mpr hc
  obtain ⟨xs, _, o, es, ep, h1, _, h3, _⟩ := hd
  obtain ⟨oc, vs, t, h5, h6, _⟩ := hc
  rw [h1] at h5
  cases h5
  rw [h3] at h6
  cases h6
theorem dMO_nc {w : World} {p : Addr} {kvs : List (NestedKey × V × V)} {q : Str} : dMO w p kvs ≠ LamX.CodeO p q := fun z => by
  have e := HO.ext.inj z
  have hc : ∃ (oc : Obj) (vs : Array Value) (t : Tok), ({ objs := Array.replicate (p + 1) { cls := .none, data := .fields #[.none, .str q 0] } } : Heap).get? p = some oc ∧ oc.data = .fields vs ∧ vs[1]? = some (.str q t) := by
    refine ⟨{ cls := .none, data := .fields #[.none, .str q 0] }, #[.none, .str q 0], 0, ?_, rfl, rfl⟩
    unfold Heap.get?
    rw [Array.getElem?_replicate, if_pos (Nat.lt_succ_self p)]
  have hd := (congrFun e ({ objs := Array.replicate (p + 1) { cls := .none, data := .fields #[.none, .str q 0] } } : Heap)).mpr hc
  obtain ⟨xs, _, o, es, ep, h1, _, h3, _⟩ := hd
  obtain ⟨oc, vs, t, h5, h6, _⟩ := hc
  rw [h1] at h5
  cases h5
  rw [h3] at h6
  cases h6
theorem ExK_nc {p C : Addr} {d : Option Addr} {q : Str} : ExK p (.ref C) d ≠ LamX.CodeO p q := fun z => by
  have e := HO.ext.inj z
  have hc : ∃ (oc : Obj) (vs : Array Value) (t : Tok), ({ objs := Array.replicate (p + 1) { cls := .none, data := .fields #[.none, .str q 0] } } : Heap).get? p = some oc ∧ oc.data = .fields vs ∧ vs[1]? = some (.str q t) := by
    refine ⟨{ cls := .none, data := .fields #[.none, .str q 0] }, #[.none, .str q 0], 0, ?_, rfl, rfl⟩
    unfold Heap.get?
    rw [Array.getElem?_replicate, if_pos (Nat.lt_succ_self p)]
  have hd := (congrFun e ({ objs := Array.replicate (p + 1) { cls := .none, data := .fields #[.none, .str q 0] } } : Heap)).mpr hc
  obtain ⟨oe, vs, h1, h2, _⟩ := hd
  unfold Heap.get? at h1
  rw [Array.getElem?_replicate, if_pos (Nat.lt_succ_self p)] at h1
  cases h1
  cases h2.1
section
variable {K : PySem.W.Frag} {G G' : Hp}
theorem KVD.map {kvs ks vs} (e : ∀ {v x}, Dd K G v x → Dd K G' v x) (h : KVD K G kvs ks vs) : KVD K G' kvs ks vs := by
  induction h with
  | nil => exact .nil
  | cons a b c d _ ih => exact .cons (e a) b c (e d) ih
theorem KVM.map {kvs ks vs} (e : ∀ {v x}, Dd K G v x → Dd K G' v x) (h : KVM K G kvs ks vs) : KVM K G' kvs ks vs := by
  induction h with
  | nil => exact .nil
  | cons a b c t d _ ih => exact .cons (e a) b c t (e d) ih
theorem DdL.map {us : List V} : ∀ {xs : List D}, (∀ {v x}, Dd K G v x → Dd K G' v x) → DdL K G us xs → DdL K G' us xs := by
  induction us with
  | nil => intro xs e h; cases h; exact .nil
  | cons u us ih => intro xs e h; cases h with | cons a t => exact .cons (e a) (ih e t)
theorem XC.map {p : Addr} {o : HO} {x : XO} (e : ∀ {v x}, Dd K G v x → Dd K G' v x) (h : XC K G p o x) : XC K G' p o x := by
  cases h with
  | dn h => exact .dn (h.map e)
  | dm h => exact .dm (h.map e)
  | ex => exact .ex
  | bx a b t => exact .bx a b (t.map e)
theorem XC.grow {p : Addr} {o : HO} {x : XO} (e : Ex G G') (h : XC K G p o x) : XC K G' p o x := h.map fun d => d.ex e
theorem XC.nf {p : Addr} {o : HO} {x : XO} (h : XC K G p o x) : ∀ so u, o ≠ .frz so u := by
  cases h with
  | dn h => exact fun _ _ z => nomatch z
  | dm h => exact fun _ _ z => nomatch z
  | ex => exact fun _ _ z => nomatch z
  | bx _ _ _ => exact fun _ _ z => nomatch z
theorem XC.nc {p : Addr} {o : HO} {x : XO} {q : Str} (h : XC K G p o x) : o ≠ LamX.CodeO p q := by
  cases h with
  | dn h => exact dNO_nc
  | dm h => exact dMO_nc
  | ex => exact ExK_nc
  | bx _ _ _ => exact fun z => nomatch z
theorem XC.nt {p : Addr} {o : HO} {x : XO} (h : XC K G p o x) : ∀ ps, o ≠ .tbl ps := by
  cases h with
  | dn h => exact fun _ z => nomatch z
  | dm h => exact fun _ z => nomatch z
  | ex => exact fun _ z => nomatch z
  | bx _ _ _ => exact fun _ z => nomatch z
end

/-- a place of a graph: data, its nodes among them -/
abbrev GI := D
/-- a node of a graph: a list, a dict, an instance, a thing told otherwise -/
inductive GN where
  | ls (xs : List GI) | dk (ks : List Key) (xs : List GI) | ins (C : Addr) (ns : List Str) (xs : List GI) | xo (x : XO)
/-- the nodes of a graph, and where they stand -/
abbrev Stor := List (Addr × GN)
/-- what a call gives beside the graphs that were lent to it -/
inductive Rt where
  | d (x : D) | ol (xs : List D)
inductive GnOk (K : PySem.W.Frag) (G H : Hp) (p : Addr) : GN → List Addr → Prop
  | ls {us xs} : H p = some (.lst us) → DdL K G us xs → GnOk K G H p (.ls xs) []
  | dk {ks us xs} : H p = some (.dK (ks.zip us)) → ks.length = us.length → ks.Nodup → DdL K G us xs → GnOk K G H p (.dk ks xs) []
  | ins {C dx ns us xs} : H p = some (.ins C dx (ns.zip us)) → ns.length = us.length → H dx = some (.own p) → DdL K G us xs → GnOk K G H p (.ins C ns xs) [dx]
  | xo {o x} : H p = some o → XC K G p o x → GnOk K G H p (.xo x) []
/-- a graph as it stands; the places are these, and none of them is in H0 -/
inductive StOk (K : PySem.W.Frag) (H0 G H : Hp) : Stor → List Addr → Prop
  | nil : StOk K H0 G H [] []
  | cons {p n os Γ ps} : GnOk K G H p n os → H0 p = none → (∀ q ∈ os, H0 q = none) → StOk K H0 G H Γ ps → StOk K H0 G H ((p, n) :: Γ) (p :: os ++ ps)
inductive StsOk (K : PySem.W.Frag) (H0 G H : Hp) : List Stor → List Addr → Prop
  | nil : StsOk K H0 G H [] []
  | cons {Γ os Γs ps} : StOk K H0 G H Γ os → StsOk K H0 G H Γs ps → StsOk K H0 G H (Γ :: Γs) (os ++ ps)
inductive RtOk (K : PySem.W.Frag) (H0 G H : Hp) : V → Rt → List Addr → Prop
  | d {v x} : Dd K G v x → RtOk K H0 G H v (.d x) []
  | ol {p us xs} : H p = some (.lst us) → DdL K G us xs → H0 p = none → RtOk K H0 G H (.ref p) (.ol xs) [p]
section
variable {K : PySem.W.Frag} {G G' H H' H0 H1 : Hp}
theorem GnOk.keep {p : Addr} {n : GN} {os : List Addr} (e : ∀ {v x}, Dd K G v x → Dd K G' v x) (k0 : H' p = H p) (k : ∀ q ∈ os, H' q = H q) (h : GnOk K G H p n os) : GnOk K G' H' p n os := by
  cases h with
  | ls h1 h2 => exact .ls (by rw [k0]; exact h1) (h2.map e)
  | dk h1 h2 h3 h4 => exact .dk (by rw [k0]; exact h1) h2 h3 (h4.map e)
  | ins h1 h2 h3 h4 => exact .ins (by rw [k0]; exact h1) h2 (by rw [k _ (by simp)]; exact h3) (h4.map e)
  | xo h1 h2 => exact .xo (by rw [k0]; exact h1) (h2.map e)
theorem GnOk.inH {p : Addr} {n : GN} {os : List Addr} (h : GnOk K G H p n os) : (∃ o, H p = some o) ∧ ∀ q ∈ os, ∃ o, H q = some o := by
  cases h with
  | ls h1 => exact ⟨⟨_, h1⟩, by simp⟩
  | dk h1 => exact ⟨⟨_, h1⟩, by simp⟩
  | ins h1 h2 h3 => exact ⟨⟨_, h1⟩, by simp [h3]⟩
  | xo h1 => exact ⟨⟨_, h1⟩, by simp⟩
theorem StOk.keep {Γ : Stor} {os : List Addr} (e : ∀ {v x}, Dd K G v x → Dd K G' v x) (h : StOk K H0 G H Γ os) : (∀ p ∈ os, H' p = H p) → StOk K H0 G' H' Γ os := by
  induction h with
  | nil => exact fun _ => .nil
  | cons a b c _ ih => exact fun k => .cons (a.keep e (k _ (by simp)) fun q hq => k q (by simp [hq])) b c (ih fun q hq => k q (by simp [hq]))
theorem StOk.inH {Γ : Stor} {os : List Addr} (h : StOk K H0 G H Γ os) : ∀ p ∈ os, ∃ o, H p = some o := by
  induction h with
  | nil => simp
  | cons a b c _ ih =>
    intro p hp
    rcases List.mem_append.mp hp with hp | hp
    · rcases List.mem_cons.mp hp with rfl | hp
      · exact a.inH.1
      · exact a.inH.2 p hp
    · exact ih p hp
theorem StOk.h0 {Γ : Stor} {os : List Addr} (h : StOk K H0 G H Γ os) : ∀ p ∈ os, H0 p = none := by
  induction h with
  | nil => simp
  | cons a b c _ ih =>
    intro p hp
    rcases List.mem_append.mp hp with hp | hp
    · rcases List.mem_cons.mp hp with rfl | hp
      · exact b
      · exact c p hp
    · exact ih p hp
theorem StOk.re {Γ : Stor} {os : List Addr} (h : StOk K H0 G H Γ os) : (∀ p ∈ os, H1 p = none) → StOk K H1 G H Γ os := by
  induction h with
  | nil => exact fun _ => .nil
  | cons a b c _ ih => exact fun k => .cons a (k _ (by simp)) (fun q hq => k q (by simp [hq])) (ih fun q hq => k q (by simp [hq]))
theorem GnOk.nc {p : Addr} {n : GN} {os : List Addr} {q : Str} (h : GnOk K G H p n os) : H p ≠ some (LamX.CodeO p q) ∧ ∀ r ∈ os, H r ≠ some (LamX.CodeO r q) := by
  have ne : ∀ {p : Addr} {o : HO}, H p = some o → o ≠ LamX.CodeO p q → H p ≠ some (LamX.CodeO p q) := fun {p o} e n z => n (Option.some.inj (e.symm.trans z))
  cases h with
  | ls h1 => exact ⟨ne h1 (fun z => by cases z), by simp⟩
  | dk h1 => exact ⟨ne h1 (fun z => by cases z), by simp⟩
  | ins h1 h2 h3 => exact ⟨ne h1 (fun z => by cases z), fun r hr => by obtain rfl := List.mem_singleton.mp hr; exact ne h3 (fun z => by cases z)⟩
  | xo h1 h2 => exact ⟨ne h1 h2.nc, by simp⟩
theorem StOk.nc {Γ : Stor} {os : List Addr} {q : Str} (h : StOk K H0 G H Γ os) : ∀ p ∈ os, H p ≠ some (LamX.CodeO p q) := by
  induction h with
  | nil => exact fun _ m => nomatch m
  | cons a b c _ ih =>
    intro p hp
    rcases List.mem_append.mp hp with hp | hp
    · rcases List.mem_cons.mp hp with rfl | hp
      · exact a.nc.1
      · exact a.nc.2 p hp
    · exact ih p hp
theorem StsOk.nc {Γs : List Stor} {os : List Addr} {q : Str} (h : StsOk K H0 G H Γs os) : ∀ p ∈ os, H p ≠ some (LamX.CodeO p q) := by
  induction h with
  | nil => exact fun _ m => nomatch m
  | cons a _ ih =>
    intro p hp
    rcases List.mem_append.mp hp with hp | hp
    · exact a.nc p hp
    · exact ih p hp
theorem RtOk.nc {v : V} {r : Rt} {os : List Addr} {q : Str} (h : RtOk K H0 G H v r os) : ∀ p ∈ os, H p ≠ some (LamX.CodeO p q) := by
  cases h with
  | d h => exact fun _ m => nomatch m
  | ol h1 h2 h3 => exact fun p m => by obtain rfl := List.mem_singleton.mp m; exact fun z => by rw [h1] at z; cases z
theorem StsOk.keep {Γs : List Stor} {os : List Addr} (e : ∀ {v x}, Dd K G v x → Dd K G' v x) (h : StsOk K H0 G H Γs os) : (∀ p ∈ os, H' p = H p) → StsOk K H0 G' H' Γs os := by
  induction h with
  | nil => exact fun _ => .nil
  | cons a _ ih => exact fun k => .cons (a.keep e fun q hq => k q (List.mem_append_left _ hq)) (ih fun q hq => k q (List.mem_append_right _ hq))
theorem StsOk.inH {Γs : List Stor} {os : List Addr} (h : StsOk K H0 G H Γs os) : ∀ p ∈ os, ∃ o, H p = some o := by
  induction h with
  | nil => simp
  | cons a _ ih =>
    intro p hp
    rcases List.mem_append.mp hp with hp | hp
    · exact a.inH p hp
    · exact ih p hp
theorem StsOk.h0 {Γs : List Stor} {os : List Addr} (h : StsOk K H0 G H Γs os) : ∀ p ∈ os, H0 p = none := by
  induction h with
  | nil => simp
  | cons a _ ih =>
    intro p hp
    rcases List.mem_append.mp hp with hp | hp
    · exact a.h0 p hp
    · exact ih p hp
theorem StsOk.re {Γs : List Stor} {os : List Addr} (h : StsOk K H0 G H Γs os) : (∀ p ∈ os, H1 p = none) → StsOk K H1 G H Γs os := by
  induction h with
  | nil => exact fun _ => .nil
  | cons a _ ih => exact fun k => .cons (a.re fun q hq => k q (List.mem_append_left _ hq)) (ih fun q hq => k q (List.mem_append_right _ hq))
theorem RtOk.keep {v : V} {r : Rt} {os : List Addr} (e : ∀ {v x}, Dd K G v x → Dd K G' v x) (k : ∀ p ∈ os, H' p = H p) (h : RtOk K H0 G H v r os) : RtOk K H0 G' H' v r os := by
  cases h with
  | d h => exact .d (e h)
  | ol h1 h2 h3 => exact .ol (by rw [k _ (by simp)]; exact h1) (h2.map e) h3
theorem RtOk.inH {v : V} {r : Rt} {os : List Addr} (h : RtOk K H0 G H v r os) : ∀ p ∈ os, ∃ o, H p = some o := by
  cases h with
  | d h => simp
  | ol h1 h2 h3 => simp [h1]
theorem RtOk.h0 {v : V} {r : Rt} {os : List Addr} (h : RtOk K H0 G H v r os) : ∀ p ∈ os, H0 p = none := by
  cases h with
  | d h => simp
  | ol h1 h2 h3 => simp [h3]
theorem RtOk.re {v : V} {r : Rt} {os : List Addr} (k : ∀ p ∈ os, H1 p = none) (h : RtOk K H0 G H v r os) : RtOk K H1 G H v r os := by
  cases h with
  | d h => exact .d h
  | ol h1 h2 h3 => exact .ol h1 h2 (k _ (by simp))
end

/-- where a def was entered: the data then, the heap then; what is lent to it: the source of draws, an instance -/
structure Fr where
  G0 : Hp
  H0 : Hp
  src : Option (Addr × List Addr)
  self : Option (Addr × Addr)
  /-- own things set aside for a while -/
  ks : List (Addr × HO) := []
def InSrc (F : Fr) (p : Addr) : Prop := (∃ a c, F.src = some (a, c) ∧ (p = a ∨ p ∈ c)) ∨ ∃ o, (p, o) ∈ F.ks
/-- the lent instance, which stood there at first -/
def InSelf (F : Fr) (p : Addr) : Prop := ∃ a c, F.self = some (a, c) ∧ (p = a ∨ p = c) ∧ ∃ o, F.H0 p = some o
theorem InSelf.or {F : Fr} {p a c : Addr} (h : F.self = some (a, c)) (e : p = a ∨ p = c) : F.H0 p = none ∨ InSelf F p := by
  cases z : F.H0 p with
  | none => exact .inl rfl
  | some o => exact .inr ⟨a, c, h, e, o, z⟩

/-- what a slot holds: nothing known, data, a list | dict | instance of this frame's own, the lent instance, the source of draws -/
inductive Sl where
  | no | d (x : D) | ol (xs : List D) | od (ks : List Key) (vs : List D) | oi (C : Addr) (ns : List Str) (vs : List D) | bi (C : Addr) (ns : List Str) (vs : List D) | src | ld (x : D) | sr2 | on (ks : List Key) (vs : List D) (k : Key) (ks2 : List Key) (vs2 : List D) | xt (o : XO) | gr (a : Addr) (Γ : Stor) | pk (r : Rt) (Γs : List Stor)
def Sl.dat : Sl → Option D
  | .d x => some x
  | .ol xs => some (.lst xs)
  | .od ks vs => some (.dic ks vs)
  | .oi C ns vs => some (.ins C ns vs)
  | _ => none

/-- the source: a list of the cells' list and two ints -/
def SrcL (H : Hp) (a c : Addr) : Prop := ∃ (i m : Int) (ns : List Int), H a = some (.lst [.ref c, .int i, .int m]) ∧ H c = some (.lst (ns.map V.int)) ∧ ns ≠ [] ∧ ns.length ≤ 63
/-- the other source: a dict of two lists of ints and two ints -/
def srcK : List Key := [.inr "great", .inr "cells", .inr "rest", .inr "turn"]
def SrcD (H : Hp) (a c g : Addr) : Prop := ∃ (r t : Int) (ns gs : List Int), H a = some (.dK (srcK.zip [.ref g, .ref c, .int r, .int t])) ∧ H c = some (.lst (ns.map V.int)) ∧ H g = some (.lst (gs.map V.int)) ∧ c ≠ g ∧ ns ≠ [] ∧ ns.length ≤ 64 ∧ gs.length ≤ 63
def SrcAt (H : Hp) (a : Addr) (cs : List Addr) : Prop := (∃ c, cs = [c] ∧ SrcL H a c) ∨ ∃ c g, cs = [c, g] ∧ SrcD H a c g

/-- an own thing of another frame, lent: what stands there, and what it tells -/
inductive LdOk (K : PySem.W.Frag) (G : Hp) : HO → D → Prop
  | lst {us xs} : DdL K G us xs → LdOk K G (.lst us) (.lst xs)
  | dic {ks us vs} : ks.length = us.length → ks.Nodup → DdL K G us vs → LdOk K G (.dK (ks.zip us)) (.dic ks vs)
theorem LdOk.ex {K : PySem.W.Frag} {G G' : Hp} {o : HO} {x : D} (e : Ex G G') (h : LdOk K G o x) : LdOk K G' o x := by
  cases h with
  | lst t => exact .lst (t.ex e)
  | dic a b t => exact .dic a b (t.ex e)
inductive SlOk (K : PySem.W.Frag) (F : Fr) (G H : Hp) : Option V → Sl → List Addr → Prop
  | no (v) : SlOk K F G H v .no []
  | d {v x} : Dd K G v x → SlOk K F G H (some v) (.d x) []
  | ol {p us xs} : H p = some (.lst us) → DdL K G us xs → F.H0 p = none → SlOk K F G H (some (.ref p)) (.ol xs) [p]
  | od {p ks us vs} : H p = some (.dK (ks.zip us)) → ks.length = us.length → ks.Nodup → DdL K G us vs → F.H0 p = none → SlOk K F G H (some (.ref p)) (.od ks vs) [p]
  | oi {p C dx ns us vs} : H p = some (.ins C dx (ns.zip us)) → ns.length = us.length → H dx = some (.own p) → DdL K G us vs → F.H0 p = none → F.H0 dx = none → SlOk K F G H (some (.ref p)) (.oi C ns vs) [p, dx]
  | bi {p C dx ns us vs} : H p = some (.ins C dx (ns.zip us)) → ns.length = us.length → H dx = some (.own p) → DdL K G us vs → F.self = some (p, dx) → SlOk K F G H (some (.ref p)) (.bi C ns vs) [p, dx]
  | src {a c} : F.src = some (a, [c]) → SlOk K F G H (some (.ref a)) .src []
  | on {p q ks us vs k ks2 us2 vs2} : H p = some (.dK (ks.zip us ++ [(k, .ref q)])) → ks.length = us.length → (ks ++ [k]).Nodup → DdL K G us vs → H q = some (.dK (ks2.zip us2)) → ks2.length = us2.length → ks2.Nodup → DdL K G us2 vs2 → F.H0 p = none → F.H0 q = none →
      SlOk K F G H (some (.ref p)) (.on ks vs k ks2 vs2) [p, q]
  | sr2 {a c g} : F.src = some (a, [c, g]) → SlOk K F G H (some (.ref a)) .sr2 []
  | xt {p o x} : H p = some o → XC K G p o x → F.H0 p = none → SlOk K F G H (some (.ref p)) (.xt x) [p]
  | gr {a Γ os} : StOk K F.H0 G H Γ os → SlOk K F G H (some (.ref a)) (.gr a Γ) os
  | pk {v r os Γs ps} : RtOk K F.H0 G H v r os → StsOk K F.H0 G H Γs ps → SlOk K F G H (some v) (.pk r Γs) (os ++ ps)
  | ld {p o x} : LdOk K G o x → F.H0 p = some o → ¬ InSrc F p → ¬ InSelf F p → SlOk K F G H (some (.ref p)) (.ld x) []
inductive Sls (K : PySem.W.Frag) (F : Fr) (G H : Hp) : List (Option V) → List Sl → List Addr → Prop
  | nil : Sls K F G H [] [] []
  | cons {v s σ ρ os ps} : SlOk K F G H v s os → Sls K F G H σ ρ ps → Sls K F G H (v :: σ) (s :: ρ) (os ++ ps)

/-- what stands at sys.modules' place: some object, never looked at -/
def sysO : HO := .ext fun h => ∃ o, h.get? sysModules = some o
/-- the name of the law's lambdas -/
def lamQ : Str := "law.<locals>.<lambda>"
/-- a table of code objects: they stand among the data, and bear that name -/
def TblOk (G : Hp) (ps : Array Value) : Prop := TriplesOk ps.toList ∧ ∀ (pos : Pos) (cv : Value), codeAmong pos ps.toList = some cv → ∃ c, cv = .ref c ∧ G c = some (LamX.CodeO c lamQ)
/-- a thing set aside stands as it stood; a table of code objects may have grown -/
def KpAt (G H : Hp) (q : Addr × HO) : Prop := H q.1 = some q.2 ∨ ∃ ps0 ps, q.2 = .tbl ps0 ∧ H q.1 = some (.tbl ps) ∧ TblOk G ps
theorem KpAt.keep {G G' H H' : Hp} {q : Addr × HO} (h : KpAt G H q) (e : Ex G G') (k : ∀ o, H q.1 = some o → H' q.1 = some o) : KpAt G' H' q := by
  rcases h with h | ⟨p0, ps, h1, h2, h3, h4⟩
  · exact .inl (k _ h)
  · refine .inr ⟨p0, ps, h1, k _ h2, h3, fun pos cv hc => ?_⟩
    obtain ⟨c, e1, e2⟩ := h4 pos cv hc
    exact ⟨c, e1, e _ _ e2⟩
theorem KpAt.plain {G H : Hp} {p : Addr} {o : HO} (h : KpAt G H (p, o)) (n : ∀ ps, o ≠ .tbl ps := by intro ps z; cases z) : H p = some o := by
  rcases h with h | ⟨p0, ps, h1, _⟩
  · exact h
  · exact absurd h1 (n _)
theorem KpAt.there {G H : Hp} {q : Addr × HO} (h : KpAt G H q) : ∃ o, H q.1 = some o ∧ (o = q.2 ∨ ∃ ps, o = .tbl ps) := by
  rcases h with h | ⟨p0, ps, h1, h2, _⟩
  · exact ⟨_, h, .inl rfl⟩
  · exact ⟨_, h2, .inr ⟨_, rfl⟩⟩
structure R (K : PySem.W.Frag) (F : Fr) (G H : Hp) (σ : List (Option V)) (ρ : List Sl) : Prop where
  gg : Ex F.G0 G
  gh : Ex G H
  fr : ∀ b o, F.H0 b = some o → ¬ InSrc F b → ¬ InSelf F b → H b = some o
  nw : ∀ b o, G b = some o → F.G0 b = some o ∨ F.H0 b = none
  th : ∀ b, InSrc F b ∨ InSelf F b → ∃ o, H b = some o
  sr : ∀ a c, F.src = some (a, c) → SrcAt H a c ∧ G a = none ∧ ∀ q ∈ c, G q = none
  kp : ∀ q ∈ F.ks, KpAt G H q ∧ G q.1 = none ∧ ∀ a c, F.src = some (a, c) → q.1 ≠ a ∧ q.1 ∉ c
  nm : ∃ so, H sysModules = some (.frz so sysO)
  sl : ∃ os, Sls K F G H σ ρ os ∧ os.Nodup ∧ ∀ p ∈ os, G p = none ∧ ¬ InSrc F p

section
variable {K : PySem.W.Frag} {G G' H H' : Hp} {F : Fr} {σ : List (Option V)} {ρ : List Sl} {os ps : List Addr} {v : Option V} {s : Sl}
theorem SrcAt.keep {a : Addr} {cs : List Addr} (ka : H' a = H a) (kc : ∀ c ∈ cs, H' c = H c) (h : SrcAt H a cs) : SrcAt H' a cs := by
  rcases h with ⟨c, rfl, i, m, ns, h1, h2, h3⟩ | ⟨c, g, rfl, i, m, ns, gs, h1, h2, h3, h4⟩
  · exact .inl ⟨c, rfl, i, m, ns, by rw [ka]; exact h1, by rw [kc c (by simp)]; exact h2, h3⟩
  · exact .inr ⟨c, g, rfl, i, m, ns, gs, by rw [ka]; exact h1, by rw [kc c (by simp)]; exact h2, by rw [kc g (by simp)]; exact h3, h4⟩
theorem SrcAt.at {a : Addr} {cs : List Addr} (h : SrcAt H a cs) : (∃ o, H a = some o ∧ ∀ so u, o ≠ .frz so u) ∧ ∀ c ∈ cs, ∃ o, H c = some o ∧ ∀ so u, o ≠ .frz so u := by
  rcases h with ⟨c, rfl, i, m, ns, h1, h2, h3⟩ | ⟨c, g, rfl, i, m, ns, gs, h1, h2, h3, h4⟩
  · refine ⟨⟨_, h1, fun _ _ z => nomatch z⟩, fun y hy => ?_⟩
    obtain rfl : y = c := by simpa using hy
    exact ⟨_, h2, fun _ _ z => nomatch z⟩
  · refine ⟨⟨_, h1, fun _ _ z => nomatch z⟩, fun y hy => ?_⟩
    rcases (by simpa using hy : y = c ∨ y = g) with rfl | rfl
    · exact ⟨_, h2, fun _ _ z => nomatch z⟩
    · exact ⟨_, h3, fun _ _ z => nomatch z⟩
/-- the owned stand as they stood, the data have grown -/
theorem SlOk.keep (e : Ex G G') (k : ∀ p ∈ os, H' p = H p) (h : SlOk K F G H v s os) : SlOk K F G' H' v s os := by
  cases h with
  | no => exact .no _
  | d h => exact .d (h.ex e)
  | ol h1 h2 h3 => exact .ol (by rw [k _ (by simp)]; exact h1) (h2.ex e) h3
  | od h1 h2 h4 h3 h5 => exact .od (by rw [k _ (by simp)]; exact h1) h2 h4 (h3.ex e) h5
  | oi h1 h2 h3 h4 h5 h6 => exact .oi (by rw [k _ (by simp)]; exact h1) h2 (by rw [k _ (by simp)]; exact h3) (h4.ex e) h5 h6
  | bi h1 h2 h3 h4 h5 => exact .bi (by rw [k _ (by simp)]; exact h1) h2 (by rw [k _ (by simp)]; exact h3) (h4.ex e) h5
  | src h => exact .src h
  | on h1 h2 h3 h4 h5 h6 h7 h8 h9 h10 => exact .on (by rw [k _ (by simp)]; exact h1) h2 h3 (h4.ex e) (by rw [k _ (by simp)]; exact h5) h6 h7 (h8.ex e) h9 h10
  | xt h1 h2 h3 => exact .xt (by rw [k _ (by simp)]; exact h1) (h2.grow e) h3
  | sr2 h => exact .sr2 h
  | gr h => exact .gr (h.keep (fun d => d.ex e) k)
  | pk h1 h2 => exact .pk (h1.keep (fun d => d.ex e) fun p hp => k p (List.mem_append_left _ hp)) (h2.keep (fun d => d.ex e) fun p hp => k p (List.mem_append_right _ hp))
  | ld h h0 h1 h2 => exact .ld (h.ex e) h0 h1 h2
theorem Sls.keep (e : Ex G G') (h : Sls K F G H σ ρ os) : (∀ p ∈ os, H' p = H p) → Sls K F G' H' σ ρ os := by
  induction h with
  | nil => exact fun _ => .nil
  | cons a t ih => exact fun k => .cons (a.keep e fun p hp => k p (List.mem_append_left _ hp)) (ih fun p hp => k p (List.mem_append_right _ hp))
theorem SlOk.inH (h : SlOk K F G H v s os) : ∀ p ∈ os, ∃ o, H p = some o := by
  cases h with
  | no => simp
  | d h => simp
  | ol h1 h2 => simp [h1]
  | od h1 h2 h4 h3 => simp [h1]
  | oi h1 h2 h3 h4 => simp [h1, h3]
  | bi h1 h2 h3 h4 => simp [h1, h3]
  | src h => simp
  | on h1 h2 h3 h4 h5 => simp [h1, h5]
  | xt h1 => simp [h1]
  | sr2 h => simp
  | gr h => exact h.inH
  | pk h1 h2 => exact fun p hp => (List.mem_append.mp hp).elim (h1.inH p) (h2.inH p)
  | ld h h0 h1 h2 => simp
theorem Sls.inH (h : Sls K F G H σ ρ os) : ∀ p ∈ os, ∃ o, H p = some o := by
  induction h with
  | nil => simp
  | cons a t ih =>
    intro p hp
    rcases List.mem_append.mp hp with hp | hp
    · exact a.inH p hp
    · exact ih p hp
theorem Sls.len (h : Sls K F G H σ ρ os) : σ.length = ρ.length := by
  induction h with
  | nil => rfl
  | cons _ _ ih => rw [List.length_cons, List.length_cons, ih]
/-- slot i taken out of the list: what it owns, what the others own -/
theorem Sls.at (h : Sls K F G H σ ρ os) : ∀ {i : Nat} {s : Sl}, ρ[i]? = some s → ∃ v os1 os2, σ[i]? = some v ∧ SlOk K F G H v s os1 ∧ os.Perm (os1 ++ os2) ∧
    (∀ {G' H' v' s' os'}, Ex G G' → (∀ p ∈ os2, H' p = H p) → SlOk K F G' H' v' s' os' → ∃ os3, Sls K F G' H' (σ.set i v') (ρ.set i s') os3 ∧ os3.Perm (os' ++ os2)) := by
  induction h with
  | nil => intro i s hi; simp at hi
  | @cons v0 s0 σ ρ os0 ps a t ih =>
    intro i s hi
    cases i with
    | zero =>
      cases hi
      refine ⟨v0, os0, ps, rfl, a, .refl _, fun {G' H' v' s' os'} e k b => ⟨os' ++ ps, .cons b (t.keep e k), .refl _⟩⟩
    | succ i =>
      obtain ⟨v, o1, o2, e1, e2, e3, f⟩ := ih (i := i) (s := s) (by simpa using hi)
      refine ⟨v, o1, os0 ++ o2, by simpa using e1, e2, ?_, fun {G' H' v' s' os'} e k b => ?_⟩
      · refine (List.Perm.append_left os0 e3).trans ?_
        rw [← List.append_assoc, ← List.append_assoc]
        exact List.Perm.append_right _ List.perm_append_comm
      · obtain ⟨o3, g1, g2⟩ := f e (fun p hp => k p (List.mem_append_right _ hp)) b
        refine ⟨os0 ++ o3, .cons (a.keep e fun p hp => k p (List.mem_append_left _ hp)) g1, ?_⟩
        refine (List.Perm.append_left os0 g2).trans ?_
        rw [← List.append_assoc, ← List.append_assoc]
        exact List.Perm.append_right _ List.perm_append_comm

theorem R.len (r : R K F G H σ ρ) : σ.length = ρ.length := by
  obtain ⟨os, h, _⟩ := r.sl
  exact h.len
/-- a new address -/
theorem R.new (r : R K F G H σ ρ) {p : Addr} (h : H p = none) : G p = none ∧ F.H0 p = none ∧ ¬ InSrc F p ∧ ¬ InSelf F p := by
  have n1 : ¬ InSrc F p := fun m => by obtain ⟨o, e⟩ := r.th p (.inl m); rw [h] at e; cases e
  have n2 : ¬ InSelf F p := fun m => by obtain ⟨o, e⟩ := r.th p (.inr m); rw [h] at e; cases e
  refine ⟨r.gh.fresh h, ?_, n1, n2⟩
  cases e : F.H0 p with
  | none => rfl
  | some o => rw [r.fr p o e n1 n2] at h; cases h
theorem R.pop {v : Option V} {s : Sl} (r : R K F G H (v :: σ) (s :: ρ)) : R K F G H σ ρ := by
  obtain ⟨os, h, nd, f⟩ := r.sl
  cases h with
  | cons a t => exact ⟨r.gg, r.gh, r.fr, r.nw, r.th, r.sr, r.kp, r.nm, _, t, (List.nodup_append.mp nd).2.1, fun p hp => f p (List.mem_append_right _ hp)⟩
theorem R.push {v : V} {x : D} (r : R K F G H σ ρ) (h : Dd K G v x) : R K F G H (some v :: σ) (.d x :: ρ) := by
  obtain ⟨os, hs, nd, f⟩ := r.sl
  exact ⟨r.gg, r.gh, r.fr, r.nw, r.th, r.sr, r.kp, r.nm, _, .cons (.d h) hs, nd, f⟩
theorem R.nil (r : R K F G H σ ρ) : R K F G H [] [] := ⟨r.gg, r.gh, r.fr, r.nw, r.th, r.sr, r.kp, r.nm, _, .nil, List.nodup_nil, by simp⟩
/-- more is new than what was known: the heap has new objects, the data too -/
theorem R.grow (r : R K F G H σ ρ) (e : Ex G G') (x : Ex G' H') (hh : Ex H H') (n : ∀ b o, G' b = some o → G b = some o ∨ H b = none) : R K F G' H' σ ρ := by
  obtain ⟨os, hs, nd, f⟩ := r.sl
  have e1 : ∀ y, InSrc F y → ∃ o, H y = some o := fun y h => r.th y (.inl h)
  have g : ∀ y, InSrc F y → G y = none → G' y = none := fun y hy n0 => by
      cases q : G' y with
      | none => rfl
      | some o =>
        obtain ⟨u, hu⟩ := e1 y hy
        rcases n y o q with q | q
        · rw [n0] at q; cases q
        · rw [hu] at q; cases q
  refine ⟨r.gg.tr e, x, fun b o h n1 n2 => hh _ _ (r.fr b o h n1 n2), fun b o h => ?_, fun b h => ?_, fun a c h => ?_, fun q hq => ⟨(r.kp q hq).1.keep e (hh _), g _ (.inr ⟨_, hq⟩) (r.kp q hq).2.1, (r.kp q hq).2.2⟩, r.nm.imp fun _ => hh _ _, os, hs.keep e fun p hp => ?_, nd, fun p hp => ⟨?_, (f p hp).2⟩⟩
  · rcases n b o h with h | h
    · exact r.nw b o h
    · exact .inr (r.new h).2.1
  · obtain ⟨o, q⟩ := r.th b h
    exact ⟨o, hh _ _ q⟩
  · obtain ⟨s, ha, hc⟩ := r.sr a c h
    have i1 : InSrc F a := .inl ⟨a, c, h, .inl rfl⟩
    have i2 : ∀ q ∈ c, InSrc F q := fun q hq => .inl ⟨a, c, h, .inr hq⟩
    obtain ⟨o1, q1⟩ := e1 a i1
    exact ⟨s.keep (by rw [q1]; exact hh _ _ q1) (fun q hq => by obtain ⟨o2, q2⟩ := e1 q (i2 q hq); rw [q2]; exact hh _ _ q2), g a i1 ha, fun q hq => g q (i2 q hq) (hc q hq)⟩
  · obtain ⟨o, q⟩ := hs.inH p hp
    rw [q]; exact hh _ _ q
  · cases q : G' p with
    | none => rfl
    | some o =>
      obtain ⟨u, hu⟩ := hs.inH p hp
      rcases n p o q with q | q
      · rw [(f p hp).1] at q; cases q
      · rw [hu] at q; cases q
theorem R.both (r : R K F G H σ ρ) {p : Addr} {o : HO} (h : H p = none) : R K F (upd G p o) (upd H p o) σ ρ :=
  r.grow (.put (r.new h).1) r.gh.both (.put h) fun b u e => by
    by_cases q : b = p
    · subst q; exact .inr h
    · rw [upd_ne q] at e; exact .inl e
/-- a new tuple -/
theorem R.tup (r : R K F G H σ ρ) {p : Addr} {us : List V} {xs : List D} (h : H p = none) (t : DdL K G us xs) :
    Ex G (upd G p (.tup us)) ∧ R K F (upd G p (.tup us)) (upd H p (.tup us)) σ ρ ∧ Dd K (upd G p (.tup us)) (.ref p) (.tup xs) :=
  have e : Ex G (upd G p (.tup us)) := .put (r.new h).1
  ⟨e, r.both h, .tup (.of upd_same) (t.ex e)⟩
/-- an owned address is not new -/
theorem Sls.notIn (hs : Sls K F G H σ ρ os) {p : Addr} (h : H p = none) : ∀ q ∈ os, q ≠ p := fun q hq e => by
  obtain ⟨o, hu⟩ := hs.inH q hq
  rw [e, h] at hu; cases hu
/-- objects are written that are new or in qs, which nobody but the things set aside owns: the rest of the state stands -/
theorem R.write (r : R K F G H σ ρ) (hs : Sls K F G H σ ρ os) (nd : os.Nodup) (f : ∀ p ∈ os, G p = none ∧ ¬ InSrc F p) {qs : List Addr} (k : ∀ b, b ∉ qs → H' b = H b)
    (hq : ∀ b ∈ qs, G b = none ∧ ¬ InSrc F b ∧ (F.H0 b = none ∨ InSelf F b) ∧ (∃ o, H' b = some o) ∧ b ≠ sysModules) {σ' : List (Option V)} {ρ' : List Sl} {os' : List Addr}
    (h' : Sls K F G H' σ' ρ' os') (nd' : os'.Nodup) (f' : ∀ p ∈ os', p ∈ os ∨ p ∈ qs) : R K F G H' σ' ρ' := by
  refine ⟨r.gg, fun b o e => ?_, fun b o e n1 n2 => ?_, r.nw, fun b hb => ?_, fun a c h => ?_, fun q hq' => ⟨(r.kp q hq').1.keep .rfl fun o z => by rw [k _ fun m => (hq _ m).2.1 (.inr ⟨_, hq'⟩)]; exact z, (r.kp q hq').2.1, (r.kp q hq').2.2⟩, by rw [k _ fun m => (hq _ m).2.2.2.2 rfl]; exact r.nm, os', h', nd', fun p hp => ?_⟩
  · by_cases m : b ∈ qs
    · rw [(hq b m).1] at e; cases e
    · rw [k b m]; exact r.gh b o e
  · by_cases m : b ∈ qs
    · rcases (hq b m).2.2.1 with z | z
      · rw [z] at e; cases e
      · exact absurd z n2
    · rw [k b m]; exact r.fr b o e n1 n2
  · by_cases m : b ∈ qs
    · exact (hq b m).2.2.2.1
    · rw [k b m]; exact r.th b hb
  · obtain ⟨s, ha, hc⟩ := r.sr a c h
    refine ⟨s.keep (k a fun m => (hq a m).2.1 (.inl ⟨a, c, h, .inl rfl⟩)) (fun y hy => k y fun m => (hq y m).2.1 (.inl ⟨a, c, h, .inr hy⟩)), ha, hc⟩
  · rcases f' p hp with m | m
    · exact f p m
    · exact ⟨(hq p m).1, (hq p m).2.1⟩
/-- one new own object on top -/
theorem R.own (r : R K F G H σ ρ) {p : Addr} {o : HO} {s : Sl} (h : H p = none) (t : SlOk K F G (upd H p o) (some (.ref p)) s [p]) :
    R K F G (upd H p o) (some (.ref p) :: σ) (s :: ρ) := by
  obtain ⟨os, hs, nd, f⟩ := r.sl
  have ne := hs.notIn h
  have nw := r.new h
  refine r.write hs nd f (qs := [p]) (fun b hb => upd_ne (by simpa using hb)) (fun b hb => ?_) (.cons t (hs.keep .rfl fun q hq => upd_ne (ne q hq))) ?_ fun q hq => ?_
  · obtain rfl : b = p := by simpa using hb
    exact ⟨nw.1, nw.2.2.1, .inl nw.2.1, ⟨o, upd_same⟩, fun e => by obtain ⟨so, z⟩ := r.nm; rw [e, z] at h; cases h⟩
  · exact List.nodup_cons.mpr ⟨fun m => ne p m rfl, nd⟩
  · rcases List.mem_cons.mp hq with hq | hq
    · exact .inr (by simp [hq])
    · exact .inl hq
theorem R.lst (r : R K F G H σ ρ) {p : Addr} {us : List V} {xs : List D} (h : H p = none) (t : DdL K G us xs) : R K F G (upd H p (.lst us)) (some (.ref p) :: σ) (.ol xs :: ρ) :=
  r.own h (.ol upd_same t (r.new h).2.1)
theorem R.dic (r : R K F G H σ ρ) {p : Addr} {ks : List Key} {us : List V} {vs : List D} (h : H p = none) (hl : ks.length = us.length) (hn : ks.Nodup) (t : DdL K G us vs) :
    R K F G (upd H p (.dK (ks.zip us))) (some (.ref p) :: σ) (.od ks vs :: ρ) := r.own h (.od upd_same hl hn t (r.new h).2.1)

/-- what is owned becomes data -/
theorem SlOk.frz {u : V} {x : D} (h : SlOk K F G H (some u) s os) (hs : s.dat = some x) (hf : ∀ p ∈ os, G p = none) :
    ∃ G', Ex G G' ∧ Dd K G' u x ∧ (∀ b, b ∉ os → G' b = G b) ∧ (∀ b ∈ os, G' b = H b ∧ F.H0 b = none) := by
  cases h with
  | no => cases hs
  | d h => cases hs; exact ⟨G, .rfl, h, fun _ _ => rfl, by simp⟩
  | @ol p us xs h1 h2 h3 =>
    cases hs
    have e : Ex G (upd G p (.lst us)) := .put (hf p (by simp))
    exact ⟨_, e, .lst upd_same (h2.ex e), fun b hb => upd_ne (by simpa using hb), by simp [upd_same, h1, h3]⟩
  | @od p ks us vs h1 h2 h4 h3 h5 =>
    cases hs
    have e : Ex G (upd G p (.dK (ks.zip us))) := .put (hf p (by simp))
    exact ⟨_, e, .dic upd_same h2 h4 (h3.ex e), fun b hb => upd_ne (by simpa using hb), by simp [upd_same, h1, h5]⟩
  | @oi p C dx ns us vs h1 h2 h3 h4 h5 h6 =>
    cases hs
    have np : dx ≠ p := fun e => by rw [e, h1] at h3; cases h3
    have e1 : Ex G (upd G dx (.own p)) := .put (hf dx (by simp))
    have e2 : Ex (upd G dx (.own p)) (upd (upd G dx (.own p)) p (.ins C dx (ns.zip us))) := .put (by rw [upd_ne np.symm]; exact hf p (by simp))
    refine ⟨_, e1.tr e2, .ins upd_same h2 (by rw [upd_ne np, upd_same]) (h4.ex (e1.tr e2)), fun b hb => ?_, fun b hb => ?_⟩
    · have : b ≠ p ∧ b ≠ dx := by simpa using hb
      rw [upd_ne this.1, upd_ne this.2]
    · rcases (by simpa using hb : b = p ∨ b = dx) with rfl | rfl
      · rw [upd_same]; exact ⟨h1.symm, h5⟩
      · rw [upd_ne np, upd_same]; exact ⟨h3.symm, h6⟩
  | bi => cases hs
  | src => cases hs
  | on => cases hs
  | xt => cases hs
  | gr => cases hs
  | pk => cases hs
  | sr2 => cases hs
  | ld => cases hs
theorem R.frzCore {u : V} {x : D} (r : R K F G H σ ρ) {os1 os2 : List Addr} (h : SlOk K F G H (some u) s os1) (hs : s.dat = some x) {σ' : List (Option V)} {ρ' : List Sl}
    (nd : (os1 ++ os2).Nodup) (f : ∀ p ∈ os1 ++ os2, G p = none ∧ ¬ InSrc F p) (k : ∀ {G'}, Ex G G' → Dd K G' u x → ∃ os3, Sls K F G' H σ' ρ' os3 ∧ os3.Perm os2) :
    ∃ G', Ex G G' ∧ Dd K G' u x ∧ R K F G' H σ' ρ' := by
  obtain ⟨G', e, d, h1, h2⟩ := h.frz hs fun p hp => (f p (List.mem_append_left _ hp)).1
  obtain ⟨os3, t, pm⟩ := k e d
  have dj := (List.nodup_append.mp nd).2.2
  refine ⟨G', e, d, r.gg.tr e, fun b o q => ?_, r.fr, fun b o q => ?_, r.th, fun a c q => ?_, fun q hq => ⟨(r.kp q hq).1.keep e fun _ z => z, by rw [h1 _ fun m => (f _ (List.mem_append_left _ m)).2 (.inr ⟨_, hq⟩)]; exact (r.kp q hq).2.1, (r.kp q hq).2.2⟩, r.nm, os3, t, pm.nodup_iff.mpr (List.nodup_append.mp nd).2.1, fun p hp => ?_⟩
  · by_cases m : b ∈ os1
    · rw [← (h2 b m).1]; exact q
    · rw [h1 b m] at q; exact r.gh b o q
  · by_cases m : b ∈ os1
    · exact .inr (h2 b m).2
    · rw [h1 b m] at q; exact r.nw b o q
  · obtain ⟨z, ha, hc⟩ := r.sr a c q
    have na : a ∉ os1 := fun m => (f a (List.mem_append_left _ m)).2 (.inl ⟨a, c, q, .inl rfl⟩)
    have nc : ∀ y ∈ c, y ∉ os1 := fun y hy m => (f y (List.mem_append_left _ m)).2 (.inl ⟨a, c, q, .inr hy⟩)
    exact ⟨z, by rw [h1 a na]; exact ha, fun y hy => by rw [h1 y (nc y hy)]; exact hc y hy⟩
  · have hp2 : p ∈ os2 := pm.mem_iff.mp hp
    have np : p ∉ os1 := fun m => dj p m p hp2 rfl
    have z := f p (List.mem_append_right _ hp2)
    exact ⟨by rw [h1 p np]; exact z.1, z.2⟩
/-- the thing on top becomes data -/
theorem R.frz {u : V} {x : D} (r : R K F G H (some u :: σ) (s :: ρ)) (hs : s.dat = some x) : ∃ G', Ex G G' ∧ Dd K G' u x ∧ R K F G' H σ ρ := by
  obtain ⟨os, h, nd, f⟩ := r.sl
  cases h with
  | cons a t => exact r.pop.frzCore a hs nd f fun {G'} e d => ⟨_, t.keep e fun _ _ => rfl, .refl _⟩
/-- slot i becomes data -/
theorem R.frzAt {x : D} (r : R K F G H σ ρ) {i : Nat} (hi : ρ[i]? = some s) (hs : s.dat = some x) : ∃ v G', σ[i]? = some (some v) ∧ Ex G G' ∧ Dd K G' v x ∧ R K F G' H σ (ρ.set i (.d x)) := by
  obtain ⟨os, h, nd, f⟩ := r.sl
  obtain ⟨v, os1, os2, e1, e2, e3, g⟩ := h.at hi
  have : ∃ u, v = some u := by cases e2 <;> first | exact ⟨_, rfl⟩ | cases hs
  obtain ⟨u, rfl⟩ := this
  have e4 : σ.set i (some u) = σ := by
    obtain ⟨hl, e5⟩ := List.getElem?_eq_some_iff.mp e1
    rw [← e5]; exact List.set_getElem_self hl
  obtain ⟨G', a, b, c⟩ := r.frzCore e2 hs (e3.nodup_iff.mp nd) (fun p hp => f p (e3.mem_iff.mpr hp)) (σ' := σ) (ρ' := ρ.set i (.d x)) fun {G'} e d => by
    obtain ⟨os3, t, pm⟩ := g e (fun _ _ => rfl) (.d d)
    rw [e4] at t
    exact ⟨os3, t, pm⟩
  exact ⟨u, G', e1, a, b, c⟩
/-- the thing on top goes into slot i -/
theorem R.put {v : Option V} (r : R K F G H (v :: σ) (s :: ρ)) (i : Nat) (hi : i < ρ.length) : R K F G H (σ.set i v) (ρ.set i s) := by
  obtain ⟨os, h, nd, f⟩ := r.sl
  cases h with
  | @cons _ _ _ _ o1 o2 a t =>
    obtain ⟨w, os1, os2, e1, e2, e3, g⟩ := t.at (i := i) (s := ρ[i]) (List.getElem?_eq_some_iff.mpr ⟨hi, rfl⟩)
    obtain ⟨os3, t', pm⟩ := g .rfl (fun _ _ => rfl) a
    have nd2 : (o1 ++ os2).Nodup := by
      have n1 := List.nodup_append.mp nd
      have n2 := List.nodup_append.mp (e3.nodup_iff.mp n1.2.1)
      exact List.nodup_append.mpr ⟨n1.1, n2.2.1, fun a ha b hb => n1.2.2 a ha b (e3.mem_iff.mpr (List.mem_append_right _ hb))⟩
    refine ⟨r.gg, r.gh, r.fr, r.nw, r.th, r.sr, r.kp, r.nm, os3, t', pm.nodup_iff.mpr nd2, fun p hp => f p ?_⟩
    rcases List.mem_append.mp (pm.mem_iff.mp hp) with m | m
    · exact List.mem_append_left _ m
    · exact List.mem_append_right _ (e3.mem_iff.mpr (List.mem_append_right _ m))
/-- an instance, own or lent, in slot i: where it stands, and that it may be written -/
def Sl.inst : Sl → Option (Addr × List Str × List D)
  | .oi C ns vs => some (C, ns, vs)
  | .bi C ns vs => some (C, ns, vs)
  | _ => none
def Sl.withF : Sl → List Str → List D → Sl
  | .oi C _ _, ns, vs => .oi C ns vs
  | .bi C _ _, ns, vs => .bi C ns vs
  | s, _, _ => s
/-- the own list on top is set aside; and taken back -/
def Fr.aside (F : Fr) (p : Addr) (o : HO) : Fr := { F with ks := (p, o) :: F.ks }
theorem Sls.fr {F F' : Fr} (h : Sls K F G H σ ρ os) (e1 : F'.H0 = F.H0) (e2 : F'.src = F.src) (e3 : F'.self = F.self) (e4 : ∀ p o, F.H0 p = some o → ¬ InSrc F p → ¬ InSrc F' p) : Sls K F' G H σ ρ os := by
  induction h with
  | nil => exact .nil
  | cons a t ih =>
    refine .cons ?_ ih
    cases a with
    | no => exact .no _
    | d h => exact .d h
    | ol h1 h2 h3 => exact .ol h1 h2 (by rw [e1]; exact h3)
    | od h1 h2 h4 h3 h5 => exact .od h1 h2 h4 h3 (by rw [e1]; exact h5)
    | oi h1 h2 h3 h4 h5 h6 => exact .oi h1 h2 h3 h4 (by rw [e1]; exact h5) (by rw [e1]; exact h6)
    | bi h1 h2 h3 h4 h5 => exact .bi h1 h2 h3 h4 (by rw [e3]; exact h5)
    | src h => exact .src (by rw [e2]; exact h)
    | on h1 h2 h3 h4 h5 h6 h7 h8 h9 h10 => exact .on h1 h2 h3 h4 h5 h6 h7 h8 (by rw [e1]; exact h9) (by rw [e1]; exact h10)
    | xt h1 h2 h3 => exact .xt h1 h2 (by rw [e1]; exact h3)
    | sr2 h => exact .sr2 (by rw [e2]; exact h)
    | gr h => exact .gr (by rw [e1]; exact h)
    | pk h1 h2 => exact .pk (by rw [e1]; exact h1) (by rw [e1]; exact h2)
    | ld h h0 h1 h2 => exact .ld h (by rw [e1]; exact h0) (e4 _ _ h0 h1) (fun ⟨a, c, m, n, z⟩ => h2 ⟨a, c, by rw [← e3]; exact m, n, by rw [← e1]; exact z⟩)
theorem R.set {p : Addr} {o : HO} {os2 : List Addr} {u : Option V} (r : R K F G H (u :: σ) (s :: ρ)) (t : Sls K F G H σ ρ os2) (h1 : H p = some o) (fp : G p = none ∧ ¬ InSrc F p) (nd : os2.Nodup) (np : p ∉ os2) (f : ∀ q ∈ os2, G q = none ∧ ¬ InSrc F q) (n0 : F.H0 p = none) :
    R K (F.aside p o) G H σ ρ := by
  refine ⟨r.gg, r.gh, fun b o e n1 n2 => r.fr b o e (fun m => n1 ?_) n2, r.nw, fun b hb => ?_, r.sr, fun q hq => ?_, r.nm, os2, t.fr rfl rfl rfl (fun q u hq n m => by
      rcases m with m | ⟨u', m⟩
      · exact n (.inl m)
      · rcases List.mem_cons.mp m with m | m
        · cases m; rw [n0] at hq; cases hq
        · exact n (.inr ⟨_, m⟩)), nd, fun q hq => ⟨(f q hq).1, fun m => ?_⟩⟩
  · rcases m with m | ⟨o, m⟩
    · exact .inl m
    · exact .inr ⟨o, List.mem_cons_of_mem _ m⟩
  · rcases hb with hb | hb
    · rcases hb with hb | ⟨o, hb⟩
      · exact r.th b (.inl (.inl hb))
      · rcases List.mem_cons.mp hb with hb | hb
        · cases hb; exact ⟨_, h1⟩
        · exact r.th b (.inl (.inr ⟨o, hb⟩))
    · exact r.th b (.inr hb)
  · rcases List.mem_cons.mp hq with hq | hq
    · subst hq; exact ⟨.inl h1, fp.1, fun a c z => ⟨fun e => fp.2 (.inl ⟨a, c, z, .inl e⟩), fun e => fp.2 (.inl ⟨a, c, z, .inr e⟩)⟩⟩
    · exact r.kp q hq
  · rcases m with m | ⟨o, m⟩
    · exact (f q hq).2 (.inl m)
    · rcases List.mem_cons.mp m with m | m
      · cases m; exact np hq
      · exact (f q hq).2 (.inr ⟨o, m⟩)
theorem R.aside {xs : List D} {u : V} (r : R K F G H (some u :: σ) (.ol xs :: ρ)) : ∃ p us, u = .ref p ∧ H p = some (.lst us) ∧ DdL K G us xs ∧ R K (F.aside p (.lst us)) G H σ ρ ∧ F.H0 p = none ∧ ¬ InSrc F p := by
  obtain ⟨os, h, nd, f⟩ := r.sl
  cases h with
  | @cons _ _ _ _ o1 o2 a t =>
    cases a with
    | @ol p us _ h1 h2 h3 =>
      have nd := List.nodup_cons.mp nd
      exact ⟨p, us, rfl, h1, h2, r.set t h1 (f p (by simp)) nd.2 nd.1 (fun q hq => f q (List.mem_cons_of_mem _ hq)) h3, h3, (f p (by simp)).2⟩
theorem R.asideD {ks : List Key} {vs : List D} {u : V} (r : R K F G H (some u :: σ) (.od ks vs :: ρ)) : ∃ p us, u = .ref p ∧ H p = some (.dK (ks.zip us)) ∧ ks.length = us.length ∧ ks.Nodup ∧ DdL K G us vs ∧ R K (F.aside p (.dK (ks.zip us))) G H σ ρ ∧ F.H0 p = none ∧ ¬ InSrc F p := by
  obtain ⟨os, h, nd, f⟩ := r.sl
  cases h with
  | @cons _ _ _ _ o1 o2 a t =>
    cases a with
    | @od p _ us _ h1 h2 h4 h5 h3 =>
      have nd := List.nodup_cons.mp nd
      exact ⟨p, us, rfl, h1, h2, h4, h5, r.set t h1 (f p (by simp)) nd.2 nd.1 (fun q hq => f q (List.mem_cons_of_mem _ hq)) h3, h3, (f p (by simp)).2⟩
theorem R.asideX {x : XO} {u : V} (r : R K F G H (some u :: σ) (.xt x :: ρ)) : ∃ p o, u = .ref p ∧ H p = some o ∧ XC K G p o x ∧ R K (F.aside p o) G H σ ρ ∧ F.H0 p = none ∧ ¬ InSrc F p := by
  obtain ⟨os, h, nd, f⟩ := r.sl
  cases h with
  | @cons _ _ _ _ o1 o2 a t =>
    cases a with
    | @xt p o _ h1 h2 h3 =>
      have nd := List.nodup_cons.mp nd
      exact ⟨p, o, rfl, h1, h2, r.set t h1 (f p (by simp)) nd.2 nd.1 (fun q hq => f q (List.mem_cons_of_mem _ hq)) h3, h3, (f p (by simp)).2⟩
theorem R.unset {p : Addr} {o : HO} (r : R K (F.aside p o) G H σ ρ) (h3 : F.H0 p = none) (ns : ¬ InSrc F p) (nq : ∀ so, o ≠ .frz so sysO) {o' : HO} (ho : SlOk K F G (upd H p o') (some (.ref p)) s [p]) : R K F G (upd H p o') (some (.ref p) :: σ) (s :: ρ) := by
  obtain ⟨os, h, nd, f⟩ := r.sl
  have kp := r.kp (p, o) (by simp [Fr.aside])
  have np : p ∉ os := fun m => (f p m).2 (.inr ⟨o, by simp [Fr.aside]⟩)
  have sub : ∀ q, InSrc F q → InSrc (F.aside p o) q := fun q m => by
    rcases m with m | ⟨o, m⟩
    · exact .inl m
    · exact .inr ⟨o, List.mem_cons_of_mem _ m⟩
  have r0 : R K F G H σ ρ := by
    refine ⟨r.gg, r.gh, fun b u e n1 n2 => r.fr b u e (fun m => ?_) n2, r.nw, fun b hb => r.th b ?_, r.sr, fun q hq => r.kp q (List.mem_cons_of_mem _ hq), r.nm, os, h.fr rfl rfl rfl (fun q u _ n m => n (sub q m)), nd, fun q hq => ⟨(f q hq).1, fun m => (f q hq).2 (sub q m)⟩⟩
    · rcases m with m | ⟨o, m⟩
      · exact n1 (.inl m)
      · rcases List.mem_cons.mp m with m | m
        · cases m
          rw [h3] at e; cases e
        · exact n1 (.inr ⟨o, m⟩)
    · rcases hb with hb | hb
      · exact .inl (sub b hb)
      · exact .inr hb
  have h0 : Sls K F G H σ ρ os := h.fr rfl rfl rfl (fun q u _ n m => n (sub q m))
  refine r0.write h0 nd (fun q hq => ⟨(f q hq).1, fun m => (f q hq).2 (sub q m)⟩) (qs := [p]) (fun b hb => upd_ne (by simpa using hb)) (fun b hb => ?_) (.cons ho (h0.keep .rfl fun q hq => upd_ne fun e => np (e ▸ hq))) (List.nodup_cons.mpr ⟨np, nd⟩) fun q hq => ?_
  · obtain rfl : b = p := by simpa using hb
    exact ⟨kp.2.1, ns, .inl h3, ⟨_, upd_same⟩, fun e => by
      obtain ⟨o2, z, hz⟩ := kp.1.there
      have z : H b = some o2 := z
      rw [e] at z
      obtain ⟨so, y⟩ := r.nm
      have yz := Option.some.inj (z.symm.trans y)
      rcases hz with hz | ⟨ps, hz⟩
      · exact nq so (hz.symm.trans yz)
      · rw [hz] at yz; cases yz⟩
  · rcases List.mem_cons.mp hq with hq | hq
    · exact .inr (by simp [hq])
    · exact .inl hq
/-- a slot forgotten; slots that are not known may hold anything -/
theorem R.forget (r : R K F G H σ ρ) (i : Nat) : R K F G H σ (ρ.set i .no) := by
  by_cases hi : i < ρ.length
  · obtain ⟨os, h, nd, f⟩ := r.sl
    obtain ⟨v, os1, os2, e1, e2, e3, g⟩ := h.at (i := i) (s := ρ[i]) (List.getElem?_eq_some_iff.mpr ⟨hi, rfl⟩)
    obtain ⟨os3, t', pm⟩ := g .rfl (fun _ _ => rfl) (.no v)
    have e4 : σ.set i v = σ := by
      obtain ⟨hl, e5⟩ := List.getElem?_eq_some_iff.mp e1
      rw [← e5]; exact List.set_getElem_self hl
    rw [e4] at t'
    have nd2 := List.nodup_append.mp (e3.nodup_iff.mp nd)
    exact ⟨r.gg, r.gh, r.fr, r.nw, r.th, r.sr, r.kp, r.nm, os3, t', pm.nodup_iff.mpr nd2.2.1, fun p hp => f p (e3.mem_iff.mpr (List.mem_append_right _ (pm.mem_iff.mp hp)))⟩
  · rw [List.set_eq_of_length_le (by omega)]; exact r
theorem Sls.any (h : Sls K F G H σ ρ os) : ∀ {i : Nat} {v : Option V}, ρ[i]? = some .no → Sls K F G H (σ.set i v) ρ os := by
  induction h with
  | nil => intro i v e; simp at e
  | @cons v0 s0 σ ρ os0 ps a t ih =>
    intro i v e
    cases i with
    | zero =>
      cases e
      cases a
      exact .cons (.no v) t
    | succ i => exact .cons a (ih (by simpa using e))
theorem R.any (r : R K F G H σ ρ) {i : Nat} {v : Option V} (e : ρ[i]? = some .no) : R K F G H (σ.set i v) ρ := by
  obtain ⟨os, h, nd, f⟩ := r.sl
  exact ⟨r.gg, r.gh, r.fr, r.nw, r.th, r.sr, r.kp, r.nm, os, h.any e, nd, f⟩
end
abbrev Env' := List Sl
abbrev ET := Env' → (Sl → Env' → Prop) → Prop
abbrev TTd := Env' → (Bool → Env' → Prop) → Prop
abbrev AT := Env' → (List D → Env' → Prop) → Prop

def lift (K : PySem.W.Frag) (t : ET) : TE := fun σ H Q => ∃ F G ρ P, R K F G H σ ρ ∧ t ρ P ∧
  ∀ r ρ' v G' H', P r ρ' → Ex G G' → R K F G' H' (some v :: σ) (r :: ρ') → Q v H'
def liftT (K : PySem.W.Frag) (t : TTd) : TT := fun σ H Q => ∃ F G ρ P, R K F G H σ ρ ∧ t ρ P ∧
  ∀ b ρ' G' H', P b ρ' → Ex G G' → R K F G' H' σ ρ' → Q b H'
def liftA (K : PySem.W.Frag) (t : AT) : TA := fun σ H Q => ∃ F G ρ P, R K F G H σ ρ ∧ t ρ P ∧
  ∀ xs ρ' vs G' H', P xs ρ' → Ex G G' → R K F G' H' σ ρ' → DdL K G' vs xs → Q vs H'

section
variable {X : Cx} {e a b : Expr} {t : ET} {te ta tb : ET} {K : PySem.W.Frag} {F : Fr} {G G' H H' : Hp} {σ : St} {ρ : Env'} {pos : Pos}
theorem peImp {t t' : TE} (h : PE X e t) (i : ∀ σ H Q, t' σ H Q → t σ H Q) : PE X e t' := ⟨fun pins s σ H Q I q => h.run pins s σ H Q I (i _ _ _ q)⟩
theorem ptImp {t t' : TT} (h : PT X e t) (i : ∀ σ H Q, t' σ H Q → t σ H Q) : PT X e t' := ⟨fun pins s σ H Q I q => h.run pins s σ H Q I (i _ _ _ q)⟩
theorem pwImp {t t' : TT} (h : PW X e t) (i : ∀ σ H Q, t' σ H Q → t σ H Q) : PW X e t' := ⟨fun w pins s σ H Q I q => h.run w pins s σ H Q I (i _ _ _ q)⟩
theorem paImp {es : List Expr} {t t' : TA} (h : PA X es t) (i : ∀ σ H Q, t' σ H Q → t σ H Q) : PA X es t' := ⟨fun p pins s σ H Q I q => h.run p pins s σ H Q I (i _ _ _ q)⟩
/-- a part that gives data, run -/
theorem goD {P : D → Env' → Prop} {Q : VK} (r : R K F G H σ ρ) (h : t ρ fun x ρ1 => ∃ d, x.dat = some d ∧ P d ρ1)
    (k : ∀ d ρ' v G' H', P d ρ' → Ex G G' → R K F G' H' σ ρ' → Dd K G' v d → Q v H') : lift K t σ H Q :=
  ⟨F, G, ρ, _, r, h, fun x ρ' v G' H' ⟨d, hd, p⟩ e r' => by
    obtain ⟨G2, e2, dd, r2⟩ := r'.frz hd
    exact k d ρ' v G2 H' p (e.tr e2) r2 dd⟩
theorem goA {t : AT} {P : List D → Env' → Prop} {Q : List V → Hp → Prop} (r : R K F G H σ ρ) (h : t ρ P)
    (k : ∀ xs ρ' vs G' H', P xs ρ' → Ex G G' → R K F G' H' σ ρ' → DdL K G' vs xs → Q vs H') : liftA K t σ H Q := ⟨F, G, ρ, P, r, h, k⟩
theorem goT {t : TTd} {P : Bool → Env' → Prop} {Q : Bool → Hp → Prop} (r : R K F G H σ ρ) (h : t ρ P)
    (k : ∀ b ρ' G' H', P b ρ' → Ex G G' → R K F G' H' σ ρ' → Q b H') : liftT K t σ H Q := ⟨F, G, ρ, P, r, h, k⟩

def dC (x : D) : ET := fun ρ P => P (.d x) ρ
def dVar (i : Nat) : ET := fun ρ P => match ρ[i]? with
  | some .src => P .src ρ
  | some .sr2 => P .sr2 ρ
  | some (.gr a _) => P (.d (.nd a)) ρ
  | some s => match s.dat with
    | some x => P (.d x) (ρ.set i (.d x))
    | none => False
  | none => False
theorem pd_int {i j} : PE X (.Constant (.int i) j pos) (lift X.K (dC (.int i))) := peImp pe_int fun σ H Q ⟨F, G, ρ, P, r, h, k⟩ => k _ _ _ _ _ h .rfl (r.push (.int i))
theorem pd_bl {b j} : PE X (.Constant (.bool b) j pos) (lift X.K (dC (.bl b))) := peImp pe_bl fun σ H Q ⟨F, G, ρ, P, r, h, k⟩ => k _ _ _ _ _ h .rfl (r.push (.bl b))
theorem pd_non {j} : PE X (.Constant .none j pos) (lift X.K (dC .non)) := peImp pe_non fun σ H Q ⟨F, G, ρ, P, r, h, k⟩ => k _ _ _ _ _ h .rfl (r.push .non)
theorem pd_str {x j} (ho : sOk x = true := by decide +kernel) : PE X (.Constant (.str x) j pos) (lift X.K (dC (.str x))) := peImp pe_str fun σ H Q ⟨F, G, ρ, P, r, h, k⟩ => k _ _ _ _ _ h .rfl (r.push (.str x ho))
theorem R.src (r : R K F G H σ ρ) {i : Nat} (hi : ρ[i]? = some .src) : ∃ a c, σ[i]? = some (some (.ref a)) ∧ F.src = some (a, [c]) := by
  obtain ⟨os, h, nd, f⟩ := r.sl
  obtain ⟨v, os1, os2, e1, e2, _⟩ := h.at hi
  cases e2 with
  | src h => exact ⟨_, _, e1, h⟩
theorem R.src2 (r : R K F G H σ ρ) {i : Nat} (hi : ρ[i]? = some .sr2) : ∃ a c g, σ[i]? = some (some (.ref a)) ∧ F.src = some (a, [c, g]) := by
  obtain ⟨os, h, nd, f⟩ := r.sl
  obtain ⟨v, os1, os2, e1, e2, _⟩ := h.at hi
  cases e2 with
  | sr2 h => exact ⟨_, _, _, e1, h⟩
theorem R.pushSr2 (r : R K F G H σ ρ) {a c g : Addr} (h : F.src = some (a, [c, g])) : R K F G H (some (.ref a) :: σ) (.sr2 :: ρ) := by
  obtain ⟨os, hs, nd, f⟩ := r.sl
  exact ⟨r.gg, r.gh, r.fr, r.nw, r.th, r.sr, r.kp, r.nm, _, .cons (.sr2 h) hs, nd, f⟩
theorem R.pushNd {p : Addr} (r : R K F G H σ ρ) : R K F G H (some (.ref p) :: σ) (.d (.nd p) :: ρ) := r.push (.nd p)
theorem R.grAt {a : Addr} {Γ : Stor} (r : R K F G H σ ρ) {i : Nat} (hi : ρ[i]? = some (.gr a Γ)) : σ[i]? = some (some (.ref a)) := by
  obtain ⟨os, h, nd, f⟩ := r.sl
  obtain ⟨v, os1, os2, e1, e2, _⟩ := h.at hi
  cases e2 with
  | gr _ => exact e1
theorem R.pushSrc (r : R K F G H σ ρ) {a c : Addr} (h : F.src = some (a, [c])) : R K F G H (some (.ref a) :: σ) (.src :: ρ) := by
  obtain ⟨os, hs, nd, f⟩ := r.sl
  exact ⟨r.gg, r.gh, r.fr, r.nw, r.th, r.sr, r.kp, r.nm, _, .cons (.src h) hs, nd, f⟩
theorem pd_var (i : Nat) {x : Str} (hN : X.N[i]? = some x := by rfl) (hv : Vis X.env.scope x := by first | exact Or.inl rfl | exact Or.inr (Or.inl rfl) | exact Or.inr (Or.inr rfl)) (hd : (x == ("__debug__" : Str)) = false := by decide)
    (hcd : (x == ("__classdict__" : Str)) = false := by decide) : PE X (.Name x pos) (lift X.K (dVar i)) := by
  refine peImp (pe_var hN hv hd hcd) fun σ H Q ⟨F, G, ρ, P, r, h, k⟩ => ?_
  have gen : ∀ {s : Sl} {x : D}, ρ[i]? = some s → s.dat = some x → P (.d x) (ρ.set i (.d x)) → tVar i σ H Q := fun {s x} hi hx p => by
    obtain ⟨v, G', e1, e2, dd, r'⟩ := r.frzAt hi hx
    exact ⟨v, e1, k _ _ _ _ _ p e2 (r'.push dd)⟩
  unfold dVar at h
  cases e : ρ[i]? with
  | none => rw [e] at h; exact h.elim
  | some s =>
    rw [e] at h
    cases s with
    | src =>
      obtain ⟨a, c, e1, e2⟩ := r.src e
      exact ⟨_, e1, k _ _ _ _ _ h .rfl (r.pushSrc e2)⟩
    | sr2 =>
      obtain ⟨a, c, g, e1, e2⟩ := r.src2 e
      exact ⟨_, e1, k _ _ _ _ _ h .rfl (r.pushSr2 e2)⟩
    | gr a Γ => exact ⟨_, r.grAt e, k _ _ _ _ _ h .rfl r.pushNd⟩
    | pk => exact h.elim
    | no => exact h.elim
    | ld => exact h.elim
    | on => exact h.elim
    | xt => exact h.elim
    | bi => exact h.elim
    | d x => exact gen e rfl h
    | ol x => exact gen e rfl h
    | od _ _ => exact gen e rfl h
    | oi _ _ _ => exact gen e rfl h

def dNil : AT := fun ρ P => P [] ρ
def dCons (te : ET) (ta : AT) : AT := fun ρ P => te ρ fun x ρ1 => ∃ d, x.dat = some d ∧ ta ρ1 fun xs ρ2 => P (d :: xs) ρ2
theorem pda_nil : PA X [] (liftA X.K dNil) := paImp pa_nil fun σ H Q ⟨F, G, ρ, P, r, h, k⟩ => k _ _ _ _ _ h .rfl r .nil
theorem pda_cons {es : List Expr} {ta : AT} (he : PE X e (lift X.K te)) (hr : PA X es (liftA X.K ta)) (hs : starEach (e :: es) X.env = (false, eval e X.env) :: starEach es X.env := by rfl) : PA X (e :: es) (liftA X.K (dCons te ta)) :=
  paImp (pa_cons he hr hs) fun σ H Q ⟨F, G, ρ, P, r, h, k⟩ => goD r h fun d ρ1 v G1 H1 h1 e1 r1 d1 => goA r1 h1 fun xs ρ2 vs G2 H2 h2 e2 r2 d2 => k _ _ _ _ _ h2 (e1.tr e2) r2 (.cons (d1.ex e2) d2)

def dTup (ta : AT) : ET := fun ρ P => ta ρ fun xs ρ1 => xs.length ≤ 1000 ∧ P (.d (.tup xs)) ρ1
def dLst (ta : AT) : ET := fun ρ P => ta ρ fun xs ρ1 => xs.length ≤ 1000 ∧ P (.ol xs) ρ1
theorem sz1000 {n : Nat} (h : n ≤ 1000) : n ≤ sizeLine := Nat.le_trans h (by decide)
theorem pd_tup {es : List Expr} {x1} {ta : AT} (h : PA X es (liftA X.K ta)) : PE X (.Tuple es x1 pos) (lift X.K (dTup ta)) :=
  peImp (pe_tup h) fun σ H Q ⟨F, G, ρ, P, r, h, k⟩ => goA r h fun xs ρ1 vs G1 H1 ⟨hl, h1⟩ e1 r1 d1 => ⟨by rw [d1.len]; exact sz1000 hl, fun p hp => by
    obtain ⟨e2, r2, d2⟩ := r1.tup hp d1
    exact k _ _ _ _ _ h1 (e1.tr e2) (r2.push d2)⟩
theorem pd_lst {es : List Expr} {ta : AT} (h : PA X es (liftA X.K ta)) : PE X (.List es pos) (lift X.K (dLst ta)) :=
  peImp (pe_lst h) fun σ H Q ⟨F, G, ρ, P, r, h, k⟩ => goA r h fun xs ρ1 vs G1 H1 ⟨hl, h1⟩ e1 r1 d1 => ⟨by rw [d1.len]; exact sz1000 hl, fun p hp => k _ _ _ _ _ h1 e1 (r1.lst hp d1)⟩
def dDic0 : ET := fun ρ P => P (.od [] []) ρ
theorem pd_dic0 : PE X (.Dict [] [] pos) (lift X.K dDic0) :=
  peImp pe_dnewK fun σ H Q ⟨F, G, ρ, P, r, h, k⟩ => fun p hp => k _ _ _ _ _ h .rfl (r.dic (ks := []) (us := []) hp rfl List.nodup_nil .nil)

abbrev RO := D → D → (Sl → Prop) → Prop
/-- an operation on data: what it gives -/
def OpD (X : Cx) (f : Value → Value → Sem Value) (ro : RO) : Prop := ∃ r : R2, OpR X f r ∧ ∀ {F : Fr} {G H : Hp} {σ : St} {ρ : Env'} {vx vy : V} {x y : D} {P : Sl → Prop} {Q : VK},
  R X.K F G H σ ρ → Dd X.K G vx x → Dd X.K G vy y → ro x y P → (∀ s v G' H', P s → Ex G G' → R X.K F G' H' (some v :: σ) (s :: ρ) → Q v H') → r vx vy H Q
def dOp (ro : RO) (ta tb : ET) : ET := fun ρ P => ta ρ fun x ρ1 => ∃ dx, x.dat = some dx ∧ tb ρ1 fun y ρ2 => ∃ dy, y.dat = some dy ∧ ro dx dy fun z => P z ρ2
theorem opGo {f : Value → Value → Sem Value} {ro : RO} {r : R2} (ho : ∀ {F : Fr} {G H : Hp} {σ : St} {ρ : Env'} {vx vy : V} {x y : D} {P : Sl → Prop} {Q : VK},
    R X.K F G H σ ρ → Dd X.K G vx x → Dd X.K G vy y → ro x y P → (∀ s v G' H', P s → Ex G G' → R X.K F G' H' (some v :: σ) (s :: ρ) → Q v H') → r vx vy H Q)
    {σ : St} {H : Hp} {Q : VK} (h : lift X.K (dOp ro ta tb) σ H Q) : tOp r (lift X.K ta) (lift X.K tb) σ H Q := by
  obtain ⟨F, G, ρ, P, r0, h, k⟩ := h
  exact goD r0 h fun x ρ1 v G1 H1 h1 e1 r1 d1 => goD r1 h1 fun y ρ2 u G2 H2 h2 e2 r2 d2 => ho r2 (d1.ex e2) d2 h2 fun s w G' H' p e3 r3 => k _ _ _ _ _ p ((e1.tr e2).tr e3) r3
theorem pd_op {op : Operator} {ro : RO} (ho : OpD X (binaryOp op) ro) (ha : PE X a (lift X.K ta)) (hb : PE X b (lift X.K tb)) : PE X (.BinOp a op b pos) (lift X.K (dOp ro ta tb)) := by
  obtain ⟨r, h1, h2⟩ := ho
  exact peImp (pe_op h1 ha hb) fun σ H Q h => opGo (f := binaryOp op) h2 h
theorem pd_cmp {op : CmpOp} {ro : RO} (ho : OpD X (compareOp op) ro) (ha : PE X a (lift X.K ta)) (hb : PE X b (lift X.K tb)) (hm : behindInMarks op b = false := by first | rfl | exact nomark _) : PE X (.Compare a [op] [b] pos) (lift X.K (dOp ro ta tb)) := by
  obtain ⟨r, h1, h2⟩ := ho
  exact peImp (pe_cmpR h1 ha hb hm) fun σ H Q h => opGo (f := compareOp op) h2 h

/-- a value's truth -/
def tru : D → Option Bool
  | .non => some false
  | .bl b => some b
  | .int i => some (i != 0)
  | .lst xs => some (!xs.isEmpty)
  | .tup xs => some (!xs.isEmpty)
  | _ => none
/-- a comparison as a test -/
def dTst (te : ET) : TTd := fun ρ P => te ρ fun x ρ1 => ∃ b, x = .d (.bl b) ∧ P b ρ1
theorem R.topBl {b : Bool} {v : V} (r : R K F G H (some v :: σ) (.d (.bl b) :: ρ)) : v = .bl b := by
  obtain ⟨G', _, d, _⟩ := r.frz (x := .bl b) rfl
  cases d; rfl
theorem goB {P : Bool → Env' → Prop} {Q : VK} (r : R K F G H σ ρ) (h : t ρ fun x ρ1 => ∃ b, x = .d (.bl b) ∧ P b ρ1)
    (k : ∀ b ρ' G' H', P b ρ' → Ex G G' → R K F G' H' σ ρ' → Q (.bl b) H') : lift K t σ H Q :=
  ⟨F, G, ρ, _, r, h, fun x ρ' v G' H' ⟨b, hd, p⟩ e r' => by
    subst hd
    rw [r'.topBl]
    exact k b ρ' G' H' p e r'.pop⟩
theorem pt_cmpD {op : CmpOp} {ro : RO} (ho : OpD X (compareOp op) ro) (ha : PE X a (lift X.K ta)) (hb : PE X b (lift X.K tb)) (hm : behindInMarks op b = false := by first | rfl | exact nomark _) : PT X (.Compare a [op] [b] pos) (liftT X.K (dTst (dOp ro ta tb))) := by
  obtain ⟨r, h1, h2⟩ := ho
  refine ptImp (pt_cmpR h1 ha hb hm) fun σ H Q ⟨F, G, ρ, P, r0, h, k⟩ => ?_
  exact opGo (f := compareOp op) h2 (goB r0 h fun b ρ1 G1 H1 h1 e1 r1 => ⟨b, rfl, k _ _ _ _ h1 e1 r1⟩)
theorem pt_valD (he : PE X e (lift X.K te)) (hw : ∀ whole, isTrue e X.env whole = (do let v ← whole; standAt e.pos; holding [v] (truthy v)) := by intro _; rfl) : PT X e (liftT X.K (dTst te)) :=
  ptImp (pt_val he hw) fun σ H Q ⟨F, G, ρ, P, r, h, k⟩ => goB r h fun b ρ1 G1 H1 h1 e1 r1 => ⟨b, rfl, k _ _ _ _ h1 e1 r1⟩
def dNotT (t : TTd) : TTd := fun ρ P => t ρ fun b ρ1 => P (!b) ρ1
def dOrT (t u : TTd) : TTd := fun ρ P => t ρ fun b ρ1 => if b = true then P true ρ1 else u ρ1 P
theorem pt_notD {t : TTd} (h : PT X a (liftT X.K t)) : PT X (.UnaryOp .Not a pos) (liftT X.K (dNotT t)) :=
  ptImp (pt_not h) fun σ H Q ⟨F, G, ρ, P, r, h, k⟩ => goT r h fun b ρ1 G1 H1 h1 e1 r1 => k _ _ _ _ h1 e1 r1
theorem pwd_or1 {t : TTd} (h : PT X a (liftT X.K t)) : PW X (.BoolOp .Or [a] pos) (liftT X.K t) := pw_or1 h
theorem pwd_or {t u : TTd} {rest : List Expr} (h : PT X a (liftT X.K t)) (h2 : PW X (.BoolOp .Or (b :: rest) pos) (liftT X.K u)) : PW X (.BoolOp .Or (a :: b :: rest) pos) (liftT X.K (dOrT t u)) :=
  pwImp (pw_or h h2) fun σ H Q ⟨F, G, ρ, P, r, h, k⟩ => goT r h fun b ρ1 G1 H1 h1 e1 r1 => by
    cases b with
    | true => exact k _ _ _ _ h1 e1 r1
    | false => exact goT r1 h1 fun b ρ2 G2 H2 h2 e2 r2 => k _ _ _ _ h2 (e1.tr e2) r2
theorem lift.mono {Q Q' : VK} (h : lift K t σ H Q) (k : ∀ v H', Q v H' → Q' v H') : lift K t σ H Q' := by
  obtain ⟨F, G, ρ, P, r, h, q⟩ := h
  exact ⟨F, G, ρ, P, r, h, fun x ρ' v G' H' p e r' => k _ _ (q x ρ' v G' H' p e r')⟩
theorem goE {P : Sl → Env' → Prop} {Q : VK} (r : R K F G H σ ρ) (h : t ρ P) (k : ∀ x ρ' v G' H', P x ρ' → Ex G G' → R K F G' H' (some v :: σ) (x :: ρ') → Q v H') : lift K t σ H Q := ⟨F, G, ρ, P, r, h, k⟩
def dIf (t : TTd) (ta tb : ET) : ET := fun ρ P => t ρ fun c ρ1 => if c = true then ta ρ1 P else tb ρ1 P
theorem pd_if {c : Expr} {t : TTd} (hc : PT X c (liftT X.K t)) (ha : PE X a (lift X.K ta)) (hb : PE X b (lift X.K tb)) : PE X (.IfExp c a b pos) (lift X.K (dIf t ta tb)) :=
  peImp (pe_ifExp hc ha hb) fun σ H Q ⟨F, G, ρ, P, r, h, k⟩ => goT r h fun b ρ1 G1 H1 h1 e1 r1 => by
    cases b with
    | true => exact goE r1 h1 fun x ρ2 v G2 H2 h2 e2 r2 => k _ _ _ _ _ h2 (e1.tr e2) r2
    | false => exact goE r1 h1 fun x ρ2 v G2 H2 h2 e2 r2 => k _ _ _ _ _ h2 (e1.tr e2) r2

abbrev RCd := List D → (Sl → Prop) → Prop
def CallD (X : Cx) (f : Value) (rc : RCd) : Prop := ∃ r : List V → Hp → VK → Prop, CallR X f r ∧ ∀ {F : Fr} {G H : Hp} {σ : St} {ρ : Env'} {vs : List V} {xs : List D} {P : Sl → Prop} {Q : VK},
  R X.K F G H σ ρ → DdL X.K G vs xs → rc xs P → (∀ s v G' H', P s → Ex G G' → R X.K F G' H' (some v :: σ) (s :: ρ) → Q v H') → r vs H Q
def dCall (rc : RCd) (ta : AT) : ET := fun ρ P => ta ρ fun xs ρ1 => rc xs fun z => P z ρ1
theorem pd_callB {x : Str} {es : List Expr} {p : Pos} {id : String} {rc : RCd} {ta : AT} (hc : CallD X (.builtin id) rc) (hg : Gl X x) (hm : X.mg x = none) (hv : bootBuiltins x = some (.builtin id)) (ha : PA X (e :: es) (liftA X.K ta)) (hn : x ≠ "__name__" := by decide) (hdb : (x == ("__debug__" : Str)) = false := by decide)
    (he : starEach (e :: es) X.env = (false, eval e X.env) :: starEach es X.env := by rfl) (hpl : (backTo pos (starEach es X.env)).any (·.1) = false := by rfl) : PE X (.Call (.Name x p) (e :: es) [] pos) (lift X.K (dCall rc ta)) := by
  obtain ⟨r, h1, h2⟩ := hc
  exact peImp (pe_callB h1 hg hm hv ha hn hdb he hpl) fun σ H Q ⟨F, G, ρ, P, r, h, k⟩ => goA r h fun xs ρ1 vs G1 H1 q e1 r1 d1 => h2 r1 d1 q fun s v G' H' p e2 r2 => k _ _ _ _ _ p (e1.tr e2) r2
end
/-- None, bools, ints, texts, and lists and tuples of such, at most n deep -/
def ok : Nat → D → Bool
  | _, .non => true
  | _, .bl _ => true
  | _, .int _ => true
  | _, .str _ => true
  | 0, _ => false
  | n + 1, .lst xs => xs.all (ok n)
  | n + 1, .tup xs => xs.all (ok n)
  | _ + 1, _ => false
mutual
def toPy : D → PyData
  | .non => .none
  | .bl b => .bool b
  | .int i => .int i
  | .str s => .str s
  | .lst xs => .list (toPys xs)
  | .tup xs => .tuple (toPys xs)
  | .dic _ _ => .none
  | .ins _ _ _ => .none
  | .nd _ => .none
  | .exc _ _ _ => .none
def toPys : List D → List PyData
  | [] => []
  | x :: xs => toPy x :: toPys xs
end
section
variable {K : PySem.W.Frag} {G H : Hp}
mutual
theorem Dd.py (e : Ex G H) : ∀ {n : Nat} {v : V} {x : D}, Dd K G v x → ok n x = true → Dp K H v (toPy x) ∧ PyData.canLay0 (toPy x) = true ∧ (toPy x).depth ≤ n
  | n, _, _, .non, h => ⟨.non, rfl, Nat.zero_le _⟩
  | n, _, _, .bl b, h => ⟨.bl b, rfl, Nat.zero_le _⟩
  | n, _, _, .int i, h => ⟨.int i, rfl, Nat.zero_le _⟩
  | n, _, _, .str x q, h => ⟨.str x, (Bool.and_eq_true _ _ ▸ (show (PyData.strOk x && decide (x.length ≤ 1000000)) = true from q)).1, Nat.zero_le _⟩
  | 0, _, _, .lst _ _, h => by cases h
  | 0, _, _, .tup _ _, h => by cases h
  | n + 1, _, .lst xs, .lst g t, h => by
    obtain ⟨a, b, c⟩ := DdL.py e t (show xs.all (ok n) = true from h)
    exact ⟨.lst (.of (e _ _ g)) a, b, Nat.succ_le_succ c⟩
  | n + 1, _, .tup xs, .tup g t, h => by
    obtain ⟨a, b, c⟩ := DdL.py e t (show xs.all (ok n) = true from h)
    exact ⟨.tup (sqT_ex e g) a, b, Nat.succ_le_succ c⟩
  | 0, _, _, .dic _ _ _ _, h => by cases h
  | _ + 1, _, _, .dic _ _ _ _, h => by cases h
  | 0, _, _, .ins _ _ _ _, h => by cases h
  | _ + 1, _, _, .ins _ _ _ _, h => by cases h
  | 0, _, _, .nd _, h => by cases h
  | _ + 1, _, _, .nd _, h => by cases h
  | 0, _, _, .exc0 _, h => by cases h
  | _ + 1, _, _, .exc0 _, h => by cases h
  | 0, _, _, .exc1 _ _ _ _, h => by cases h
  | _ + 1, _, _, .exc1 _ _ _ _, h => by cases h
theorem DdL.py (e : Ex G H) : ∀ {n : Nat} {us : List V} {xs : List D}, DdL K G us xs → xs.all (ok n) = true → DpAll K H us (toPys xs) ∧ PyData.canLayAll0 (toPys xs) = true ∧ PyData.depthAll (toPys xs) ≤ n
  | n, _, _, .nil, _ => ⟨.nil, rfl, Nat.zero_le _⟩
  | n, _, _, .cons a t, h => by
    rw [List.all_cons, Bool.and_eq_true] at h
    obtain ⟨p1, p2, p3⟩ := Dd.py e a h.1
    obtain ⟨q1, q2, q3⟩ := DdL.py e t h.2
    refine ⟨.cons p1 q1, ?_, ?_⟩
    · show (PyData.canLay0 _ && PyData.canLayAll0 _) = true
      rw [p2, q2]; rfl
    · show max _ _ ≤ n
      omega
end
end
theorem shaped_of {x : D} {n : Nat} (h1 : PyData.canLay0 (toPy x) = true) (h2 : (toPy x).depth ≤ n) (h : n ≤ 64) : SeqAt.shaped (toPy x) = true := by
  unfold SeqAt.shaped
  rw [h1, Bool.true_and]
  exact decide_eq_true (Nat.le_trans h2 h)
/-- == of data -/
def eqD (x y : D) : Bool := PyData.eqv (toPy x) (toPy y)

section
variable {X : Cx} {k : Nat}
theorem OpR.ofD {f : Value → Value → Sem Value} {r : R2} {ro : RO} (h : OpR X f r) (g : ∀ {F : Fr} {G H : Hp} {σ : St} {ρ : Env'} {vx vy : V} {x y : D} {P : Sl → Prop} {Q : VK},
    R X.K F G H σ ρ → Dd X.K G vx x → Dd X.K G vy y → ro x y P → (∀ s v G' H', P s → Ex G G' → R X.K F G' H' (some v :: σ) (s :: ρ) → Q v H') → r vx vy H Q) : OpD X f ro := ⟨r, h, g⟩

def dAdd : RO := fun x y P => match x, y with
  | .int i, .int j => P (.d (.int (i + j)))
  | .str a, .str b => a.length + b.length ≤ 100000 ∧ P (.d (.str (a ++ b)))
  | .lst a, .lst b => a.length + b.length ≤ 100000 ∧ P (.ol (a ++ b))
  | .tup a, .tup b => a.length + b.length ≤ 100000 ∧ P (.d (.tup (a ++ b)))
  | _, _ => False
theorem sOk_of {x : Str} (h1 : PyData.strOk x = true) (h2 : x.length ≤ 1000000) : sOk x = true := by
  unfold sOk; rw [h1, decide_eq_true h2]; rfl
theorem sOk_1 {x : Str} (h : sOk x = true) : PyData.strOk x = true := by
  unfold sOk at h; rw [Bool.and_eq_true] at h; exact h.1
theorem sOk_2 {x : Str} (h : sOk x = true) : x.length ≤ 1000000 := by
  unfold sOk at h; rw [Bool.and_eq_true] at h; exact of_decide_eq_true h.2
theorem app_len (a b : Str) : (a ++ b).length = a.length + b.length := by
  show (a.cps ++ b.cps).size = _
  rw [Array.size_append]; rfl
theorem sOk_app {a b : Str} (h1 : sOk a = true) (h2 : sOk b = true) (hl : a.length + b.length ≤ 100000) : sOk (a ++ b) = true := by
  refine sOk_of ?_ (by rw [app_len]; omega)
  show (a.cps ++ b.cps).all _ = true
  rw [Array.all_append]
  exact Bool.and_eq_true _ _ ▸ ⟨sOk_1 h1, sOk_1 h2⟩
theorem od_add : OpD X (binaryOp .Add) dAdd := by
  refine OpR.ofD (OpR.or (OpR.or op_add op_add_str) (OpR.or op_cat op_catA)) ?_
  intro F G H σ ρ vx vy x y P Q r hx hy h k
  cases hx with
  | int i =>
    cases hy with
    | int j => exact .inl (.inl ⟨i, j, rfl, rfl, k _ _ _ _ h .rfl (r.push (.int _))⟩)
    | _ => exact h.elim
  | str a oa =>
    cases hy with
    | str b ob => exact .inl (.inr ⟨a, b, rfl, rfl, Nat.le_trans h.1 (by decide), k _ _ _ _ h.2 .rfl (r.push (.str _ (sOk_app oa ob h.1)))⟩)
    | _ => exact h.elim
  | lst g t =>
    cases hy with
    | lst g2 t2 => exact .inr (.inl ⟨_, _, _, _, rfl, rfl, r.gh _ _ g, r.gh _ _ g2, by rw [t.len, t2.len]; exact Nat.le_trans h.1 (by decide), fun p hp => k _ _ _ _ h.2 .rfl (r.lst hp (t.app t2))⟩)
    | _ => exact h.elim
  | @tup a us xs g t =>
    cases hy with
    | @tup b ws ys g2 t2 =>
      refine .inr (.inr ⟨_, _, _, _, rfl, rfl, sqT_ex r.gh g, sqT_ex r.gh g2, by rw [t.len, t2.len]; exact Nat.le_trans h.1 (by decide), fun e => ?_, fun _ e => ?_, fun _ _ p hp => ?_⟩)
      · subst e; cases t
        exact k _ _ _ _ h.2 .rfl (r.push (.tup g2 t2))
      · subst e; cases t2
        exact k _ _ _ _ h.2 .rfl (r.push (.tup g (by rw [List.append_nil]; exact t)))
      · obtain ⟨e2, r2, d2⟩ := r.tup hp (t.app t2)
        exact k _ _ _ _ h.2 e2 (r2.push d2)
    | _ => exact h.elim
  | non => exact h.elim
  | bl => exact h.elim
  | dic => exact h.elim
  | ins => exact h.elim
  | nd => exact h.elim
  | exc0 => exact h.elim
  | exc1 => exact h.elim
/-- a list so many times -/
def reps (xs : List D) (k : Int) : List D := (List.replicate k.toNat xs).flatten
theorem DdL.reps {K : PySem.W.Frag} {G : Hp} {us : List V} {xs : List D} (t : DdL K G us xs) (n : Nat) : DdL K G (List.replicate n us).flatten (List.replicate n xs).flatten := by
  induction n with
  | zero => exact .nil
  | succ n ih => rw [List.replicate_succ, List.replicate_succ, List.flatten_cons, List.flatten_cons]; exact t.app ih
def dRel (c : Int → Int → Bool) : RO := fun x y P => match x, y with
  | .int i, .int j => P (.d (.bl (c i j)))
  | _, _ => False
theorem od_rel {op : CmpOp} {c : Int → Int → Bool} (h0 : OpR X (compareOp op) (rI0 fun i j => .bl (c i j))) : OpD X (compareOp op) (dRel c) := by
  refine OpR.ofD h0 ?_
  intro F G H σ ρ vx vy x y P Q r hx hy h k
  cases hx with
  | int i =>
    cases hy with
    | int j => exact ⟨i, j, rfl, rfl, k _ _ _ _ h .rfl (r.push (.bl _))⟩
    | _ => exact h.elim
  | _ => exact h.elim
abbrev dGt : RO := dRel fun i j => decide (j < i)
theorem od_gt : OpD X (compareOp .Gt) dGt := od_rel op_gt
def dEq : RO := fun x y P => ok 60 x = true ∧ ok 60 y = true ∧ P (.d (.bl (eqD x y)))
def dNe : RO := fun x y P => ok 60 x = true ∧ ok 60 y = true ∧ P (.d (.bl (!eqD x y)))
theorem od_eq (hr : Room k X.A) : OpD X (compareOp .Eq) dEq := by
  refine OpR.ofD (op_eqD hr.units) ?_
  intro F G H σ ρ vx vy x y P Q r hx hy ⟨h1, h2, h⟩ k
  obtain ⟨p1, p2, p3⟩ := hx.py r.gh h1
  obtain ⟨q1, q2, q3⟩ := hy.py r.gh h2
  exact ⟨_, _, p1, q1, shaped_of p2 p3 (by decide), shaped_of q2 q3 (by decide), k _ _ _ _ h .rfl (r.push (.bl _))⟩
theorem od_ne (hr : Room k X.A) : OpD X (compareOp .NotEq) dNe := by
  refine OpR.ofD (op_neD hr.units) ?_
  intro F G H σ ρ vx vy x y P Q r hx hy ⟨h1, h2, h⟩ k
  obtain ⟨p1, p2, p3⟩ := hx.py r.gh h1
  obtain ⟨q1, q2, q3⟩ := hy.py r.gh h2
  exact ⟨_, _, p1, q1, shaped_of p2 p3 (by decide), shaped_of q2 q3 (by decide), k _ _ _ _ h .rfl (r.push (.bl _))⟩
def isNon : D → Bool
  | .non => true
  | _ => false
theorem Dd.isNon {K : PySem.W.Frag} {G : Hp} {v : V} {x : D} (h : Dd K G v x) : decide (v = .non) = isNon x := by cases h <;> rfl
/-- x in a list or tuple of flat items; a text of one sign in a text -/
def flat : D → Bool
  | .non => true
  | .bl _ => true
  | .int _ => true
  | .str _ => true
  | _ => false
def inD (x : D) (ys : List D) : Bool := ys.any fun y => eqD y x
theorem Dd.flatV {K : PySem.W.Frag} {G : Hp} {v : V} {x : D} (h : Dd K G v x) (f : flat x = true) : flatV v = true := by cases h <;> first | rfl | cases f
theorem DdL.flatV {K : PySem.W.Frag} {G : Hp} : ∀ {us : List V} {xs : List D}, DdL K G us xs → xs.all flat = true → us.all L2.flatV = true
  | _, _, .nil, _ => rfl
  | _, _, .cons a t, h => by
    rw [List.all_cons, Bool.and_eq_true] at h
    rw [List.all_cons, a.flatV h.1, DdL.flatV t h.2]; rfl
theorem Dd.eqV {K : PySem.W.Frag} {G : Hp} {v u : V} {x y : D} (hv : Dd K G v x) (hu : Dd K G u y) (f1 : flat x = true) (f2 : flat y = true) : eqV v u = eqD x y := by
  cases hv <;> first | exact Bool.noConfusion (show (false = true) from f1) | (cases hu <;> first | exact Bool.noConfusion (show (false = true) from f2) | rfl)
theorem DdL.inV {K : PySem.W.Frag} {G : Hp} {v : V} {x : D} (hv : Dd K G v x) (f : flat x = true) : ∀ {us : List V} {xs : List D}, DdL K G us xs → xs.all flat = true → inV v us = inD x xs
  | _, _, .nil, _ => rfl
  | _, _, .cons a t, h => by
    rw [List.all_cons, Bool.and_eq_true] at h
    have ih := DdL.inV hv f t h.2
    unfold L2.inV inD at ih ⊢
    rw [List.any_cons, List.any_cons, a.eqV hv h.1 f, ih]
def sign1 (x : Str) : Option Nat := match x.cps.toList with
  | [c] => some c
  | _ => none
theorem sign1_of {x : Str} {c : Nat} (h : sign1 x = some c) : x = ⟨#[c]⟩ := by
  obtain ⟨⟨l⟩⟩ := x
  unfold sign1 at h
  match l, h with
  | [c'], h => cases h; rfl
def inSeq (x : D) : D → Option Bool
  | .lst ys => if flat x && ys.all flat then some (inD x ys) else none
  | .tup ys => if flat x && ys.all flat then some (inD x ys) else none
  | .str z => match x with
    | .str y => (sign1 y).map fun c => decide (c ∈ z.cps.toList)
    | _ => none
  | _ => none
def dIn : RO := fun x y P => ∃ b, inSeq x y = some b ∧ P (.d (.bl b))
def dNotIn : RO := fun x y P => ∃ b, inSeq x y = some b ∧ P (.d (.bl (!b)))
theorem inGo {F : Fr} {G H : Hp} {σ : St} {ρ : Env'} {vx vy : V} {x y : D} {Q : VK} {b neg : Bool} (r : R X.K F G H σ ρ) (hx : Dd X.K G vx x) (hy : Dd X.K G vy y) (h : inSeq x y = some b) (k : Q (.bl (if neg then !b else b)) H) :
    rIn X.K neg vx vy H Q ∨ ∃ (c : Nat) (z : Str), vx = .str ⟨#[c]⟩ ∧ vy = .str z ∧ Q (.bl (if neg then !decide (c ∈ z.cps.toList) else decide (c ∈ z.cps.toList))) H := by
  cases hy with
  | @lst _ _ ys g t =>
    have h : (if flat x && ys.all flat then some (inD x ys) else none) = some b := h
    split at h
    · rename_i c
      rw [Bool.and_eq_true] at c
      cases h
      exact .inl ⟨_, _, rfl, .inl (.of (r.gh _ _ g)), hx.flatV c.1, t.flatV c.2, by rw [t.inV hx c.1 c.2]; exact k⟩
    · cases h
  | @tup _ _ ys g t =>
    have h : (if flat x && ys.all flat then some (inD x ys) else none) = some b := h
    split at h
    · rename_i c
      rw [Bool.and_eq_true] at c
      cases h
      exact .inl ⟨_, _, rfl, .inr (sqT_ex r.gh g), hx.flatV c.1, t.flatV c.2, by rw [t.inV hx c.1 c.2]; exact k⟩
    · cases h
  | str z oz =>
    cases hx with
    | str y oy =>
      have h : (sign1 y).map (fun c => decide (c ∈ z.cps.toList)) = some b := h
      cases e : sign1 y with
      | none => rw [e] at h; cases h
      | some c =>
        rw [e] at h
        cases h
        rw [sign1_of e]
        exact .inr ⟨c, z, rfl, rfl, k⟩
    | _ => cases h
  | non => cases h
  | bl => cases h
  | int => cases h
  | dic => cases h
  | ins => cases h
  | nd => cases h
  | exc0 => cases h
  | exc1 => cases h
theorem od_in : OpD X (compareOp .In) dIn := by
  refine OpR.ofD (OpR.or op_in_seq op_in_sign) ?_
  intro F G H σ ρ vx vy x y P Q r hx hy ⟨b, h1, h⟩ k
  exact inGo (neg := false) r hx hy h1 (k _ _ _ _ h .rfl (r.push (.bl _)))
theorem od_notIn : OpD X (compareOp .NotIn) dNotIn := by
  refine OpR.ofD (OpR.or op_notIn_seq op_notIn_sign) ?_
  intro F G H σ ρ vx vy x y P Q r hx hy ⟨b, h1, h⟩ k
  exact inGo (neg := true) r hx hy h1 (k _ _ _ _ h .rfl (r.push (.bl _)))
end
/-- what is wanted behind a statement -/
structure DE where
  nx : Env' → Prop
  rt : Sl → Prop
  bk : Env' → Prop := fun _ => False
  ct : Env' → Prop := fun _ => False
abbrev ST := DE → Env' → Prop
abbrev GT := Sl → Env' → (Env' → Prop) → Prop

structure Wants (K : PySem.W.Frag) (F : Fr) (G : Hp) (D : Ends) (E : DE) : Prop where
  nx : ∀ σ ρ G' H', E.nx ρ → Ex G G' → R K F G' H' σ ρ → D.nx σ H'
  bk : ∀ σ ρ G' H', E.bk ρ → Ex G G' → R K F G' H' σ ρ → D.bk σ H'
  ct : ∀ σ ρ G' H', E.ct ρ → Ex G G' → R K F G' H' σ ρ → D.ct σ H'
  rt : ∀ r v σ ρ G' H', E.rt r → Ex G G' → R K F G' H' (some v :: σ) (r :: ρ) → D.rt v H'
def liftS (K : PySem.W.Frag) (t : ST) : TS := fun D σ H => ∃ F G ρ E, R K F G H σ ρ ∧ t E ρ ∧ Wants K F G D E
theorem Wants.up {K : PySem.W.Frag} {F : Fr} {G G' : Hp} {D : Ends} {E : DE} (w : Wants K F G D E) (e : Ex G G') : Wants K F G' D E :=
  ⟨fun σ ρ G2 H2 h x r => w.nx σ ρ G2 H2 h (e.tr x) r, fun σ ρ G2 H2 h x r => w.bk σ ρ G2 H2 h (e.tr x) r, fun σ ρ G2 H2 h x r => w.ct σ ρ G2 H2 h (e.tr x) r, fun s v σ ρ G2 H2 h x r => w.rt s v σ ρ G2 H2 h (e.tr x) r⟩

section
variable {X : Cx} {K : PySem.W.Frag} {F : Fr} {G G' H H' : Hp} {σ : St} {ρ : Env'} {pos : Pos} {e : Expr} {st : Stmt} {rest : List Stmt} {t u : ST} {te : ET} {tc : TTd}
theorem psImp {t t' : TS} (h : PS X st t) (i : ∀ D σ H, t' D σ H → t D σ H) : PS X st t' := ⟨fun pins s σ H D I q => h.run pins s σ H D I (i _ _ _ q)⟩
theorem pssImp {t t' : TS} {st : List Stmt} (h : PSs X st t) (i : ∀ D σ H, t' D σ H → t D σ H) : PSs X st t' := ⟨fun pins s σ H D I q => h.run pins s σ H D I (i _ _ _ q)⟩
theorem piImp {tg : Expr} {t t' : TI} (h : PI X tg e t) (i : ∀ σ H Q, t' σ H Q → t σ H Q) : PI X tg e t' := ⟨fun pins s σ H Q I q => h.run pins s σ H Q I (i _ _ _ q)⟩

def dNext : ST := fun E ρ => E.nx ρ
def dSeq (t u : ST) : ST := fun E ρ => t { E with nx := u E } ρ
theorem liftS_seq {D : Ends} {E : DE} (w : Wants K F G D E) : Wants K F G { D with nx := liftS K u D } { E with nx := u E } :=
  ⟨fun σ ρ G' H' h e r => ⟨F, G', ρ, E, r, h, w.up e⟩, w.bk, w.ct, w.rt⟩
theorem dss_nil : PSs X [] (liftS X.K dNext) := pssImp pss_nil fun D σ H ⟨F, G, ρ, E, r, h, w⟩ => w.nx _ _ _ _ h .rfl r
theorem dss_cons (h1 : PS X st (liftS X.K t)) (h2 : PSs X rest (liftS X.K u)) : PSs X (st :: rest) (liftS X.K (dSeq t u)) :=
  pssImp (pss_cons h1 h2) fun D σ H ⟨F, G, ρ, E, r, h, w⟩ => ⟨F, G, ρ, _, r, h, liftS_seq w⟩
theorem dss_one (h1 : PS X st (liftS X.K t)) : PSs X [st] (liftS X.K t) := pss_one h1
def dRet (te : ET) : ST := fun E ρ => te ρ fun s _ => E.rt s
theorem ds_ret (he : PE X e (lift X.K te)) : PS X (.Return (some e) pos) (liftS X.K (dRet te)) :=
  psImp (ps_ret he) fun D σ H ⟨F, G, ρ, E, r, h, w⟩ => goE r h fun x ρ1 v G1 H1 h1 e1 r1 => w.rt _ _ _ _ _ _ h1 e1 r1
def dIfS (c : TTd) (t u : ST) : ST := fun E ρ => c ρ fun b ρ1 => if b = true then t E ρ1 else u E ρ1
theorem ds_if {a b : List Stmt} {c : Expr} (hc : PT X c (liftT X.K tc)) (ha : PSs X a (liftS X.K t)) (hb : PSs X b (liftS X.K u)) : PS X (.If c a b pos) (liftS X.K (dIfS tc t u)) :=
  psImp (ps_if hc ha hb) fun D σ H ⟨F, G, ρ, E, r, h, w⟩ => goT r h fun b ρ1 G1 H1 h1 e1 r1 => by
    cases b with
    | true => exact ⟨F, G1, ρ1, E, r1, h1, w.up e1⟩
    | false => exact ⟨F, G1, ρ1, E, r1, h1, w.up e1⟩

/-- g0, the target's reading below, does what gd says of the data; it stores at the slots is alone -/
structure Tgt (K : PySem.W.Frag) (g0 : TG) (gd : GT) (is : List Nat) : Prop where
  up : ∀ {F : Fr} {G H : Hp} {σ : St} {ρ : Env'} {v : V} {s : Sl} {P : Env' → Prop} {Q : St → Hp → Prop}, R K F G H (some v :: σ) (s :: ρ) → gd s ρ P →
    (∀ σ' ρ' G' H', P ρ' → Ex G G' → R K F G' H' σ' ρ' → (∀ vs, (∀ i ∈ is, i ∈ vs) → wipe σ' vs = wipe σ vs) → Q σ' H') → g0 v σ H Q
def gNm (i : Nat) : GT := fun s ρ P => i < ρ.length ∧ P (ρ.set i s)
theorem wipe_set {σ : St} {i : Nat} {x : Option V} : ∀ {vs : List Nat}, i ∈ vs → wipe (σ.set i x) vs = wipe σ vs
  | v :: vs, h => by
    show (wipe (σ.set i x) vs).set v none = (wipe σ vs).set v none
    by_cases q : i ∈ vs
    · rw [wipe_set q]
    · have e : v = i := by
        rcases List.mem_cons.mp h with h | h
        · exact h.symm
        · exact absurd h q
      subst e
      have key : ∀ {ws : List Nat}, v ∉ ws → wipe (σ.set v x) ws = (wipe σ ws).set v x := by
        intro ws
        induction ws with
        | nil => intro _; rfl
        | cons w ws ih =>
          intro hn
          show (wipe (σ.set v x) ws).set w none = ((wipe σ ws).set w none).set v x
          rw [ih (fun m => hn (List.mem_cons_of_mem _ m)), List.set_comm _ _ (fun e => hn (by rw [e]; exact List.mem_cons_self ..))]
      rw [key q, List.set_set]
theorem tgt_name (i : Nat) : Tgt K (gName i) (gNm i) [i] :=
  ⟨fun {F G H σ ρ v s P Q} r ⟨hi, p⟩ k => k _ _ _ _ p .rfl (r.put i hi) fun vs h => wipe_set (h i (by simp))⟩
/-- several targets -/
structure Tgts (K : PySem.W.Frag) (g0 : TGs) (n : Nat) (gd : List D → Env' → (Env' → Prop) → Prop) (is : List Nat) : Prop where
  up : ∀ {F : Fr} {G H : Hp} {σ : St} {ρ : Env'} {us : List V} {xs : List D} {P : Env' → Prop} {Q : St → Hp → Prop}, R K F G H σ ρ → DdL K G us xs → xs.length = n → gd xs ρ P →
    (∀ σ' ρ' G' H', P ρ' → Ex G G' → R K F G' H' σ' ρ' → (∀ vs, (∀ i ∈ is, i ∈ vs) → wipe σ' vs = wipe σ vs) → Q σ' H') → g0 us σ H Q
def gNil' : List D → Env' → (Env' → Prop) → Prop := fun _ ρ P => P ρ
def gCons' (g : GT) (gs : List D → Env' → (Env' → Prop) → Prop) : List D → Env' → (Env' → Prop) → Prop := fun xs ρ P => match xs with
  | x :: r => g (.d x) ρ fun ρ1 => gs r ρ1 P
  | [] => False
theorem tgts_nil : Tgts K gNil 0 gNil' [] :=
  ⟨fun {F G H σ ρ us xs P Q} r d hl h k => by
    cases d with
    | nil => exact ⟨rfl, k _ _ _ _ h .rfl r fun _ _ => rfl⟩
    | cons _ _ => cases hl⟩
theorem tgts_cons {g0 : TG} {gd : GT} {is js : List Nat} {gs0 : TGs} {n : Nat} {gs : List D → Env' → (Env' → Prop) → Prop} (h1 : Tgt K g0 gd is) (h2 : Tgts K gs0 n gs js) : Tgts K (gCons g0 gs0) (n + 1) (gCons' gd gs) (is ++ js) :=
  ⟨fun {F G H σ ρ us xs P Q} r d hl h k => by
    cases d with
    | nil => cases hl
    | cons a t =>
      refine ⟨_, _, rfl, h1.up (r.push a) h fun σ1 ρ1 G1 H1 p1 e1 r1 w1 => ?_⟩
      exact h2.up r1 (t.ex e1) (by simpa using hl) p1 fun σ2 ρ2 G2 H2 p2 e2 r2 w2 => k _ _ _ _ p2 (e1.tr e2) r2 fun vs hv => (w2 vs fun i hi => hv i (List.mem_append_right _ hi)).trans (w1 vs fun i hi => hv i (List.mem_append_left _ hi))⟩
def gTp (n : Nat) (gs : List D → Env' → (Env' → Prop) → Prop) : GT := fun s ρ P => ∃ xs, s.dat = some (.tup xs) ∧ xs.length = n ∧ gs xs ρ P
theorem tgt_tup {gs0 : TGs} {n : Nat} {gs : List D → Env' → (Env' → Prop) → Prop} {is : List Nat} (h : Tgts K gs0 n gs is) : Tgt K (gTup K n gs0) (gTp n gs) is :=
  ⟨fun {F G H σ ρ v s P Q} r ⟨xs, hs, hl, p⟩ k => by
    obtain ⟨G1, e1, d1, r1⟩ := r.frz hs
    cases d1 with
    | tup g t => exact ⟨_, _, rfl, sqT_ex r1.gh g, by rw [t.len]; exact hl, h.up r1 t hl p fun σ' ρ' G' H' a b c d => k σ' ρ' G' H' a (e1.tr b) c d⟩⟩
def dAsg (te : ET) (gd : GT) : ST := fun E ρ => te ρ fun s ρ1 => gd s ρ1 E.nx
theorem ds_set {i : Nat} {x : Str} {pos' : Pos} (hN : X.N.Nodup) (hi : X.N[i]? = some x) (hx : Loc X.env.scope x) (he : PE X e (lift X.K te)) (hs : swapsWith e (some (.Name x pos')) pos.line X.env = pure false := by rfl)
    (hf : X.fn x = true ∨ X.env.scope.names.lookup x = some .local := by first | exact .inl rfl | exact .inr rfl | assumption) : PS X (.Assign [.Name x pos'] e pos) (liftS X.K (dAsg te (gNm i))) :=
  psImp (ps_set hN hi hx he hs hf) fun D σ H ⟨F, G, ρ, E, r, q, w⟩ => goE r q fun x ρ1 v G1 H1 q1 e1 r1 => (tgt_name i).up r1 q1 fun σ' ρ' G' H' p e2 r2 _ => w.nx _ _ _ _ p (e1.tr e2) r2

def pend : Sl → Bool
  | .d _ => true
  | .ld _ => true
  | .ol _ => true
  | .od _ _ => true
  | .src => true
  | .sr2 => true
  | .xt _ => true
  | _ => false
theorem upd_self {H : Hp} {p : Addr} {o : HO} (h : H p = some o) : upd H p o = H := by
  funext b
  by_cases e : b = p
  · subst e; rw [upd_same, h]
  · rw [upd_ne e]
theorem R.pushLd {p : Addr} {o : HO} {x : D} (r : R K F G H σ ρ) (a : LdOk K G o x) (h0 : F.H0 p = some o) (h1 : ¬ InSrc F p) (h2 : ¬ InSelf F p) : R K F G H (some (.ref p) :: σ) (.ld x :: ρ) := by
  obtain ⟨os, hs, nd, f⟩ := r.sl
  exact ⟨r.gg, r.gh, r.fr, r.nw, r.th, r.sr, r.kp, r.nm, _, .cons (.ld a h0 h1 h2) hs, nd, f⟩
theorem R.pend {v : V} {s : Sl} (r : R K F G H (some v :: σ) (s :: ρ)) (hs : pend s = true) : ∃ F', R K F' G H σ ρ ∧ ∀ {G' H' σ' ρ'}, Ex G G' → R K F' G' H' σ' ρ' → R K F G' H' (some v :: σ') (s :: ρ') := by
  cases s with
  | d x =>
    obtain ⟨G1, e1, d1, _⟩ := r.frz (x := x) rfl
    obtain ⟨os, h, nd, f⟩ := r.sl
    cases h with
    | cons a t =>
      cases a with
      | d a => exact ⟨F, r.pop, fun e r' => r'.push (a.ex e)⟩
  | src =>
    obtain ⟨os, h, nd, f⟩ := r.sl
    cases h with
    | cons a t =>
      cases a with
      | src a => exact ⟨F, r.pop, fun e r' => r'.pushSrc a⟩
  | sr2 =>
    obtain ⟨os, h, nd, f⟩ := r.sl
    cases h with
    | cons a t =>
      cases a with
      | sr2 a => exact ⟨F, r.pop, fun e r' => r'.pushSr2 a⟩
  | ld x =>
    obtain ⟨os, h, nd, f⟩ := r.sl
    cases h with
    | cons a t =>
      cases a with
      | ld a h0 h1 h2 => exact ⟨F, r.pop, fun e r' => r'.pushLd (a.ex e) h0 h1 h2⟩
  | ol xs =>
    obtain ⟨p, us, rfl, h1, h2, r', h3, h4⟩ := r.aside
    refine ⟨_, r', fun {G' H' σ' ρ'} e q => ?_⟩
    have hp : H' p = some (.lst us) := (q.kp (p, .lst us) (by simp [Fr.aside])).1.plain
    have z := q.unset h3 h4 (fun _ z => nomatch z) (s := .ol xs) (o' := .lst us) (.ol upd_same (h2.ex e) h3)
    rwa [upd_self hp] at z
  | od ks vs =>
    obtain ⟨p, us, rfl, h1, h2, h5, h6, r', h3, h4⟩ := r.asideD
    refine ⟨_, r', fun {G' H' σ' ρ'} e q => ?_⟩
    have hp : H' p = some (.dK (ks.zip us)) := (q.kp (p, .dK (ks.zip us)) (by simp [Fr.aside])).1.plain
    have z := q.unset h3 h4 (fun _ z => nomatch z) (s := .od ks vs) (o' := .dK (ks.zip us)) (.od upd_same h2 h5 (h6.ex e) h3)
    rwa [upd_self hp] at z
  | no => cases hs
  | on _ _ _ _ _ => cases hs
  | xt x =>
    obtain ⟨p, o, rfl, h1, h2, r', h3, h4⟩ := r.asideX
    refine ⟨_, r', fun {G' H' σ' ρ'} e q => ?_⟩
    have hp : H' p = some o := (q.kp (p, o) (by simp [Fr.aside])).1.plain h2.nt
    have z := q.unset h3 h4 (fun so z => h2.nf _ _ z) (s := .xt x) (o' := o) (.xt upd_same (h2.grow e) h3)
    rwa [upd_self hp] at z
  | oi _ _ _ => cases hs
  | bi _ _ _ => cases hs
  | gr _ _ => cases hs
  | pk _ _ => cases hs
abbrev BT := Env' → (List Sl → Env' → Prop) → Prop
def liftB (K : PySem.W.Frag) (t : BT) : TA := fun σ H Q => ∃ F G ρ P, R K F G H σ ρ ∧ t ρ P ∧
  ∀ ss ρ' vs G' H', P ss ρ' → Ex G G' → R K F G' H' (vs.map some ++ σ) (ss ++ ρ') → vs.length = ss.length → Q vs H'
def bNil : BT := fun ρ P => P [] ρ
theorem dab_nil : PA X [] (liftB X.K bNil) := paImp pa_nil fun σ H Q ⟨F, G, ρ, P, r, h, k⟩ => k [] ρ [] G H h .rfl r rfl
/-- a value as data (what is owned is given away), the source as it is -/
def Sl.arg : Sl → Option Sl
  | .src => some .src
  | .sr2 => some .sr2
  | .ld x => some (.ld x)
  | s => s.dat.map Sl.d
def bArg (te : ET) (ta : BT) : BT := fun ρ P => te ρ fun s ρ1 => ∃ s', s.arg = some s' ∧ ta ρ1 fun ss ρ2 => P (s' :: ss) ρ2
theorem dab_arg {es : List Expr} {ta : BT} (he : PE X e (lift X.K te)) (hr : PA X es (liftB X.K ta)) (hs : starEach (e :: es) X.env = (false, eval e X.env) :: starEach es X.env := by rfl) : PA X (e :: es) (liftB X.K (bArg te ta)) :=
  paImp (pa_cons he hr hs) fun σ H Q ⟨F, G, ρ, P, r, h, k⟩ => goE r h fun s ρ1 v G1 H1 ⟨s', h0, h1⟩ e1 r1 => by
    have dat : ∀ {x : D}, s.dat = some x → s' = .d x → liftB X.K ta σ H1 fun vs H2 => Q (v :: vs) H2 := fun {x} hx hs' => by
      subst hs'
      obtain ⟨G2, e2, d2, r2⟩ := r1.frz hx
      exact ⟨F, G2, ρ1, _, r2, h1, fun ss ρ2 vs G3 H3 h3 e3 r3 hl => k (.d x :: ss) ρ2 (v :: vs) G3 H3 h3 ((e1.tr e2).tr e3) (r3.push (d2.ex e3)) (by simp [hl])⟩
    cases s with
    | src =>
      cases h0
      obtain ⟨F', r2, f⟩ := r1.pend rfl
      exact ⟨F', G1, ρ1, _, r2, h1, fun ss ρ2 vs G2 H2 h2 e2 r3 hl => k (.src :: ss) ρ2 (v :: vs) G2 H2 h2 (e1.tr e2) (f e2 r3) (by simp [hl])⟩
    | sr2 =>
      cases h0
      obtain ⟨F', r2, f⟩ := r1.pend rfl
      exact ⟨F', G1, ρ1, _, r2, h1, fun ss ρ2 vs G2 H2 h2 e2 r3 hl => k (.sr2 :: ss) ρ2 (v :: vs) G2 H2 h2 (e1.tr e2) (f e2 r3) (by simp [hl])⟩
    | ld x =>
      cases h0
      obtain ⟨F', r2, f⟩ := r1.pend rfl
      exact ⟨F', G1, ρ1, _, r2, h1, fun ss ρ2 vs G2 H2 h2 e2 r3 hl => k (.ld x :: ss) ρ2 (v :: vs) G2 H2 h2 (e1.tr e2) (f e2 r3) (by simp [hl])⟩
    | d x => cases h0; exact dat rfl rfl
    | ol x => cases h0; exact dat rfl rfl
    | od x y => cases h0; exact dat rfl rfl
    | oi x y z => cases h0; exact dat rfl rfl
    | no => cases h0
    | on _ _ _ _ _ => cases h0
    | xt _ => cases h0
    | bi x y z => cases h0
    | gr _ _ => cases h0
    | pk _ _ => cases h0
/-- what is walked gives xs, one by one -/
def WalkD (K : PySem.W.Frag) (J : It) (G : Hp) (xs : List D) : Prop := ∃ (Gp : Hp → Prop) (Y : Nat → Hp → V → Hp → Prop), Walk J xs.length Gp Y ∧ (∀ {F G' H σ ρ}, Ex G G' → R K F G' H σ ρ → Gp H) ∧
  ∀ {F G' H H' σ ρ i x}, Ex G G' → R K F G' H σ ρ → Y i H x H' → i < xs.length → ∃ d G'', xs[i]? = some d ∧ Ex G' G'' ∧ R K F G'' H' (some x :: σ) (.d d :: ρ)
def liftI (K : PySem.W.Frag) (t : AT) : TI := fun σ H Q => ∃ F G ρ P, R K F G H σ ρ ∧ t ρ P ∧ ∀ xs ρ' G' H' J, P xs ρ' → Ex G G' → R K F G' H' σ ρ' → WalkD K J G' xs → Q J H'
theorem walkD_list {a : Addr} {us : List V} {xs : List D} (h : G a = some (.lst us)) (d : DdL K G us xs) : WalkD K (Itl K a) G xs :=
  ⟨fun H => SqL K H a us, YAt us, by rw [← d.len]; exact walk_list, fun e r => SqL.of (r.gh _ _ (e _ _ h)), fun {F G' H H' σ ρ i x} e r ⟨y1, y2⟩ hi => by
    subst y1
    obtain ⟨z, e1, e2⟩ := d.get' y2
    exact ⟨z, G', e1, .rfl, r.push (e2.ex e)⟩⟩
theorem walkD_tup {a : Addr} {us : List V} {xs : List D} (h : SqT K G a us) (d : DdL K G us xs) : WalkD K (Itt K a) G xs :=
  ⟨fun H => SqT K H a us, YAt us, by rw [← d.len]; exact walk_tup, fun e r => sqT_ex r.gh (sqT_ex e h), fun {F G' H H' σ ρ i x} e r ⟨y1, y2⟩ hi => by
    subst y1
    obtain ⟨z, e1, e2⟩ := d.get' y2
    exact ⟨z, G', e1, .rfl, r.push (e2.ex e)⟩⟩
/-- the ints 0 to n - 1 -/
def upto (n : Int) : List D := (List.range n.toNat).map fun i => .int (i : Nat)
theorem walkD_range (n : Int) : WalkD K (Itr 0 n.toNat) G (upto n) :=
  ⟨fun _ => True, YFn fun i => .int (0 + i), by unfold upto; rw [List.length_map, List.length_range]; exact walk_range, fun _ _ => trivial, fun {F G' H H' σ ρ i x} e r ⟨y1, y2⟩ hi => by
    subst y1 y2
    have hi : i < n.toNat := by unfold upto at hi; simpa using hi
    refine ⟨.int (i : Nat), G', by simp [upto, hi], .rfl, ?_⟩
    show R K F G' H' (some (V.int (0 + (i : Int))) :: σ) (.d (.int (i : Nat)) :: ρ)
    rw [show (0 : Int) + (i : Int) = ((i : Nat) : Int) by omega]
    exact r.push (.int _)⟩
/-- a text's signs -/
def signs (z : Str) : List D := z.cps.toList.map fun c => .str ⟨#[c]⟩
theorem strOk_sign {z : Str} {c i : Nat} (h : sOk z = true) (e : z.cps[i]? = some c) : sOk ⟨#[c]⟩ = true := by
  refine sOk_of ?_ (by show (1 : Nat) ≤ 1000000; decide)
  have h := sOk_1 h
  unfold PyData.strOk at h ⊢
  have := Array.all_eq_true'.mp h c (Array.mem_of_getElem? e)
  simpa using this
theorem walkD_str {z : Str} (ho : sOk z = true) : WalkD K (Its z) G (signs z) :=
  ⟨fun _ => True, fun i H v H' => H' = H ∧ ∃ c, z.cps[i]? = some c ∧ v = .str ⟨#[c]⟩, by unfold signs; rw [List.length_map, Array.length_toList]; exact walk_str, fun _ _ => trivial, fun {F G' H H' σ ρ i x} e r ⟨y1, c, y2, y3⟩ hi => by
    subst y1 y3
    exact ⟨.str ⟨#[c]⟩, G', by simp [signs, y2], .rfl, r.push (.str _ (strOk_sign ho y2))⟩⟩
/-- numbered -/
def numbered (xs : List D) : List D := xs.mapIdx fun i x => .tup [.int (i : Nat), x]
theorem walkD_enum {a : Addr} {us : List V} {xs : List D} (h : SqL K G a us) (d : DdL K G us xs) : WalkD K (Ite K a) G (numbered xs) :=
  ⟨fun H => SqL K H a us, YPair (fun i => some (.int (i : Nat))) (fun i => us[i]?), by unfold numbered; rw [List.length_mapIdx, ← d.len]; exact walk_enum, fun e r => sqL_ex r.gh (sqL_ex e h), fun {F G' H H' σ ρ i x} e r ⟨T, y, z, y1, y2, y3, y4, y5⟩ hi => by
    subst y1 y3
    cases y4
    obtain ⟨w, e1, e2⟩ := d.get' y5
    obtain ⟨e3, r3, d3⟩ := r.tup (us := [.int (i : Nat), z]) (xs := [.int (i : Nat), w]) y2 (.cons (.int _) (.cons (e2.ex e) .nil))
    exact ⟨.tup [.int (i : Nat), w], _, by simp [numbered, e1], e3, r3.push d3⟩⟩
def iR (ta : AT) : AT := fun ρ P => ta ρ fun ys ρ1 => ∃ n : Int, ys = [.int n] ∧ (-1000000 < n ∧ n < 1000000) ∧ P (upto n) ρ1
variable {tg : Expr}
theorem di_range {a : Expr} {ta : AT} {p : Pos} (hg : Gl X "range") (hm : X.mg "range" = none) (ha : PA X [a] (liftA X.K ta)) (hs : starEach [a] X.env = [(false, eval a X.env)] := by rfl) : PI X tg (.Call (.Name "range" p) [a] [] pos) (liftI X.K (iR ta)) :=
  piImp (pi_range1 hg hm ha hs) fun σ H Q ⟨F, G, ρ, P, r, h, k⟩ => goA r h fun ys ρ1 vs G1 H1 ⟨n, hy, hn, h1⟩ e1 r1 d1 => by
    subst hy
    cases d1 with
    | cons a t =>
      cases t
      cases a
      exact ⟨n, rfl, by omega, by omega, k _ _ _ _ _ h1 e1 r1 (walkD_range n)⟩
def loopS (gd : GT) (tb : ST) (E : DE) : List D → Env' → Prop
  | [], ρ => E.nx ρ
  | x :: xs, ρ => gd (.d x) ρ fun ρ' => tb { E with nx := loopS gd tb E xs, ct := loopS gd tb E xs, bk := E.nx } ρ'
def dFor (ti : AT) (gd : GT) (tb : ST) : ST := fun E ρ => ti ρ fun xs ρ1 => loopS gd tb E xs ρ1
theorem drop_cons {α : Type} {xs : List α} {i : Nat} {x : α} (h : xs[i]? = some x) : xs.drop i = x :: xs.drop (i + 1) := by
  obtain ⟨hl, e⟩ := List.getElem?_eq_some_iff.mp h
  rw [List.drop_eq_getElem_cons hl, e]
theorem ds_for {iter : Expr} {body : List Stmt} {ti : AT} {g0 : TG} {gd : GT} {is : List Nat} {tb : ST} (hp : PassesOwn (model X.prog X.w) X.A X.env X.xe) (hc : X.calm = true) (hi : PI X tg iter (liftI X.K ti)) (hg : PG X tg g0) (ht : Tgt X.K g0 gd is) (hb : PSs X body (liftS X.K tb)) (hs : ∀ x, foldedSetIterable iter X.env x = pure x := by intro _; rfl) :
    PS X (.For tg iter body [] pos) (liftS X.K (dFor ti gd tb)) :=
  psImp (ps_for hp hc hi hg hb hs) fun D σ H ⟨F, G, ρ, E, r, h, w⟩ => ⟨F, G, ρ, _, r, h, fun xs ρ1 G1 H1 J h1 e1 r1 ⟨Gp, Y, wk, wg, wy⟩ => by
    refine for_it wk (fun i σ' H' => ∃ G' ρ', Ex G1 G' ∧ R X.K F G' H' σ' ρ' ∧ loopS gd tb E (xs.drop i) ρ') ⟨G1, ρ1, .rfl, r1, h1⟩ (fun i σ' H' _ ⟨G', ρ', e, r', _⟩ => wg e r') (fun i x σ' H' H2 hi ⟨G', ρ', e, r', l⟩ y => ?_) fun σ' H' ⟨G', ρ', e, r', l⟩ => ?_
    · obtain ⟨d, G2, ed, e2, r2⟩ := wy e r' y hi
      rw [drop_cons ed] at l
      refine ht.up r2 l fun σ3 ρ3 G3 H3 p3 e3 r3 _ => ⟨F, G3, ρ3, _, r3, p3, ⟨fun σ4 ρ4 G4 H4 q e4 r4 => ⟨G4, ρ4, ((e.tr e2).tr e3).tr e4, r4, q⟩, fun σ4 ρ4 G4 H4 q e4 r4 => w.nx _ _ _ _ q (e1.tr (((e.tr e2).tr e3).tr e4)) r4, fun σ4 ρ4 G4 H4 q e4 r4 => ⟨G4, ρ4, ((e.tr e2).tr e3).tr e4, r4, q⟩, fun s v σ4 ρ4 G4 H4 q e4 r4 => w.rt _ _ _ _ _ _ q (e1.tr (((e.tr e2).tr e3).tr e4)) r4⟩⟩
    · rw [List.drop_length] at l
      exact w.nx _ _ _ _ l (e1.tr e) r'⟩
def wipeD (ρ : Env') : List Nat → Env'
  | [] => ρ
  | v :: vs => (wipeD ρ vs).set v .no
theorem R.wipe (r : R K F G H σ ρ) : ∀ vs : List Nat, R K F G H (wipe σ vs) (wipeD ρ vs)
  | [] => r
  | v :: vs => by
    have q := (R.wipe r vs).forget v
    by_cases hv : v < (wipeD ρ vs).length
    · exact q.any (by rw [List.getElem?_set_self hv])
    · show R K F G H ((L2.wipe σ vs).set v none) _
      rw [List.set_eq_of_length_le (by have := (R.wipe r vs).len; omega)]
      exact q
theorem wipeD_len (ρ : Env') : ∀ vs : List Nat, (wipeD ρ vs).length = ρ.length
  | [] => rfl
  | v :: vs => by show ((wipeD ρ vs).set v .no).length = _; rw [List.length_set, wipeD_len ρ vs]
theorem wipeD_no {ρ : Env'} : ∀ {vs : List Nat} {i : Nat}, i ∈ vs → i < ρ.length → (wipeD ρ vs)[i]? = some .no
  | v :: vs, i, h, hl => by
    show ((wipeD ρ vs).set v .no)[i]? = _
    by_cases e : v = i
    · subst e; rw [List.getElem?_set_self (by rw [wipeD_len]; exact hl)]
    · rw [List.getElem?_set_ne e]
      exact wipeD_no (by rcases List.mem_cons.mp h with h | h; exact absurd h.symm e; exact h) hl
/-- back: slots that were wiped may hold what they held -/
theorem R.unwipe : ∀ {vs : List Nat} {σ : St}, R K F G H (L2.wipe σ vs) ρ → (∀ i ∈ vs, i < ρ.length → ρ[i]? = some .no) → R K F G H σ ρ
  | [], σ, r, _ => r
  | v :: vs, σ, r, h => by
    have hl : (L2.wipe σ (v :: vs)).length = σ.length := wipe_length σ _
    by_cases hv : v < ρ.length
    · have q := r.any (v := (L2.wipe σ vs)[v]?.join) (h v (by simp) hv)
      have e : (L2.wipe σ (v :: vs)).set v ((L2.wipe σ vs)[v]?.join) = L2.wipe σ vs := by
        show ((L2.wipe σ vs).set v none).set v _ = _
        rw [List.set_set]
        have hv2 : v < (L2.wipe σ vs).length := by rw [wipe_length]; have := r.len; rw [hl] at this; omega
        rw [List.getElem?_eq_getElem hv2]
        exact List.set_getElem_self hv2
      rw [e] at q
      exact R.unwipe q fun i hi => h i (by simp [hi])
    · have e : L2.wipe σ (v :: vs) = L2.wipe σ vs := by
        show (L2.wipe σ vs).set v none = _
        exact List.set_eq_of_length_le (by rw [wipe_length]; have := r.len; rw [hl] at this; omega)
      rw [e] at r
      exact R.unwipe r fun i hi => h i (by simp [hi])
abbrev dYes : TTd := fun ρ P => P true ρ
theorem dts_nil : PTs X [] (liftT X.K dYes) := ⟨fun pins s σ H Q I ⟨F, G, ρ, P, r, h, k⟩ => (pts_nil (X := X)).run pins s σ H Q I (k _ _ _ _ h .rfl r)⟩
theorem wipe_comm (v : Nat) : ∀ (ws : List Nat) (τ : St), L2.wipe (τ.set v none) ws = (L2.wipe τ ws).set v none
  | [], _ => rfl
  | w :: ws, τ => by
    show (L2.wipe (τ.set v none) ws).set w none = ((L2.wipe τ ws).set w none).set v none
    rw [wipe_comm v ws]
    by_cases q : w = v
    · subst q; rfl
    · rw [List.set_comm _ _ (Ne.symm q)]
theorem wipe_wipe : ∀ (vs : List Nat) (σ : St), L2.wipe (L2.wipe σ vs) vs = L2.wipe σ vs
  | [], _ => rfl
  | v :: vs, σ => by
    show (L2.wipe ((L2.wipe σ vs).set v none) vs).set v none = (L2.wipe σ vs).set v none
    rw [wipe_comm, wipe_wipe vs, List.set_set]
def loopC (gd : GT) (tt : TTd) (te : ET) (vs : List Nat) (P : Sl → Env' → Prop) : List D → List D → Env' → Prop
  | [], acc, ρ => P (.ol acc) ρ
  | x :: xs, acc, ρ => gd (.d x) ρ fun ρ1 => tt ρ1 fun b ρ2 => if b = true then te ρ2 fun s ρ3 => ∃ y, s.dat = some y ∧ acc.length < 1000000 ∧ loopC gd tt te vs P xs (acc ++ [y]) (wipeD ρ3 vs) else loopC gd tt te vs P xs acc (wipeD ρ2 vs)
def dLc (ti : AT) (gd : GT) (tt : TTd) (te : ET) (vs : List Nat) : ET := fun ρ P => ti ρ fun xs ρ1 => loopC gd tt te vs P xs [] (wipeD ρ1 vs)
theorem lcGo {ti : AT} {g0 : TG} {gd : GT} {is vs : List Nat} {tt : TTd} {Q : VK} (ht : Tgt K g0 gd is) (hv : ∀ i ∈ is, i ∈ vs) {P : Sl → Env' → Prop} (r : R K F G H σ ρ) (h : dLc ti gd tt te vs ρ P)
    (k : ∀ s ρ' v G' H', P s ρ' → Ex G G' → R K F G' H' (some v :: σ) (s :: ρ') → Q v H') : tLc (liftI K ti) g0 (liftT K tt) (lift K te) vs σ H Q :=
  ⟨F, G, ρ, _, r, h, fun xs ρ1 G1 H1 J h1 e1 r1 ⟨Gp, Y, wk, wg, wy⟩ => fun Dl hD => by
    refine lc_it wk (fun i H' => ∃ G' ρ' us acc, Ex G1 G' ∧ H' Dl = some (.lst us) ∧ DdL K G' us acc ∧ R K (F.aside Dl (.lst us)) G' H' (L2.wipe σ vs) ρ' ∧ F.H0 Dl = none ∧ ¬ InSrc F Dl ∧ (∀ i ∈ vs, i < ρ'.length → ρ'[i]? = some .no) ∧ loopC gd tt te vs P (xs.drop i) acc ρ') ?_ (fun i H' _ ⟨G', ρ', us, acc, e, _, _, r', _⟩ => wg e r') (fun i x H' H2 hi ⟨G', ρ', us, acc, e, hd, da, r', n1, n2, nv, l⟩ y => ?_) fun H' ⟨G', ρ', us, acc, e, hd, da, r', n1, n2, nv, l⟩ => ?_
    · have r2 := (r1.wipe vs).lst (us := []) hD .nil
      obtain ⟨p, us, ep, h3, h4, r3, n1, n2⟩ := r2.aside
      cases ep
      rw [upd_same] at h3
      cases h3
      exact ⟨G1, _, [], [], .rfl, upd_same, .nil, r3, n1, n2, fun i hi hl => wipeD_no hi (by rw [wipeD_len] at hl; exact hl), h1⟩
    · obtain ⟨d, G2, ed, e2, r2⟩ := wy e r' y hi
      rw [drop_cons ed] at l
      refine ht.up r2 l fun σ3 ρ3 G3 H3 p3 e3 r3 w3 => ⟨?_, ?_⟩
      · rw [w3 vs hv]
        exact wipe_wipe vs σ
      · have w4 : L2.wipe σ3 vs = L2.wipe σ vs := by
          rw [w3 vs hv]
          exact wipe_wipe vs σ
        refine goT r3 p3 fun b ρ4 G4 H4 q4 e4 r4 => ?_
        have back : ∀ {G5 H5 us5} {ρ5 : Env'}, R K (F.aside Dl (.lst us5)) G5 H5 σ3 ρ5 → R K (F.aside Dl (.lst us5)) G5 H5 (L2.wipe σ vs) (wipeD ρ5 vs) := fun {G5 H5 us5 ρ5} z => by
          have := z.wipe vs
          rwa [w4] at this
        cases b with
        | true =>
          refine goD r4 q4 fun z ρ5 v G5 H5 ⟨hz, q5⟩ e5 r5 d5 => ?_
          have kp := r5.kp (Dl, .lst us) (by simp [Fr.aside])
          refine ⟨us, kp.1.plain, by rw [da.len]; exact Nat.lt_of_lt_of_le hz (by decide), G5, wipeD ρ5 vs, us ++ [v], acc ++ [z], (((e.tr e2).tr e3).tr e4).tr e5, upd_same, ((da.ex (((e2.tr e3).tr e4).tr e5))).app (.cons d5 .nil), ?_, n1, n2, fun i hi hl => wipeD_no hi (by rw [wipeD_len] at hl; exact hl), q5⟩
          have r6 := back r5
          have r7 := r6.unset (o' := .lst (us ++ [v])) (s := .ol (acc ++ [z])) n1 n2 (fun _ z => nomatch z) (.ol upd_same ((da.ex (((e2.tr e3).tr e4).tr e5)).app (.cons d5 .nil)) n1)
          obtain ⟨p, us', ep, h3, h4, r8, _, _⟩ := r7.aside
          cases ep
          rw [upd_same] at h3
          cases h3
          exact r8
        | false =>
          have kp := r4.kp (Dl, .lst us) (by simp [Fr.aside])
          exact ⟨G4, wipeD ρ4 vs, us, acc, ((e.tr e2).tr e3).tr e4, kp.1.plain, da.ex ((e2.tr e3).tr e4), back r4, n1, n2, fun i hi hl => wipeD_no hi (by rw [wipeD_len] at hl; exact hl), q4⟩
    · rw [List.drop_length] at l
      have r7 := r'.unset (o' := .lst us) (s := .ol acc) n1 n2 (fun _ z => nomatch z) (.ol upd_same da n1)
      rw [upd_self hd] at r7
      refine k _ _ _ _ _ l (e1.tr e) ?_
      obtain ⟨F', r8, f⟩ := r7.pend rfl
      exact f .rfl (R.unwipe r8 nv)⟩
end
/-- what a def does: of its arguments (data, the source) what it may give -/
abbrev FT := List Sl → (Sl → Prop) → Prop
def argOk : Sl → Bool
  | .d _ => true
  | .src => true
  | .sr2 => true
  | .ld _ => true
  | _ => false
/-- the promise: the data stay, new ones come, the source is drawn from, nothing else changes -/
def spD (K : PySem.W.Frag) (n : Nat) (f : FT) : Sp := fun vs H Q _ => ∃ G src ss P, R K ⟨G, H, src, none, []⟩ G H (vs.map some) ss ∧ ss.all argOk = true ∧ ss.length = n ∧ f ss P ∧
  ∀ r v G' H', P r → Ex G G' → R K ⟨G, H, src, none, []⟩ G' H' [some v] [r] → Q v H'

section
variable {K : PySem.W.Frag} {F : Fr} {G G' H H' : Hp} {σ τ : St} {ρ ss : Env'} {os : List Addr}
theorem Sls.args (h : Sls K F G H σ ρ os) (a : ρ.all argOk = true) : os = [] := by
  induction h with
  | nil => rfl
  | @cons v s σ ρ os ps x t ih =>
    rw [List.all_cons, Bool.and_eq_true] at a
    rw [ih a.2]
    cases x <;> first | rfl | cases a.1
theorem Sls.split {ss : Env'} : ∀ {τ : St} {os : List Addr}, Sls K F G H (τ ++ σ) (ss ++ ρ) os → τ.length = ss.length → ∃ o1 o2, os = o1 ++ o2 ∧ Sls K F G H τ ss o1 ∧ Sls K F G H σ ρ o2 := by
  induction ss with
  | nil =>
    intro τ os h hl
    obtain rfl : τ = [] := List.length_eq_zero_iff.mp hl
    exact ⟨[], os, rfl, .nil, h⟩
  | cons s ss ih =>
    intro τ os h hl
    match τ, hl with
    | v :: τ, hl =>
      cases h with
      | cons a t =>
        obtain ⟨o1, o2, e, h1, h2⟩ := ih t (by simpa using hl)
        subst e
        exact ⟨_, o2, (List.append_assoc ..).symm, .cons a h1, h2⟩
/-- a call: what the callee wants to see -/
theorem R.enter (r : R K F G H (τ ++ σ) (ss ++ ρ)) (hl : τ.length = ss.length) (ha : ss.all argOk = true) : R K ⟨G, H, F.src, none, []⟩ G H τ ss := by
  have fr0 := r.fr
  obtain ⟨os, h, nd, f⟩ := r.sl
  obtain ⟨o1, o2, rfl, h1, h2⟩ := h.split hl
  have e := h1.args ha
  subst e
  have is : ∀ b, InSrc ⟨G, H, F.src, none, []⟩ b → InSrc F b := fun b m => by
    rcases m with m | ⟨o, m⟩
    · exact .inl m
    · cases m
  have h3 : Sls K ⟨G, H, F.src, none, []⟩ G H τ ss [] := by
    clear h h2 f nd hl r
    generalize ho : ([] : List Addr) = os at h1
    induction h1 with
    | nil => exact .nil
    | @cons v s σ ρ os ps x t ih =>
      rw [List.all_cons, Bool.and_eq_true] at ha
      have hp : os = [] ∧ ps = [] := by simpa using ho.symm
      obtain ⟨rfl, rfl⟩ := hp
      refine .cons (os := []) (ps := []) ?_ (ih ha.2 rfl)
      have key : ∀ {o : List Addr}, SlOk K F G H v s o → argOk s = true → SlOk K ⟨G, H, F.src, none, []⟩ G H v s [] := by
        intro o x ha
        cases x with
        | no => exact .no _
        | d h => exact .d h
        | src h => exact .src h
        | sr2 h => exact .sr2 h
        | ld h h0 h1 h2 => exact .ld h (fr0 _ _ h0 h1 h2) (fun m => h1 (is _ m)) (fun ⟨_, _, z, _⟩ => by cases z)
        | _ => cases ha
      exact key x ha.1
  refine ⟨.rfl, r.gh, fun b o e _ _ => e, fun b o e => .inl e, fun b hb => ?_, fun a c e => r.sr a c e, fun q hq => (by cases hq), r.nm, [], h3, List.nodup_nil, by simp⟩
  rcases hb with hb | ⟨a, c, e, _⟩
  · exact r.th b (.inl (is b hb))
  · cases e
/-- a call: what the caller has behind it -/
theorem R.leave {v : V} {s : Sl} (r : R K F G H σ ρ) (c : R K ⟨G, H, F.src, none, []⟩ G' H' [some v] [s]) (hn : s ≠ .no) (hl : ∀ x, s ≠ .ld x) : R K F G' H' (some v :: σ) (s :: ρ) := by
  obtain ⟨os, h, nd, f⟩ := r.sl
  obtain ⟨ps, hp, ndp, fp⟩ := c.sl
  have is : ∀ b, InSrc ⟨G, H, F.src, none, []⟩ b → InSrc F b := fun b m => by
    rcases m with m | ⟨o, m⟩
    · exact .inl m
    · cases m
  have keep : ∀ b o, H b = some o → ¬ InSrc ⟨G, H, F.src, none, []⟩ b → H' b = some o := fun b o e n => c.fr b o e n fun ⟨a, c, z, _⟩ => by cases z
  have gnone : ∀ b o, H b = some o → G b = none → G' b = none := fun b o e g => by
    cases q : G' b with
    | none => rfl
    | some u =>
      rcases c.nw b u q with z | z
      · have z : G b = some u := z
        rw [g] at z; cases z
      · exact absurd (show H b = none from z) (by rw [e]; simp)
  have eH : ∀ p ∈ os, H' p = H p := fun p hp => by
    obtain ⟨o, e⟩ := h.inH p hp
    rw [e]; exact keep p o e fun m => (f p hp).2 (is p m)
  cases hp with
  | @cons _ _ _ _ o1 o2 a t =>
    cases t
    rw [List.append_nil] at ndp fp
    have pn : ∀ p ∈ o1, H p = none := by
      cases a with
      | no => exact absurd rfl hn
      | d _ => simp
      | ol _ _ z => simpa using z
      | od _ _ _ _ z => simpa using z
      | oi _ _ _ _ z1 z2 => intro p hp; rcases (by simpa using hp : p = _ ∨ p = _) with rfl | rfl; exact z1; exact z2
      | bi _ _ _ _ z => cases z
      | src _ => simp
      | xt _ _ z => simpa using z
      | gr h => exact h.h0
      | pk h1 h2 => exact fun p hp => (List.mem_append.mp hp).elim (h1.h0 p) (h2.h0 p)
      | on _ _ _ _ _ _ _ _ z1 z2 => intro p hp; rcases (by simpa using hp : p = _ ∨ p = _) with rfl | rfl; exact z1; exact z2
      | sr2 _ => simp
      | ld _ _ _ _ => exact absurd rfl (hl _)
    have a2 : SlOk K F G' H' (some v) s o1 := by
      cases a with
      | no => exact .no _
      | d h => exact .d h
      | ol h1 h2 z => exact .ol h1 h2 (r.new z).2.1
      | od h1 h2 h3 h4 z => exact .od h1 h2 h3 h4 (r.new z).2.1
      | oi h1 h2 h3 h4 z1 z2 => exact .oi h1 h2 h3 h4 (r.new z1).2.1 (r.new z2).2.1
      | bi _ _ _ _ z => cases z
      | src h => exact .src h
      | xt h1 h2 z => exact .xt h1 h2 (r.new z).2.1
      | gr h => exact .gr (h.re fun p hp => (r.new (h.h0 p hp)).2.1)
      | pk h1 h2 => exact .pk (h1.re fun p hp => (r.new (h1.h0 p hp)).2.1) (h2.re fun p hp => (r.new (h2.h0 p hp)).2.1)
      | on h1 h2 h3 h4 h5 h6 h7 h8 z1 z2 => exact .on h1 h2 h3 h4 h5 h6 h7 h8 (r.new z1).2.1 (r.new z2).2.1
      | sr2 h => exact .sr2 h
      | ld _ _ _ _ => exact absurd rfl (hl _)
    refine ⟨r.gg.tr c.gg, c.gh, fun b o e n1 n2 => keep b o (r.fr b o e n1 n2) fun m => n1 (is b m), fun b o e => ?_, fun b hb => ?_, fun a c' e => c.sr a c' e, fun q hq => ?_, c.nm, _, .cons a2 (h.keep c.gg eH), ?_, fun p hp => ?_⟩
    · rcases c.nw b o e with z | z
      · exact r.nw b o z
      · exact .inr (r.new z).2.1
    · obtain ⟨o, e⟩ := r.th b hb
      by_cases m : InSrc ⟨G, H, F.src, none, []⟩ b
      · exact c.th b (.inl m)
      · exact ⟨o, keep b o e m⟩
    · obtain ⟨k1, k2, k3⟩ := r.kp q hq
      obtain ⟨o1, y1, _⟩ := k1.there
      refine ⟨k1.keep c.gg fun o z => keep _ _ z fun m => ?_, gnone _ _ y1 k2, k3⟩
      rcases m with ⟨a, c', e, m⟩ | ⟨o, m⟩
      · rcases m with m | m
        · exact (k3 a c' e).1 m
        · exact (k3 a c' e).2 m
      · cases m
    · refine List.nodup_append.mpr ⟨ndp, nd, fun x hx y hy e => ?_⟩
      subst e
      obtain ⟨o, q⟩ := h.inH x hy
      rw [pn x hx] at q; cases q
    · rcases List.mem_append.mp hp with m | m
      · exact ⟨(fp p m).1, (r.new (pn p m)).2.2.1⟩
      · obtain ⟨o, e⟩ := h.inH p m
        exact ⟨gnone p o e (f p m).1, (f p m).2⟩
theorem R.top {v : Option V} {s : Sl} (r : R K F G H (v :: σ) (s :: ρ)) : R K F G H [v] [s] := by
  obtain ⟨os, h, nd, f⟩ := r.sl
  cases h with
  | cons a t => exact ⟨r.gg, r.gh, r.fr, r.nw, r.th, r.sr, r.kp, r.nm, _, .cons a .nil, by rw [List.append_nil]; exact (List.nodup_append.mp nd).1, fun p hp => f p (List.mem_append_left _ (by simpa using hp))⟩
/-- slots that are not yet known -/
theorem R.more (r : R K F G H σ ρ) (n : Nat) : R K F G H (σ ++ List.replicate n none) (ρ ++ List.replicate n .no) := by
  obtain ⟨os, h, nd, f⟩ := r.sl
  have key : ∀ {σ : St} {ρ : Env'} {os : List Addr}, Sls K F G H σ ρ os → Sls K F G H (σ ++ List.replicate n none) (ρ ++ List.replicate n .no) os := fun {σ ρ os} h => by
    induction h with
    | nil =>
      show Sls K F G H (List.replicate n none) (List.replicate n .no) []
      clear nd f h r
      induction n with
      | zero => exact .nil
      | succ n ih => exact .cons (os := []) (.no _) ih
    | cons a t ih => exact .cons a ih
  exact ⟨r.gg, r.gh, r.fr, r.nw, r.th, r.sr, r.kp, r.nm, os, key h, nd, f⟩
end

def noNo : Sl → Bool
  | .no => false
  | .bi _ _ _ => false
  | .src => false
  | .sr2 => false
  | .on _ _ _ _ _ => false
  | .ld _ => false
  | _ => true
section
variable {P : Program} {w : World} {K : PySem.W.Frag} {mg : Str → Option Value} {base : Heap}
/-- the body's data reading, from the arguments -/
def Body (N : List Str) (n : Nat) (t : ST) (f : FT) : Prop := ∀ ss P, ss.all argOk = true → ss.length = n → f ss P →
  t { nx := fun _ => P (.d .non), rt := fun r => noNo r = true ∧ P r } (ss ++ List.replicate (N.length - n) .no)
theorem liftS_start {N : List Str} {n : Nat} {t : ST} {f : FT} (hb : Body N n t f) {vs : List V} {H : Hp} {Q : VK} {E : XK} (h : spD K n f vs H Q E) : liftS K t { nx := fun _ H' => Q .non H', rt := Q } (start N vs) H := by
  obtain ⟨G, src, ss, P, r, ha, hl, hf, k⟩ := h
  have e : vs.length = n := by have := r.len; rw [List.length_map] at this; omega
  refine ⟨_, G, _, _, ?_, hb ss _ ha hl hf, ⟨fun σ ρ G' H' hP e r' => k _ _ _ _ hP e (r'.push .non).top, fun σ ρ G' H' z => z.elim, fun σ ρ G' H' z => z.elim, fun s v σ ρ G' H' hP e r' => k _ _ _ _ hP.2 e r'.top⟩⟩
  unfold L2.start
  rw [e]
  exact r.more _
end
section
variable {X : Cx} {k n : Nat} {f : Addr} {fd : FuncData} {ps : List Str} {ft : FT} {x : Str} {p pos : Pos} {e : Expr} {es : List Expr} {tb : BT}
/-- f(e, ..) of an own def -/
def dFn (ft : FT) (tb : BT) : ET := fun ρ P => tb ρ fun ss ρ1 => ss.all argOk = true ∧ ft ss fun r => noNo r = true ∧ P r ρ1
theorem pd_call (F : FnOk X.prog X.w X.K X.mg X.base CX0 k f fd ps (spD X.K n ft)) (hr : Room k X.A) (hg : Gl X x) (hm : X.mg x = some (.ref f)) (hk : PySem.W.keepIn X.K (.ref f) = true) (hb : Binds X.K fd ps []) (ha : PA X (e :: es) (liftB X.K tb))
    (hn : (e :: es).length = n := by rfl) (hdb : (x == ("__debug__" : Str)) = false := by decide) (he : starEach (e :: es) X.env = (false, eval e X.env) :: starEach es X.env := by rfl) (hpl : (backTo pos (starEach es X.env)).any (·.1) = false := by rfl) :
    PE X (.Call (.Name x p) (e :: es) [] pos) (lift X.K (dFn ft fun ρ P => tb ρ fun ss ρ1 => ss.length = n ∧ P ss ρ1)) :=
  peImp (pe_call F hr hg hm hk hb .nil pass0 ha hdb he hpl) fun σ H Q ⟨F, G, ρ, P, r, h, q⟩ => ⟨F, G, ρ, _, r, h, fun ss ρ1 vs G1 H1 ⟨hl, h0, h1⟩ e1 r1 l1 => by
    show spD X.K n ft (vs ++ []) H1 Q E0
    rw [List.append_nil]
    refine ⟨G1, F.src, ss, _, r1.enter (by rw [List.length_map]; exact l1) h0, h0, hl, h1, fun s v G2 H2 ⟨hs, hp⟩ e2 r2 => q _ _ _ _ _ hp (e1.tr e2) ?_⟩
    have r0 : R X.K F G1 H1 σ ρ1 := by
      clear h1 r2
      obtain ⟨os, h, nd, f⟩ := r1.sl
      obtain ⟨o1, o2, rfl, h3, h4⟩ := h.split (by rw [List.length_map]; exact l1)
      exact ⟨r1.gg, r1.gh, r1.fr, r1.nw, r1.th, r1.sr, r1.kp, r1.nm, _, h4, (List.nodup_append.mp nd).2.1, fun p hp => f p (List.mem_append_right _ hp)⟩
    exact r0.leave r2 (fun z => by rw [z] at hs; cases hs) (fun x z => by rw [z] at hs; cases hs)⟩
end
section
variable {X : Cx} {K : PySem.W.Frag} {F : Fr} {G G' H H' : Hp} {σ : St} {ρ : Env'} {pos : Pos} {e a b c : Expr} {te ta tb tcc : ET} {k : Nat}

theorem pd_lc {elt tg iter : Expr} {ifs : List Expr} {scope : Scope} {own : List (Str × Nat)} {ti : AT} {g0 : TG} {gd : GT} {is : List Nat} {tt : TTd} (hc : X.calm = true) (hN : X.N.Nodup) (hi : PI X tg iter (liftI X.K ti)) (ok : BlkOk X.N X.env.scope scope own)
    (hg : ∀ (s : Shared) (H : Hp) (C : Addr) (cl : List (Str × Addr)) (fp : List Addr), PG (X.blk s H scope (compEnvC scope cl C X.env) fp) tg g0) (ht : Tgt X.K g0 gd is) (hv : ∀ i ∈ is, i ∈ own.map (·.2))
    (hts : ∀ (s : Shared) (H : Hp) (C : Addr) (cl : List (Str × Addr)) (fp : List Addr), PTs (X.blk s H scope (compEnvC scope cl C X.env) fp) ifs (liftT X.K tt))
    (he : ∀ (s : Shared) (H : Hp) (C : Addr) (cl : List (Str × Addr)) (fp : List Addr), PE (X.blk s H scope (compEnvC scope cl C X.env) fp) elt (lift X.K te)) (hs : ∀ x, foldedSetIterable iter X.env x = pure x := by intro _; rfl) :
    PE X (.ListComp elt [⟨tg, iter, ifs, 0⟩] scope pos) (lift X.K (dLc ti gd tt te (own.map (·.2)))) :=
  peImp (pe_lc hc hN hi ok hg hts he hs) fun σ H Q ⟨F, G, ρ, P, r, h, k⟩ => lcGo ht hv r h k
def atD : D → Int → Option D
  | .lst xs, i => atI xs i
  | .tup xs, i => atI xs i
  | .str z, i => (atI z.cps.toList i).map fun c => .str ⟨#[c]⟩
  | _, _ => none
theorem DdL.atI {us : List V} {xs : List D} (d : DdL K G us xs) {i : Int} {x : D} (h : L2.atI xs i = some x) : ∃ v, L2.atI us i = some v ∧ Dd K G v x := by
  unfold L2.atI at h ⊢
  rw [d.len]
  cases e : ixN xs.length i with
  | none => rw [e] at h; cases h
  | some j =>
    rw [e] at h
    exact d.get h
def ixD (x : D) : D → Option D
  | .int i => atD x i
  | _ => none
def dIx (te ti : ET) : ET := fun ρ P => te ρ fun s ρ1 => ∃ x, s.dat = some x ∧ ti ρ1 fun s2 ρ2 => ∃ j, s2.dat = some j ∧ ∃ y, ixD x j = some y ∧ P (.d y) ρ2
theorem atI_str {z : Str} {i : Int} {c : Nat} (ho : sOk z = true) (h : atI z.cps.toList i = some c) : sOk ⟨#[c]⟩ = true := by
  unfold atI at h
  cases e : ixN z.cps.toList.length i with
  | none => rw [e] at h; cases h
  | some j => rw [e] at h; exact strOk_sign ho (i := j) (by simpa using h)
theorem pd_ix (ha : PE X a (lift X.K ta)) (hb : PE X b (lift X.K tb)) (hs : PlainIx b := by exact fun _ _ => rfl) : PE X (.Subscript a b pos) (lift X.K (dIx ta tb)) :=
  peImp (pe_ix ix_seq ha hb hs) fun σ H Q ⟨F, G, ρ, P, r, h, k⟩ => goD r h fun x ρ1 v G1 H1 h1 e1 r1 d1 => goD r1 h1 fun y ρ2 u G2 H2 h2 e2 r2 d2 => by
    obtain ⟨z, hz, p⟩ := h2
    have : ∃ i, y = .int i := by cases y <;> first | exact ⟨_, rfl⟩ | cases hz
    obtain ⟨i, rfl⟩ := this
    have hz : atD x i = some z := hz
    cases d2
    cases d1.ex e2 with
    | lst g t =>
      obtain ⟨w, w1, w2⟩ := t.atI hz
      exact .inl ⟨_, _, i, w, rfl, rfl, .of (r2.gh _ _ g), w1, k _ _ _ _ _ p (e1.tr e2) (r2.push w2)⟩
    | tup g t =>
      obtain ⟨w, w1, w2⟩ := t.atI hz
      exact .inr (.inl ⟨_, _, i, w, rfl, rfl, sqT_ex r2.gh g, w1, k _ _ _ _ _ p (e1.tr e2) (r2.push w2)⟩)
    | str s ho =>
      have hz : (atI s.cps.toList i).map (fun c => D.str ⟨#[c]⟩) = some z := hz
      cases e : atI s.cps.toList i with
      | none => rw [e] at hz; cases hz
      | some c =>
        rw [e] at hz
        cases hz
        exact .inr (.inr ⟨s, i, c, rfl, rfl, Nat.le_trans (sOk_2 ho) (by decide), e, k _ _ _ _ _ p (e1.tr e2) (r2.push (.str _ (atI_str ho e)))⟩)
    | non => cases hz
    | bl _ => cases hz
    | int _ => cases hz
    | dic _ _ _ _ => cases hz
    | ins _ _ _ _ => cases hz
    | nd _ => cases hz
    | exc0 _ => cases hz
    | exc1 _ _ _ _ => cases hz
theorem R.topInt {i : Int} {v : V} (r : R K F G H (some v :: σ) (.d (.int i) :: ρ)) : v = .int i := by
  obtain ⟨G', _, d, _⟩ := r.frz (x := .int i) rfl
  cases d; rfl
def cutD (xs : List D) (lo hi : Option Int) : List D := (xs.drop (HT.sIx xs.length 0 lo)).take (HT.sIx xs.length xs.length hi - HT.sIx xs.length 0 lo)
def slD (x : D) (lo hi : Option Int) : Option Sl := match x with
  | .lst xs => some (.ol (cutD xs lo hi))
  | .tup xs => some (.d (.tup (cutD xs lo hi)))
  | .str z => some (.d (.str (cutS z lo hi)))
  | _ => none
theorem CallR.ofD {f : Value} {r : List V → Hp → VK → Prop} {rc : RCd} (h : CallR X f r) (g : ∀ {F : Fr} {G H : Hp} {σ : St} {ρ : Env'} {vs : List V} {xs : List D} {P : Sl → Prop} {Q : VK},
    R X.K F G H σ ρ → DdL X.K G vs xs → rc xs P → (∀ s v G' H', P s → Ex G G' → R X.K F G' H' (some v :: σ) (s :: ρ) → Q v H') → r vs H Q) : CallD X f rc := ⟨r, h, g⟩
theorem DdL.one {vs : List V} {x : D} (d : DdL K G vs [x]) : ∃ v, vs = [v] ∧ Dd K G v x := by
  cases d with
  | cons a t => cases t; exact ⟨_, rfl, a⟩
theorem DdL.two {vs : List V} {x y : D} (d : DdL K G vs [x, y]) : ∃ v u, vs = [v, u] ∧ Dd K G v x ∧ Dd K G u y := by
  cases d with
  | cons a t => cases t with | cons b t => cases t; exact ⟨_, _, rfl, a, b⟩
def lenD : D → Option Nat
  | .lst xs => some xs.length
  | .tup xs => some xs.length
  | .str z => some z.length
  | .dic ks _ => some ks.length
  | _ => none
def cLen : RCd := fun xs P => ∃ x n, xs = [x] ∧ lenD x = some n ∧ P (.d (.int (n : Nat)))
theorem cd_len : CallD X (.builtin "len") cLen := by
  refine CallR.ofD (CallR.or call_len call_lenD) ?_
  intro F G H σ ρ vs xs P Q r d ⟨x, n, hx, hn, p⟩ k
  subst hx
  obtain ⟨v, rfl, dv⟩ := d.one
  have fin := k _ _ _ _ p .rfl (r.push (.int (n : Nat)))
  cases dv with
  | lst g t => cases hn; exact .inl ⟨_, _, rfl, .inl ⟨_, .of (r.gh _ _ g), t.len.symm⟩, fin⟩
  | tup g t => cases hn; exact .inl ⟨_, _, rfl, .inr ⟨_, sqT_ex r.gh g, t.len.symm⟩, fin⟩
  | str z ho => cases hn; exact .inl ⟨_, _, rfl, ⟨Nat.le_trans (sOk_2 ho) (by decide), rfl⟩, fin⟩
  | @dic _ ks us vs g hl _ t =>
    cases hn
    refine .inr ⟨_, _, rfl, r.gh _ _ g, ?_⟩
    rw [show ((ks.zip us).length : Int) = (ks.length : Nat) by rw [List.length_zip]; omega]
    exact fin
  | non => cases hn
  | bl _ => cases hn
  | int _ => cases hn
  | ins _ _ _ _ => cases hn
  | nd _ => cases hn
  | exc0 _ => cases hn
  | exc1 _ _ _ _ => cases hn
def seqD : D → Option (List D)
  | .lst xs => some xs
  | .tup xs => some xs
  | _ => none
theorem Dd.seq {v : V} {x : D} {xs : List D} (d : Dd K G v x) (h : seqD x = some xs) : ∃ a us, v = .ref a ∧ (SqL K G a us ∨ SqT K G a us) ∧ DdL K G us xs := by
  cases d with
  | lst g t => cases h; exact ⟨_, _, rfl, .inl (.of g), t⟩
  | tup g t => cases h; exact ⟨_, _, rfl, .inr g, t⟩
  | non => cases h
  | bl _ => cases h
  | int _ => cases h
  | str _ _ => cases h
  | dic _ _ _ _ => cases h
  | ins _ _ _ _ => cases h
  | nd _ => cases h
  | exc0 _ => cases h
  | exc1 _ _ _ _ => cases h
theorem DdL.bls : ∀ {bs : List Bool} {us : List V}, DdL K G us (bs.map D.bl) → us = bs.map V.bl
  | [], _, .nil => rfl
  | _ :: _, _, .cons a t => by cases a; rw [DdL.bls t]; rfl
/-- sorted of texts, of a list or of a dict's keys -/
def sortIn : D → Option (List Str)
  | .lst xs => xs.mapM fun x => match x with | .str s => some s | _ => none
  | .dic ks _ => ks.mapM fun x => match x with | .inr s => some s | _ => none
  | _ => none
def tyN : D → String
  | .non => "NoneType"
  | .bl _ => "bool"
  | .int _ => "int"
  | .str _ => "str"
  | .lst _ => "list"
  | .tup _ => "tuple"
  | .dic _ _ => "dict"
  | .ins _ _ _ => "object"
  | .nd _ => "object"
  | .exc _ _ _ => "object"
def isIns : D → Bool
  | .ins _ _ _ => true
  | .nd _ => true
  | .exc _ _ _ => true
  | _ => false
end
section
variable {X : Cx} {K : PySem.W.Frag} {F : Fr} {G G' H H' : Hp} {σ : St} {ρ : Env'} {pos : Pos} {e a b c : Expr} {te ta tb tcc : ET} {k : Nat}

def isT (T : String) (x : D) : Bool := tyN x == T || (tyN x == "bool" && T == "int")
theorem Dd.tyX {v : V} {x : D} (d : Dd K G v x) (gh : Ex G H) (hi : isIns x = false) : TyX K H v (.type (tyN x)) := by
  cases d with
  | non => exact .base .non
  | bl b => exact .base (.bl b)
  | int i => exact .base (.int i)
  | str s _ => exact .base (.str s)
  | lst g t => exact .base (.lst (gh _ _ g))
  | tup g t =>
    rcases g with (g | ⟨o, g⟩) | ⟨o, its, n, g1, g2, _⟩
    · exact .base (.tup (gh _ _ g))
    · exact .fTuple (gh _ _ g)
    · exact .kTuple g1 g2
  | dic g _ _ t => exact .base (.dK (gh _ _ g))
  | ins _ _ _ _ => cases hi
  | nd _ => cases hi
  | exc0 _ => cases hi
  | exc1 _ _ _ _ => cases hi
def keyD : D → Option Key
  | .int i => some (.inl i)
  | .str s => some (.inr s)
  | _ => none
theorem Dd.key {v : V} {x : D} {j : Key} (d : Dd K G v x) (h : keyD x = some j) : v = kV j := by
  cases d <;> first | (cases h; rfl) | cases h
def lkD : List Key → List D → Key → Option D
  | j :: ks, v :: vs, i => if j = i then some v else lkD ks vs i
  | _, _, _ => none
def putD : List Key → List D → Key → D → List Key × List D
  | j :: ks, v :: vs, i, x => if j = i then (j :: ks, x :: vs) else ((j :: (putD ks vs i x).1), (v :: (putD ks vs i x).2))
  | _, _, i, x => ([i], [x])
variable {i : Nat} {x : Str} {apos cpos p1 : Pos}
def strsOf : D → Option (List Str)
  | .lst xs => xs.mapM fun x => match x with | .str s => some s | _ => none
  | .tup xs => xs.mapM fun x => match x with | .str s => some s | _ => none
  | _ => none
end
section
variable {X : Cx} {K : PySem.W.Frag} {F : Fr} {G G' H H' : Hp} {σ τ : St} {ρ ss : Env'} {pos : Pos} {e a b o : Expr} {te ta tb : ET} {k n : Nat} {C f fa : Addr} {fd : FuncData} {ps ks : List Str} {ft : FT} {x m : Str} {p apos : Pos} {es : List Expr} {bb bk : BT} {kws : List Keyword}

def lkF : List Str → List D → Str → Option D
  | j :: ns, v :: vs, i => if i = j then some v else lkF ns vs i
  | _, _, _ => none
theorem lkF_of : ∀ {ns : List Str} {us : List V} {vs : List D} {i : Str}, ns.length = us.length → DdL K G us vs → (∀ x, lkF ns vs i = some x → ∃ v, (ns.zip us).lookup i = some v ∧ Dd K G v x) ∧ (lkF ns vs i = none → (ns.zip us).lookup i = none)
  | [], [], [], i, _, .nil => ⟨fun x h => (by cases h), fun _ => rfl⟩
  | j :: ns, u :: us, v :: vs, i, hl, .cons a t => by
    have ih := lkF_of (i := i) (by simpa using hl) t
    rw [List.zip_cons_cons, List.lookup_cons]
    by_cases e : i = j
    · subst e
      refine ⟨fun x h => ?_, fun h => ?_⟩
      · have h : (if i = i then some v else lkF ns vs i) = some x := h
        rw [if_pos rfl] at h
        cases h
        exact ⟨u, by simp, a⟩
      · have h : (if i = i then some v else lkF ns vs i) = none := h
        rw [if_pos rfl] at h; cases h
    · have eb : (i == j) = false := beq_eq_false_iff_ne.mpr e
      refine ⟨fun x h => ?_, fun h => ?_⟩
      · have h : (if i = j then some v else lkF ns vs i) = some x := h
        rw [if_neg e] at h
        rw [eb]
        exact ih.1 x h
      · have h : (if i = j then some v else lkF ns vs i) = none := h
        rw [if_neg e] at h
        rw [eb]
        exact ih.2 h
def putN : List Str → List D → Str → D → List Str × List D
  | j :: ns, v :: vs, i, x => if j = i then (j :: ns, x :: vs) else ((j :: (putN ns vs i x).1), (v :: (putN ns vs i x).2))
  | _, _, i, x => ([i], [x])
def insOf (C : Addr) : D → Option (List Str × List D)
  | .ins C' ns vs => if C' = C then some (ns, vs) else none
  | _ => none
theorem Dd.insOf {v : V} {x : D} {ns : List Str} {vs : List D} (d : Dd K G v x) (h : insOf C x = some (ns, vs)) : ∃ a dx us, v = .ref a ∧ x = .ins C ns vs ∧ G a = some (.ins C dx (ns.zip us)) ∧ ns.length = us.length ∧ DdL K G us vs := by
  cases d with
  | @ins a C' dx ns' us vs' g hl _ t =>
    have h : (if C' = C then some (ns', vs') else none) = some (ns, vs) := h
    by_cases e : C' = C
    · rw [if_pos e] at h
      cases h; subst e
      exact ⟨a, dx, us, rfl, rfl, g, hl, t⟩
    · rw [if_neg e] at h; cases h
  | _ => cases h
theorem R.rest (r : R K F G H (τ ++ σ) (ss ++ ρ)) (hl : τ.length = ss.length) : R K F G H σ ρ := by
  obtain ⟨os, h, nd, f⟩ := r.sl
  obtain ⟨o1, o2, rfl, h3, h4⟩ := h.split hl
  exact ⟨r.gg, r.gh, r.fr, r.nw, r.th, r.sr, r.kp, r.nm, _, h4, (List.nodup_append.mp nd).2.1, fun p hp => f p (List.mem_append_right _ hp)⟩
/-- __init__'s promise: the fields that it leaves -/
abbrev FI := List Sl → (List Str → List D → Prop) → Prop
end
section
variable {X : Cx} {K : PySem.W.Frag} {F : Fr} {G G' H H' : Hp} {σ τ : St} {ρ ss : Env'} {pos : Pos} {e a b o : Expr} {te ta tb : ET} {k n : Nat} {C f fa : Addr} {fd : FuncData} {ps ks : List Str} {ft : FT} {fi : FI} {x m : Str} {p apos : Pos} {es : List Expr} {bb bk : BT} {kws : List Keyword}
end
end Fl
namespace Fl
open PySem PySem.Spec PySem.W PyProof.Rows L2
/-- as FnOk, of a stack on which no repr waits -/
structure FnG (P : Program) (w : World) (K : PySem.W.Frag) (mg : Str → Option Value) (base : Heap) (k : Nat) (f : Addr) (fd : FuncData) (ps : List Str) (sp : Sp) : Prop where
  len : ∀ vs H Q E, sp vs H Q E → vs.length = ps.length
  run : ∀ (A : Around) (outer : List Env) (s : Shared) (H : Hp) (args : Args) (us : List Value) (vs : List V) (Q : VK) (E : XK), A.guards = some [] → Room k A → Env0 P w K mg base A outer s H →
    BindsTo s fd args (ps.zip us) → Vals vs us → sp vs H Q E → codeAny (model P w) A (.call (.ref f) args) (CR CX0 outer P w H s Q E) s
section
variable {P : Program} {w : World} {K : PySem.W.Frag} {mg : Str → Option Value} {base : Heap}
theorem deeper_guards (A : Around) (env : Env) : (A.deeper env).guards = A.guards := rfl
/-- a def by its body; no repr waits ahead of it -/
theorem fnG_of {x qual : Str} {st : Stmt} {f : Addr} {fd : FuncData} {N ps : List Str} {k : Nat} {sp : Sp} (F : Fun K x qual st f fd) (S : FnScope N ps (defScope st)) (len : ∀ vs H Q E, sp vs H Q E → vs.length = ps.length)
    (body : ∀ (cdv : Value) (A : Around) (outer : List Env) (s : Shared) (H : Hp) (vs : List V) (Q : VK) (E : XK), (A.deeper (envOfC qual (defScope st) s.heap.objs.size f cdv)).guards = some [] → Room k (A.deeper (envOfC qual (defScope st) s.heap.objs.size f cdv)) → sp vs H Q E →
      ∃ t, PSs (cxOf CX0 P w K mg base N qual (defScope st) f cdv A outer s H E).nox (defBody st) t ∧ t { nx := fun _ H' => Q .non H', rt := Q } (L2.start N vs) H) : FnG P w K mg base (k + 1) f fd ps sp := by
  obtain ⟨oc, od, kV, doc, pm, an, cdv, ct, osl, hfd, lk, hcd⟩ := F.ex
  constructor
  · exact len
  intro A outer s H args us vs Q E hg hr e0 hb r hsp
  have lens : vs.length = ps.length := len vs H Q E hsp
  have kin : K.In s.heap := (e0.mod.kin).keeps (fun b o z => (e0.bs b o z).left)
  have nolim : s.heap.NoLimit := (e0.mod.nolimit).keeps (fun b o z => (e0.bs b o z).left)
  subst hfd
  apply codeAny_call_function hr.depth (kin f _ lk) rfl S.co S.gen rfl (PySem.W.codeRec_of kin hcd)
  apply hb
  have kinds : ∀ y ∈ ps.zip us, (defScope st).names.lookup y.1 = some .local ∨ ((defScope st).names.lookup y.1 = some .cell ∧ ((cellsFrom (s.heap.objs.size + 1) (defScope st).names []).lookup y.1).isSome = true) := by
    rintro ⟨nm, val⟩ hy
    have hin : nm ∈ ps := (List.of_mem_zip hy).1
    exact (S.par nm hin).imp id fun q => ⟨q, PySem.W.cellsFrom_some _ _ _ (Or.inl q)⟩
  apply wpAny_newFunctionEnv_cells S.kind kinds
  rintro env rfl s1 hx
  constructor
  · exact nolim.keeps hx.toInCall.keep
  apply codeAny_func
  obtain ⟨t, ht, hq⟩ := body cdv A outer s H vs Q E (by rw [deeper_guards]; exact hg) (hr.deeper _) hsp
  have I0 : Inv (cxOf CX0 P w K mg base N qual (defScope st) f cdv A outer s H E) [] (L2.start N vs) H s1 := inv_start S hr.hd e0 lens r hx
  have run := (PSs.nox ht).run [] s1 (L2.start N vs) H { nx := fun _ H' => Q .non H', rt := Q } I0 hq
  apply wpAny_mono run
  · intro fl s' hs
    cases fl with
    | ret u =>
      obtain ⟨v, σ', H', J, rv, q⟩ := hs
      exact ⟨v, H', J.os, J.bare, J.base, J.hok, rv, q⟩
    | next =>
      obtain ⟨σ', H', J, q⟩ := hs
      exact ⟨V.non, H', J.os, J.bare, J.base, J.hok, rfl, q⟩
    | brk =>
      obtain ⟨_, _, _, q⟩ := hs
      cases q
    | cont =>
      obtain ⟨_, _, _, q⟩ := hs
      cases q
  · exact fun e s' z => z
theorem FnG.of {k : Nat} {f : Addr} {fd : FuncData} {ps : List Str} {sp : Sp} (F : FnOk P w K mg base CX0 k f fd ps sp) : FnG P w K mg base k f fd ps sp := ⟨F.len, fun A outer s H args us vs Q E _ hr e hb r h => F.run A outer s H args us vs Q E hr e hb r h⟩
/-- the law's promise -/
def spLaw (K : PySem.W.Frag) : Sp := fun vs H Q _ => ∃ (a : Addr) (ns : List Int), vs = [.ref a] ∧ SqL K H a (ns.map V.int) ∧ ns.length ≤ 63 ∧ (∃ so, H sysModules = some (.frz so sysO)) ∧ ∀ H', Q (.bl true) H'

/-- what is tracked ahead of the law: the script (if the text itself has no such object), sys.modules' place -/
def lawH (so : Obj) (a : Addr) (o : Option HO) : Hp := fun b => if b = sysModules then some (.frz so sysO) else if b = a then o else none
theorem law_entry {mb : Str → Option Value} {k : Nat} {fa a : Addr} {fd : FuncData} {x : Str} {s₁ : Shared} {vs : List Value} {ns : List Int}
    (KX : K.In s₁.heap) (hns : s₁.heap.Ns mainGlobals mg) (hb : s₁.heap.Ns builtinsNs mb) (hbb : ∀ x : Str, x ≠ "__name__" → mb x = bootBuiltins x) (hlim : s₁.heap.NoLimit) (hg : s₁.gens = #[])
    (ha : s₁.heap.get? a = some { cls := .type "list", data := .seq vs.toArray }) (hi : IntsAre vs ns) (hl : ns.length ≤ 63) (hr : Room k callerA) (hsk : K.lookup sysModules = none)
    (hsy : ∃ mm, s₁.heap.Ns sysModules mm)
    (F : ∀ base : Heap, K.In base → base.Ns mainGlobals mg → FnG P w K mg base k fa fd [x] (spLaw K)) (hbind : ∀ (s : Shared) (u : Value), BindsTo s fd ⟨[u], []⟩ [(x, u)]) :
    codeAny (model P w) callerA (.call (.ref fa) ⟨[.ref a], []⟩) (fun r s' => r = .ok (.ret (.bool true)) ∧ OldK s₁.heap s'.heap ∧ s'.os = s₁.os ∧ AllBare s'.gens) s₁ := by
  have rv := L2.vals_ints hi
  have len : ns.length ≤ sizeLine := Nat.le_trans hl (by decide)
  obtain ⟨mm, om, em, pm, hom, dom, _⟩ := hsy
  have anm : a ≠ sysModules := fun e => by
    rw [e, hom] at ha
    cases ha
    cases (show PySem.Data.seq _ _ = PySem.Data.dict _ _ from dom)
  -- the heap that is told of: H, the script in it if the text does not hold it
  have main : ∀ o : Option HO, lawH om a o a = o → (∀ u, o = some u → u = .frz { cls := .type "list", data := .seq vs.toArray } (.lst (ns.map V.int)) ∧ K.lookup a = none) → SqL K (lawH om a o) a (ns.map V.int) →
      codeAny (model P w) callerA (.call (.ref fa) ⟨[.ref a], []⟩) (fun r s' => r = .ok (.ret (.bool true)) ∧ OldK s₁.heap s'.heap ∧ s'.os = s₁.os ∧ AllBare s'.gens) s₁ := by
    intro o hoa ho hS
    have at_ : ∀ b u, lawH om a o b = some u → (b = sysModules ∧ u = .frz om sysO) ∨ (b = a ∧ o = some u) := fun b u e => by
      unfold lawH at e
      by_cases q : b = sysModules
      · rw [if_pos q] at e; exact .inl ⟨q, (Option.some.inj e).symm⟩
      · rw [if_neg q] at e
        by_cases q2 : b = a
        · rw [if_pos q2] at e; exact .inr ⟨q2, e⟩
        · rw [if_neg q2] at e; cases e
    have un : ∀ {b : Addr}, b ≠ sysModules → (b = a → o = none) → lawH om a o b = none := fun {b} n1 n2 => by
      unfold lawH
      rw [if_neg n1]
      by_cases q2 : b = a
      · rw [if_pos q2]; exact n2 q2
      · rw [if_neg q2]
    have ok : HOk P w (lawH om a o) s₁.heap := fun b u e => by
      rcases at_ b u e with ⟨rfl, rfl⟩ | ⟨rfl, e2⟩
      · exact ⟨hom, ⟨om, hom⟩, ⟨om, hom⟩, fun h1 h2 ⟨o1, q1⟩ z => ⟨o1, z o1 q1⟩⟩
      · obtain ⟨rfl, _⟩ := ho u e2
        exact ⟨ha, by rw [List.length_map]; exact len, vs, _, rv, ha⟩
    -- what the text wrote is none of these
    have kN : ∀ b o', K.lookup b = some o' → lawH om a o b = none := fun b o' e => un (fun q => by rw [q, hsk] at e; cases e) fun q => by
      cases z : o with
      | none => rfl
      | some u => rw [q, (ho u z).2] at e; cases e
    have kB : K.In (hidT s₁.heap (lawH om a o)) := fun b o' e => hidT_get (KX b o' e) (kN b o' e)
    have nB : ∀ {b : Addr} {m : Str → Option Value}, b ≠ sysModules → s₁.heap.Ns b m → (hidT s₁.heap (lawH om a o)).Ns b m := fun {b m} n ⟨u, es, ep, e, d, r⟩ => by
      refine ⟨u, es, ep, hidT_get e (un n fun q => ?_), d, r⟩
      rw [q, ha] at e
      cases e
      cases (show PySem.Data.seq _ _ = PySem.Data.dict _ _ from d)
    have M : Mod K mg (hidT s₁.heap (lawH om a o)) := ⟨kB, nB (by decide) hns, ⟨mb, nB (by decide) hb, hbb⟩, let ⟨mc, h1, h2⟩ := hlim; ⟨mc, nB (by decide) h1, h2⟩⟩
    have E0 : Env0 P w K mg (hidT s₁.heap (lawH om a o)) callerA [] s₁ (lawH om a o) := ⟨rfl, M, fun b u e => of_hidT e, Nat.le_of_eq (hidT_size _ _), trivial, fun b z => absurd (show b ∈ ([] : List Addr) from z) (by simp), ok, .of_eq hg⟩
    refine codeAny_mono ((F _ kB (nB (by decide) hns)).run callerA [] s₁ (lawH om a o) ⟨[.ref a], []⟩ [.ref a] [.ref a] (fun v _ => v = .bl true) (fun _ _ _ => False) rfl hr E0 (hbind s₁ (.ref a)) (.cons rfl .nil) ⟨a, ns, rfl, hS, hl, ⟨om, if_pos rfl⟩, fun _ => rfl⟩) fun r s' z => ?_
    cases r with
    | error e => exact False.elim z
    | ok fl =>
      cases fl with
      | next => exact False.elim z
      | brk => exact False.elim z
      | cont => exact False.elim z
      | ret u =>
        obtain ⟨v, H', os, bare, keep, ok', ru, q⟩ := z
        subst q
        obtain rfl : u = Value.bool true := ru
        refine ⟨rfl, OldK.of_keep fun b u e => ?_, os, bare⟩
        cases z : lawH om a o b with
        | none => exact keep.keep b u e z (by intro q; exact absurd (show b ∈ ([] : List Addr) from q) (by simp)) (by simp)
        | some y =>
          have fz : ∃ t, y = .frz u t := by
            rcases at_ b y z with ⟨rfl, rfl⟩ | ⟨rfl, z2⟩
            · rw [hom] at e; cases e; exact ⟨_, rfl⟩
            · rw [ha] at e; cases e; exact ⟨_, (ho y z2).1⟩
          obtain ⟨t, rfl⟩ := fz
          exact (ok' b _ (keep.frzs b u t z)).1
  cases hk : K.lookup a with
  | some o =>
    have e := KX a o hk
    rw [ha] at e
    cases e
    exact main none (by unfold lawH; rw [if_neg anm, if_pos rfl]) (fun u e => nomatch e) (.inr ⟨_, vs.toArray, _, hk, rfl, rfl, rfl, by rw [List.size_toArray, hi.length]; exact len, by simpa using rv⟩)
  | none => exact main (some (.frz { cls := .type "list", data := .seq vs.toArray } (.lst (ns.map V.int)))) (by unfold lawH; rw [if_neg anm, if_pos rfl]) (fun u e => ⟨(Option.some.inj e).symm, hk⟩) (.inl (.inr ⟨_, by unfold lawH; rw [if_neg anm, if_pos rfl]⟩))
end
end Fl
namespace Fl
open PySem PySem.Spec L2
def keyR : Key → PyData
  | .inl i => .int i
  | .inr s => .str s
mutual
/-- data as repr sees them -/
def toR : D → PyData
  | .non => .none
  | .bl b => .bool b
  | .int i => .int i
  | .str s => .str s
  | .lst xs => .list (toRs xs)
  | .tup xs => .tuple (toRs xs)
  | .dic ks vs => .dict (toKv ks vs)
  | .ins _ _ _ => .none
  | .nd _ => .none
  | .exc _ _ _ => .none
def toRs : List D → List PyData
  | [] => []
  | x :: xs => toR x :: toRs xs
def toKv : List Key → List D → List (PyData × PyData)
  | k :: ks, x :: xs => (keyR k, toR x) :: toKv ks xs
  | _, _ => []
end
def keyWt : Key → Nat
  | .inl i => i.natAbs + 2
  | .inr s => 10 * s.length + 2
def keySk : Key → Bool
  | .inl _ => true
  | .inr s => PyData.strOk s
mutual
/-- no shorter than its repr -/
def wt : D → Nat
  | .non => 5
  | .bl _ => 5
  | .int i => i.natAbs + 2
  | .str s => 10 * s.length + 2
  | .lst xs => 3 + wts xs
  | .tup xs => 3 + wts xs
  | .dic ks vs => 3 + wtk ks vs
  | .ins _ _ _ => 0
  | .nd _ => 0
  | .exc _ _ _ => 0
def wts : List D → Nat
  | [] => 0
  | x :: xs => wt x + 2 + wts xs
def wtk : List Key → List D → Nat
  | k :: ks, x :: xs => keyWt k + 2 + wt x + 2 + wtk ks xs
  | _, _ => 0
end
mutual
/-- no instance within, at most n deep, keys of valid signs -/
def shw : Nat → D → Bool
  | _, .non => true
  | _, .bl _ => true
  | _, .int _ => true
  | _, .str s => PyData.strOk s
  | 0, _ => false
  | n + 1, .lst xs => shws n xs
  | n + 1, .tup xs => shws n xs
  | n + 1, .dic ks vs => ks.all keySk && shws n vs
  | _ + 1, .ins _ _ _ => false
  | _ + 1, .nd _ => false
  | _ + 1, .exc _ _ _ => false
def shws : Nat → List D → Bool
  | _, [] => true
  | n, x :: xs => shw n x && shws n xs
end
/-- the text -/
def reprD (x : D) : Str := PyData.shown (toR x)

theorem sok_app {a b : Str} (h1 : PyData.strOk a = true) (h2 : PyData.strOk b = true) : PyData.strOk (a ++ b) = true := by
  show (a.cps ++ b.cps).all _ = true
  rw [Array.all_append]
  exact Bool.and_eq_true_iff.mpr ⟨h1, h2⟩
theorem sok_of (z : String) : PyData.strOk (Str.ofString z) = true := by
  rw [Str.ofString_eq_toList]
  show ((z.toList.map Char.toNat).toArray).all _ = true
  rw [List.all_toArray, List.all_map, List.all_eq_true]
  intro c _
  refine decide_eq_true ?_
  have v := c.valid
  show c.val.toNat < 0x110000
  rcases v with v | v
  · exact Nat.lt_trans v (by decide)
  · exact v.2
theorem sok_cps {x : Str} : PyData.strOk x = true ↔ ∀ c ∈ x.cps.toList, c < 0x110000 := by
  unfold PyData.strOk
  rw [Array.all_eq_true_iff_forall_mem]
  constructor
  · intro h c hc; exact of_decide_eq_true (h c (by simpa using hc))
  · intro h c hc; exact decide_eq_true (h c (by simpa using hc))
theorem hex_ok (w c : Nat) : ∀ y ∈ List.replicate (w - ((Nat.toDigits 16 c).map Char.toNat).length) 48 ++ (Nat.toDigits 16 c).map Char.toNat, y < 0x110000 := by
  intro y hy
  rcases List.mem_append.mp hy with hy | hy
  · rw [List.mem_replicate] at hy; omega
  · obtain ⟨d, _, rfl⟩ := List.mem_map.mp hy
    show d.val.toNat < 0x110000
    rcases d.valid with v | v
    · exact Nat.lt_trans v (by decide)
    · exact v.2
theorem sign_ok {q c : Nat} (hc : c < 0x110000) : ∀ y ∈ Builtin.Str.reprChar q c, y < 0x110000 := by
  have h := fun w => hex_ok w c
  unfold Builtin.Str.reprChar
  dsimp only
  repeat' split
  all_goals intro y hy
  all_goals simp only [List.cons_append, List.nil_append, List.mem_cons, List.not_mem_nil, or_false] at hy
  all_goals first
    | omega
    | (rcases hy with hy | hy | hy; (omega); (omega); exact h _ y hy)
theorem fold_ok {q : Nat} : ∀ (l : List Nat) (acc : Array Nat), (∀ c ∈ l, c < 0x110000) → (∀ c ∈ acc.toList, c < 0x110000) → ∀ c ∈ (l.foldl (fun out c => out ++ (Builtin.Str.reprChar q c).toArray) acc).toList, c < 0x110000
  | [], _, _, h => h
  | y :: r, acc, h, g => by
    rw [List.foldl_cons]
    refine fold_ok r _ (fun c hc => h c (List.mem_cons_of_mem _ hc)) fun c hc => ?_
    rw [Array.toList_append, List.mem_append] at hc
    rcases hc with hc | hc
    · exact g c hc
    · exact sign_ok (h y (by simp)) c (by simpa using hc)
theorem sok_repr {x : Str} (h : PyData.strOk x = true) : PyData.strOk (PySem.reprText x) = true := by
  have h' := sok_cps.mp h
  have q : PySem.reprQuote x < 0x110000 := by unfold PySem.reprQuote; split <;> decide
  rw [sok_cps]
  show ∀ c ∈ ((x.cps.foldl (fun out c => out ++ (Builtin.Str.reprChar (PySem.reprQuote x) c).toArray) #[PySem.reprQuote x]).push (PySem.reprQuote x)).toList, c < 0x110000
  intro c hc
  rw [Array.toList_push, List.mem_append, ← Array.foldl_toList] at hc
  rcases hc with hc | hc
  · exact fold_ok x.cps.toList _ h' (fun y hy => by have e : y = PySem.reprQuote x := by simpa using hy
                                                    rw [e]; exact q) c hc
  · have e : c = PySem.reprQuote x := by simpa using hc
    rw [e]; exact q
theorem sok_join {a : Str} (ha : PyData.strOk a = true) : ∀ ts : List Str, (∀ t ∈ ts, PyData.strOk t = true) → PyData.strOk (Str.join a ts) = true
  | [], _ => sok_of ""
  | [x], h => h x (by simp)
  | x :: y :: r, h => sok_app (sok_app (h x (by simp)) ha) (sok_join ha (y :: r) fun t ht => h t (List.mem_cons_of_mem _ ht))
theorem sok_from : ∀ (ts : List Str) (k : Nat) (acc : Str), PyData.strOk acc = true → (∀ t ∈ ts, PyData.strOk t = true) → PyData.strOk (textFrom k acc ts) = true
  | [], _, _, h, _ => h
  | t :: r, k, acc, h, g => sok_from r (k + 1) _ (sok_app (sok_app h (by split <;> exact sok_of _)) (g t (by simp))) fun u hu => g u (List.mem_cons_of_mem _ hu)
theorem sok_key {k : Key} (h : keySk k = true) : PyData.strOk (PyData.shown (keyR k)) = true := by
  cases k with
  | inl i => simp only [keyR, PyData.shown]; exact sok_of _
  | inr s => simp only [keyR, PyData.shown]; exact sok_repr h
mutual
theorem sok_shown : ∀ (n : Nat) (x : D), shw n x = true → PyData.strOk (PyData.shown (toR x)) = true
  | _, .non, _ => by simp only [toR, PyData.shown]; exact sok_of _
  | _, .bl b, _ => by simp only [toR, PyData.shown]; split <;> exact sok_of _
  | _, .int i, _ => by simp only [toR, PyData.shown]; exact sok_of _
  | n, .str s, h => by simp only [toR, PyData.shown]; exact sok_repr (by cases n <;> simpa [shw] using h)
  | 0, .lst _, h => by simp [shw] at h
  | 0, .tup _, h => by simp [shw] at h
  | 0, .dic _ _, h => by simp [shw] at h
  | 0, .ins _ _ _, h => by simp [shw] at h
  | n + 1, .ins _ _ _, h => by simp [shw] at h
  | 0, .nd _, h => by simp [shw] at h
  | n + 1, .nd _, h => by simp [shw] at h
  | 0, .exc _ _ _, h => by simp [shw] at h
  | n + 1, .exc _ _ _, h => by simp [shw] at h
  | n + 1, .lst xs, h => by
    simp only [toR, PyData.shown]
    exact sok_app (sok_from _ _ _ (sok_of _) (sok_all n xs (by simpa only [shw] using h))) (sok_of _)
  | n + 1, .tup xs, h => by
    simp only [toR, PyData.shown]
    exact sok_app (sok_app (sok_of _) (sok_join (sok_of _) _ (sok_all n xs (by simpa only [shw] using h)))) (by split <;> exact sok_of _)
  | n + 1, .dic ks vs, h => by
    simp only [toR, PyData.shown]
    have h' : ks.all keySk = true ∧ shws n vs = true := by simpa only [shw, Bool.and_eq_true] using h
    exact sok_app (sok_app (sok_of _) (sok_join (sok_of _) _ (sok_kv n ks vs h'.1 h'.2))) (sok_of _)
theorem sok_all : ∀ (n : Nat) (xs : List D), shws n xs = true → ∀ t ∈ PyData.shownAll (toRs xs), PyData.strOk t = true
  | _, [], _ => by simp [toRs, PyData.shownAll]
  | n, x :: xs, h => by
    simp only [shws, Bool.and_eq_true] at h
    simp only [toRs, PyData.shownAll, List.mem_cons]
    rintro t (rfl | ht)
    · exact sok_shown n x h.1
    · exact sok_all n xs h.2 t ht
theorem sok_kv : ∀ (n : Nat) (ks : List Key) (xs : List D), ks.all keySk = true → shws n xs = true → ∀ t ∈ PyData.shownKv (toKv ks xs), PyData.strOk t = true
  | _, [], xs, _, _ => by simp [toKv, PyData.shownKv]
  | _, _ :: _, [], _, _ => by simp [toKv, PyData.shownKv]
  | n, k :: ks, x :: xs, g, h => by
    simp only [shws, Bool.and_eq_true] at h
    rw [List.all_cons, Bool.and_eq_true] at g
    simp only [toKv, PyData.shownKv, List.mem_cons]
    rintro t (rfl | ht)
    · exact sok_app (sok_app (sok_key g.1) (sok_of _)) (sok_shown n x h.1)
    · exact sok_kv n ks xs g.2 h.2 t ht
end
theorem lt8_of {x : Str} (h : PyData.strOk x = true) : ∀ c ∈ x.cps.toList, c < 16 ^ 8 := fun c hc => Nat.lt_trans (sok_cps.mp h c hc) (by decide)
theorem wt_int (i : Int) : (Str.ofString (toString i)).length ≤ i.natAbs + 2 := by have := PyProof.Rows.len_str_of_int i; omega
theorem wt_key {k : Key} (h : keySk k = true) : (PyData.shown (keyR k)).length ≤ keyWt k := by
  cases k with
  | inl i => simp only [keyR, PyData.shown]; exact wt_int i
  | inr s => simp only [keyR, PyData.shown]; exact StrLaws.reprText_len s (lt8_of h)
theorem join_le (a : Str) (h : a.length ≤ 2) : ∀ ts : List Str, (Str.join a ts).length ≤ piled ts
  | [] => Nat.zero_le _
  | [x] => by show x.length ≤ piled [x]; simp [piled]
  | x :: y :: r => by
    have ih := join_le a h (y :: r)
    show (x ++ a ++ Str.join a (y :: r)).length ≤ _
    rw [strLen_append, strLen_append, piled_cons]
    omega
mutual
theorem wt_shown : ∀ (n : Nat) (x : D), shw n x = true → (PyData.shown (toR x)).length ≤ wt x
  | _, .non, _ => by simp only [toR, PyData.shown, wt]; decide
  | _, .bl b, _ => by simp only [toR, PyData.shown, wt]; cases b <;> decide
  | _, .int i, _ => by simp only [toR, PyData.shown, wt]; exact wt_int i
  | n, .str s, h => by simp only [toR, PyData.shown, wt]; exact StrLaws.reprText_len s (lt8_of (by cases n <;> simpa [shw] using h))
  | 0, .lst _, h => by simp [shw] at h
  | 0, .tup _, h => by simp [shw] at h
  | 0, .dic _ _, h => by simp [shw] at h
  | 0, .ins _ _ _, h => by simp [shw] at h
  | n + 1, .ins _ _ _, h => by simp [shw] at h
  | 0, .nd _, h => by simp [shw] at h
  | n + 1, .nd _, h => by simp [shw] at h
  | 0, .exc _ _ _, h => by simp [shw] at h
  | n + 1, .exc _ _ _, h => by simp [shw] at h
  | n + 1, .lst xs, h => by
    have ih := wt_all n xs (by simpa only [shw] using h)
    simp only [toR, PyData.shown, wt]
    unfold listText
    rw [strLen_append]
    have e2 : (Str.ofString "]").length = 1 := rfl
    have e3 : (Str.ofString "[").length = 1 := rfl
    cases e : PyData.shownAll (toRs xs) with
    | nil =>
      show ("[" : Str).length + _ ≤ _
      omega
    | cons t ts =>
      have := textFrom_length_pos ts 1 (("[" : Str) ++ (if 0 > 0 then ", " else "" : String) ++ t) (by decide)
      show (textFrom 1 (("[" : Str) ++ (if 0 > 0 then ", " else "" : String) ++ t) ts).length + _ ≤ _
      rw [this, strLen_append, strLen_append]
      have e4 : (Str.ofString (if 0 > 0 then ", " else "" : String)).length = 0 := rfl
      rw [e, piled_cons] at ih
      omega
  | n + 1, .tup xs, h => by
    have ih := wt_all n xs (by simpa only [shw] using h)
    simp only [toR, PyData.shown, wt]
    unfold tupleText
    rw [strLen_append, strLen_append]
    have e2 : ((if (PyData.shownAll (toRs xs)).length == 1 then ",)" else ")" : String) : Str).length ≤ 2 := by split <;> decide
    have e3 : (Str.ofString "(").length = 1 := rfl
    have := join_le ", " (by decide) (PyData.shownAll (toRs xs))
    omega
  | n + 1, .dic ks vs, h => by
    have h' : ks.all keySk = true ∧ shws n vs = true := by simpa only [shw, Bool.and_eq_true] using h
    have ih := wt_kv n ks vs h'.1 h'.2
    simp only [toR, PyData.shown, wt]
    unfold dictText
    rw [strLen_append, strLen_append]
    have e2 : (Str.ofString "}").length = 1 := rfl
    have e3 : (Str.ofString "{").length = 1 := rfl
    have := join_le ", " (by decide) (PyData.shownKv (toKv ks vs))
    omega
theorem wt_all : ∀ (n : Nat) (xs : List D), shws n xs = true → piled (PyData.shownAll (toRs xs)) ≤ wts xs
  | _, [], _ => Nat.zero_le _
  | n, x :: xs, h => by
    simp only [shws, Bool.and_eq_true] at h
    have a := wt_shown n x h.1
    have b := wt_all n xs h.2
    simp only [toRs, PyData.shownAll, wts]
    rw [piled_cons]
    omega
theorem wt_kv : ∀ (n : Nat) (ks : List Key) (xs : List D), ks.all keySk = true → shws n xs = true → piled (PyData.shownKv (toKv ks xs)) ≤ wtk ks xs
  | _, [], xs, _, _ => by simp only [toKv, PyData.shownKv]; exact Nat.zero_le _
  | _, _ :: _, [], _, _ => by simp only [toKv, PyData.shownKv]; exact Nat.zero_le _
  | n, k :: ks, x :: xs, g, h => by
    simp only [shws, Bool.and_eq_true] at h
    rw [List.all_cons, Bool.and_eq_true] at g
    have a := wt_shown n x h.1
    have b := wt_kv n ks xs g.2 h.2
    have c := wt_key g.1
    simp only [toKv, PyData.shownKv, wtk]
    rw [piled_cons, strLen_append, strLen_append]
    have e2 : (Str.ofString ": ").length = 2 := rfl
    omega
end
theorem log_of {i : Int} (h : i.natAbs ≤ 1000000) : i.natAbs.log2 < 1920 := by
  by_cases e : i.natAbs = 0
  · rw [e]; decide
  · exact (Nat.log2_lt e).mpr (Nat.lt_of_le_of_lt h (Nat.lt_of_lt_of_le (by decide : 1000000 < 2 ^ 20) (Nat.pow_le_pow_right (by decide) (by decide))))
mutual
theorem able_of : ∀ (n : Nat) (x : D), shw n x = true → wt x ≤ 1000000 → PyData.showable (toR x) = true ∧ (toR x).depth ≤ n
  | _, .non, _, _ => ⟨rfl, Nat.zero_le _⟩
  | _, .bl b, _, _ => ⟨rfl, Nat.zero_le _⟩
  | _, .int i, _, h => ⟨by simp only [toR, PyData.showable]; exact decide_eq_true (log_of (by simp only [wt] at h; omega)), by simp only [toR, PyData.depth]; exact Nat.zero_le _⟩
  | _, .str s, _, _ => ⟨rfl, Nat.zero_le _⟩
  | 0, .lst _, h, _ => by simp [shw] at h
  | 0, .tup _, h, _ => by simp [shw] at h
  | 0, .dic _ _, h, _ => by simp [shw] at h
  | 0, .ins _ _ _, h, _ => by simp [shw] at h
  | n + 1, .ins _ _ _, h, _ => by simp [shw] at h
  | 0, .nd _, h, _ => by simp [shw] at h
  | n + 1, .nd _, h, _ => by simp [shw] at h
  | 0, .exc _ _ _, h, _ => by simp [shw] at h
  | n + 1, .exc _ _ _, h, _ => by simp [shw] at h
  | n + 1, .lst xs, h, hw => by
    have ih := able_all n xs (by simpa only [shw] using h) (by simp only [wt] at hw; omega)
    simp only [toR, PyData.showable, PyData.depth]
    exact ⟨ih.1, by omega⟩
  | n + 1, .tup xs, h, hw => by
    have ih := able_all n xs (by simpa only [shw] using h) (by simp only [wt] at hw; omega)
    simp only [toR, PyData.showable, PyData.depth]
    exact ⟨ih.1, by omega⟩
  | n + 1, .dic ks vs, h, hw => by
    have h' : ks.all keySk = true ∧ shws n vs = true := by simpa only [shw, Bool.and_eq_true] using h
    have ih := able_kv n ks vs h'.2 (by simp only [wt] at hw; omega)
    simp only [toR, PyData.showable, PyData.depth]
    exact ⟨ih.1, by omega⟩
theorem able_all : ∀ (n : Nat) (xs : List D), shws n xs = true → wts xs ≤ 1000000 → PyData.showableAll (toRs xs) = true ∧ PyData.depthAll (toRs xs) ≤ n
  | _, [], _, _ => ⟨rfl, Nat.zero_le _⟩
  | n, x :: xs, h, hw => by
    simp only [shws, Bool.and_eq_true] at h
    simp only [wts] at hw
    have a := able_of n x h.1 (by omega)
    have b := able_all n xs h.2 (by omega)
    simp only [toRs, PyData.showableAll, PyData.depthAll, a.1, b.1]
    exact ⟨rfl, by omega⟩
theorem able_kv : ∀ (n : Nat) (ks : List Key) (xs : List D), shws n xs = true → wtk ks xs ≤ 1000000 → PyData.showableKv (toKv ks xs) = true ∧ PyData.depthKv (toKv ks xs) ≤ n
  | _, [], xs, _, _ => by simp only [toKv]; exact ⟨rfl, Nat.zero_le _⟩
  | _, _ :: _, [], _, _ => by simp only [toKv]; exact ⟨rfl, Nat.zero_le _⟩
  | n, k :: ks, x :: xs, h, hw => by
    simp only [shws, Bool.and_eq_true] at h
    simp only [wtk] at hw
    have a := able_of n x h.1 (by omega)
    have b := able_kv n ks xs h.2 (by omega)
    have c : PyData.showable (keyR k) = true ∧ PyData.depth (keyR k) = 0 := by
      cases k with
      | inl i => simp only [keyR, PyData.showable, PyData.depth]; exact ⟨decide_eq_true (log_of (by simp only [keyWt] at hw; omega)), trivial⟩
      | inr s => simp only [keyR, PyData.showable, PyData.depth]; exact ⟨trivial, trivial⟩
    simp only [toKv, PyData.showableKv, PyData.depthKv, a.1, b.1, c.1, c.2]
    exact ⟨rfl, by omega⟩
end
end Fl
namespace Fl
open PySem PySem.Spec PyProof.Rows L2
section
variable {X : Cx} {pins : List (Addr × Obj)} {σ : L2.St} {G H : Hp} {s : Shared}
theorem keys_read : ∀ {es : List DictEntry} {us : List (Key × Value)}, Pairs (mixKind X.prog X.w) es us → ReadsAll s.heap (es.map (·.key)) (us.map fun y => keyR y.1) []
  | _, _, .nil => .nil
  | e :: es, (k, v) :: us, .cons h _ t => by
    have ih := keys_read t
    have hk : Reads s.heap e.key (keyR k) [] := by
      rcases keyIs_shape (show keyIs k e.key = true from h) with ⟨i, t, rfl, q⟩ | ⟨x, t, rfl, q⟩
      · rw [q]; exact .int i t
      · rw [q]; exact .str x t
    exact .cons (as := []) hk ih
theorem vals_pairs : ∀ {es : List DictEntry} {us : List (Key × Value)}, Pairs (mixKind X.prog X.w) es us → es.map (·.val) = us.map (·.2)
  | _, _, .nil => rfl
  | e :: es, (k, v) :: us, .cons _ h t => by
    rw [List.map_cons, List.map_cons, vals_pairs t]
    exact congrArg (· :: _) h
theorem kv_split : ∀ {ks : List Key} {vs : List V} {us : List (Key × Value)}, ks.length = vs.length → KV (ks.zip vs) us → us.map (·.1) = ks ∧ Vals vs (us.map (·.2))
  | [], [], _, _, .nil => ⟨rfl, .nil⟩
  | k :: ks, v :: vs, _, hl, .cons (b := (k', u)) h t => by
    obtain ⟨a, b⟩ := kv_split (by simpa using hl) t
    obtain ⟨e, r⟩ := h
    exact ⟨by rw [List.map_cons, a]; exact congrArg (· :: ks) (Eq.symm e), .cons r b⟩
theorem toKv_1 : ∀ {ks : List Key} {xs : List D}, ks.length = xs.length → (toKv ks xs).map (·.1) = ks.map keyR ∧ (toKv ks xs).map (·.2) = toRs xs
  | [], [], _ => ⟨by simp only [toKv]; rfl, by simp only [toKv, toRs]; rfl⟩
  | k :: ks, x :: xs, h => by
    obtain ⟨a, b⟩ := toKv_1 (ks := ks) (xs := xs) (by simpa using h)
    simp only [toKv, toRs, List.map_cons, a, b, and_self]
mutual
/-- what the object is read as -/
theorem Dd.reads (I : Inv X pins σ H s) (gh : Ex G H) (nm : ∃ so, H sysModules = some (.frz so sysO)) : ∀ {n : Nat} {v : V} {x : D} {u : Value}, Dd X.K G v x → shw n x = true → RelV v u → ∃ as, Reads s.heap u (toR x) as ∧ sysModules ∉ as
  | _, _, _, _, .non, _, r => by cases r; exact ⟨_, by unfold toR; exact Reads.none, by simp⟩
  | _, _, _, _, .bl b, _, r => by cases r; exact ⟨_, by unfold toR; exact Reads.bool b, by simp⟩
  | _, _, _, _, .int i, _, r => by obtain ⟨t, rfl⟩ := r; exact ⟨_, by unfold toR; exact Reads.int i t, by simp⟩
  | _, _, _, _, .str x _, _, r => by obtain ⟨t, rfl⟩ := r; exact ⟨_, by unfold toR; exact Reads.str x t, by simp⟩
  | 0, _, _, _, .lst _ _, h, _ => by simp [shw] at h
  | 0, _, _, _, .tup _ _, h, _ => by simp [shw] at h
  | 0, _, _, _, .dic _ _ _ _, h, _ => by simp [shw] at h
  | 0, _, _, _, .ins _ _ _ _, h, _ => by simp [shw] at h
  | n + 1, _, _, _, .ins _ _ _ _, h, _ => by simp [shw] at h
  | 0, _, _, _, .nd _, h, _ => by simp [shw] at h
  | n + 1, _, _, _, .nd _, h, _ => by simp [shw] at h
  | 0, _, _, _, .exc0 _, h, _ => by simp [shw] at h
  | n + 1, _, _, _, .exc0 _, h, _ => by simp [shw] at h
  | 0, _, _, _, .exc1 _ _ _ _, h, _ => by simp [shw] at h
  | n + 1, _, _, _, .exc1 _ _ _ _, h, _ => by simp [shw] at h
  | n + 1, _, .lst xs, _, .lst (a := a) g t, h, r => by
    cases r
    obtain ⟨its, rv, ⟨o, m, ho, hc, _, hd⟩, _⟩ := I.list (.of (gh _ _ g))
    obtain ⟨as, hr, hn⟩ := DdL.reads I gh nm t (by simpa only [shw] using h) rv
    refine ⟨_, by unfold toR; exact Reads.list ho hc hd hr, fun m => ?_⟩
    rcases List.mem_cons.mp m with e | m
    · obtain ⟨so, z⟩ := nm
      rw [e] at z; rw [gh _ _ g] at z; cases z
    · exact hn m
  | n + 1, _, .tup xs, _, .tup g t, h, r => by
    cases r
    obtain ⟨its, rv, ⟨o, ho, hc, m, hd⟩, _⟩ := I.tuple (sqT_ex gh g)
    obtain ⟨as, hr, hn⟩ := DdL.reads I gh nm t (by simpa only [shw] using h) rv
    exact ⟨_, by unfold toR; exact Reads.tuple ho hc hd hr, hn⟩
  | n + 1, _, .dic ks vs, _, .dic (a := a) (us := us) g l nd t, h, r => by
    cases r
    have h' : ks.all keySk = true ∧ shws n vs = true := by simpa only [shw, Bool.and_eq_true] using h
    obtain ⟨_, hs, ws, kv, o, es, ep, ho, hx, hd, _, hp, _⟩ := I.hok a _ (gh _ _ g)
    obtain ⟨e1, rv⟩ := kv_split l kv
    obtain ⟨as, hr, hn⟩ := DdL.reads I gh nm t h'.2 rv
    have q := toKv_1 (ks := ks) (xs := vs) (l.trans t.len)
    have r1 : ReadsAll s.heap (es.toList.map (·.key)) ((toKv ks vs).map (·.1)) [] := by
      have := keys_read (s := s) hp
      rw [q.1]
      have e2 : (ws.map fun y => keyR y.1) = ks.map keyR := by rw [← e1, List.map_map]; rfl
      rw [← e2]; exact this
    have r2 : ReadsAll s.heap (es.toList.map (·.val)) ((toKv ks vs).map (·.2)) as := by
      rw [q.2, vals_pairs hp]; exact hr
    refine ⟨_, by unfold toR; exact Reads.dict ho hx.1 hd r1 r2, fun m => ?_⟩
    have m' : sysModules = a ∨ sysModules ∈ as := by simpa using m
    rcases m' with e | m
    · rw [← e] at hs; cases hs
    · exact hn m
theorem DdL.reads (I : Inv X pins σ H s) (gh : Ex G H) (nm : ∃ so, H sysModules = some (.frz so sysO)) : ∀ {n : Nat} {vs : List V} {xs : List D} {us : List Value}, DdL X.K G vs xs → shws n xs = true → Vals vs us → ∃ as, ReadsAll s.heap us (toRs xs) as ∧ sysModules ∉ as
  | _, _, _, _, .nil, _, r => by cases r; exact ⟨_, by unfold toRs; exact ReadsAll.nil, by simp⟩
  | n, _, x :: xs, _, .cons a t, h, r => by
    simp only [shws, Bool.and_eq_true] at h
    cases r with
    | cons r1 r2 =>
      obtain ⟨as, h1, n1⟩ := Dd.reads I gh nm a h.1 r1
      obtain ⟨bs, h2, n2⟩ := DdL.reads I gh nm t h.2 r2
      exact ⟨_, by unfold toRs; exact ReadsAll.cons h1 h2, fun m => (List.mem_append.mp m).elim n1 n2⟩
end

def rRepr (K : PySem.W.Frag) : List V → Hp → VK → Prop := fun vs H Q => ∃ (G : Hp) (v : V) (x : D), vs = [v] ∧ Dd K G v x ∧ Ex G H ∧ (∃ so, H sysModules = some (.frz so sysO)) ∧ shw 60 x = true ∧ wt x ≤ 100000 ∧ Q (.str (reprD x)) H
theorem call_reprD {k : Nat} (hr : Room k X.A) (hg : X.A.guards = some []) : CallR X (.builtin "repr") (rRepr X.K) := by
  intro pins s σ H xs us Q I r h
  obtain ⟨G, v, x, rfl, d, gh, nm, hs, hw, q⟩ := h
  obtain ⟨u, rfl, rx⟩ := vals1 r
  obtain ⟨as, hd, hn⟩ := Dd.reads I gh nm d hs rx
  obtain ⟨h1, h2⟩ := able_of 60 x hs (by omega)
  have h3 : (PyData.shown (toR x)).length ≤ sizeLine := Nat.le_trans (wt_shown 60 x hs) (Nat.le_trans hw (by decide))
  have fin : ∀ (h' : Heap) (t t' : Tok), (∀ b o, s.heap.get? b = some o → h'.get? b = some o) → EP X pins σ Q (.str (PyData.shown (toR x)) t) { s with heap := h', toks := t' } := fun h' t t' k => ⟨.str (reprD x), H, I.kept k, ⟨t, rfl⟩, q⟩
  have far : ∀ {a : Addr}, u = .ref a → wpAny (model X.prog X.w) X.A (call (.builtin "repr") [u]) (EP X pins σ Q) X.xe s := fun {a} e => by
    subst e
    have hu := hr.units
    exact repr_of_reads' hd h1 (fun _ => hn) hg (by have := hr.un; omega) (fun _ _ e => e) (fun h' t t' k => fin h' t t' k) h3
  cases d with
  | non =>
    cases rx
    exact PySem.P.repr_of_none (by have := fin s.heap s.toks (s.toks + 1) fun _ _ e => e; simpa only [toR, PyData.shown] using this)
  | bl b =>
    cases rx
    exact PySem.P.repr_of_bool (by have := fin s.heap s.toks (s.toks + 1) fun _ _ e => e; simpa only [toR, PyData.shown] using this)
  | int i =>
    obtain ⟨t, rfl⟩ := rx
    exact PySem.P.repr_of_int (log_of (by simp only [wt] at hw; omega)) (by have := fin s.heap s.toks (s.toks + 1) fun _ _ e => e; simpa only [toR, PyData.shown] using this)
  | str z _ =>
    obtain ⟨t, rfl⟩ := rx
    exact PySem.P.repr_of_str (by have := fin s.heap s.toks (s.toks + 1) fun _ _ e => e; simpa only [toR, PyData.shown] using this) (by simpa only [toR, PyData.shown] using h3)
  | lst _ _ => cases rx; exact far rfl
  | tup _ _ => cases rx; exact far rfl
  | dic _ _ _ _ => cases rx; exact far rfl
  | ins _ _ _ _ => cases rx; exact far rfl
  | nd _ => cases rx; exact far rfl
  | exc0 _ => cases rx; exact far rfl
  | exc1 _ _ _ _ => cases rx; exact far rfl
/-- repr(x) -/
def cRepr : RCd := fun xs P => ∃ x, xs = [x] ∧ shw 60 x = true ∧ wt x ≤ 100000 ∧ P (.d (.str (reprD x)))
theorem cd_repr {k : Nat} (hr : Room k X.A) (hg : X.A.guards = some []) : CallD X (.builtin "repr") cRepr := by
  refine CallR.ofD (call_reprD hr hg) fun {F G H σ ρ vs xs P Q} r d h k => ?_
  obtain ⟨x, rfl, h1, h2, p⟩ := h
  obtain ⟨v, rfl, dv⟩ := d.one
  refine ⟨G, v, x, rfl, dv, r.gh, r.nm, h1, h2, k _ _ _ _ p .rfl (r.push (.str _ ?_))⟩
  have a := sok_shown 60 x h1
  have b := wt_shown 60 x h1
  exact sOk_of a (Nat.le_trans b (by omega))
end
end Fl
namespace Fl
open PySem PySem.W L2
open PyProof.Rows (envOfC)
section
variable {K : PySem.W.Frag} {G H H' : Hp} {σ : St} {ρ : Env'} {a c : Addr}
theorem SrcL.ne (s : SrcL H a c) : a ≠ c := by
  obtain ⟨i, m, ns, h1, h2, _⟩ := s
  intro e
  subst e
  rw [h1] at h2
  cases ns with
  | nil => cases h2
  | cons n ns => cases h2
/-- drawn from: nothing but the source has changed -/
theorem R.drawn {c : List Addr} (r : R K ⟨G, H, some (a, c), none, []⟩ G H σ ρ) (hk : ∀ b, b ≠ a → b ∉ c → H' b = H b) (hs : SrcAt H' a c) (j : Int) : R K ⟨G, H, some (a, c), none, []⟩ G H' [some (.int j)] [.d (.int j)] := by
  obtain ⟨s, ga, gc⟩ := r.sr a c rfl
  obtain ⟨⟨o1, h1, n1⟩, h2⟩ := s.at
  have ne : ∀ {b : Addr} {o : HO}, H b = some o → ¬ InSrc ⟨G, H, some (a, c), none, []⟩ b → H' b = some o := fun {b o} e n => by
    rw [hk b (fun q => n (.inl ⟨a, c, rfl, .inl q⟩)) (fun q => n (.inl ⟨a, c, rfl, .inr q⟩))]; exact e
  refine ⟨.rfl, fun b o e => ?_, fun b o e n _ => ne e n, fun b o e => .inl e, fun b hb => ?_, fun a' c' e => ?_, fun q hq => (by cases hq), ?_, [], .cons (os := []) (ps := []) (.d (.int j)) .nil, List.nodup_nil, by simp⟩
  · rw [hk b (fun q => by rw [q, ga] at e; cases e) (fun q => by rw [gc b q] at e; cases e)]; exact r.gh b o e
  · obtain ⟨⟨u1, g1, _⟩, g2⟩ := hs.at
    rcases hb with (⟨a', c', e, q⟩ | ⟨o, q⟩) | ⟨a', c', e, q⟩
    · cases e
      rcases q with rfl | q
      · exact ⟨_, g1⟩
      · obtain ⟨u2, g3, _⟩ := g2 _ q
        exact ⟨_, g3⟩
    · cases q
    · cases e
  · cases e
    exact ⟨hs, ga, gc⟩
  · obtain ⟨so, e⟩ := r.nm
    refine ⟨so, ?_⟩
    rw [hk sysModules (fun q => by rw [q, h1] at e; exact n1 _ _ (Option.some.inj e)) (fun q => by obtain ⟨o2, h3, n2⟩ := h2 _ q; rw [h3] at e; exact n2 _ _ (Option.some.inj e))]; exact e
/-- the promise of a draw below m -/
def ftDraw : FT := fun ss P => ∃ m : Int, ss = [.src, .d (.int m)] ∧ 0 < m ∧ m < 1000000000 ∧ ∀ r : Int, 0 ≤ r → r < m → P (.d (.int r))
/-- what the draw's body sees, what it must bring about -/
theorem draw_of {vs : List V} {Q : VK} {E : XK} (h : spD K 2 ftDraw vs H Q E) : ∃ (a c : Addr) (m i j : Int) (ns : List Int), vs = [.ref a, .int m] ∧ 0 < m ∧ m < 1000000000 ∧ a ≠ c ∧ H a = some (.lst [.ref c, .int i, .int j]) ∧ H c = some (.lst (ns.map V.int)) ∧ ns ≠ [] ∧ ns.length ≤ 63 ∧
    ∀ (r : Int) (H' : Hp), 0 ≤ r → r < m → (∀ b, b ≠ a → b ≠ c → H' b = H b) → SrcL H' a c → Q (.int r) H' := by
  obtain ⟨G, src, ss, P, r, _, _, ⟨m, rfl, m0, m1, k⟩, q⟩ := h
  obtain ⟨os, hs, _, _⟩ := id r.sl
  have hv := r.len
  rw [List.length_map] at hv
  rcases vs with _ | ⟨v, _ | ⟨u, _ | ⟨_, _⟩⟩⟩
  · cases hv
  · cases hv
  · have hs' : Sls K ⟨G, H, src, none, []⟩ G H [some v, some u] [.src, .d (.int m)] os := hs
    cases hs' with
    | cons x t =>
      cases t with
      | cons y t =>
        cases x with
        | @src a c e =>
          cases y with
          | d y =>
            cases y
            have e : src = some (a, [c]) := e
            subst e
            obtain ⟨s, _, _⟩ := r.sr a [c] rfl
            have s : SrcL H a c := by
              rcases s with ⟨c', e, s⟩ | ⟨c', g, e, s⟩
              · cases e; exact s
              · cases e
            obtain ⟨i, j, ns, h1, h2, h3, h4⟩ := id s
            exact ⟨a, c, m, i, j, ns, rfl, m0, m1, s.ne, h1, h2, h3, h4, fun z H' z0 z1 hk hs' => q _ _ G H' (k z z0 z1) .rfl (r.drawn (fun b h1 h2 => hk b h1 (fun e => h2 (by rw [e]; simp))) (.inl ⟨c, rfl, hs'⟩) z)⟩
  · simp at hv
end
section
variable {X : Cx} {a : Expr} {ta : ET} {pos : Pos}
def dNeg (ta : ET) : ET := fun ρ P => ta ρ fun s ρ1 => ∃ i, s = .d (.int i) ∧ P (.d (.int (-i))) ρ1
theorem pd_neg (ha : PE X a (lift X.K ta)) : PE X (.UnaryOp .USub a pos) (lift X.K (dNeg ta)) :=
  peImp (pe_un un_neg ha) fun σ H Q ⟨F, G, ρ, P, r, h, k⟩ => ⟨F, G, ρ, _, r, h, fun x ρ1 v G1 H1 ⟨i, hx, q⟩ e1 r1 => by
    subst hx
    rw [r1.topInt]
    exact ⟨i, rfl, k _ _ _ _ _ q e1 (r1.pop.push (.int _))⟩⟩
end
section
variable {P : Program} {w : World} {K : PySem.W.Frag} {mg : Str → Option Value} {base : Heap} {x qual : Str} {st : Stmt} {f : Addr} {fd : FuncData} {N ps : List Str} {k n : Nat} {ft : FT}
theorem spD_len {vs : List V} {H : Hp} {Q : VK} {E : XK} (h : spD K n ft vs H Q E) : vs.length = n := by
  obtain ⟨G, src, ss, P, r, ha, hl, hf, k⟩ := h
  have := r.len
  rw [List.length_map] at this
  omega
/-- a def by its body's data reading -/
theorem fun_d (F : Fun K x qual st f fd) (S : FnScope N ps (defScope st)) (hn : ps.length = n)
    (hb : ∀ (cdv : Value) (A : Around) (outer : List Env) (s : Shared) (H : Hp) (E : XK), Room k (A.deeper (envOfC qual (defScope st) s.heap.objs.size f cdv)) →
      ∃ t, PSs (cxOf CX0 P w K mg base N qual (defScope st) f cdv A outer s H E).nox (defBody st) (liftS K t) ∧ Body N n t ft) : FnOk P w K mg base CX0 (k + 1) f fd ps (spD K n ft) := by
  refine F.ok S (fun vs H Q E h => (spD_len h).trans hn.symm) fun cdv A outer s H vs Q E hr h => ?_
  obtain ⟨t, h1, h2⟩ := hb cdv A outer s H E hr
  exact ⟨_, h1, liftS_start h2 h⟩
theorem ifB {A B : Prop} {c : Bool} (h1 : c = true → A) (h2 : c = false → B) : if c = true then A else B := by
  cases c with
  | true => exact (if_pos rfl).mpr (h1 rfl)
  | false => exact (if_neg Bool.false_ne_true).mpr (h2 rfl)
end
end Fl
namespace Fl
open PySem L2
section
variable {X : Cx} {K : PySem.W.Frag} {F : Fr} {G G' H H' : Hp} {σ : St} {ρ : Env'} {pos : Pos} {e a b c : Expr} {te ta tb tcc : ET} {k : Nat}

end
section
variable {gd : GT} {tt : TTd} {te : ET} {vs : List Nat} {P : Sl → Env' → Prop} {ρ : Env'}
end
section
variable {gd : GT} {tb : ST} {E : DE}
end
theorem eqD_str (a b : Str) : eqD (.str a) (.str b) = (a == b) := by
  simp only [eqD, toPy, PyData.eqv]
theorem eqD_int (a b : Int) : eqD (.int a) (.int b) = (a == b) := by
  simp only [eqD, toPy, PyData.eqv]
section
variable {X : Cx} {K : PySem.W.Frag} {F : Fr} {G G' H H' : Hp} {σ : St} {ρ : Env'} {pos p1 : Pos} {e a b c : Expr} {te ta tb tcc : ET} {k i n : Nat} {x : Str}
end
theorem isT_str (x : D) : isT "str" x = (match x with | .str _ => true | _ => false) := by cases x <;> rfl
theorem isT_int (x : D) : isT "int" x = (match x with | .int _ => true | .bl _ => true | _ => false) := by cases x <;> rfl
theorem isT_bool (x : D) : isT "bool" x = (match x with | .bl _ => true | _ => false) := by cases x <;> rfl
theorem isT_tuple (x : D) : isT "tuple" x = (match x with | .tup _ => true | _ => false) := by cases x <;> rfl
theorem isT_list (x : D) : isT "list" x = (match x with | .lst _ => true | _ => false) := by cases x <;> rfl
theorem isT_dict (x : D) : isT "dict" x = (match x with | .dic _ _ => true | _ => false) := by cases x <;> rfl
theorem lkD_mem : ∀ {ks : List Key} {us : List D} {j : Key}, ks.length = us.length → j ∈ ks → ∃ u, lkD ks us j = some u ∧ u ∈ us
  | i :: ks, u :: us, j, hl, hm => by
    by_cases e : i = j
    · exact ⟨u, by show (if i = j then _ else _) = _; rw [if_pos e], by simp⟩
    · obtain ⟨u', h1, h2⟩ := lkD_mem (ks := ks) (us := us) (j := j) (by simpa using hl) (by rcases List.mem_cons.mp hm with h | h; exact absurd h.symm e; exact h)
      exact ⟨u', by show (if i = j then _ else _) = _; rw [if_neg e]; exact h1, List.mem_cons_of_mem _ h2⟩
section
variable {X : Cx} {K : PySem.W.Frag} {F : Fr} {G G' H H' : Hp} {σ : St} {ρ : Env'} {pos : Pos}
end
section
variable {K : PySem.W.Frag} {F : Fr} {G G' H H' : Hp} {σ : St} {ρ : Env'}
/-- turns of a body of which an invariant is known -/
theorem loopR {tb : ST} {Dn : Ends} {i : Nat} {n : Int} (r : R K F G H σ ρ) (I : Env' → Prop) (h0 : I ρ) (hs : ∀ (x : D) (ρ : Env'), I ρ → i < ρ.length ∧ tb { nx := I, ct := I, bk := fun _ => False, rt := fun _ => False } (ρ.set i (.d x)))
    (hd : ∀ G' H' σ' ρ', Ex G G' → R K F G' H' σ' ρ' → I ρ' → Dn.nx σ' H') :
    ∃ W : Nat → Nat → St → Hp → Prop, (∃ m, W 0 m σ H) ∧ ∀ j m σ H, W j m σ H →
      ((Itr 0 n.toNat).stop j H ∧ Dn.nx σ H) ∨ ((Itr 0 n.toNat).go j H ∧ ∃ N : St → Hp → Prop, (∀ σ' H', N σ' H' → ∃ m', m' < m ∧ W (j + 1) m' σ' H') ∧ ∀ x H', (Itr 0 n.toNat).yld j H x H' → gName i x σ H' fun σ2 H2 => liftS K tb { Dn with nx := N, ct := N, bk := Dn.nx } σ2 H2) := by
  obtain ⟨Gp, Y, wk, wg, wy⟩ := walkD_range (K := K) (G := G) n
  refine for_it wk (fun _ σ' H' => ∃ G' ρ', Ex G G' ∧ R K F G' H' σ' ρ' ∧ I ρ') ⟨G, ρ, .rfl, r, h0⟩ (fun i σ' H' _ ⟨G', ρ', e, r', _⟩ => wg e r') (fun j x σ' H' H2 hj ⟨G', ρ', e, r', l⟩ y => ?_) fun σ' H' ⟨G', ρ', e, r', l⟩ => hd G' H' σ' ρ' e r' l
  obtain ⟨d, G2, ed, e2, r2⟩ := wy e r' y hj
  refine (tgt_name i).up r2 (P := fun ρ2 => tb { nx := I, ct := I, bk := fun _ => False, rt := fun _ => False } ρ2) (hs d ρ' l) fun σ3 ρ3 G3 H3 p3 e3 r3 _ => ⟨F, G3, ρ3, _, r3, p3, ?_⟩
  exact ⟨fun σ4 ρ4 G4 H4 q e4 r4 => ⟨G4, ρ4, ((e.tr e2).tr e3).tr e4, r4, q⟩, fun σ4 ρ4 G4 H4 q e4 r4 => q.elim, fun σ4 ρ4 G4 H4 q e4 r4 => ⟨G4, ρ4, ((e.tr e2).tr e3).tr e4, r4, q⟩, fun s v σ4 ρ4 G4 H4 q e4 r4 => q.elim⟩
/-- the promise of the def that makes the source -/
def spState (K : PySem.W.Frag) : Sp := fun vs H Q _ => ∃ (a : Addr) (ns : List Int), vs = [.ref a] ∧ SqL K H a (ns.map V.int) ∧ ns.length ≤ 63 ∧
  ∀ (p c : Addr) (H' : Hp) (ms : List Int), H p = none → H c = none → p ≠ c → H' p = some (.lst [.ref c, .int 0, .int 1]) → H' c = some (.lst (ms.map V.int)) → ms ≠ [] → ms.length ≤ 63 → (∀ b o, H b = some o → H' b = some o) → Q (.ref p) H'
theorem sqL_keep {a : Addr} {xs : List V} (h : SqL K H a xs) (k : ∀ b o, H b = some o → H' b = some o) : SqL K H' a xs := sqL_ex k h
theorem cut_ints {ns : List Int} {lo hi : Option Int} {i : Nat} {x : V} (h : (cutV (ns.map V.int) lo hi)[i]? = some x) : ∃ z, x = .int z := by
  have hm : x ∈ cutV (ns.map V.int) lo hi := List.mem_of_getElem? h
  unfold cutV at hm
  obtain ⟨z, _, e⟩ := List.mem_map.mp (List.mem_of_mem_drop (List.mem_of_mem_take hm))
  exact ⟨z, e.symm⟩
theorem cut_len (xs : List V) (lo hi : Option Int) : (cutV xs lo hi).length ≤ xs.length := by
  unfold cutV
  rw [List.length_take, List.length_drop]; omega
/-- the frame of the law behind the making of the source -/
theorem R.begin {p c : Addr} {v : Option V} (h1 : SrcL H p c) (nm : ∃ so, H sysModules = some (.frz so sysO)) (n : Nat) :
    R K ⟨fun _ => none, H, some (p, [c]), none, []⟩ (fun _ => none) H ([v, some (.ref p)] ++ List.replicate n none) ([.no, .src] ++ List.replicate n .no) := by
  refine R.more ⟨.rfl, fun b o e => (by cases e), fun b o e _ _ => e, fun b o e => (by cases e), fun b hb => ?_, fun a c' e => ?_, fun q hq => (by cases hq), nm, [], .cons (os := []) (ps := []) (.no _) (.cons (os := []) (ps := []) (.src rfl) .nil), List.nodup_nil, by simp⟩ n
  · obtain ⟨i, m, ns, g1, g2, _⟩ := h1
    rcases hb with (⟨a, c', e, q⟩ | ⟨o, q⟩) | ⟨a, c', e, q⟩
    · cases e
      rcases q with rfl | q
      · exact ⟨_, g1⟩
      · obtain rfl := List.mem_singleton.mp q
        exact ⟨_, g2⟩
    · cases q
    · cases e
  · cases e
    exact ⟨.inl ⟨_, rfl, h1⟩, rfl, fun _ _ => rfl⟩
end
section
variable {X : Cx} {K : PySem.W.Frag} {F : Fr} {G G' H H' : Hp} {σ : St} {ρ : Env'} {pos : Pos} {e : Expr} {te : ET}
def keyT : Key → D
  | .inl i => .int i
  | .inr s => .str s
def kOk : Key → Bool
  | .inl _ => true
  | .inr s => sOk s
/-- list(d.items()) -/
def pairD : List Key → List D → List D
  | k :: ks, x :: xs => .tup [keyT k, x] :: pairD ks xs
  | _, _ => []
end
section
variable {X : Cx} {K : PySem.W.Frag} {F : Fr} {G G' H H' : Hp} {σ : St} {ρ : Env'} {pos : Pos} {e : Expr} {te : ET} {pins : List (Addr × Obj)} {s : Shared} {a C dx : Addr} {fs : List (Str × V)}
/-- the type of any data -/
inductive TyD (K : PySem.W.Frag) (H : Hp) : V → Value → Prop
  | x {v : V} {t : Value} (h : TyX K H v t) : TyD K H v t
  | i {a C dx : Addr} {fs : List (Str × V)} (h : H a = some (.ins C dx fs)) : TyD K H (.ref a) (.ref C)
def tyV (x : D) : Value := match x with
  | .ins C _ _ => .ref C
  | x => .type (tyN x)
/-- a node, an exception: its class is not told -/
def opq : D → Bool
  | .nd _ => true
  | .exc _ _ _ => true
  | _ => false
end
end Fl
namespace Fl
open PySem PySem.Spec PyProof.Rows
section
variable {M : Model} {prog : Program} {w : World} {A : Around} {E : Value → Shared → Prop} {s : Shared} {K : PySem.W.Frag} {x C f : Addr} {ox : Obj} {od : Option Obj} {b : Value}
end
end Fl
namespace Fl
open PySem L2
section
variable {X : Cx} {K : PySem.W.Frag} {C : Addr}
end
/-- what isinstance asks of the class C -/
structure IsOwn (K : PySem.W.Frag) (C : Addr) : Prop where
  cl : Cls K C
  ha : PySem.W.findIn K (.ref C) "__class__" = some (some (.builtin "object.__class__"))
  hn : PySem.W.specialIn K (.builtin "object.__class__") "__get__" = some (some (.builtin "getset_descriptor.__get__"))
  tk : PySem.W.takesIn K (.builtin "object.__class__") = some true
  hm : PySem.W.mroIn K C (.type "object") = some true
  no : ∀ T ∈ ["NoneType", "bool", "int", "str", "list", "tuple", "dict"], PySem.W.kitOne K (.type T) (.ref C) = some false
section
variable {X : Cx} {K : PySem.W.Frag} {C : Addr} {e : Expr} {te : ET} {pos : Pos} {G H : Hp}
theorem IsOwn.ask (w : IsOwn K C) {v : V} {x : D} (d : Dd K G v x) (gh : Ex G H) (hc : isIns x = false ∨ ∃ ns vs, insOf C x = some (ns, vs)) : ∃ t, TyX K H v t ∧ PySem.W.kitOne K t (.ref C) = some (isIns x) := by
  rcases hc with hc | ⟨ns, vs, hc⟩
  · refine ⟨_, d.tyX gh hc, ?_⟩
    rw [hc]
    refine w.no _ ?_
    cases x <;> first | (exact Bool.noConfusion (show (true = false) from hc)) | (simp [tyN])
  · obtain ⟨a, dx, us, rfl, rfl, g, _, _⟩ := d.insOf hc
    refine ⟨.ref C, .base (.ins (gh _ _ g) w.cl w.ha w.hn w.tk w.hm), ?_⟩
    unfold PySem.W.kitOne
    rw [if_pos (beq_self_eq_true _)]
    rfl
end
section
variable {X : Cx} {i : Nat} {x : Str} {p1 apos cpos : Pos}
end
/-- the cases, the subject a text -/
structure PM (X : Cx) (cs : List MatchCase) (t : Str → TS) : Prop where
  run : ∀ (pins : List (Addr × Obj)) (s : Shared) (σ : St) (H : Hp) (D : Ends) (z : Str) (tk : Tok) (first : Bool), Inv X pins σ H s → t z D σ H → wpAny (model X.prog X.w) X.A (matchCases cs X.env (.str z tk) first) (SP X pins D) X.xe s
section
variable {X : Cx} {e : Expr} {te : ET} {pos pp cp : Pos} {body : List Stmt} {rest : List MatchCase} {tb : TS} {tr : Str → TS}
theorem PM.imp {cs : List MatchCase} {t t' : Str → TS} (h : PM X cs t) (i : ∀ z D σ H, t' z D σ H → t z D σ H) : PM X cs t' := ⟨fun pins s σ H D z tk first I q => h.run pins s σ H D z tk first I (i _ _ _ _ q)⟩
end
section
variable {X : Cx} {K : PySem.W.Frag} {G H : Hp}
def pairIn : D → Option (Key × D)
  | .tup [k, x] => (keyD k).map fun j => (j, x)
  | _ => none
end
end Fl
namespace L2
open PySem PySem.Spec PyProof.Rows
open AutoSeq1 (wpAny_loadPart')
theorem meets_enumerate_newT (l : Addr) (items : Array Value) (n : Nat) (dct : Option Addr) (sl : Array (Option Value)) :
    Meets (Builtin.«enumerate.__new__» ⟨[.type "enumerate", .ref l], []⟩) (fun _ R s => s.heap.get? l = some { cls := .type "tuple", dict := dct, data := .seq items n, slots := sl } ∧
      R (.ok (.ret (.ref (s.heap.push { cls := .type "tuple_iterator", data := .fields #[.ref l, .int 0 0] }).objs.size)))
        { s with heap := (s.heap.push { cls := .type "tuple_iterator", data := .fields #[.ref l, .int 0 0] }).push { cls := .type "enumerate", data := .fields #[.none, .bool false, .ref s.heap.objs.size, rawInt 0, .none, .none] } }) :=
  .of_wp fun prog w A R s h => by
    obtain ⟨hp, g, d, tk, os⟩ := s; obtain ⟨hl, h⟩ := h
    have hsub := sub_enumerate
    have hL : Heap.IsTuple (Shared.heap ⟨hp, g, d, tk, os⟩) l items := ⟨_, hl, rfl, n, rfl⟩
    wp_walk using wpAny_loadPart' hl
    refine wpAny_stack_any fun st => wpAny_pure ?_
    split
    · rename_i c _ _ _ _ _
      cases (c == Value.type "enumerate")
      · wp_walk using wpAny_loadPart' hl, wpAny_pyIter_tuple hL
        exact ⟨_, rfl, h⟩
      · wp_walk using wpAny_loadPart' hl, wpAny_pyIter_tuple hL
        exact ⟨_, rfl, h⟩
    · wp_walk using wpAny_loadPart' hl, wpAny_pyIter_tuple hL
      exact ⟨_, rfl, h⟩
section
variable {prog : Program} {w : World} {A : Around} {E : Value → Shared → Prop} {s : Shared}
theorem call_enumerate_tuple {l : Addr} {items : Array Value} {Q : Value → Shared → Prop} (hL : s.heap.IsTuple l items)
    (h : ∀ h', IsEnum h' (s.heap.objs.size + 1) s.heap.objs.size 0 .none → h'.IsTupleIter s.heap.objs.size l 0 → h'.objs.size = s.heap.objs.size + 2 →
      (∀ b o, s.heap.get? b = some o → h'.get? b = some o) → Q (.ref (s.heap.objs.size + 1)) { s with heap := h' }) :
    wpAny (model prog w) A (call (.type "enumerate") [.ref l]) Q E s := by
  obtain ⟨⟨c, dct, dt, sl⟩, hl, hc, n, hd⟩ := hL
  replace hc : c = .type "tuple" := hc
  replace hd : dt = .seq items n := hd
  subst hc hd
  refine callType_new F.called_enumerate (by decide) (F.typeCall_enumerate_1 _) (F.newCall_enumerate_1 _) (fun obj => F.args_object_init_2 obj _) F.entry_enumerate_new
    (meets_enumerate_newT l items n dct sl) ⟨hl, ?_⟩
  have hz : (s.heap.push { cls := .type "tuple_iterator", data := .fields #[.ref l, .int 0 0] }).objs.size = s.heap.objs.size + 1 := Heap.size_push ..
  show _ ∧ _
  rw [hz]
  have he : IsEnum ((s.heap.push { cls := .type "tuple_iterator", data := .fields #[.ref l, .int 0 0] }).push
      { cls := .type "enumerate", data := .fields #[.none, .bool false, .ref s.heap.objs.size, rawInt 0, .none, .none] }) (s.heap.objs.size + 1) s.heap.objs.size 0 .none := by
    have := Heap.get?_push_size (s.heap.push { cls := .type "tuple_iterator", data := .fields #[.ref l, .int 0 0] })
      (o := { cls := .type "enumerate", data := .fields #[.none, .bool false, .ref s.heap.objs.size, rawInt 0, .none, .none] }) rfl
    rw [hz] at this; exact this
  refine ⟨⟨_, he, rfl⟩, h _ he ⟨_, Heap.get?_push_of_some _ (Heap.get?_push_size _ rfl), rfl, rfl⟩ (by rw [Heap.size_push, hz]) fun b o x => Heap.get?_push_of_some _ (Heap.get?_push_of_some _ x)⟩
end
section
variable {prog : Program} {w : World} {A : Around} {E : Value → Shared → Prop} {s : Shared}
theorem enumT_end {e it l : Addr} {i : Nat} {items : Array Value} {old : Value} {Q : Option Value → Shared → Prop} (hh : A.handled = none)
    (he : IsEnum s.heap e it i old) (hit : s.heap.IsTupleIter it l i) (hl : s.heap.IsTuple l items) (hx : items[i]? = none)
    (hQ : ∀ h', Heap.ExtBut it s.heap h' → Q none { s with heap := h' }) : wpAny (model prog w) A (pyNext (.ref e)) Q E s := by
  have hT : s.TypeIs (.ref e) "enumerate" := ⟨_, he, rfl⟩
  unfold pyNext
  refine wpAny_bind (wpAny_attempt (wpAny_callSpecial?_slot (name := Str.ofString "__next__") hT F.slot_enumerate_next
    (wpAny_call_entry F.slot_enumerate_next hT F.entry_enumerate_next ?_ (F.args_enumerate_next_1 _))))
  show wpAny _ _ (field (.ref e) 2 >>= _) _ _ _
  refine wpAny_bind (wpAny_field he rfl (x := .ref it) rfl ?_)
  refine wpAny_bind (wpAny_nextOf_tuple_end hh hit hl hx fun h' x he' hx' => ?_)
  obtain ⟨o, ho, hc⟩ := hx'
  refine wpAny_bind (wpAny_isInstance (T := "StopIteration") (b := true) ⟨o, ho, hc⟩ isSubtype_stop ?_)
  exact wpAny_pure (hQ _ he')
end
/-- the tuple at a, each item in a new pair -/
def IteT (K : PySem.W.Frag) (a : Addr) : It :=
  ⟨fun i H => ∃ (xs : List V) (x : V), SqT K H a xs ∧ xs[i]? = some x, fun i H v H' => ∃ T x, v = .ref T ∧ H T = none ∧ H' = upd H T (.tup [.int (i : Nat), x]) ∧ ∀ xs, SqT K H a xs → xs[i]? = some x, fun i H => ∃ xs : List V, SqT K H a xs ∧ xs.length ≤ i⟩
theorem turn_enumT {P : Program} {w : World} {K : PySem.W.Frag} {elts : List Expr} {kk : Nat} {tpos : Pos} (a e it : Addr) (hai : a ≠ it) (hae : a ≠ e) :
    Turn P w K (.Tuple elts kk tpos) (IteT K a) [e, it] e (fun i h => (∃ old, IsEnum h e it ((i : Nat) : Int) old) ∧ h.IsTupleIter it a i ∧ e ≠ it) where
  mem := by simp
  obj := fun i h st b hb => by
    obtain ⟨⟨old, he⟩, ⟨o, ho, hc, hd⟩, _⟩ := st
    have e' : b = e ∨ b = it := by simpa using hb
    rcases e' with z | z
    · rw [z]; exact ⟨_, he, fun v q => nomatch q⟩
    · rw [z]; exact ⟨o, ho, fun v q => by rw [hd] at q; cases q⟩
  keep := fun i h h' st k => let ⟨⟨old, he⟩, hi, hne⟩ := st; ⟨⟨old, k e (by simp) _ he⟩, hi.at fun o q => k it (by simp) o q, hne⟩
  item := by
    intro X hP hw hK hc i pins s σ H E I hf st hg
    subst hP hw hK
    obtain ⟨⟨old, he⟩, hit, hne⟩ := st
    obtain ⟨xs, x, hq, hx⟩ := hg
    obtain ⟨its, rv, p, hz⟩ := I.tuple hq
    have p : s.heap.IsTuple a its.toArray := p
    obtain ⟨u, hu, ru⟩ := rv.get hx
    have hel : e < s.heap.objs.size := Heap.lt_size he
    have hil : it < s.heap.objs.size := by obtain ⟨_, q, _⟩ := hit; exact Heap.lt_size q
    have hh : X.A.in1.handled = none := I.ok.hd hc
    have hil2 : i < its.toArray.size := by
      have := (List.getElem?_eq_some_iff.mp hu).1
      simpa using this
    refine wpAny_pyNext_enum_itemD (Draws.tuple hh it a hai its.toArray) he ⟨hit, p⟩ hil2 hne (by simp [hne, Ne.symm hae]) fun y h' tk hy ho hit' hT hsz hk => ?_
    have hy : its.toArray[i]? = some y := hy
    obtain rfl : y = u := by
      have h1 : its[i]? = some y := by simpa using hy
      rw [hu] at h1; cases h1; rfl
    refine ⟨_, rfl, wpAny_letOwnedTupleGo_enum (s := { s with heap := h', toks := tk + 1 }) ho fun h'' he' sb => ?_⟩
    have hT2 : h''.get? s.heap.objs.size = some { cls := .type "tuple", data := .seq #[.int i tk, y] } := (sb.2 _ (Nat.ne_of_gt hel)).trans hT
    have new : ObjOk X.prog X.w (upd H s.heap.objs.size (.tup [.int (i : Nat), x])) h'' s.heap.objs.size (.tup [.int (i : Nat), x]) :=
      ⟨by show 2 ≤ sizeLine; decide, [.int i tk, y], .cons ⟨_, rfl⟩ (.cons ru .nil), ⟨_, hT2, rfl, _, rfl⟩⟩
    have I1 : Inv X pins σ (upd H s.heap.objs.size (.tup [.int (i : Nat), x])) { s with heap := h'', toks := tk + 1 } :=
      I.turnedNew (ch := [e, it]) (fun b ob hb q => (sb.2 b (fun z => hb (by simp [z]))).trans (hk b ob (fun z => hb (by simp [z])) (fun z => hb (by simp [z])) q)) hf (Nat.le_refl _) new
    refine ⟨.ref s.heap.objs.size, _, I1, rfl, ⟨_, x, rfl, I.hok.fresh (Nat.le_refl _), rfl, fun ys hy => by rw [I.tuple_inj hy hq]; exact hx⟩, ⟨⟨y, ?_⟩, hit'.1.at fun o q => (sb.2 it (Ne.symm hne)).trans q, hne⟩, fun b hb => ?_⟩
    · have e1 : ((i + 1 : Nat) : Int) = (i : Int) + 1 := by omega
      rw [e1]; exact he'
    · have hb' : b < s.heap.objs.size := by
        have e' : b = e ∨ b = it := by simpa using hb
        rcases e' with z | z
        · rw [z]; exact hel
        · rw [z]; exact hil
      rw [upd_ne (Nat.ne_of_lt hb')]
      exact (hf b hb).1
  done := by
    intro X hP hw hK hc i pins s σ H E I hf st hg
    subst hP hw hK
    obtain ⟨⟨old, he⟩, hit, hne⟩ := st
    obtain ⟨xs, hq, hx⟩ := hg
    obtain ⟨its, rv, p, hz⟩ := I.tuple hq
    have p : s.heap.IsTuple a its.toArray := p
    obtain ⟨f0, f1, f2, f3, f4, f5⟩ := hf it (by simp)
    have hl := rv.length
    have hh : X.A.handled = none := I.ok.hd hc
    exact enumT_end hh he hit p (by simp; omega) fun h' eb => ⟨rfl, I.turned (t' := s.toks) (fun b o hb q => eb b o hb q) f0 f1 f3 f4 f5⟩
  self := fun A i s Q E st h => let ⟨⟨_, he⟩, _⟩ := st; wpAny_pyIter_enum he h
def iEnumA (K : PySem.W.Frag) (ta : TA) : TI := fun σ H R => ta σ H fun vs H1 => ∃ a xs, vs = [.ref a] ∧ ((SqL K H1 a xs ∧ R (Ite K a) H1) ∨ (SqT K H1 a xs ∧ R (IteT K a) H1))
theorem pi_enumA {X : Cx} {e : Expr} {ta : TA} {p pos tpos : Pos} {elts : List Expr} {kk : Nat} (hg : Gl X "enumerate") (hm : X.mg "enumerate" = none) (ha : PA X [e] ta) (hs : starEach [e] X.env = [(false, eval e X.env)] := by rfl) :
    PI X (.Tuple elts kk tpos) (.Call (.Name "enumerate" p) [e] [] pos) (iEnumA X.K ta) := by
  refine ⟨fun pins s σ H R I h => ?_⟩
  refine Call_ (ld_blt I hg hm boot_enumerate (PyProof.Rows.callWith_type1 (thn (ha.run pos pins s σ H _ I h) fun us s1 ⟨vs, H1, I1, r1, q1⟩ => ?_) hs rfl))
  obtain ⟨a, xs, ex, q1⟩ := q1
  subst ex
  cases r1 with
  | cons r rr =>
    cases rr
    cases r
    have fp : ∀ b ∈ [s1.heap.objs.size + 1, s1.heap.objs.size], FpOk X pins H1 b := fun b hb => by
      have e' : b = s1.heap.objs.size + 1 ∨ b = s1.heap.objs.size := by simpa using hb
      have hle : s1.heap.objs.size ≤ b := by
        rcases e' with z | z
        · rw [z]; exact Nat.le_add_right _ _
        · rw [z]; exact Nat.le_refl _
      exact I1.fpOk hle (I1.hok.fresh hle)
    rcases q1 with ⟨hq, q⟩ | ⟨hq, q⟩
    · obtain ⟨its, rv, p', hz⟩ := I1.list hq
      refine call_enumerate_list p'.isList fun h' he hit hsz hk => wpAny_pyIter_enum he ?_
      have I2 : Inv X pins σ H1 { s1 with heap := h' } := I1.kept (t' := s1.toks) hk
      exact ⟨s1.heap.objs.size + 1, [s1.heap.objs.size + 1, s1.heap.objs.size], _, _, H1, rfl, I2, turn_enum a (s1.heap.objs.size + 1) s1.heap.objs.size, ⟨⟨.none, he⟩, hit, Nat.succ_ne_self _⟩, fp, q⟩
    · obtain ⟨its, rv, p', hz⟩ := I1.tuple hq
      have hal : a < s1.heap.objs.size := by obtain ⟨o, ho, _⟩ := p'; exact Heap.lt_size ho
      refine call_enumerate_tuple (show s1.heap.IsTuple a its.toArray from p') fun h' he hit hsz hk => wpAny_pyIter_enum he ?_
      have I2 : Inv X pins σ H1 { s1 with heap := h' } := I1.kept (t' := s1.toks) hk
      exact ⟨s1.heap.objs.size + 1, [s1.heap.objs.size + 1, s1.heap.objs.size], _, _, H1, rfl, I2, turn_enumT a (s1.heap.objs.size + 1) s1.heap.objs.size (Nat.ne_of_lt hal) (Nat.ne_of_lt (Nat.lt_succ_of_lt hal)), ⟨⟨.none, he⟩, hit, Nat.succ_ne_self _⟩, fp, q⟩
theorem walk_enumT {K : PySem.W.Frag} {a : Addr} {xs : List V} : Walk (IteT K a) xs.length (fun H => SqT K H a xs) (YPair (fun i => some (.int (i : Nat))) (fun i => xs[i]?)) := by
  refine ⟨fun i H hi g => ⟨xs, xs[i], g, List.getElem?_eq_getElem hi⟩, fun H g => ⟨xs, g, Nat.le_refl _⟩, fun i H x H' hi g y => ?_⟩
  · obtain ⟨T, z, e1, e2, e3, e4⟩ := y
    exact ⟨T, _, z, e1, e2, e3, rfl, e4 xs g⟩
/-- a list, a tuple or a text -/
def iSeq (K : PySem.W.Frag) (tl : TE) : TI := fun σ H R => tl σ H fun x H1 => (∃ a xs, x = .ref a ∧ SqL K H1 a xs ∧ R (Itl K a) H1) ∨ (∃ a xs, x = .ref a ∧ SqT K H1 a xs ∧ R (Itt K a) H1) ∨ ∃ z, x = .str z ∧ R (Its z) H1
theorem pi_seq {X : Cx} {tg l : Expr} {tl : TE} (hl : PE X l tl) : PI X tg l (iSeq X.K tl) := by
  refine ⟨fun pins s σ H R I h => ?_⟩
  refine thn (hl.run pins s σ H _ I h) fun v s1 ⟨x, H1, I1, r1, q1⟩ => ?_
  rcases q1 with ⟨a, xs, e, hq, q⟩ | ⟨a, xs, e, hq, q⟩ | ⟨z, ex, q⟩
  · subst e
    cases r1
    obtain ⟨its, rv, p, hz⟩ := I1.list hq
    refine wpAny_pyIter_list p.isList ?_
    refine ⟨s1.heap.objs.size, [s1.heap.objs.size], _, _, H1, rfl, I1.kept (t' := s1.toks) fun b o e => Heap.get?_push_of_some _ e, turn_list a _, ⟨_, Heap.get?_push_size _ rfl, rfl, rfl⟩, fun b hb => ?_, q⟩
    have e : b = s1.heap.objs.size := by simpa using hb
    subst e
    exact I1.fpOk (Nat.le_refl _) (I1.hok.fresh (Nat.le_refl _))
  · subst e
    cases r1
    obtain ⟨its, rv, p, hz⟩ := I1.tuple hq
    refine wpAny_pyIter_tuple (show s1.heap.IsTuple a its.toArray from p) ?_
    refine ⟨s1.heap.objs.size, [s1.heap.objs.size], _, _, H1, rfl, I1.kept (t' := s1.toks) fun b o e => Heap.get?_push_of_some _ e, turn_tuple a _, ⟨_, Heap.get?_push_size _ rfl, rfl, rfl⟩, fun b hb => ?_, q⟩
    have e : b = s1.heap.objs.size := by simpa using hb
    subst e
    exact I1.fpOk (Nat.le_refl _) (I1.hok.fresh (Nat.le_refl _))
  · subst ex
    obtain ⟨t, rfl⟩ := r1
    cases ha : z.cps.all (· < 128)
    · exact wpAny_pyIter_wide ha (pi_one (tk := s1.toks) I1 _ (turn_str _ z t "str_iterator" (.inr rfl)) ⟨_, Heap.get?_push_size _ rfl, rfl, rfl⟩ q)
    · exact wpAny_pyIter_ascii ha (pi_one (tk := s1.toks) I1 _ (turn_str _ z t "str_ascii_iterator" (.inl rfl)) ⟨_, Heap.get?_push_size _ rfl, rfl, rfl⟩ q)
end L2
namespace Fl
open PySem L2
section
variable {X : Cx} {K : PySem.W.Frag} {G : Hp} {pos : Pos} {tg e : Expr} {te : ET}
theorem walkD_enumT {a : Addr} {us : List V} {xs : List D} (h : SqT K G a us) (d : DdL K G us xs) : WalkD K (IteT K a) G (numbered xs) :=
  ⟨fun H => SqT K H a us, YPair (fun i => some (.int (i : Nat))) (fun i => us[i]?), by unfold numbered; rw [List.length_mapIdx, ← d.len]; exact walk_enumT, fun e r => sqT_ex r.gh (sqT_ex e h), fun {F G' H H' σ ρ i x} e r ⟨T, y, z, y1, y2, y3, y4, y5⟩ hi => by
    subst y1 y3
    cases y4
    obtain ⟨w, e1, e2⟩ := d.get' y5
    obtain ⟨e3, r3, d3⟩ := r.tup (us := [.int (i : Nat), z]) (xs := [.int (i : Nat), w]) y2 (.cons (.int _) (.cons (e2.ex e) .nil))
    exact ⟨.tup [.int (i : Nat), w], _, by simp [numbered, e1], e3, r3.push d3⟩⟩
/-- enumerate of a list or a tuple -/
def iEnA (ta : AT) : AT := fun ρ P => ta ρ fun ys ρ1 => ∃ x xs, ys = [x] ∧ seqD x = some xs ∧ P (numbered xs) ρ1
theorem di_enumA {a : Expr} {ta : AT} {p tpos : Pos} {elts : List Expr} {kk : Nat} (hg : Gl X "enumerate") (hm : X.mg "enumerate" = none) (ha : PA X [a] (liftA X.K ta)) (hs : starEach [a] X.env = [(false, eval a X.env)] := by rfl) :
    PI X (.Tuple elts kk tpos) (.Call (.Name "enumerate" p) [a] [] pos) (liftI X.K (iEnA ta)) :=
  piImp (pi_enumA hg hm ha hs) fun σ H Q ⟨F, G, ρ, P, r, h, k⟩ => goA r h fun ys ρ1 vs G1 H1 ⟨x, xs, hy, hx, h1⟩ e1 r1 d1 => by
    subst hy
    cases d1 with
    | cons a t =>
      cases t
      cases a with
      | lst g t => cases hx; exact ⟨_, _, rfl, .inl ⟨.of (r1.gh _ _ g), k _ _ _ _ _ h1 e1 r1 (walkD_enum (.of g) t)⟩⟩
      | tup g t => cases hx; exact ⟨_, _, rfl, .inr ⟨sqT_ex r1.gh g, k _ _ _ _ _ h1 e1 r1 (walkD_enumT g t)⟩⟩
      | _ => cases hx
/-- what a for walks: a list, a tuple, a text's signs -/
def itemsD : D → Option (List D)
  | .lst xs => some xs
  | .tup xs => some xs
  | .str z => some (signs z)
  | _ => none
def iSq (te : ET) : AT := fun ρ P => te ρ fun s ρ1 => ∃ x xs, s.dat = some x ∧ itemsD x = some xs ∧ P xs ρ1
theorem di_seq (he : PE X e (lift X.K te)) : PI X tg e (liftI X.K (iSq te)) :=
  piImp (pi_seq he) fun σ H Q ⟨F, G, ρ, P, r, h, k⟩ => goE r h fun s ρ1 v G1 H1 ⟨x, xs, hs, hx, h1⟩ e1 r1 => by
    obtain ⟨G2, e2, d2, r2⟩ := r1.frz hs
    cases d2 with
    | lst g t => cases hx; exact .inl ⟨_, _, rfl, .of (r2.gh _ _ g), k _ _ _ _ _ h1 (e1.tr e2) r2 (walkD_list g t)⟩
    | tup g t => cases hx; exact .inr (.inl ⟨_, _, rfl, sqT_ex r2.gh g, k _ _ _ _ _ h1 (e1.tr e2) r2 (walkD_tup g t)⟩)
    | str z ho => cases hx; exact .inr (.inr ⟨_, rfl, k _ _ _ _ _ h1 (e1.tr e2) r2 (walkD_str ho)⟩)
    | _ => cases hx
end
end Fl
namespace Tr
open PySem L2 Fl

structure Exc where
  C : Addr
  fs : List (Str × D)
inductive T (α : Type) where
  | ret (a : α) | fail | exn (e : Exc) | draw (m : Int) (k : Int → T α) | new (us : List Addr) (k : Addr → T α)
namespace T
variable {α β γ : Type}
def bind : T α → (α → T β) → T β
  | .ret a, f => f a
  | .fail, _ => .fail
  | .exn e, _ => .exn e
  | .draw m k, f => .draw m fun r => (k r).bind f
  | .new us k, f => .new us fun p => (k p).bind f
def bind2 (t : T (α × β)) (f : α → β → T γ) : T γ := t.bind fun r => f r.1 r.2
def ofO : Option α → (α → T β) → T β
  | some a, f => f a
  | none, _ => .fail
def need (b : Bool) (t : T α) : T α := if b = true then t else .fail
end T
def wp {α : Type} (Z : Exc → Prop) : T α → (α → Prop) → Prop
  | .ret a, P => P a
  | .fail, _ => False
  | .exn e, _ => Z e
  | .draw m k, P => (0 < m ∧ m < 1000000000) ∧ ∀ r : Int, 0 ≤ r → r < m → wp Z (k r) P
  | .new us k, P => ∀ p : Addr, p ∉ us → wp Z (k p) P
section
variable {α β γ : Type} {Z : Exc → Prop}
theorem wp_ret {a : α} {P : α → Prop} : wp Z (.ret a) P ↔ P a := Iff.rfl
theorem wp_bind {P : β → Prop} {f : α → T β} : ∀ {t : T α}, wp Z (t.bind f) P ↔ wp Z t fun a => wp Z (f a) P
  | .ret a => Iff.rfl
  | .fail => Iff.rfl
  | .exn e => Iff.rfl
  | .draw m k => and_congr Iff.rfl (forall_congr' fun r => forall_congr' fun _ => forall_congr' fun _ => wp_bind)
  | .new us k => forall_congr' fun p => forall_congr' fun _ => wp_bind
theorem wp_bind2 {P : γ → Prop} {f : α → β → T γ} {t : T (α × β)} : wp Z (t.bind2 f) P ↔ wp Z t fun r => wp Z (f r.1 r.2) P := wp_bind
theorem wp_ofO {P : β → Prop} {f : α → T β} {o : Option α} : wp Z (T.ofO o f) P ↔ ∃ a, o = some a ∧ wp Z (f a) P := by
  cases o with
  | none => exact ⟨fun h => h.elim, fun ⟨_, h, _⟩ => by cases h⟩
  | some a => exact ⟨fun h => ⟨a, rfl, h⟩, fun ⟨_, h, q⟩ => by cases h; exact q⟩
theorem wp_need {P : α → Prop} {b : Bool} {t : T α} : wp Z (T.need b t) P ↔ b = true ∧ wp Z t P := by
  unfold T.need
  by_cases h : b = true
  · rw [if_pos h]; exact ⟨fun q => ⟨h, q⟩, fun q => q.2⟩
  · rw [if_neg h]; exact ⟨fun q => q.elim, fun q => absurd q.1 h⟩
theorem wp_ite {P : α → Prop} {b : Bool} {t u : T α} : wp Z (if b = true then t else u) P ↔ if b = true then wp Z t P else wp Z u P := by
  by_cases h : b = true
  · rw [if_pos h, if_pos h]
  · rw [if_neg h, if_neg h]
theorem wp_mono {P Q : α → Prop} (i : ∀ a, P a → Q a) : ∀ {t : T α}, wp Z t P → wp Z t Q
  | .ret a, h => i a h
  | .fail, h => h
  | .exn e, h => h
  | .draw m k, h => ⟨h.1, fun r a b => wp_mono i (h.2 r a b)⟩
  | .new us k, h => fun p a => wp_mono i (h p a)
end
abbrev E' := Env' → T (Sl × Env')
abbrev C' := Env' → T (Bool × Env')
abbrev A' := Env' → T (List D × Env')
abbrev B' := Env' → T (List Sl × Env')
inductive Out where
  | nx (ρ : Env') | rt (s : Sl) | bk (ρ : Env') | ct (ρ : Env')
abbrev S' := Env' → T Out
abbrev M := List Sl → T Sl
def up (Z : Exc → Prop) (f : E') : ET := fun ρ P => wp Z (f ρ) fun r => P r.1 r.2
def upT (Z : Exc → Prop) (f : C') : TTd := fun ρ P => wp Z (f ρ) fun r => P r.1 r.2
def upA (Z : Exc → Prop) (f : A') : AT := fun ρ P => wp Z (f ρ) fun r => P r.1 r.2
def upB (Z : Exc → Prop) (f : B') : BT := fun ρ P => wp Z (f ρ) fun r => P r.1 r.2
def Out.want (E : DE) : Out → Prop
  | .nx ρ => E.nx ρ
  | .rt s => E.rt s
  | .bk ρ => E.bk ρ
  | .ct ρ => E.ct ρ
def upS (Z : Exc → Prop) (f : S') : ST := fun E ρ => wp Z (f ρ) (Out.want E)
def ftM (Z : Exc → Prop) (m : M) : FT := fun ss P => wp Z (m ss) P

def eC (x : D) : E' := fun ρ => .ret (.d x, ρ)
def eVar (i : Nat) : E' := fun ρ => match ρ[i]? with
  | some .src => .ret (.src, ρ)
  | some .sr2 => .ret (.sr2, ρ)
  | some (.gr a _) => .ret (.d (.nd a), ρ)
  | some s => match s.dat with
    | some x => .ret (.d x, ρ.set i (.d x))
    | none => .fail
  | none => .fail
def aNil : A' := fun ρ => .ret ([], ρ)
def aCons (f : E') (g : A') : A' := fun ρ => (f ρ).bind2 fun s ρ1 => T.ofO s.dat fun d => (g ρ1).bind2 fun xs ρ2 => .ret (d :: xs, ρ2)
def eTup (f : A') : E' := fun ρ => (f ρ).bind2 fun xs ρ1 => T.need (decide (xs.length ≤ 1000)) (.ret (.d (.tup xs), ρ1))
def eLst (f : A') : E' := fun ρ => (f ρ).bind2 fun xs ρ1 => T.need (decide (xs.length ≤ 1000)) (.ret (.ol xs, ρ1))
def eDic0 : E' := fun ρ => .ret (.od [] [], ρ)
abbrev O' := D → D → T Sl
def roF (Z : Exc → Prop) (o : O') : RO := fun x y P => wp Z (o x y) P
def eOp (o : O') (f g : E') : E' := fun ρ => (f ρ).bind2 fun x ρ1 => T.ofO x.dat fun dx => (g ρ1).bind2 fun y ρ2 => T.ofO y.dat fun dy => (o dx dy).bind fun z => .ret (z, ρ2)
def tTru (f : E') : C' := fun ρ => (f ρ).bind2 fun x ρ1 => T.ofO x.dat fun d => T.ofO (tru d) fun b => .ret (b, ρ1)
def blO : Sl → Option Bool
  | .d (.bl b) => some b
  | _ => none
def tTst (f : E') : C' := fun ρ => (f ρ).bind2 fun x ρ1 => T.ofO (blO x) fun b => .ret (b, ρ1)
def tNot' (f : C') : C' := fun ρ => (f ρ).bind2 fun b ρ1 => .ret (!b, ρ1)
def tAnd' (f g : C') : C' := fun ρ => (f ρ).bind2 fun b ρ1 => if b = true then g ρ1 else .ret (false, ρ1)
def tOr' (f g : C') : C' := fun ρ => (f ρ).bind2 fun b ρ1 => if b = true then .ret (true, ρ1) else g ρ1
def eAnd (f g : E') : E' := fun ρ => (f ρ).bind2 fun x ρ1 => T.ofO (blO x) fun b => if b = true then g ρ1 else .ret (.d (.bl false), ρ1)
def eOr (f g : E') : E' := fun ρ => (f ρ).bind2 fun x ρ1 => T.ofO (blO x) fun b => if b = true then .ret (.d (.bl true), ρ1) else g ρ1
def eNot (f : E') : E' := fun ρ => (f ρ).bind2 fun x ρ1 => T.ofO (blO x) fun b => .ret (.d (.bl (!b)), ρ1)
def eIf (c : C') (f g : E') : E' := fun ρ => (c ρ).bind2 fun b ρ1 => if b = true then f ρ1 else g ρ1
def eCall (o : List D → T Sl) (f : A') : E' := fun ρ => (f ρ).bind2 fun xs ρ1 => (o xs).bind fun z => .ret (z, ρ1)
def rcF (Z : Exc → Prop) (o : List D → T Sl) : RCd := fun xs P => wp Z (o xs) P
def eIx (f g : E') : E' := fun ρ => (f ρ).bind2 fun x ρ1 => T.ofO x.dat fun dx => (g ρ1).bind2 fun y ρ2 => T.ofO y.dat fun dy => T.ofO (ixD dx dy) fun z => .ret (.d z, ρ2)
abbrev O1' := Env' → T (Option Int × Env')
def oNo' : O1' := fun ρ => .ret (none, ρ)
def intO : Sl → Option Int
  | .d (.int i) => some i
  | _ => none
def oSome' (f : E') : O1' := fun ρ => (f ρ).bind2 fun x ρ1 => T.ofO (intO x) fun i => .ret (some i, ρ1)
def eSl (f : E') (l h : O1') : E' := fun ρ => (f ρ).bind2 fun x ρ1 => T.ofO x.dat fun dx => (l ρ1).bind2 fun lo ρ2 => (h ρ2).bind2 fun hi ρ3 => T.ofO (slD dx lo hi) fun y => .ret (y, ρ3)
def eChain (o1 o2 : O') (f g h : E') : E' := fun ρ => (f ρ).bind2 fun x ρ1 => T.ofO x.dat fun dx => (g ρ1).bind2 fun y ρ2 => T.ofO y.dat fun dy => (o1 dx dy).bind fun z => T.ofO (blO z) fun b =>
  if b = true then (h ρ2).bind2 fun w ρ3 => T.ofO w.dat fun dw => (o2 dy dw).bind fun z => .ret (z, ρ3) else .ret (.d (.bl false), ρ2)
def eIsi (Ty : String) (f : E') : E' := fun ρ => (f ρ).bind2 fun s ρ1 => T.ofO s.dat fun x => T.need (!isIns x) (.ret (.d (.bl (isT Ty x)), ρ1))
def eIsi2 (Ty Uy : String) (f : E') : E' := fun ρ => (f ρ).bind2 fun s ρ1 => T.ofO s.dat fun x => T.need (!isIns x) (.ret (.d (.bl (isT Ty x || isT Uy x)), ρ1))
def dicO : D → Option (List Key × List D)
  | .dic ks vs => some (ks, vs)
  | _ => none
def eDg (f g : E') : E' := fun ρ => (f ρ).bind2 fun s ρ1 => T.ofO s.dat fun x => (g ρ1).bind2 fun s2 ρ2 => T.ofO s2.dat fun y => T.ofO (dicO x) fun q => T.ofO (keyD y) fun j => T.ofO (lkD q.1 q.2 j) fun z => .ret (.d z, ρ2)
def eDin (f g : E') : E' := fun ρ => (f ρ).bind2 fun s2 ρ1 => T.ofO s2.dat fun y => (g ρ1).bind2 fun s ρ2 => T.ofO s.dat fun x => T.ofO (dicO x) fun q => T.ofO (keyD y) fun j => .ret (.d (.bl (lkD q.1 q.2 j).isSome), ρ2)
def ownO (i : Nat) (ρ : Env') : Option (List D) := match ρ[i]? with
  | some (.ol xs) => some xs
  | _ => none
def odO (i : Nat) (ρ : Env') : Option (List Key × List D) := match ρ[i]? with
  | some (.od ks vs) => some (ks, vs)
  | _ => none
def dint : D → Option Int
  | .int i => some i
  | _ => none
def dlst : D → Option (List D)
  | .lst xs => some xs
  | _ => none
def dstr : D → Option Str
  | .str s => some s
  | _ => none
def big : Nat := 1000000
def eApp (i : Nat) (f : E') : E' := fun ρ => T.ofO (ownO i ρ) fun _ => (f ρ).bind2 fun s ρ1 => T.ofO s.dat fun d => T.ofO (ownO i ρ1) fun xs => T.need (decide (xs.length < 1000000)) (.ret (.d .non, ρ1.set i (.ol (xs ++ [d]))))
def eExt (i : Nat) (f : E') : E' := fun ρ => T.ofO (ownO i ρ) fun _ => (f ρ).bind2 fun s ρ1 => T.ofO s.dat fun d => T.ofO (dlst d) fun ys => T.ofO (ownO i ρ1) fun xs => T.need (decide (xs.length + ys.length < 1000000)) (.ret (.d .non, ρ1.set i (.ol (xs ++ ys))))
def ePop (i : Nat) (f : E') : E' := fun ρ => T.ofO (ownO i ρ) fun _ => (f ρ).bind2 fun s ρ1 => T.ofO s.dat fun d => T.ofO (dint d) fun j => T.need (decide (0 ≤ j)) (T.ofO (ownO i ρ1) fun xs => T.need (decide (xs.length < 1000000)) (T.ofO xs[j.toNat]? fun y => .ret (.d y, ρ1.set i (.ol (xs.eraseIdx j.toNat)))))
def eIns (i : Nat) (f g : E') : E' := fun ρ => T.ofO (ownO i ρ) fun _ => (f ρ).bind2 fun s ρ1 => T.ofO s.dat fun d => (g ρ1).bind2 fun s2 ρ2 => T.ofO s2.dat fun y => T.ofO (dint d) fun j => T.need (decide (0 ≤ j ∧ j < 1000000)) (T.ofO (ownO i ρ2) fun xs => T.need (decide (xs.length < 1000000)) (.ret (.d .non, ρ2.set i (.ol (xs.take j.toNat ++ [y] ++ xs.drop j.toNat)))))
def tOwnNe (i : Nat) : C' := fun ρ => T.ofO (ownO i ρ) fun xs => T.need (xs.all (ok 50)) (.ret (!xs.isEmpty, ρ))
def eOwnLen (i : Nat) : E' := fun ρ => T.ofO (ownO i ρ) fun xs => .ret (.d (.int (xs.length : Nat)), ρ)
def eOwnIx (i : Nat) (f : E') : E' := fun ρ => T.ofO (ownO i ρ) fun _ => (f ρ).bind2 fun s ρ1 => T.ofO s.dat fun d => T.ofO (dint d) fun j => T.ofO (ownO i ρ1) fun xs => T.ofO (atI xs j) fun y => .ret (.d y, ρ1)
def eOwnIn (neg : Bool) (i : Nat) (f : E') : E' := fun ρ => (f ρ).bind2 fun s ρ1 => T.ofO s.dat fun d => T.need (flat d) (T.ofO (ownO i ρ1) fun xs => T.need (xs.all flat) (.ret (.d (.bl (if neg then !inD d xs else inD d xs)), ρ1)))
def eClr (i : Nat) : E' := fun ρ => T.ofO (odO i ρ) fun _ => .ret (.d .non, ρ.set i (.od [] []))
def eJoin (f g : E') : E' := fun ρ => (f ρ).bind2 fun s ρ1 => T.ofO s.dat fun d => T.ofO (dstr d) fun a => (g ρ1).bind2 fun s2 ρ2 => T.ofO s2.dat fun y => T.ofO (strsOf y) fun ws =>
  T.need (decide ((ws.map (·.length)).sum + ws.length * a.length ≤ 1000000)) (T.need (sOk (PySem.Txt.join a ws)) (.ret (.d (.str (PySem.Txt.join a ws)), ρ2)))
def eItems (f : E') : E' := fun ρ => (f ρ).bind2 fun s ρ1 => T.ofO s.dat fun x => T.ofO (dicO x) fun q => T.need (q.1.all kOk) (.ret (.d (.lst (pairD q.1 q.2)), ρ1))
def eNeg (f : E') : E' := fun ρ => (f ρ).bind2 fun s ρ1 => T.ofO (intO s) fun i => .ret (.d (.int (-i)), ρ1)
def eFld (C : Addr) (n : Str) (f : E') : E' := fun ρ => (f ρ).bind2 fun s ρ1 => T.ofO s.dat fun x => T.ofO (insOf C x) fun q => T.ofO (lkF q.1 q.2 n) fun y => .ret (.d y, ρ1)
def bNil' : B' := fun ρ => .ret ([], ρ)
def bCons' (f : E') (g : B') : B' := fun ρ => (f ρ).bind2 fun s ρ1 => T.need (pend s) ((g ρ1).bind2 fun ss ρ2 => .ret (s :: ss, ρ2))
def bArg' (f : E') (g : B') : B' := fun ρ => (f ρ).bind2 fun s ρ1 => T.ofO s.arg fun s' => (g ρ1).bind2 fun ss ρ2 => .ret (s' :: ss, ρ2)
def back (t : T Sl) (ρ : Env') : T (Sl × Env') := t.bind fun r => T.need (noNo r) (.ret (r, ρ))
def eFn (n : Nat) (m : M) (f : B') : E' := fun ρ => (f ρ).bind2 fun ss ρ1 => T.need (ss.all argOk && (ss.length == n)) (back (m ss) ρ1)
def eMeth (C : Addr) (x : Str) (n : Nat) (m : M) (f : E') (g : B') : E' := fun ρ => (f ρ).bind2 fun s ρ1 => T.ofO s.dat fun d => T.ofO (insOf C d) fun q => T.need (lkF q.1 q.2 x).isNone
  ((g ρ1).bind2 fun ss ρ2 => T.need (ss.all argOk && (ss.length + 1 == n)) (back (m (.d d :: ss)) ρ2))
def eMeth0 (C : Addr) (x : Str) (m : M) (f : E') : E' := fun ρ => (f ρ).bind2 fun s ρ1 => T.ofO s.dat fun d => T.ofO (insOf C d) fun q => T.need (lkF q.1 q.2 x).isNone (back (m [.d d]) ρ1)
def eProp (C : Addr) (m : M) (f : E') : E' := fun ρ => (f ρ).bind2 fun s ρ1 => T.ofO s.dat fun d => T.ofO (insOf C d) fun _ => back (m [.d d]) ρ1
abbrev MI := List Sl → T (List Str × List D)
def eMakeK (C : Addr) (n k : Nat) (m : MI) (f g : B') : E' := fun ρ => (f ρ).bind2 fun ss ρ1 => T.need (ss.all argOk) ((g ρ1).bind2 fun zs ρ2 => T.need (zs.all argOk && ((ss.length == n) && (zs.length == k))) ((m (ss ++ zs)).bind2 fun ns vs => .ret (.oi C ns vs, ρ2)))
def eMake (C : Addr) (n : Nat) (m : MI) (f : B') : E' := fun ρ => (f ρ).bind2 fun ss ρ1 => T.need (ss.all argOk && (ss.length == n)) ((m ss).bind2 fun ns vs => .ret (.oi C ns vs, ρ1))
def eIsOwn (C : Addr) (f : E') : E' := fun ρ => (f ρ).bind2 fun s ρ1 => T.ofO s.dat fun x => T.need (!isIns x || (insOf C x).isSome) (.ret (.d (.bl (isIns x)), ρ1))
abbrev G' := Sl → Env' → T Env'
def upG (Z : Exc → Prop) (g : G') : GT := fun s ρ P => wp Z (g s ρ) P
abbrev Gs' := List D → Env' → T Env'
def gNm' (i : Nat) : G' := fun s ρ => T.need (decide (i < ρ.length)) (.ret (ρ.set i s))
def gsNil : Gs' := fun _ ρ => .ret ρ
def gsCons (g : G') (gs : Gs') : Gs' := fun xs ρ => match xs with
  | x :: r => (g (.d x) ρ).bind fun ρ1 => gs r ρ1
  | [] => .fail
def tupO (n : Nat) : Sl → Option (List D)
  | .d (.tup xs) => if xs.length = n then some xs else none
  | _ => none
def gTp' (n : Nat) (gs : Gs') : G' := fun s ρ => T.ofO (tupO n s) fun xs => gs xs ρ
def sNext : S' := fun ρ => .ret (.nx ρ)
def sNever : S' := fun _ => .fail
def sBreak : S' := fun ρ => .ret (.bk ρ)
def sCont : S' := fun ρ => .ret (.ct ρ)
def thenS (g : S') : Out → T Out
  | .nx ρ => g ρ
  | o => .ret o
def sSeq (f g : S') : S' := fun ρ => (f ρ).bind (thenS g)
def sExpr (f : E') : S' := fun ρ => (f ρ).bind2 fun _ ρ1 => .ret (.nx ρ1)
def sRet (f : E') : S' := fun ρ => (f ρ).bind2 fun s _ => .ret (.rt s)
def sIf (c : C') (f g : S') : S' := fun ρ => (c ρ).bind2 fun b ρ1 => if b = true then f ρ1 else g ρ1
def sAsg (f : E') (g : G') : S' := fun ρ => (f ρ).bind2 fun s ρ1 => (g s ρ1).bind fun ρ2 => .ret (.nx ρ2)
def two : List Sl → Option (Sl × Sl)
  | [a, b] => some (a, b)
  | _ => none
def three : List Sl → Option (Sl × Sl × Sl)
  | [a, b, c] => some (a, b, c)
  | _ => none
def sPar (i j : Nat) (f : B') : S' := fun ρ => (f ρ).bind2 fun ss ρ1 => T.ofO (two ss) fun q => T.need (decide (i < ρ1.length ∧ j < ρ1.length)) (.ret (.nx ((ρ1.set i q.1).set j q.2)))
def sPar3 (i j l : Nat) (f : B') : S' := fun ρ => (f ρ).bind2 fun ss ρ1 => T.ofO (three ss) fun q => T.need (decide (i < ρ1.length ∧ j < ρ1.length ∧ l < ρ1.length)) (.ret (.nx (((ρ1.set i q.1).set j q.2.1).set l q.2.2)))
def loopT (g : G') (b : S') : List D → Env' → T Out
  | [], ρ => .ret (.nx ρ)
  | x :: xs, ρ => (g (.d x) ρ).bind fun ρ' => (b ρ').bind fun o => match o with
    | .nx ρ2 => loopT g b xs ρ2
    | .ct ρ2 => loopT g b xs ρ2
    | .bk ρ2 => .ret (.nx ρ2)
    | .rt s => .ret (.rt s)
def sFor (f : A') (g : G') (b : S') : S' := fun ρ => (f ρ).bind2 fun xs ρ1 => loopT g b xs ρ1
def whileT (c : C') (b : S') : Nat → Env' → T Out
  | 0, _ => .fail
  | n + 1, ρ => (c ρ).bind2 fun t ρ1 => if t = true then (b ρ1).bind fun o => match o with
    | .nx ρ2 => whileT c b n ρ2
    | .ct ρ2 => whileT c b n ρ2
    | .bk ρ2 => .ret (.nx ρ2)
    | .rt s => .ret (.rt s)
    else .ret (.nx ρ1)
def sWhile (n : Nat) (c : C') (b : S') : S' := fun ρ => whileT c b n ρ
def sSetL (i : Nat) (f g : E') : S' := fun ρ => (f ρ).bind2 fun s ρ1 => T.ofO s.dat fun y => T.ofO (ownO i ρ1) fun _ => (g ρ1).bind2 fun s2 ρ2 => T.ofO s2.dat fun d => T.ofO (dint d) fun j => T.need (decide (0 ≤ j)) (T.ofO (ownO i ρ2) fun xs => T.need (decide (j < (xs.length : Nat))) (.ret (.nx (ρ2.set i (.ol (xs.set j.toNat y))))))
def sSetD (i : Nat) (f g : E') : S' := fun ρ => (f ρ).bind2 fun s ρ1 => T.ofO s.dat fun y => T.ofO (odO i ρ1) fun _ => (g ρ1).bind2 fun s2 ρ2 => T.ofO s2.dat fun d => T.ofO (keyD d) fun j => T.ofO (odO i ρ2) fun q => T.need (decide (q.1.length < 1000000)) (.ret (.nx (ρ2.set i (.od (putD q.1 q.2 j y).1 (putD q.1 q.2 j y).2))))
def instO (C : Addr) (i : Nat) (ρ : Env') : Option (Sl × List Str × List D) := match ρ[i]? with
  | some s => match s.inst with
    | some (C', ns, vs) => if C' = C then some (s, ns, vs) else none
    | none => none
  | none => none
def sSetF (C : Addr) (i : Nat) (n : Str) (f : E') : S' := fun ρ => (f ρ).bind2 fun s ρ1 => T.ofO s.dat fun y => T.ofO (instO C i ρ1) fun q => T.need (decide (q.2.1.length < 1000)) (.ret (.nx (ρ1.set i (q.1.withF (putN q.2.1 q.2.2 n y).1 (putN q.2.1 q.2.2 n y).2))))
def sMatch (f : E') (m : Str → S') : S' := fun ρ => (f ρ).bind2 fun s ρ1 => T.ofO (s.dat.bind dstr) fun z => m z ρ1
def mNil' : Str → S' := fun _ => sNext
def mVal' (c : Str) (b : S') (r : Str → S') : Str → S' := fun z ρ => if z = c then b ρ else r z ρ
def mAny' (b : S') : Str → S' := fun _ => b
def iL' (f : E') : A' := fun ρ => (f ρ).bind2 fun s ρ1 => T.ofO (s.dat.bind dlst) fun xs => .ret (xs, ρ1)
def dtup : D → Option (List D)
  | .tup xs => some xs
  | _ => none
def iT' (f : E') : A' := fun ρ => (f ρ).bind2 fun s ρ1 => T.ofO (s.dat.bind dtup) fun xs => .ret (xs, ρ1)
def iS' (f : E') : A' := fun ρ => (f ρ).bind2 fun s ρ1 => T.ofO (s.dat.bind dstr) fun z => .ret (signs z, ρ1)
def int1 : List D → Option Int
  | [.int n] => some n
  | _ => none
def lst1 : List D → Option (List D)
  | [.lst n] => some n
  | _ => none
def iR' (f : A') : A' := fun ρ => (f ρ).bind2 fun ys ρ1 => T.ofO (int1 ys) fun n => T.need (decide (-1000000 < n ∧ n < 1000000)) (.ret (upto n, ρ1))
def iEn' (f : A') : A' := fun ρ => (f ρ).bind2 fun ys ρ1 => T.ofO (lst1 ys) fun xs => .ret (numbered xs, ρ1)
def lcT (g : G') (tt : C') (te : E') (vs : List Nat) : List D → List D → Env' → T (Sl × Env')
  | [], acc, ρ => .ret (.ol acc, ρ)
  | x :: xs, acc, ρ => (g (.d x) ρ).bind fun ρ1 => (tt ρ1).bind2 fun b ρ2 => if b = true then
      (te ρ2).bind2 fun s ρ3 => T.ofO s.dat fun y => T.need (decide (acc.length < 1000000)) (lcT g tt te vs xs (acc ++ [y]) (wipeD ρ3 vs))
    else lcT g tt te vs xs acc (wipeD ρ2 vs)
def eLc (f : A') (g : G') (tt : C') (te : E') (vs : List Nat) : E' := fun ρ => (f ρ).bind2 fun xs ρ1 => lcT g tt te vs xs [] (wipeD ρ1 vs)
def tYes' : C' := fun ρ => .ret (true, ρ)
def dcT (g : G') (tt : C') (tk tv : E') (vs : List Nat) : List D → List Key → List D → Env' → T (Sl × Env')
  | [], ks, us, ρ => .ret (.od ks us, ρ)
  | x :: xs, ks, us, ρ => (g (.d x) ρ).bind fun ρ1 => (tt ρ1).bind2 fun b ρ2 => if b = true then
      (tk ρ2).bind2 fun s ρ3 => T.ofO s.dat fun y => (tv ρ3).bind2 fun s2 ρ4 => T.ofO s2.dat fun z => T.ofO (keyD y) fun j => T.need (decide (ks.length < 1000000)) (dcT g tt tk tv vs xs (putD ks us j z).1 (putD ks us j z).2 (wipeD ρ4 vs))
    else dcT g tt tk tv vs xs ks us (wipeD ρ2 vs)
def eDc (f : A') (g : G') (tt : C') (tk tv : E') (vs : List Nat) : E' := fun ρ => (f ρ).bind2 fun xs ρ1 => dcT g tt tk tv vs xs [] [] (wipeD ρ1 vs)
def endM : Out → T Sl
  | .nx _ => .ret (.d .non)
  | .rt s => T.need (noNo s) (.ret s)
  | _ => .fail
def defM (k : Nat) (b : S') : M := fun ss => (b (ss ++ List.replicate k .no)).bind endM
def biO (C : Addr) (ρ : Env') : Option (List Str × List D) := match (ρ[0]? : Option Sl) with
  | some (.bi C' ns vs) => if C' = C then some (ns, vs) else none
  | _ => none
def endI (C : Addr) : Out → T (List Str × List D)
  | .nx ρ => T.ofO (biO C ρ) .ret
  | _ => .fail
def defI (C : Addr) (k : Nat) (b : S') : MI := fun ss => (b (.bi C [] [] :: ss ++ List.replicate k .no)).bind (endI C)
def drawM : M := fun ss => match ss with
  | [.src, .d (.int m)] => .draw m fun r => .ret (.d (.int r))
  | _ => .fail
end Tr
namespace Tr
open PySem L2 Fl
section
variable {X : Cx} {e : Expr}
theorem dnE {t t' : ET} (h : PE X e (lift X.K t)) (i : ∀ ρ P, t' ρ P → t ρ P) : PE X e (lift X.K t') := peImp h fun σ H Q ⟨F, G, ρ, P, r, q, k⟩ => ⟨F, G, ρ, P, r, i _ _ q, k⟩
theorem dnT {t t' : TTd} (h : PT X e (liftT X.K t)) (i : ∀ ρ P, t' ρ P → t ρ P) : PT X e (liftT X.K t') := ptImp h fun σ H Q ⟨F, G, ρ, P, r, q, k⟩ => ⟨F, G, ρ, P, r, i _ _ q, k⟩
theorem dnW {t t' : TTd} (h : PW X e (liftT X.K t)) (i : ∀ ρ P, t' ρ P → t ρ P) : PW X e (liftT X.K t') := pwImp h fun σ H Q ⟨F, G, ρ, P, r, q, k⟩ => ⟨F, G, ρ, P, r, i _ _ q, k⟩
theorem dnTs {cs : List Expr} {t t' : TTd} (h : PTs X cs (liftT X.K t)) (i : ∀ ρ P, t' ρ P → t ρ P) : PTs X cs (liftT X.K t') := ⟨fun pins s σ H Q I ⟨F, G, ρ, P, r, q, k⟩ => h.run pins s σ H Q I ⟨F, G, ρ, P, r, i _ _ q, k⟩⟩
theorem dnA {es : List Expr} {t t' : AT} (h : PA X es (liftA X.K t)) (i : ∀ ρ P, t' ρ P → t ρ P) : PA X es (liftA X.K t') := paImp h fun σ H Q ⟨F, G, ρ, P, r, q, k⟩ => ⟨F, G, ρ, P, r, i _ _ q, k⟩
theorem dnB {es : List Expr} {t t' : BT} (h : PA X es (liftB X.K t)) (i : ∀ ρ P, t' ρ P → t ρ P) : PA X es (liftB X.K t') := paImp h fun σ H Q ⟨F, G, ρ, P, r, q, k⟩ => ⟨F, G, ρ, P, r, i _ _ q, k⟩
theorem dnI {tg : Expr} {t t' : AT} (h : PI X tg e (liftI X.K t)) (i : ∀ ρ P, t' ρ P → t ρ P) : PI X tg e (liftI X.K t') := piImp h fun σ H Q ⟨F, G, ρ, P, r, q, k⟩ => ⟨F, G, ρ, P, r, i _ _ q, k⟩
theorem dnS {st : Stmt} {t t' : ST} (h : PS X st (liftS X.K t)) (i : ∀ E ρ, t' E ρ → t E ρ) : PS X st (liftS X.K t') := psImp h fun D σ H ⟨F, G, ρ, E, r, q, w⟩ => ⟨F, G, ρ, E, r, i _ _ q, w⟩
theorem dnSs {st : List Stmt} {t t' : ST} (h : PSs X st (liftS X.K t)) (i : ∀ E ρ, t' E ρ → t E ρ) : PSs X st (liftS X.K t') := pssImp h fun D σ H ⟨F, G, ρ, E, r, q, w⟩ => ⟨F, G, ρ, E, r, i _ _ q, w⟩
theorem dnG {K : PySem.W.Frag} {g0 : TG} {t t' : GT} {is : List Nat} (h : Tgt K g0 t is) (i : ∀ s ρ P, t' s ρ P → t s ρ P) : Tgt K g0 t' is := ⟨fun r q k => h.up r (i _ _ _ q) k⟩
theorem dnGs {K : PySem.W.Frag} {g0 : TGs} {n : Nat} {t t' : List D → Env' → (Env' → Prop) → Prop} {is : List Nat} (h : Tgts K g0 n t is) (i : ∀ s ρ P, t' s ρ P → t s ρ P) : Tgts K g0 n t' is := ⟨fun r d l q k => h.up r d l (i _ _ _ q) k⟩
def upGs (Z : Exc → Prop) (g : Gs') : List D → Env' → (Env' → Prop) → Prop := fun xs ρ P => wp Z (g xs ρ) P
end
section
variable {Z : Exc → Prop} {f g h : E'} {ρ : Env'} {P : Sl → Env' → Prop} {fa : A'} {PA' : List D → Env' → Prop} {c c2 : C'} {PT' : Bool → Env' → Prop} {fb gb : B'} {PB : List Sl → Env' → Prop}
theorem w_c {x : D} (q : up Z (eC x) ρ P) : dC x ρ P := q
theorem w_var {i : Nat} (q : up Z (eVar i) ρ P) : dVar i ρ P := by
  unfold up eVar at q
  unfold dVar
  cases e : ρ[i]? with
  | none => rw [e] at q; exact q
  | some s => rw [e] at q; cases s <;> exact q
theorem w_nil (q : upA Z aNil ρ PA') : dNil ρ PA' := q
theorem w_cons (q : upA Z (aCons f fa) ρ PA') : dCons (up Z f) (upA Z fa) ρ PA' := by
  simpa only [upA, up, aCons, dCons, wp_bind2, wp_ofO, wp_ret] using q
theorem w_tup (q : up Z (eTup fa) ρ P) : dTup (upA Z fa) ρ P := by
  simpa only [upA, up, eTup, dTup, wp_bind2, wp_need, wp_ret, decide_eq_true_eq] using q
theorem w_lst (q : up Z (eLst fa) ρ P) : dLst (upA Z fa) ρ P := by
  simpa only [upA, up, eLst, dLst, wp_bind2, wp_need, wp_ret, decide_eq_true_eq] using q
theorem w_dic0 (q : up Z eDic0 ρ P) : dDic0 ρ P := q
theorem w_op {ro : RO} {o : O'} (i : ∀ x y P, roF Z o x y P → ro x y P) (q : up Z (eOp o f g) ρ P) : dOp ro (up Z f) (up Z g) ρ P := by
  simp only [up, eOp, wp_bind2, wp_bind, wp_ofO, wp_ret] at q
  exact wp_mono (fun a ⟨x, hx, q⟩ => ⟨x, hx, wp_mono (fun b ⟨y, hy, q⟩ => ⟨y, hy, i _ _ _ q⟩) q⟩) q
theorem blO_some {s : Sl} {b : Bool} : blO s = some b ↔ s = .d (.bl b) := by
  constructor
  · intro h
    cases s with
    | d x => cases x <;> first | (cases h; rfl) | cases h
    | _ => cases h
  · rintro rfl; rfl
theorem intO_some {s : Sl} {b : Int} : intO s = some b ↔ s = .d (.int b) := by
  constructor
  · intro h
    cases s with
    | d x => cases x <;> first | (cases h; rfl) | cases h
    | _ => cases h
  · rintro rfl; rfl
theorem w_tst (q : upT Z (tTst f) ρ PT') : dTst (up Z f) ρ PT' := by
  simpa only [upT, up, tTst, dTst, wp_bind2, wp_ofO, wp_ret, blO_some] using q
theorem w_not (q : upT Z (tNot' c) ρ PT') : dNotT (upT Z c) ρ PT' := by
  simpa only [upT, tNot', dNotT, wp_bind2, wp_ret] using q
theorem w_or (q : upT Z (tOr' c c2) ρ PT') : dOrT (upT Z c) (upT Z c2) ρ PT' := by
  simpa only [upT, tOr', dOrT, wp_bind2, wp_ite, wp_ret] using q
theorem w_if (q : up Z (eIf c f g) ρ P) : dIf (upT Z c) (up Z f) (up Z g) ρ P := by
  simpa only [upT, up, eIf, dIf, wp_bind2, wp_ite] using q
theorem w_call {rc : RCd} {o : List D → T Sl} (i : ∀ xs P, rcF Z o xs P → rc xs P) (q : up Z (eCall o fa) ρ P) : dCall rc (upA Z fa) ρ P := by
  simp only [up, eCall, wp_bind2, wp_bind, wp_ret] at q
  exact wp_mono (fun a q => i _ _ q) q
theorem w_ix (q : up Z (eIx f g) ρ P) : dIx (up Z f) (up Z g) ρ P := by
  simpa only [up, eIx, dIx, wp_bind2, wp_ofO, wp_ret] using q
theorem w_neg (q : up Z (eNeg f) ρ P) : dNeg (up Z f) ρ P := by
  simpa only [up, eNeg, dNeg, wp_bind2, wp_ofO, wp_ret, intO_some] using q
theorem w_bnil (q : upB Z bNil' ρ PB) : bNil ρ PB := q
theorem w_barg (q : upB Z (bArg' f gb) ρ PB) : bArg (up Z f) (upB Z gb) ρ PB := by
  simpa only [upB, up, bArg', bArg, wp_bind2, wp_ofO, wp_ret] using q
theorem w_back {t : T Sl} {ρ1 : Env'} (q : wp Z (back t ρ1) fun r => P r.1 r.2) : wp Z t fun r => noNo r = true ∧ P r ρ1 := by
  simpa only [back, wp_bind, wp_need, wp_ret] using q
theorem w_fn {n : Nat} {m : M} (q : up Z (eFn n m fb) ρ P) : dFn (ftM Z m) (fun ρ Q => upB Z fb ρ fun ss ρ1 => ss.length = n ∧ Q ss ρ1) ρ P := by
  simp only [up, eFn, wp_bind2, wp_need, Bool.and_eq_true, beq_iff_eq] at q
  exact wp_mono (fun a ⟨⟨h1, h2⟩, q⟩ => ⟨h2, h1, w_back q⟩) q
end
section
variable {Z : Exc → Prop} {f g : E'} {ρ : Env'} {c : C'} {sf sg : S'} {E : DE} {fb : B'} {fa : A'} {s : Sl} {PG : Env' → Prop} {gg : G'}
theorem w_gnm {i : Nat} (q : upG Z (gNm' i) s ρ PG) : gNm i s ρ PG := by
  simpa only [upG, gNm', gNm, wp_need, wp_ret, decide_eq_true_eq] using q
theorem w_gsnil {xs : List D} (q : upGs Z gsNil xs ρ PG) : gNil' xs ρ PG := q
theorem w_gscons {xs : List D} {gs : Gs'} (q : upGs Z (gsCons gg gs) xs ρ PG) : gCons' (upG Z gg) (upGs Z gs) xs ρ PG := by
  cases xs with
  | nil => exact q
  | cons x r =>
    have q : wp Z ((gg (.d x) ρ).bind fun ρ1 => gs r ρ1) PG := q
    exact wp_bind.mp q
theorem tupO_some {n : Nat} {s : Sl} {xs : List D} : tupO n s = some xs ↔ s = .d (.tup xs) ∧ xs.length = n := by
  constructor
  · intro h
    cases s with
    | d x =>
      cases x with
      | tup ys =>
        have h : (if ys.length = n then some ys else none) = some xs := h
        split at h
        · cases h; exact ⟨rfl, by assumption⟩
        · cases h
      | _ => cases h
    | _ => cases h
  · rintro ⟨rfl, h⟩
    exact if_pos h
theorem w_gtp {n : Nat} {gs : Gs'} (q : upG Z (gTp' n gs) s ρ PG) : gTp n (upGs Z gs) s ρ PG := by
  simp only [upG, gTp', wp_ofO, tupO_some] at q
  obtain ⟨xs, ⟨rfl, h⟩, q⟩ := q
  exact ⟨xs, rfl, h, q⟩
theorem w_next (q : upS Z sNext E ρ) : dNext E ρ := q
theorem w_seq (q : upS Z (sSeq sf sg) E ρ) : dSeq (upS Z sf) (upS Z sg) E ρ := by
  simp only [upS, sSeq, wp_bind] at q
  exact wp_mono (fun o q => by cases o <;> exact q) q
theorem w_ret (q : upS Z (sRet f) E ρ) : dRet (up Z f) E ρ := by
  simp only [upS, sRet, wp_bind2, wp_ret] at q; exact q
theorem w_ifS (q : upS Z (sIf c sf sg) E ρ) : dIfS (upT Z c) (upS Z sf) (upS Z sg) E ρ := by
  simp only [upS, sIf, wp_bind2, wp_ite] at q; exact q
theorem loop_up : ∀ {xs : List D} {ρ : Env'}, wp Z (loopT gg sf xs ρ) (Out.want E) → loopS (upG Z gg) (upS Z sf) E xs ρ
  | [], ρ, q => q
  | x :: xs, ρ, q => by
    simp only [loopT, wp_bind] at q
    refine wp_mono (fun ρ' q => wp_mono (fun o q => ?_) q) q
    cases o with
    | nx ρ2 => exact loop_up q
    | ct ρ2 => exact loop_up q
    | bk ρ2 => exact q
    | rt s => exact q
theorem w_for (q : upS Z (sFor fa gg sf) E ρ) : dFor (upA Z fa) (upG Z gg) (upS Z sf) E ρ := by
  simp only [upS, sFor, wp_bind2] at q
  exact wp_mono (fun a q => loop_up q) q
variable {PA' : List D → Env' → Prop} {P : Sl → Env' → Prop}
theorem int1_some {xs : List D} {n : Int} : int1 xs = some n ↔ xs = [.int n] := by
  constructor
  · intro h
    match xs, h with
    | [.int n], h => cases h; rfl
  · rintro rfl; rfl
theorem w_iR (q : upA Z (iR' fa) ρ PA') : iR (upA Z fa) ρ PA' := by
  simpa only [upA, iR', iR, wp_bind2, wp_ofO, wp_need, wp_ret, int1_some, decide_eq_true_eq] using q
theorem lc_up {vs : List Nat} {te : E'} : ∀ {xs acc : List D} {ρ : Env'}, wp Z (lcT gg c te vs xs acc ρ) (fun r => P r.1 r.2) → loopC (upG Z gg) (upT Z c) (up Z te) vs P xs acc ρ
  | [], acc, ρ, q => q
  | x :: xs, acc, ρ, q => by
    unfold lcT at q
    unfold loopC
    refine wp_mono (fun ρ1 q => ?_) (wp_bind.mp q)
    refine wp_mono (fun b q => ?_) (wp_bind2.mp q)
    by_cases h : b.1 = true
    · rw [if_pos h] at q ⊢
      refine wp_mono (fun s q => ?_) (wp_bind2.mp q)
      obtain ⟨y, hy, q⟩ := wp_ofO.mp q
      obtain ⟨hl, q⟩ := wp_need.mp q
      exact ⟨y, hy, of_decide_eq_true hl, lc_up q⟩
    · rw [if_neg h] at q ⊢
      exact lc_up q
theorem w_lc {vs : List Nat} {te : E'} (q : up Z (eLc fa gg c te vs) ρ P) : dLc (upA Z fa) (upG Z gg) (upT Z c) (up Z te) vs ρ P := by
  simp only [up, eLc, wp_bind2] at q
  exact wp_mono (fun a q => lc_up q) q
theorem w_yes {PT' : Bool → Env' → Prop} (q : upT Z tYes' ρ PT') : dYes ρ PT' := q
theorem body_of {N : List Str} {n k : Nat} (hk : N.length - n = k) : Body N n (upS Z sf) (ftM Z (defM k sf)) := fun ss P _ _ q => by
  rw [hk]
  have q := wp_bind.mp q
  refine wp_mono (fun o q => ?_) q
  cases o with
  | nx ρ => exact q
  | rt s => exact wp_need.mp q
  | bk ρ => exact q
  | ct ρ => exact q
end
end Tr
namespace Tr
open PySem L2 Fl
open PyProof.Rows (envOfC)
def oAdd : O' := fun x y => match x, y with
  | .int i, .int j => .ret (.d (.int (i + j)))
  | .str a, .str b => T.need (decide (a.length + b.length ≤ 100000)) (.ret (.d (.str (a ++ b))))
  | .lst a, .lst b => T.need (decide (a.length + b.length ≤ 100000)) (.ret (.ol (a ++ b)))
  | .tup a, .tup b => T.need (decide (a.length + b.length ≤ 100000)) (.ret (.d (.tup (a ++ b))))
  | _, _ => .fail
def oSub : O' := fun x y => match x, y with
  | .int i, .int j => .ret (.d (.int (i - j)))
  | _, _ => .fail
def oMul : O' := fun x y => match x, y with
  | .int i, .int j => T.need (decide (-1000000000000 < i ∧ i < 1000000000000)) (.ret (.d (.int (i * j))))
  | .lst a, .int j => T.need (decide (0 ≤ j ∧ j ≤ 1000 ∧ a.length ≤ 1000)) (.ret (.ol (reps a j)))
  | _, _ => .fail
def oMod : O' := fun x y => match x, y with
  | .int i, .int j => T.need (decide (0 < j)) (.ret (.d (.int (i % j))))
  | _, _ => .fail
def oFdv : O' := fun x y => match x, y with
  | .int i, .int j => T.need (decide (0 < j ∧ j < 1000000000)) (.ret (.d (.int (i.fdiv j))))
  | _, _ => .fail
def oRel (c : Int → Int → Bool) : O' := fun x y => match x, y with
  | .int i, .int j => .ret (.d (.bl (c i j)))
  | _, _ => .fail
def oLt : O' := oRel fun i j => decide (i < j)
def oLe : O' := oRel fun i j => decide (i ≤ j)
def oGt : O' := oRel fun i j => decide (j < i)
def oGe : O' := oRel fun i j => decide (j ≤ i)
def oEq : O' := fun x y => T.need (ok 60 x && ok 60 y) (.ret (.d (.bl (eqD x y))))
def oNe : O' := fun x y => T.need (ok 60 x && ok 60 y) (.ret (.d (.bl (!eqD x y))))
def oIsN : O' := fun x y => T.need (isNon y) (.ret (.d (.bl (isNon x))))
def oNotN : O' := fun x y => T.need (isNon y) (.ret (.d (.bl (!isNon x))))
def oIn : O' := fun x y => T.ofO (inSeq x y) fun b => .ret (.d (.bl b))
def oNotIn : O' := fun x y => T.ofO (inSeq x y) fun b => .ret (.d (.bl (!b)))
section
variable {Z : Exc → Prop} {x y : D} {P : Sl → Prop}
theorem wo_add (x y : D) (P : Sl → Prop) (q : roF Z oAdd x y P) : dAdd x y P := by
  have go : ∀ {b : Prop} [Decidable b] {s : Sl}, wp Z (T.need (decide b) (.ret s)) P → b ∧ P s := fun q => let h := wp_need.mp q; ⟨of_decide_eq_true h.1, h.2⟩
  cases x <;> cases y <;> first | exact q | exact go q
theorem wo_rel {c : Int → Int → Bool} (x y : D) (P : Sl → Prop) (q : roF Z (oRel c) x y P) : dRel c x y P := by
  cases x <;> cases y <;> exact q
theorem wo_gt (x y : D) (P : Sl → Prop) (q : roF Z oGt x y P) : dGt x y P := wo_rel x y P q
theorem wo_eq (x y : D) (P : Sl → Prop) (q : roF Z oEq x y P) : dEq x y P := by
  obtain ⟨h, q⟩ := wp_need.mp q
  rw [Bool.and_eq_true] at h
  exact ⟨h.1, h.2, q⟩
theorem wo_ne (x y : D) (P : Sl → Prop) (q : roF Z oNe x y P) : dNe x y P := by
  obtain ⟨h, q⟩ := wp_need.mp q
  rw [Bool.and_eq_true] at h
  exact ⟨h.1, h.2, q⟩
theorem wo_in (x y : D) (P : Sl → Prop) (q : roF Z oIn x y P) : dIn x y P := wp_ofO.mp q
theorem wo_notIn (x y : D) (P : Sl → Prop) (q : roF Z oNotIn x y P) : dNotIn x y P := wp_ofO.mp q
end
def cp : List D → Option D
  | [x] => some x
  | _ => none
theorem cp_some {xs : List D} {x : D} : cp xs = some x ↔ xs = [x] := by
  constructor
  · intro h
    match xs, h with
    | [a], h => cases h; rfl
  · rintro rfl; rfl
def fLen : List D → T Sl := fun xs => T.ofO (cp xs) fun x => T.ofO (lenD x) fun n => .ret (.d (.int (n : Nat)))
def fList : List D → T Sl := fun xs => T.ofO (cp xs) fun x => T.ofO (seqD x) fun ys => .ret (.ol ys)
def fTuple : List D → T Sl := fun xs => T.ofO (cp xs) fun x => T.ofO (seqD x) fun ys => .ret (.d (.tup ys))
def fInt : List D → T Sl := fun xs => match xs with
  | [.int i] => .ret (.d (.int i))
  | [.bl b] => .ret (.d (.int (if b then 1 else 0)))
  | _ => .fail
def bl1 : D → Option Bool
  | .bl b => some b
  | _ => none
def bls : List D → Option (List Bool)
  | [] => some []
  | x :: xs => match bl1 x, bls xs with
    | some b, some bs => some (b :: bs)
    | _, _ => none
def fAll : List D → T Sl := fun xs => T.ofO (lst1 xs) fun ys => T.ofO (bls ys) fun bs => .ret (.d (.bl (bs.all id)))
def fAny : List D → T Sl := fun xs => T.ofO (lst1 xs) fun ys => T.ofO (bls ys) fun bs => .ret (.d (.bl (bs.any id)))
def fRepr : List D → T Sl := fun xs => T.ofO (cp xs) fun x => T.need (shw 60 x && decide (wt x ≤ 100000)) (.ret (.d (.str (reprD x))))
def fDict : List D → T Sl := fun xs => T.ofO (cp xs) fun x => T.ofO (dicO x) fun q => .ret (.od q.1 q.2)
def prs : List D → Option (List (Key × D))
  | [] => some []
  | x :: xs => match pairIn x, prs xs with
    | some b, some bs => some (b :: bs)
    | _, _ => none
/-- texts in order -/
def insS (x : Str) : List Str → List Str
  | [] => [x]
  | y :: ys => if PySem.Spec.ltCps y.cps.toList x.cps.toList then y :: insS x ys else x :: y :: ys
def sortS : List Str → List Str
  | [] => []
  | x :: xs => insS x (sortS xs)
def fSortS : List D → T Sl := fun xs => T.ofO (cp xs) fun x => T.ofO (sortIn x) fun ws => T.need (decide (ws.length < 64) && ws.all sOk) (.ret (.ol ((sortS ws).map D.str)))
section
variable {Z : Exc → Prop}
theorem wf_len (xs : List D) (P : Sl → Prop) (q : rcF Z fLen xs P) : cLen xs P := by
  simp only [rcF, fLen, wp_ofO, wp_ret, cp_some] at q
  obtain ⟨x, h, n, h2, q⟩ := q
  exact ⟨x, n, h, h2, q⟩
theorem wf_repr (xs : List D) (P : Sl → Prop) (q : rcF Z fRepr xs P) : cRepr xs P := by
  simp only [rcF, fRepr, wp_ofO, wp_need, wp_ret, cp_some, Bool.and_eq_true, decide_eq_true_eq] at q
  obtain ⟨x, h, h2, q⟩ := q
  exact ⟨x, h, h2.1, h2.2, q⟩
end
def Z0 : Exc → Prop := fun _ => False
section
variable {P : Program} {w : World} {K : PySem.W.Frag} {mg : Str → Option Value} {base : Heap} {x qual : Str} {st : Stmt} {f : Addr} {fd : FuncData} {N ps : List Str} {k n j : Nat} {Z : Exc → Prop} {b : S'}
theorem fun_M (F : Fun K x qual st f fd) (S : FnScope N ps (defScope st)) (hn : ps.length = n) (hj : N.length - n = j)
    (hb : ∀ (cdv : Value) (A : Around) (outer : List Env) (s : Shared) (H : Hp) (E : XK), Room k (A.deeper (envOfC qual (defScope st) s.heap.objs.size f cdv)) →
      PSs (cxOf CX0 P w K mg base N qual (defScope st) f cdv A outer s H E).nox (defBody st) (liftS K (upS Z b))) : FnOk P w K mg base CX0 (k + 1) f fd ps (spD K n (ftM Z (defM j b))) :=
  fun_d F S hn fun cdv A outer s H E hr => ⟨_, hb cdv A outer s H E hr, body_of hj⟩
theorem ft_draw : ∀ ss P, ftM Z drawM ss P → ftDraw ss P := fun ss P q => by
  have q : wp Z (drawM ss) P := q
  unfold drawM at q
  split at q
  · exact ⟨_, rfl, q.1.1, q.1.2, q.2⟩
  · exact q.elim
/-- a promise weakened -/
theorem FnOk.dn {sp sp' : Sp} (F : FnOk P w K mg base CX0 k f fd ps sp) (hl : ∀ vs H Q E, sp' vs H Q E → vs.length = ps.length) (i : ∀ vs H Q E, sp' vs H Q E → sp vs H Q E) : FnOk P w K mg base CX0 k f fd ps sp' :=
  ⟨hl, fun A outer s H args us vs Q E hr e b r h => F.run A outer s H args us vs Q E hr e b r (i _ _ _ _ h)⟩
theorem FnOk.ft {ft ft' : FT} (F : FnOk P w K mg base CX0 k f fd ps (spD K n ft)) (i : ∀ ss P, ft' ss P → ft ss P) : FnOk P w K mg base CX0 k f fd ps (spD K n ft') :=
  FnOk.dn F (fun vs H Q E h => F.len vs H Q E (let ⟨G, src, ss, P, a, b, c, d, e⟩ := h; ⟨G, src, ss, P, a, b, c, i _ _ d, e⟩)) fun vs H Q E ⟨G, src, ss, P, a, b, c, d, e⟩ => ⟨G, src, ss, P, a, b, c, i _ _ d, e⟩
end
end Tr
namespace Fl
open PySem PySem.W L2 Tr
/-- the items at these places -/
def pk {α : Type} (is : List Nat) (xs : List α) : List α := is.filterMap fun i => xs[i]?
section
variable {K : PySem.W.Frag} {F : Fr} {G H : Hp} {σ : St} {ρ ss : Env'}
/-- arguments in another order -/
theorem R.pk (r : R K F G H (σ) ρ) : ∀ {τ : List V} {ss : Env'}, R K F G H (τ.map some ++ σ) (ss ++ ρ) → τ.length = ss.length → ss.all argOk = true → ∀ is : List Nat,
    R K F G H ((pk is τ).map some ++ σ) (pk is ss ++ ρ) ∧ (pk is τ).length = (pk is ss).length ∧ (pk is ss).all argOk = true := by
  intro τ ss r0 hl ha is
  have one : ∀ (i : Nat) (v : V) (s : Sl), τ[i]? = some v → ss[i]? = some s → (∃ x, s = .d x ∧ Dd K G v x) ∨ (s = .src ∧ ∃ a c, v = .ref a ∧ F.src = some (a, [c])) ∨ (s = .sr2 ∧ ∃ a c g, v = .ref a ∧ F.src = some (a, [c, g])) ∨ (∃ x p o, s = .ld x ∧ v = .ref p ∧ LdOk K G o x ∧ F.H0 p = some o ∧ ¬ InSrc F p ∧ ¬ InSelf F p) := by
    intro i v s hv hs
    obtain ⟨os, h, nd, f⟩ := r0.sl
    obtain ⟨o1, o2, rfl, h3, h4⟩ := h.split (by simpa using hl)
    have hs' : ss[i]? = some s := hs
    obtain ⟨v', p1, p2, e1, e2, _⟩ := h3.at hs'
    rw [List.getElem?_map, hv] at e1
    cases e1
    have hm : argOk s = true := List.all_eq_true.mp ha s (List.mem_of_getElem? hs)
    cases e2 with
    | d q => exact .inl ⟨_, rfl, q⟩
    | src q => exact .inr (.inl ⟨rfl, _, _, rfl, q⟩)
    | on _ _ _ _ _ _ _ _ _ _ => cases hm
    | xt _ _ _ => cases hm
    | gr _ => cases hm
    | pk _ _ => cases hm
    | sr2 q => exact .inr (.inr (.inl ⟨rfl, _, _, _, rfl, q⟩))
    | ld a h0 h1 h2 => exact .inr (.inr (.inr ⟨_, _, _, rfl, rfl, a, h0, h1, h2⟩))
    | no => cases hm
    | ol _ _ _ => cases hm
    | od _ _ _ _ _ => cases hm
    | oi _ _ _ _ _ _ => cases hm
    | bi _ _ _ _ _ => cases hm
  induction is with
  | nil => exact ⟨r, rfl, rfl⟩
  | cons i is ih =>
    obtain ⟨r1, l1, a1⟩ := ih
    unfold Fl.pk at r1 l1 a1 ⊢
    rw [List.filterMap_cons, List.filterMap_cons]
    cases e : τ[i]? with
    | none =>
      have e2 : ss[i]? = none := List.getElem?_eq_none (by rw [← hl]; exact List.getElem?_eq_none_iff.mp e)
      rw [e2]; exact ⟨r1, l1, a1⟩
    | some v =>
      have hi := (List.getElem?_eq_some_iff.mp e).1
      have e2 : ss[i]? = some ss[i] := List.getElem?_eq_getElem (by rw [← hl]; exact hi)
      rw [e2]
      rcases one i v _ e e2 with ⟨x, hx, q⟩ | ⟨hx, a, c, rfl, q⟩ | ⟨hx, a, c, g, rfl, q⟩ | ⟨x, p, o, hx, rfl, q0, q1, q2, q3⟩
      · rw [hx]
        exact ⟨r1.push q, by simp [l1], by simp [argOk, a1]⟩
      · rw [hx]
        exact ⟨r1.pushSrc q, by simp [l1], by simp [argOk, a1]⟩
      · rw [hx]
        exact ⟨r1.pushSr2 q, by simp [l1], by simp [argOk, a1]⟩
      · rw [hx]
        exact ⟨r1.pushLd q0 q1 q2 q3, by simp [l1], by simp [argOk, a1]⟩
end
section
variable {X : Cx} {k n m N : Nat} {fa C : Addr} {fd : FuncData} {ps ks : List Str} {x : Str} {p pos apos : Pos} {e o : Expr} {es : List Expr} {kws : List Keyword} {bb bk : BT} {te : ET} {ft : FT} {fi : FI} {is : List Nat}
end
end Fl
namespace L2
open PySem PySem.Spec PyProof.Rows
open AutoSeq1 (wpAny_loadPart')
section
variable {P : Program} {w : World} {A : Around} {E : Value → Shared → Prop} {s : Shared}
set_option maxRecDepth 100000 in
set_option maxHeartbeats 3200000 in
end
end L2
namespace L2
open PySem PySem.Spec PyProof.Rows
section
variable {X : Cx}
end
end L2
namespace Fl
open PySem PySem.W L2
/-- the ints of a list, ascending, each once -/
def insU (x : Int) : List Int → List Int
  | [] => [x]
  | y :: ys => if x < y then x :: y :: ys else if x = y then y :: ys else y :: insU x ys
def uniqI : List Int → List Int
  | [] => []
  | x :: xs => insU x (uniqI xs)
def intsD : List D → Option (List Int)
  | [] => some []
  | .int i :: xs => match intsD xs with
    | some is => some (i :: is)
    | none => none
  | _ => none
section
variable {X : Cx} {e : Expr} {te : ET} {p p2 p3 pos : Pos}
end
end Fl
namespace Fl
open PySem PySem.Spec PyProof.Rows
section
variable {prog : Program} {w : World} {A : Around} {E : Value → Shared → Prop} {s : Shared} {K : PySem.W.Frag} {x C f : Addr} {ox : Obj} {od : Option Obj} {name : Str}
end
end Fl
namespace Fl
open PySem L2
section
variable {X : Cx} {k n : Nat} {fa C : Addr} {fd : FuncData} {ps : List Str} {ft : FT} {e : Expr} {te : ET} {p pos : Pos}
end
structure SMet (K : PySem.W.Frag) (C : Addr) (m : Str) (p g : Addr) : Prop where
  rd : PySem.W.readsIn K C (.type "type") = true
  ga : PySem.W.specialIn K (.ref C) "__getattribute__" = some (some (.builtin "type.__getattribute__"))
  at_ : PySem.W.findCls K (.ref C) (.type "type") m = some (.get (.builtin "staticmethod.__get__") (.ref p) .none (.ref C))
  rc : ∃ rest, PySem.W.recIn K p "staticmethod" = some (.ref g :: rest)
  kp : PySem.W.keepIn K (.ref g) = true
section
variable {X : Cx} {k n : Nat} {fa C q : Addr} {fd : FuncData} {ps : List Str} {ft : FT} {e : Expr} {es : List Expr} {tb : BT} {x m : Str} {p pos apos : Pos}
end
end Fl
namespace Tr
open PySem L2 Fl
/-- which classes' instances may stand beside an instance of C in == -/
structure NF (K : PySem.W.Frag) (C : Addr) : Prop where
  me : PySem.W.notFirst K C (.ref C) = true
  no : ∀ T ∈ ["NoneType", "bool", "int", "str", "list", "tuple", "dict"], PySem.W.notFirst K C (.type T) = true
def iEnA' (f : A') : A' := fun ρ => (f ρ).bind2 fun ys ρ1 => T.ofO ((cp ys).bind seqD) fun xs => .ret (numbered xs, ρ1)
def iSq' (f : E') : A' := fun ρ => (f ρ).bind2 fun s ρ1 => T.ofO (s.dat.bind itemsD) fun xs => .ret (xs, ρ1)
def eFnP (n m N : Nat) (is : List Nat) (t : M) (f g : B') : E' := fun ρ => (f ρ).bind2 fun ss ρ1 => T.need (ss.all argOk) ((g ρ1).bind2 fun zs ρ2 => T.need (zs.all argOk && ((ss.length == n) && ((zs.length == m) && ((pk is (ss ++ zs)).length == N)))) (back (t (pk is (ss ++ zs))) ρ2))
def eMethP (C : Addr) (x : Str) (m N : Nat) (is : List Nat) (t : M) (f : E') (g : B') : E' := fun ρ => (f ρ).bind2 fun s ρ1 => T.ofO s.dat fun d => T.ofO (insOf C d) fun q => T.need (lkF q.1 q.2 x).isNone
  ((g ρ1).bind2 fun ss ρ2 => T.need ((ss.length == m) && (ss.all argOk && ((pk is ss).length + 1 == N))) (back (t (.d d :: pk is ss)) ρ2))
def eMakeP (C : Addr) (n m N : Nat) (is : List Nat) (t : MI) (f g : B') : E' := fun ρ => (f ρ).bind2 fun ss ρ1 => T.need (ss.all argOk) ((g ρ1).bind2 fun zs ρ2 => T.need (zs.all argOk && ((ss.length == n) && ((zs.length == m) && ((pk is (ss ++ zs)).length + 1 == N)))) ((t (pk is (ss ++ zs))).bind2 fun ns vs => .ret (.oi C ns vs, ρ2)))
def eSortSet (f : E') : E' := fun ρ => (f ρ).bind2 fun s ρ1 => T.ofO (s.dat.bind dlst) fun xs => T.ofO (intsD xs) fun ns => T.need (decide (ns.length ≤ 60)) (.ret (.ol ((uniqI ns).map D.int), ρ1))
def eRev (f : E') : E' := fun ρ => (f ρ).bind2 fun s ρ1 => T.ofO (s.dat.bind dlst) fun xs => .ret (.ol xs.reverse, ρ1)
def oOwnEq (C : Addr) (m : M) : O' := fun x y => T.ofO (insOf C x) fun _ => T.need (!isIns y || (insOf C y).isSome) ((m [.d x, .d y]).bind fun s => T.need (noNo s) (.ret s))
def oOwnNe (C : Addr) (m : M) : O' := fun x y => T.ofO (insOf C x) fun _ => T.need (!isIns y || (insOf C y).isSome) ((m [.d x, .d y]).bind fun s => T.ofO (blO s) fun b => .ret (.d (.bl (!b))))
def fOwnLen (C : Addr) (m : M) : List D → T Sl := fun xs => T.ofO (cp xs) fun x => T.ofO (insOf C x) fun _ => (m [.d x]).bind fun s => T.ofO (intO s) fun i => T.need (decide (0 ≤ i ∧ i < 1000000)) (.ret (.d (.int i)))
section
variable {Z : Exc → Prop} {f g : E'} {ρ : Env'} {P : Sl → Env' → Prop} {fa : A'} {PA' : List D → Env' → Prop} {fb gb : B'}
theorem w_tst2 {te : ET} {PT' : Bool → Env' → Prop} (i : ∀ {ρ P}, up Z f ρ P → te ρ P) (q : upT Z (tTst f) ρ PT') : dTst te ρ PT' := i (w_tst q)
theorem w_set {i : Nat} {E : DE} (q : upS Z (sAsg f (gNm' i)) E ρ) : dAsg (up Z f) (gNm i) E ρ := by
  simp only [upS, sAsg, wp_bind2, wp_bind, wp_ret] at q
  exact wp_mono (fun a q => w_gnm q) q
theorem bind_seqD {ys : List D} {xs : List D} : (cp ys).bind seqD = some xs ↔ ∃ x, ys = [x] ∧ seqD x = some xs := by
  rw [Option.bind_eq_some_iff]
  simp only [cp_some]
theorem w_iEnA (q : upA Z (iEnA' fa) ρ PA') : iEnA (upA Z fa) ρ PA' := by
  simp only [upA, iEnA', wp_bind2, wp_ofO, wp_ret, bind_seqD] at q
  exact wp_mono (fun a ⟨xs, ⟨x, h1, h2⟩, q⟩ => ⟨x, xs, h1, h2, q⟩) q
theorem w_iSq (q : upA Z (iSq' f) ρ PA') : iSq (up Z f) ρ PA' := by
  simp only [upA, iSq', wp_bind2, wp_ofO, wp_ret, Option.bind_eq_some_iff] at q
  exact wp_mono (fun a ⟨xs, ⟨x, h1, h2⟩, q⟩ => ⟨x, xs, h1, h2, q⟩) q
theorem NF.of {K : PySem.W.Frag} {C : Addr} (n : NF K C) {y : D} (h : isIns y = false ∨ (insOf C y).isSome = true) : PySem.W.notFirst K C (tyV y) = true := by
  cases y with
  | ins C' ns vs =>
    rcases h with h | h
    · cases h
    · have h : (if C' = C then some (ns, vs) else none).isSome = true := h
      by_cases e : C' = C
      · rw [e]; exact n.me
      · rw [if_neg e] at h; cases h
  | nd _ => rcases h with h | h <;> cases h
  | exc _ _ _ => rcases h with h | h <;> cases h
  | _ => exact n.no _ (by simp [tyN])
end
end Tr
namespace Fl
open PySem PySem.Spec PyProof.Rows L2
section
variable {X : Cx} {k : Nat}
def inDp (x : D) : D → Option Bool
  | .lst ys => if ok 60 x && ok 60 (.lst ys) then some (inD x ys) else none
  | .tup ys => if ok 60 x && ok 60 (.tup ys) then some (inD x ys) else none
  | _ => none
end
end Fl
namespace Tr
open PySem L2 Fl
def oInD (neg : Bool) : O' := fun x y => T.ofO (inDp x y) fun b => .ret (.d (.bl (if neg then !b else b)))
end Tr
namespace Fl
open PySem L2
section
variable {X : Cx} {e : Expr} {te : ET} {p p2 pos pos2 : Pos}
end
section
variable {X : Cx} {k n : Nat} {fa : Addr} {fd : FuncData} {ps : List Str} {ft : FT} {x : Str} {p pos : Pos} {e : Expr} {es : List Expr} {tb : BT}
end
end Fl
namespace Tr
open PySem L2 Fl
def eListRg (f : E') : E' := fun ρ => (f ρ).bind2 fun s ρ1 => T.ofO (intO s) fun n => T.need (decide (-1000000 < n ∧ n < 1000000)) (.ret (.ol (upto n), ρ1))
end Tr
namespace Fl
open PySem PySem.Spec PyProof.Rows L2
theorem exK_ok {P : Program} {w : World} {H : Hp} {h : Heap} {a : Addr} {cls : Value} {d : Option Addr} {oe : Obj} {vs : Array Value} (he : h.get? a = some oe) (hz : Zc cls d oe) (hd : oe.data = .fields vs) : ObjOk P w H h a (ExK a cls d) :=
  ⟨⟨oe, vs, he, hz, hd⟩, ⟨_, he⟩, fun h1 h2 ⟨oe, vs, e, z, q⟩ k => ⟨oe, vs, k _ e, z, q⟩⟩
theorem exK_at {P : Program} {w : World} {H : Hp} {h : Heap} {a : Addr} {cls : Value} {d : Option Addr} (hok : HOk P w H h) (he : H a = some (ExK a cls d)) : ∃ (oe : Obj) (vs : Array Value), h.get? a = some oe ∧ Zc cls d oe ∧ oe.data = .fields vs := by
  have x : ObjOk P w H h a (.ext fun h => ∃ (oe : Obj) (vs : Array Value), h.get? a = some oe ∧ Zc cls d oe ∧ oe.data = .fields vs) := hok a _ he
  exact x.1
section
variable {X : Cx} {pins : List (Addr × Obj)} {σ : L2.St} {H : Hp} {s : Shared} {a : Addr}
end
section
variable {X : Cx} {x n : Str} {c : Value} {i : Nat} {body su : List Stmt} {b1 : Stmt} {np q1 q2 : Pos} {tb : WX → TS} {ts : TS}
end
/-- isinstance(e, c), e a kept exception -/
def rIsK (K : PySem.W.Frag) : List V → Hp → VK → Prop := fun xs H Q => ∃ (a D : Addr) (d : Option Addr) (c : V) (cv : Value) (b : Bool), xs = [.ref a, c] ∧ ExcC K D ∧ H a = some (ExK a (.ref D) d) ∧ (∀ dd, d = some dd → ∃ fs, H dd = some (.xd fs)) ∧ (∀ u, RelV c u → u = cv) ∧ PySem.W.kitOne K (.ref D) cv = some b ∧ Q (.bl b) H
section
variable {X : Cx} {D : Addr}
theorem inst_k {pins : List (Addr × Obj)} {σ : L2.St} {H : Hp} {s : Shared} {a : Addr} {d : Option Addr} (I : Inv X pins σ H s) (e : H a = some (ExK a (.ref D) d)) (hd : ∀ dd, d = some dd → ∃ fs, H dd = some (.xd fs)) : ∃ oe od, PySem.W.InstAt s.heap a oe D od := by
  obtain ⟨oe, vs, he, hz, hv⟩ := exK_at I.hok e
  have nc : PySem.W.notCls oe = true := by unfold PySem.W.notCls; rw [hv]
  match d, hd, hz with
  | none, _, hz => exact ⟨oe, none, he, hz.1, nc, by rw [hz.2]; trivial⟩
  | some dd, hd, hz =>
    obtain ⟨fs, hf⟩ := hd dd rfl
    obtain ⟨_, space, _⟩ := (show ObjOk X.prog X.w H s.heap dd (.xd fs) from I.hok dd _ hf)
    obtain ⟨tab, there, _⟩ := lookIn_ns space
    exact ⟨oe, some tab, he, hz.1, nc, by rw [hz.2]; exact there⟩
theorem call_isK : CallR X (.builtin "isinstance") (rIsK X.K) := by
  rintro qs st τ HH _ vals QQ inv rel ⟨a, D, d, c, cv, b, rfl, cls, kept, own, only, ans, want⟩
  match vals, rel with
  | [_, _], .cons r1 (.cons r2 .nil) =>
    obtain rfl := only _ r2
    cases r1
    obtain ⟨oe, od, at_⟩ := inst_k inv kept own
    have isC : (PySem.W.clsIn X.K D).isSome = true := by
      obtain ⟨cd, hc, _⟩ := PySem.W.any_some cls.hd
      rw [hc]; rfl
    exact PySem.W.kia_one (PySem.W.kitx_exc (od := od) isC cls.hg cls.hk cls.hs cls.ha cls.hn cls.ht cls.hm) inv.kIn at_ ans (fun z => by cases z) fun tk => ⟨.bl b, HH, inv.kept (t' := tk) fun _ _ z => z, rfl, want⟩
/-- e.n, e a kept exception -/
def tXk (K : PySem.W.Frag) (n : Str) (te : TE) : TE := fun σ H Q => te σ H fun x H1 => ∃ (a D dd : Addr) (fs : List (Str × V)) (v : V), x = .ref a ∧ XfC K D ∧ PySem.W.findIn K (.ref D) n = some none ∧ H1 a = some (ExK a (.ref D) (some dd)) ∧ H1 dd = some (.xd fs) ∧ fs.lookup n = some v ∧ Q v H1
theorem pe_xk {e : Expr} {te : TE} {pos : Pos} {n : Str} (he : PE X e te) (hb : attributeBase e n X.env (eval e X.env) = eval e X.env := by rfl) : PE X (.Attribute e n pos) (tXk X.K n te) := by
  constructor
  intro qs st τ HH QQ inv want
  apply attr_of hb
  refine thn (he.run qs st τ HH _ inv want) ?_
  rintro u s1 ⟨_, H1, inv1, ru, a, D, dd, fs, v, rfl, cls, no, kept, fields, here, want1⟩
  cases ru
  obtain ⟨oe, vs, at_, hz, dat⟩ := exK_at inv1.hok kept
  obtain ⟨mA, space, told⟩ := (show ObjOk X.prog X.w H1 s1.heap dd (.xd fs) from inv1.hok dd _ fields)
  obtain ⟨tab, there, seen⟩ := lookIn_ns space
  have rel := told n
  rw [here] at rel
  obtain ⟨val, hv, rv⟩ := RelO.some_of (v := v) (o := mA n) rel
  have inst : PySem.W.InstAt s1.heap a oe D (some tab) := ⟨at_, hz.1, by unfold PySem.W.notCls; rw [dat], by rw [hz.2]; exact there⟩
  refine HandSPX.exc_get inv1.kIn inst cls.ga cls.gg cls.exC (PySem.W.findObj_own cls.hdC no rfl ?_) (handed_of rv) ⟨v, H1, inv1.tok _, rv, want1⟩
  rw [seen, hv]
end
end Fl
namespace Fl
open PySem PySem.Spec PyProof.Rows L2 HandSPX
section
variable {Pr : Program} {Wo : World} {Ar : Around} {Ex : Value → Shared → Prop} {hp : Heap} {gs : Array GenState} {dr : Drawn} {tk : Nat} {osx : OsState}
variable {nam qn : Str} {Cl Nn : Addr} {bas mro mroB : List Value} {hasD : Bool} {slo : List Str} {subs : List Value} {abst : Bool} {coll : Option Bool} {ddi : Option Addr} {s0 s1 s2 s3 s5 : Option Value} {Bs nId iId : String}
theorem kw_new_checked {M : Model} {key : Str} {u : Value} {Q : Unit → Shared → Prop} (Fa : ExcBaseFacts Bs nId iId mroB) (sameT : ∀ T : String, mro.contains (.type T) = mroB.contains (.type T))
    (there : hp.get? Cl = some (excClassObj nam qn Cl Nn bas mro hasD slo subs abst coll ddi s0 s1 s2 s3 s5 nId)) (want : Q () ⟨hp, gs, dr, tk, osx⟩) : wpAny M Ar (checkBuiltinCall nId ⟨[.ref Cl], [(key, u)]⟩) Q Ex ⟨hp, gs, dr, tk, osx⟩ := by
  have inB : (Value.ref Cl :: mro).contains (.type Bs) = true := by rw [List.contains_cons, sameT, Fa.hasB, Bool.or_true]
  have noS := Fa.noStar
  simp only [checkBuiltinCall, Fa.newKind, Fa.newSplit, Fa.newRow]
  repeat (first | with_reducible refine wpAny_loadPart_at there ?_ | (refine wpAny_isSubtype_exc there ?_; rw [inB]) | refine wpAny_staticBase_exc there ?_ | refine wpAny_madeBy_exc there ?_ | simp only [bne_self_eq_false, Bool.false_eq_true, if_false] | wp_step)
  exact want
theorem kw_new {R : Result → Shared → Prop} {key : Str} {u : Value} (Fa : ExcBaseFacts Bs nId iId mroB) (sameT : ∀ T : String, mro.contains (.type T) = mroB.contains (.type T))
    (there : hp.get? Cl = some (excClassObj nam qn Cl Nn bas mro hasD slo subs abst coll ddi s0 s1 s2 s3 s5 nId)) (want : R (.ok (.ret (.ref (hp.objs.size + 1)))) ⟨(hp.push (PySem.W.kdv_tup [])).push (excO Cl hp.objs.size), gs, dr, tk, osx⟩) :
    codeAny (model Pr Wo) Ar (.builtin nId ⟨[.ref Cl], [(key, u)]⟩) R ⟨hp, gs, dr, tk, osx⟩ := by
  have ends := Fa.ends
  have inB : (Value.ref Cl :: mro).contains (.type Bs) = true := by rw [List.contains_cons, sameT, Fa.hasB, Bool.or_true]
  have noA : (Value.ref Cl :: mro).contains (.type "AttributeError") = false := by rw [List.contains_cons, sameT, Fa.noAttr]; rfl
  have noN : (Value.ref Cl :: mro).contains (.type "NameError") = false := by rw [List.contains_cons, sameT, Fa.noName]; rfl
  apply codeAny_builtinAt Fa.entry
  delta Builtin.«BaseException.__new__»
  refine PySem.wpAt_bind ?_
  show PySem.wpAt _ _ _ (stack >>= _) _ _ _
  refine PySem.wpAt_bind (PySem.wpAt_stack fun p below => PySem.wpAt_of_wpAny ?_)
  wp_walk
  refine PySem.wpAt_of_wpAny ?_
  rw [Fa.owner]
  repeat (first | with_reducible refine wpAny_madeHere_exc Fa.canon there ?_ | with_reducible refine wpAny_loadPart_at there ?_ | (with_reducible refine wpAny_isSubtype_exc there ?_; first | rw [inB] | rw [noA] | rw [noN]) | wp_step)
  show R _ _
  rw [Heap.size_push]
  exact want
theorem kw_call {fI : Addr} {key : Str} {u : Value} {R : Result → Shared → Prop} (Fa : ExcBaseFacts Bs nId iId mroB) (sameT : ∀ T : String, mro.contains (.type T) = mroB.contains (.type T))
    (there : hp.get? Cl = some (excClassObj nam qn Cl Nn bas mro hasD slo subs abst coll ddi s0 s1 s2 s3 s5 nId)) (hi : PySem.W.Looks (model Pr Wo) hp (typeLookup (.ref Cl) "__init__") (some (.ref fI)))
    (hb : ∀ self, PySem.W.Looks (model Pr Wo) hp (bindSpecial (.ref fI) self) (.ref fI, [self]))
    (go : codeAny (model Pr Wo) (Ar.under (.builtin "type.__call__" ⟨[.ref Cl], [(key, u)]⟩)) (.call (.ref fI) ⟨[.ref (hp.objs.size + 1)], [(key, u)]⟩) (PySem.W.InitBack (hp.objs.size + 1) R) ⟨(hp.push (PySem.W.kdv_tup [])).push (excO Cl hp.objs.size), gs, dr, tk, osx⟩) :
    codeAny (model Pr Wo) Ar (.call (.ref Cl) ⟨[], [(key, u)]⟩) R ⟨hp, gs, dr, tk, osx⟩ := by
  have f1 := tc_lookup
  have f2 := tc_bind (.ref Cl)
  have f3 := tc_sub
  have isT : (⟨hp, gs, dr, tk, osx⟩ : Shared).TypeIs (.ref Cl) "type" := ⟨_, there, rfl⟩
  apply codeAny_of_tree
  show wpAny _ _ (callAny (.ref Cl) _) _ _ _
  repeat (any_goals (first | assumption | with_reducible refine wpAny_loadPart_at there ?_ | wp_step))
  refine ⟨rfl, ?_⟩
  refine codeAny_call_builtin_at (Code.quiet_builtin _ (by decide +kernel)) entry_typeCall ?_
  simp only [tc_split, tc_kind, checkBuiltinCall]
  repeat (any_goals (first | assumption | with_reducible refine wpAny_loadPart_at there ?_ | with_reducible refine wpAny_onRaise ?_ | with_reducible refine wpAny_map ?_ | wp_step))
  refine codeAny_call_builtin_code (Code.quiet_builtin _ Fa.quiet) (kw_new_checked Fa sameT there ?_)
  refine kw_new Fa sameT there ?_
  show wpAny _ _ _ _ _ _
  have up : ∀ b o, hp.get? b = some o → ((hp.push (PySem.W.kdv_tup [])).push (excO Cl hp.objs.size)).get? b = some o := fun b o e => Heap.get?_push_of_some _ (Heap.get?_push_of_some _ e)
  have there1 := up _ _ there
  have made : ((hp.push (PySem.W.kdv_tup [])).push (excO Cl hp.objs.size)).get? (hp.objs.size + 1) = some (excO Cl hp.objs.size) := by heap_get
  have itself : (Value.ref Cl :: mro).contains (.ref Cl) = true := by simp
  have i1 := hi.keeps up
  have bound := (hb (.ref (hp.objs.size + 1))).keeps up
  unfold isInstance
  repeat (first | with_reducible refine wpAny_loadPart_at made ?_ | (with_reducible refine wpAny_isSubtype_exc there1 ?_; rw [itself]) | wp_step)
  show wpAny _ _ (typeLookup (.ref Cl) _) _ _ _
  refine i1.at ?_
  refine wpAny_holding (wpAny_bind (bound.at ?_))
  refine wpAny_bind (wpAny_call (codeAny_mono go fun r s' z => ?_))
  rcases r with er | (val | _ | _ | _) <;> first | exact z | exact z.elim | skip
  obtain ⟨rfl, fine⟩ := z
  first
    | exact wpAny_pure (wpAny_pure fine)
    | (wp_walk; exact fine)
end
end Fl
namespace Fl
open PySem PySem.W PySem.Calls PyProof.Rows L2
/-- what such an __init__ promises -/
def spOx (C : Addr) (fld : Str) : Sp := fun vs H Q _ => ∃ a v, vs = [.ref a, v] ∧ H a = some (exo a C none) ∧ ∀ d, H d = none → d ≠ a → Q .non (upd (upd H d (exd d [(fld, v)])) a (exo a C (some d)))
section
variable {P : Program} {w : World} {K : PySem.W.Frag} {mg : Str → Option Value} {base : Heap} {f C cc cda : Addr}
structure OxFacts (P : Program) (K : PySem.W.Frag) (C f cc cda : Addr) (fld : Str) : Prop where
  cls : OexC K C
  cell : ∃ cl cld csl, K.lookup cc = some ⟨cl, cld, .cell (some (.ref C)), csl⟩
  code : ∃ ccl cdd vs ccs file tf, K.lookup cda = some ⟨ccl, cdd, .fields vs, ccs⟩ ∧ vs[2]? = some (.str file tf) ∧ ((P.main.file : Str) == file) = true
  ini : ∀ l₀ : ClassData, clsIn K C = some l₀ → alongIn K "__init__" ((l₀.mro.dropWhile (· != .ref C)).drop 1) = some (some (.builtin "ValueError.__init__"))
  sup : mroIn K C (.ref C) = some true
  sub : subIn K (.ref C) (.type "ValueError") = some true
  opq : nsIn K cStatics "thirdparty.any" = some none
  no : findIn K (.ref C) fld = some none
  new : excInitIn K C [.type "ValueError", .type "Exception", .type "BaseException", .type "object"] "ValueError.__new__" = true
theorem ox_init {CX : CXT} {k : Nat} {par msg qual fld : Str} {params : Arguments} {body : List Stmt} {scope : Scope} {kV doc pm ct oc : Value} {an od : Option Addr} {osl : Array (Option Value)} {ar : Arg} {j : Nat} {p0 p1 p2 p3 p4 p5 p6 p7 p8 p9 : Pos}
    (T : OxFacts P K C f cc cda fld) (lk : K.lookup f = some ⟨oc, od, .func (ksFn "__init__" qual params body scope .none kV doc pm an (.ref cda) ct cc), osl⟩) (hcd : codeIn K (.ref cda) qual = true)
    (hbody : body = [.Expr (.Call (.Attribute (.Call (.Name "super" p0) [] [] p1) "__init__" p2) [.Constant (.str msg) j p3] [] p4) p5, .Assign [.Attribute (.Name "self" p6) fld p7] (.Name par p8) p9])
    (hp : (params.posonlyargs ++ params.args).head? = some ar) (har : ar.arg = "self") (hps : scope.names.lookup ("self" : Str) = some NameKind.local) (hpp : scope.names.lookup par = some NameKind.local) (hne : (par == ("self" : Str)) = false) (hpd : (par == ("__debug__" : Str)) = false)
    (hks : scope.names.lookup ("super" : Str) = some .globalImplicit) (hkc : scope.names.lookup ("__class__" : Str) = some .free) (hcell : ∀ x ∈ scope.names, x.2 ≠ .cell) (hk : scope.kind = .function) (hco : scope.isCoroutine = false) (hgen : scope.isGenerator = false)
    (hsup : mg "super" = none) (htop : (P.main.scope.names.lookup ("super" : Str)).isSome = false) (hboot : bootBuiltins "super" = some (.type "super"))
    {pl : Sem Bool} (he : ∀ env : Env, eval (.Call (.Attribute (.Call (.Name "super" p0) [] [] p1) "__init__" p2) [.Constant (.str msg) j p3] [] p4) env = (do
      let ov ← attributeBase (.Call (.Name "super" p0) [] [] p1) "__init__" env (eval (.Call (.Name "super" p0) [] [] p1) env)
      standAt p2.atName
      let got ← holding [ov] (getMethod ov "__init__" pl)
      callWith p4 got.1 got.2 (backTo p4 (starEach [.Constant (.str msg) j p3] env)) [])) (hfld : swapsWith (.Name par p8) (some (.Attribute (.Name "self" p6) fld p7)) p9.line = fun _ => pure false) (hsz : True) :
    FnOk P w K mg base CX (k + 1) f (ksFn "__init__" qual params body scope .none kV doc pm an (.ref cda) ct cc) ["self", par] (spOx C fld) := by
  cases scope
  dsimp only at hk hco hgen hps hpp hks hkc hcell
  subst hk hco hgen
  refine ⟨fun vs H Q E h => by obtain ⟨a, v, rfl, _⟩ := h; rfl, fun A outer s H args us vs Q E hr e0 hb r hsp => ?_⟩
  obtain ⟨a, v, rfl, ha, hq⟩ := hsp
  cases r with
  | @cons _ u1 _ _ r1 r =>
  cases r with
  | @cons _ u _ _ r2 r =>
  cases r
  obtain rfl : u1 = Value.ref a := r1
  have grown : ∀ b o, base.get? b = some o → s.heap.get? b = some o := fun b o e => (e0.bs b o e).1
  have KX : K.In s.heap := e0.mod.kin.keeps grown
  have lim : s.heap.NoLimit := e0.mod.nolimit.keeps grown
  obtain ⟨nm, q, N, bs, bm, sn, sub, ab, col, dd, k0, k1, k2, k3, k5, hC, hbm⟩ := T.cls.cls
  have hcl : clsIn K C = some ⟨nm, bs, .ref C :: bm, N, q, true, sn, sub, ab, col, false⟩ := by
    unfold clsIn
    rw [hC]
  obtain ⟨t1, hoa⟩ := exo_at e0.hok ha
  obtain ⟨mb, hbn, hbb⟩ := e0.mod.blt
  subst hbody
  refine ks_codeAny_call_defAt (binds := [("self", .ref a), (par, u)]) hr.depth (KX _ _ lk) rfl lim (codeRec_of KX hcd) rfl hb hcell (fun x hx => ?_) (fun h₀ hns hk₀ => ?_) rfl rfl rfl
  · simp only [List.mem_cons, List.not_mem_nil, or_false] at hx
    rcases hx with rfl | rfl
    · exact hps
    · exact hpp
  obtain ⟨hp0, g, d, t, os⟩ := s
  have K0 : K.In h₀ := KX.keeps hk₀
  have up : ∀ b o, base.get? b = some o → h₀.get? b = some o := fun b o e => hk₀ b o (e0.bs b o e).1
  have hs1 : (fun x => ([(("self" : Str), Value.ref a), (par, u)] : List (Str × Value)).reverse.lookup x) "self" = some (.ref a) := by
    have : (("self" : Str) == par) = false := by rw [beq_eq_false_iff_ne]; intro e; rw [← e] at hne; simp at hne
    simp [List.lookup, this]
  have hs2 : (fun x => ([(("self" : Str), Value.ref a), (par, u)] : List (Str × Value)).reverse.lookup x) par = some u := by simp [List.lookup]
  have aL : a ≠ hp0.objs.size := Nat.ne_of_lt (Heap.lt_size hoa)
  obtain ⟨cl, cld, csl, hcc⟩ := T.cell
  obtain ⟨ccl, cdd, cvs, ccs, file, tf, hcode, hvs, hfile⟩ := T.code
  refine ks_wpAt_execs_cons (ks_wpAt_Expr_any (ks_wpAt_MethodCall (pl := pl) ?_ (he _)) rfl rfl)
  refine ks_wpAt_super_base hks hkc rfl rfl (K0 _ _ lk) rfl hp rfl (K0 _ _ hcode) rfl hvs hfile htop ?_
  refine ks_loadName_global rfl hks (loadGlobal_builtin (e0.mod.glob.keeps up) hsup (hbn.keeps up) ((hbb _ (by decide +kernel)).trans hboot) ⟨rfl, ?_⟩)
  refine wpAny_loadName_free rfl hkc rfl ⟨_, K0 _ _ hcc, rfl⟩ ?_
  rw [har]
  refine wpAny_loadName_local rfl hps hns hs1 ?_
  refine ks_wpAny_isType_cls (K0 _ _ hC) rfl ⟨rfl, ?_⟩
  refine ks_wpAny_call_super (K0 _ _ hC) rfl (hk₀ _ _ hoa) rfl (fun c e => by cases e) (looks_mroIn K0 T.sup) (fun h1 e1 k1 => ?_)
  have K1 : K.In h1 := K0.keeps k1
  have hoa1 := k1 _ _ (hk₀ _ _ hoa)
  have aC : a ≠ C := fun z => by
    have e := KX _ _ hC
    rw [← z] at e
    have hoa' : hp0.get? a = _ := hoa
    rw [hoa'] at e
    cases e
  have I1 : InstAt h1 a (excObj C t1 none .none) C none := ⟨hoa1, rfl, rfl, trivial⟩
  have isV : Looks (model P w) h1 (isInstance (.ref a) (.type "ValueError")) true := I1.type.andThen (looks_subIn K1 T.sub)
  refine kxs_getMethod kxs_ValueError e1 (looks_opaque K1 T.opq) (l₀ := .ref C :: bm) (fun A Q E s k q => wpAny_bind ((looks_clsIn K1 hcl) A _ E s k (wpAny_pure q))) rfl K1 (T.ini _ hcl) isV aC (by decide) ?_
  have n1 : (h1.push (kxs_mw "ValueError.__init__" a)).get? h1.objs.size = some (kxs_mw "ValueError.__init__" a) := Heap.get?_push_at rfl rfl
  show wpAny _ _ (callWith p4 (.ref h1.objs.size) [] (backTo p4 (starEach [.Constant (.str msg) j p3] _)) []) _ _ _
  rw [show ∀ env : Env, backTo p4 (starEach [.Constant (.str msg) j p3] env) = (false, eval (.Constant (.str msg) j p3) env) :: [] from fun _ => rfl]
  refine kxs_callWith (i := "ValueError.__init__") (x := a) rfl (evalArgs_plain (spliced_cons (wpAny_Constant_str (spliced_nil ⟨n1, ?_⟩))))
  have hC2 := Heap.get?_push_of_some (kxs_mw "ValueError.__init__" a) (K1 _ _ hC)
  have hoa2 := Heap.get?_push_of_some (kxs_mw "ValueError.__init__" a) hoa1
  have FB := PySem.F.excBase_ValueError
  have isMw : (Value.type "method-wrapper" == Value.type "method" || Value.type "method-wrapper" == Value.type "builtin_function_or_method" || Value.type "method-wrapper" == Value.type "method-wrapper") = true := by decide
  refine wpAny_call (codeAny_of_tree (show wpAny _ (Around.in1 _) (callAny (.ref h1.objs.size) ⟨_, []⟩) _ _ _ from ?_))
  unfold callAny
  refine wpAny_bind (wpAny_load n1 ?_)
  simp only [kxs_mw, isMw, if_true]
  refine KFB.if_so (by decide) (wpAny_bind (check_bound_init FB.toExcCallFacts hC2 hoa2 rfl (wpAny_bind (wpAny_pure (wpAny_pure ⟨plainId_quiet FB.init.plain _, codeAny_builtin FB.initEntry ?_⟩)))))
  refine exc_init_tree (cls := .ref C) (t0 := t1) (dv := none) (c2 := .none) (c3 := .none) (b4 := .bool false) hoa2 (by simp; decide) fun h2 k2 e2 t2 => ?_
  have kB : ∀ b o, b ≠ a → h₀.get? b = some o → h2.get? b = some o := fun b o n e => k2 b o n (Heap.get?_push_of_some _ (k1 b o e))
  have kA : ∀ b o, b ≠ a → hp0.get? b = some o → h2.get? b = some o := fun b o n e => kB b o n (hk₀ b o e)
  have K2 : K.In h2 := fun b o e => kA b o (fun z => by
    have e' := KX b o e
    rw [z] at e'
    have hoa' : hp0.get? a = _ := hoa
    have hnone : base.get? b = some o := e0.mod.kin b o e
    rw [z] at hnone
    have := (e0.bs _ _ hnone).2
    rw [ha] at this
    cases this) (KX b o e)
  have hns2 : h2.Ns hp0.objs.size (fun x => ([(("self" : Str), Value.ref a), (par, u)] : List (Str × Value)).reverse.lookup x) := by
    obtain ⟨oL, es, ep, hL, hr⟩ := hns
    exact ⟨oL, es, ep, kB _ _ (Ne.symm aL) hL, hr⟩
  refine ks_wpAt_execs_cons (ks_wpAt_Assign_Attr ?_ (congrFun hfld _))
  refine wpAt_of_wpAny (wpAny_Name (wpAny_loadName_local rfl hpp hns2 hs2 (wpAny_Name (wpAny_loadName_local rfl hps hns2 hs1 ?_) rfl)) hpd)
  refine PySem.W.set_plain K2 (ox := excObj C (h1.push (kxs_mw "ValueError.__init__" a)).objs.size none .none) (od := none) ⟨e2, rfl, rfl, trivial⟩ T.cls.sa ?_
  refine PySem.HandSPX.exc_osa K2 e2 hcl (show PySem.HandSPX.refsVE (.ref C :: bm) = true from hbm) rfl T.no (fun h3 tk3 dx k3 dn dne hx hn => ?_)
  refine wpAt_of_wpAny (wpAny_execs_nil ?_)
  have z1 : hp0.objs.size < h₀.objs.size := by
    obtain ⟨oL, es, ep, hL, hr⟩ := hns
    exact Heap.lt_size hL
  have z2 : h₀.objs.size < h1.objs.size := Heap.lt_size e1
  have z3 : h1.objs.size + 1 < h2.objs.size := by
    have := Heap.lt_size t2
    rwa [Heap.size_push] at this
  have dn : h2.objs.size ≤ dx := dn
  have dnl : hp0.objs.size ≤ dx := by omega
  have hHd : H dx = none := e0.hok.fresh dnl
  have na : ∀ {b : Addr}, H b = none → b ≠ a := fun {b} free z => by
    rw [z, ha] at free
    cases free
  have nd : ∀ {b : Addr} {o : Obj}, hp0.get? b = some o → b ≠ dx := fun {b o} q => Nat.ne_of_lt (Nat.lt_of_lt_of_le (Heap.lt_size q) dnl)
  have kAll : ∀ b o, b ≠ a → hp0.get? b = some o → h3.get? b = some o := fun b o n e => k3 b o n (kA b o n e)
  refine ⟨.non, upd (upd H dx (exd dx [(fld, v)])) a (exo a C (some dx)), rfl, e0.bare, ?_, ?_, rfl, hq dx hHd dne⟩
  · exact {
      keep := fun b o q n _ _ => kAll b o (na n) q
      slot := fun b o q n _ _ => ⟨o.slots, kAll b o (na n) q⟩
      free := fun b o q none_ _ => ((upd_ne (na none_)).trans (upd_ne (nd q))).trans none_
      there := fun b o q _ => by
        by_cases hb : b = a
        · rw [hb]; exact ⟨_, hx⟩
        · exact ⟨o, kAll b o hb q⟩
      tups := fun b xs q => by rw [upd_ne (at_ne ha q exo_tup), upd_ne (ne_of_none q hHd)]; exact q
      frzs := fun b o v q => by rw [upd_ne (at_ne ha q exo_frz), upd_ne (ne_of_none q hHd)]; exact q
      tbls := fun b ps q => ⟨#[], by rw [upd_ne (at_ne ha q exo_tbl), upd_ne (ne_of_none q hHd), q]; simp⟩ }
  · intro b o q
    by_cases hb : b = a
    · subst hb
      rw [upd_same] at q
      cases q
      exact exo_ok hx
    · rw [upd_ne hb] at q
      by_cases hd : b = dx
      · subst hd
        rw [upd_same] at q
        cases q
        exact exd_ok hn (relO_put (fs := []) r2 fun g => True.intro)
      · rw [upd_ne hd] at q
        exact (e0.hok b o q).stay (fun c v hc z => kAll c v (by
            rcases hc with hc | hc
            · rw [hc]
              exact hb
            · exact at_ne ha hc exo_own) z)
          (fun c hc => by rw [upd_ne (at_ne ha hc exo_own), upd_ne (ne_of_none hc hHd)]; exact hc) (fun c xs hc => by rw [upd_ne (at_ne ha hc exo_tup), upd_ne (ne_of_none hc hHd)]; exact hc)
end
end Fl
namespace Fl
open PySem L2 Tr
section
variable {X : Cx}
end
end Fl
namespace Tr
open PySem L2 Fl
end Tr
namespace Tr
open PySem L2 Fl
section
variable {α β γ : Type} {Z : Exc → Prop}
theorem bind_ret {a : α} {f : α → T β} : (T.ret a).bind f = f a := id rfl
theorem bind_fail {f : α → T β} : (T.fail : T α).bind f = .fail := id rfl
theorem bind_draw {m : Int} {k : Int → T α} {f : α → T β} : (T.draw m k).bind f = .draw m fun r => (k r).bind f := id rfl
theorem bind2_ret {a : α} {b : β} {f : α → β → T γ} : (T.ret (a, b)).bind2 f = f a b := id rfl
theorem bind_assoc {f : α → T β} {g : β → T γ} : ∀ {t : T α}, (t.bind f).bind g = t.bind fun a => (f a).bind g
  | .ret a => rfl
  | .fail => rfl
  | .exn e => rfl
  | .draw m k => congrArg (T.draw m) (funext fun r => bind_assoc)
  | .new us k => congrArg (T.new us) (funext fun p => bind_assoc)
theorem bind2_bind {f : α → T (β × γ)} {δ : Type} {g : β → γ → T δ} {t : T α} : (t.bind f).bind2 g = t.bind fun a => (f a).bind2 g := bind_assoc
theorem bind_bind2 {f : α → β → T γ} {δ : Type} {g : γ → T δ} {t : T (α × β)} : (t.bind2 f).bind g = t.bind2 fun a b => (f a b).bind g := bind_assoc
theorem bind2_bind2 {δ ε : Type} {f : α → β → T (γ × δ)} {g : γ → δ → T ε} {t : T (α × β)} : (t.bind2 f).bind2 g = t.bind2 fun a b => (f a b).bind2 g := bind_assoc
theorem bind_bind2' {δ : Type} {f : α → T (β × γ)} {g : β → γ → T δ} {t : T α} : (t.bind f).bind2 g = t.bind fun a => (f a).bind2 g := bind_assoc
theorem ofO_some {a : α} {f : α → T β} : T.ofO (some a) f = f a := id rfl
theorem ofO_none {f : α → T β} : T.ofO none f = .fail := id rfl
theorem need_true {t : T α} : T.need true t = t := id rfl
theorem need_false {t : T α} : T.need false t = .fail := id rfl
theorem ite_bind {c : Prop} [Decidable c] {t u : T α} {f : α → T β} : (if c then t else u).bind f = if c then t.bind f else u.bind f := by split <;> rfl
theorem ite_bind2 {c : Prop} [Decidable c] {t u : T (α × β)} {f : α → β → T γ} : (if c then t else u).bind2 f = if c then t.bind2 f else u.bind2 f := by split <;> rfl
theorem ofO_bind {o : Option α} {f : α → T β} {g : β → T γ} : (T.ofO o f).bind g = T.ofO o fun a => (f a).bind g := by cases o <;> rfl
theorem ofO_bind2 {δ : Type} {o : Option α} {f : α → T (β × γ)} {g : β → γ → T δ} : (T.ofO o f).bind2 g = T.ofO o fun a => (f a).bind2 g := by cases o <;> rfl
theorem need_bind {b : Bool} {t : T α} {g : α → T β} : (T.need b t).bind g = T.need b (t.bind g) := by cases b <;> rfl
theorem need_bind2 {b : Bool} {t : T (α × β)} {g : α → β → T γ} : (T.need b t).bind2 g = T.need b (t.bind2 g) := by cases b <;> rfl
theorem back_ret {s : Sl} {ρ : Env'} : back (.ret s) ρ = T.need (noNo s) (.ret (s, ρ)) := id rfl
theorem back_bind {f : α → T Sl} {t : T α} {ρ : Env'} : back (t.bind f) ρ = t.bind fun a => back (f a) ρ := bind_assoc
theorem back_ite {c : Prop} [Decidable c] {t u : T Sl} {ρ : Env'} : back (if c then t else u) ρ = if c then back t ρ else back u ρ := by split <;> rfl
theorem wp_ret' {a : α} {P : α → Prop} : wp Z (.ret a) P = P a := id rfl
theorem var_d {ρ : Env'} {i : Nat} {x : D} (h : ρ[i]? = some (.d x)) : eVar i ρ = .ret (.d x, ρ) := by
  have e : ρ.set i (.d x) = ρ := by
    obtain ⟨hl, e5⟩ := List.getElem?_eq_some_iff.mp h
    rw [← e5]; exact List.set_getElem_self hl
  unfold eVar
  rw [h]
  show T.ret (Sl.d x, ρ.set i (.d x)) = _
  rw [e]
def varT (o : Option Sl) (i : Nat) (ρ : Env') : T (Sl × Env') := match o with
  | some .src => .ret (.src, ρ)
  | some .sr2 => .ret (.sr2, ρ)
  | some (.gr a _) => .ret (.d (.nd a), ρ)
  | some (.d x) => .ret (.d x, ρ)
  | some s => match s.dat with
    | some x => .ret (.d x, ρ.set i (.d x))
    | none => .fail
  | none => .fail
theorem eVar_eq {i : Nat} {s : Sl} {ρ : Env'} : eVar i (s :: ρ) = varT ((s :: ρ)[i]?) i (s :: ρ) := by
  unfold varT
  cases e : (s :: ρ)[i]? with
  | none => unfold eVar; rw [e]
  | some x =>
    cases x with
    | d x => exact var_d e
    | src => unfold eVar; rw [e]
    | sr2 => unfold eVar; rw [e]
    | _ => (unfold eVar; rw [e]) <;> rfl
theorem varT_src {i : Nat} {ρ : Env'} : varT (some .src) i ρ = .ret (.src, ρ) := id rfl
theorem varT_d {i : Nat} {ρ : Env'} {x : D} : varT (some (.d x)) i ρ = .ret (.d x, ρ) := id rfl
theorem varT_ol {i : Nat} {ρ : Env'} {xs : List D} : varT (some (.ol xs)) i ρ = .ret (.d (.lst xs), ρ.set i (.d (.lst xs))) := id rfl
theorem varT_od {i : Nat} {ρ : Env'} {ks : List Key} {xs : List D} : varT (some (.od ks xs)) i ρ = .ret (.d (.dic ks xs), ρ.set i (.d (.dic ks xs))) := id rfl
theorem varT_oi {i : Nat} {ρ : Env'} {C : Addr} {ns : List Str} {xs : List D} : varT (some (.oi C ns xs)) i ρ = .ret (.d (.ins C ns xs), ρ.set i (.d (.ins C ns xs))) := id rfl
theorem dat_d {x : D} : (Sl.d x).dat = some x := id rfl
theorem dat_ol {xs : List D} : (Sl.ol xs).dat = some (.lst xs) := id rfl
theorem dat_od {ks : List Key} {xs : List D} : (Sl.od ks xs).dat = some (.dic ks xs) := id rfl
theorem dat_oi {C : Addr} {ns : List Str} {xs : List D} : (Sl.oi C ns xs).dat = some (.ins C ns xs) := id rfl
theorem arg_d {x : D} : (Sl.d x).arg = some (.d x) := id rfl
theorem arg_src : Sl.src.arg = some .src := id rfl
theorem arg_ol {xs : List D} : (Sl.ol xs).arg = some (.d (.lst xs)) := id rfl
theorem arg_od {ks : List Key} {xs : List D} : (Sl.od ks xs).arg = some (.d (.dic ks xs)) := id rfl
theorem arg_oi {C : Addr} {ns : List Str} {xs : List D} : (Sl.oi C ns xs).arg = some (.d (.ins C ns xs)) := id rfl
theorem noNo_d {x : D} : noNo (.d x) = true := id rfl
theorem noNo_ol {xs : List D} : noNo (.ol xs) = true := id rfl
theorem noNo_od {ks : List Key} {xs : List D} : noNo (.od ks xs) = true := id rfl
theorem noNo_oi {C : Addr} {ns : List Str} {xs : List D} : noNo (.oi C ns xs) = true := id rfl
theorem argOk_d {x : D} : argOk (.d x) = true := id rfl
theorem argOk_src : argOk .src = true := id rfl
theorem blO_bl {b : Bool} : blO (.d (.bl b)) = some b := id rfl
theorem intO_int {i : Int} : intO (.d (.int i)) = some i := id rfl
theorem endM_nx {ρ : Env'} : endM (.nx ρ) = .ret (.d .non) := id rfl
theorem endM_rt {s : Sl} : endM (.rt s) = T.need (noNo s) (.ret s) := id rfl
theorem thenS_nx {g : S'} {ρ : Env'} : thenS g (.nx ρ) = g ρ := id rfl
theorem thenS_rt {g : S'} {s : Sl} : thenS g (.rt s) = .ret (.rt s) := id rfl
theorem dlst_lst {xs : List D} : dlst (.lst xs) = some xs := id rfl
theorem dint_int {i : Int} : dint (.int i) = some i := id rfl
theorem dstr_str {i : Str} : dstr (.str i) = some i := id rfl
theorem seqD_lst {xs : List D} : seqD (.lst xs) = some xs := id rfl
theorem seqD_tup {xs : List D} : seqD (.tup xs) = some xs := id rfl
theorem itemsD_lst {xs : List D} : itemsD (.lst xs) = some xs := id rfl
theorem itemsD_tup {xs : List D} : itemsD (.tup xs) = some xs := id rfl
theorem itemsD_str {z : Str} : itemsD (.str z) = some (signs z) := id rfl
theorem cp_one {x : D} : cp [x] = some x := id rfl
theorem lst1_one {xs : List D} : lst1 [.lst xs] = some xs := id rfl
theorem int1_one {i : Int} : int1 [.int i] = some i := id rfl
theorem lenD_lst {xs : List D} : lenD (.lst xs) = some xs.length := id rfl
theorem lenD_tup {xs : List D} : lenD (.tup xs) = some xs.length := id rfl
theorem lenD_str {z : Str} : lenD (.str z) = some z.length := id rfl
theorem insOf_me {C : Addr} {ns : List Str} {vs : List D} : insOf C (.ins C ns vs) = some (ns, vs) := by simp [insOf]
theorem two_eq {a b : Sl} : two [a, b] = some (a, b) := id rfl
theorem three_eq {a b c : Sl} : three [a, b, c] = some (a, b, c) := id rfl
theorem pend_d {x : D} : pend (.d x) = true := id rfl
theorem pend_ol {xs : List D} : pend (.ol xs) = true := id rfl
theorem pend_od {ks : List Key} {xs : List D} : pend (.od ks xs) = true := id rfl
theorem tupO_eq {n : Nat} {xs : List D} : tupO n (.d (.tup xs)) = if xs.length = n then some xs else none := id rfl
theorem gsCons_eq {g : G'} {gs : Gs'} {x : D} {r : List D} {ρ : Env'} : gsCons g gs (x :: r) ρ = (g (.d x) ρ).bind fun ρ1 => gs r ρ1 := id rfl
theorem gsNil_eq {xs : List D} {ρ : Env'} : gsNil xs ρ = .ret ρ := id rfl
theorem mVal_eq {x : Str} {b : S'} {r : Str → S'} {z : Str} {ρ : Env'} : mVal' x b r z ρ = if z = x then b ρ else r z ρ := id rfl
theorem dicO_dic {ks : List Key} {vs : List D} : dicO (.dic ks vs) = some (ks, vs) := id rfl
theorem dtup_tup {xs : List D} : dtup (.tup xs) = some xs := id rfl
theorem keyD_str {s : Str} : keyD (.str s) = some (.inr s) := id rfl
theorem keyD_int {i : Int} : keyD (.int i) = some (.inl i) := id rfl
theorem ownO_eq {i : Nat} {ρ : Env'} : ownO i ρ = (match ρ[i]? with | some (.ol xs) => some xs | _ => none) := id rfl
theorem eC_e {x : D} {s0 : Sl} {ρ0 : Env'} : eC x (s0 :: ρ0) = .ret (.d x, (s0 :: ρ0)) := id rfl
theorem aNil_e {s0 : Sl} {ρ0 : Env'} : aNil (s0 :: ρ0) = .ret ([], (s0 :: ρ0)) := id rfl
theorem aCons_e {f : E'} {g : A'} {s0 : Sl} {ρ0 : Env'} : aCons f g (s0 :: ρ0) = (f (s0 :: ρ0)).bind2 fun s ρ1 => T.ofO s.dat fun d => (g ρ1).bind2 fun xs ρ2 => .ret (d :: xs, ρ2) := id rfl
theorem eTup_e {f : A'} {s0 : Sl} {ρ0 : Env'} : eTup f (s0 :: ρ0) = (f (s0 :: ρ0)).bind2 fun xs ρ1 => T.need (decide (xs.length ≤ 1000)) (.ret (.d (.tup xs), ρ1)) := id rfl
theorem eLst_e {f : A'} {s0 : Sl} {ρ0 : Env'} : eLst f (s0 :: ρ0) = (f (s0 :: ρ0)).bind2 fun xs ρ1 => T.need (decide (xs.length ≤ 1000)) (.ret (.ol xs, ρ1)) := id rfl
theorem eDic0_e {s0 : Sl} {ρ0 : Env'} : eDic0 (s0 :: ρ0) = .ret (.od [] [], (s0 :: ρ0)) := id rfl
theorem eOp_e {o : O'} {f g : E'} {s0 : Sl} {ρ0 : Env'} : eOp o f g (s0 :: ρ0) = (f (s0 :: ρ0)).bind2 fun x ρ1 => T.ofO x.dat fun dx => (g ρ1).bind2 fun y ρ2 => T.ofO y.dat fun dy => (o dx dy).bind fun z => .ret (z, ρ2) := id rfl
theorem tTru_e {f : E'} {s0 : Sl} {ρ0 : Env'} : tTru f (s0 :: ρ0) = (f (s0 :: ρ0)).bind2 fun x ρ1 => T.ofO x.dat fun d => T.ofO (tru d) fun b => .ret (b, ρ1) := id rfl
theorem tTst_e {f : E'} {s0 : Sl} {ρ0 : Env'} : tTst f (s0 :: ρ0) = (f (s0 :: ρ0)).bind2 fun x ρ1 => T.ofO (blO x) fun b => .ret (b, ρ1) := id rfl
theorem tNot_e {f : C'} {s0 : Sl} {ρ0 : Env'} : tNot' f (s0 :: ρ0) = (f (s0 :: ρ0)).bind2 fun b ρ1 => .ret (!b, ρ1) := id rfl
theorem tAnd_e {f g : C'} {s0 : Sl} {ρ0 : Env'} : tAnd' f g (s0 :: ρ0) = (f (s0 :: ρ0)).bind2 fun b ρ1 => if b = true then g ρ1 else .ret (false, ρ1) := id rfl
theorem tOr_e {f g : C'} {s0 : Sl} {ρ0 : Env'} : tOr' f g (s0 :: ρ0) = (f (s0 :: ρ0)).bind2 fun b ρ1 => if b = true then .ret (true, ρ1) else g ρ1 := id rfl
theorem eAnd_e {f g : E'} {s0 : Sl} {ρ0 : Env'} : eAnd f g (s0 :: ρ0) = (f (s0 :: ρ0)).bind2 fun x ρ1 => T.ofO (blO x) fun b => if b = true then g ρ1 else .ret (.d (.bl false), ρ1) := id rfl
theorem eOr_e {f g : E'} {s0 : Sl} {ρ0 : Env'} : eOr f g (s0 :: ρ0) = (f (s0 :: ρ0)).bind2 fun x ρ1 => T.ofO (blO x) fun b => if b = true then .ret (.d (.bl true), ρ1) else g ρ1 := id rfl
theorem eNot_e {f : E'} {s0 : Sl} {ρ0 : Env'} : eNot f (s0 :: ρ0) = (f (s0 :: ρ0)).bind2 fun x ρ1 => T.ofO (blO x) fun b => .ret (.d (.bl (!b)), ρ1) := id rfl
theorem eIf_e {c : C'} {f g : E'} {s0 : Sl} {ρ0 : Env'} : eIf c f g (s0 :: ρ0) = (c (s0 :: ρ0)).bind2 fun b ρ1 => if b = true then f ρ1 else g ρ1 := id rfl
theorem eCall_e {o : List D → T Sl} {f : A'} {s0 : Sl} {ρ0 : Env'} : eCall o f (s0 :: ρ0) = (f (s0 :: ρ0)).bind2 fun xs ρ1 => (o xs).bind fun z => .ret (z, ρ1) := id rfl
theorem eIx_e {f g : E'} {s0 : Sl} {ρ0 : Env'} : eIx f g (s0 :: ρ0) = (f (s0 :: ρ0)).bind2 fun x ρ1 => T.ofO x.dat fun dx => (g ρ1).bind2 fun y ρ2 => T.ofO y.dat fun dy => T.ofO (ixD dx dy) fun z => .ret (.d z, ρ2) := id rfl
theorem oNo_e {s0 : Sl} {ρ0 : Env'} : oNo' (s0 :: ρ0) = .ret (none, (s0 :: ρ0)) := id rfl
theorem oSome_e {f : E'} {s0 : Sl} {ρ0 : Env'} : oSome' f (s0 :: ρ0) = (f (s0 :: ρ0)).bind2 fun x ρ1 => T.ofO (intO x) fun i => .ret (some i, ρ1) := id rfl
theorem eSl_e {f : E'} {l h : O1'} {s0 : Sl} {ρ0 : Env'} : eSl f l h (s0 :: ρ0) = (f (s0 :: ρ0)).bind2 fun x ρ1 => T.ofO x.dat fun dx => (l ρ1).bind2 fun lo ρ2 => (h ρ2).bind2 fun hi ρ3 => T.ofO (slD dx lo hi) fun y => .ret (y, ρ3) := id rfl
theorem eChain_e {o1 o2 : O'} {f g h : E'} {s0 : Sl} {ρ0 : Env'} : eChain o1 o2 f g h (s0 :: ρ0) = (f (s0 :: ρ0)).bind2 fun x ρ1 => T.ofO x.dat fun dx => (g ρ1).bind2 fun y ρ2 => T.ofO y.dat fun dy => (o1 dx dy).bind fun z => T.ofO (blO z) fun b =>
 if b = true then (h ρ2).bind2 fun w ρ3 => T.ofO w.dat fun dw => (o2 dy dw).bind fun z => .ret (z, ρ3) else .ret (.d (.bl false), ρ2) := rfl
theorem eIsi_e {Ty : String} {f : E'} {s0 : Sl} {ρ0 : Env'} : eIsi Ty f (s0 :: ρ0) = (f (s0 :: ρ0)).bind2 fun s ρ1 => T.ofO s.dat fun x => T.need (!isIns x) (.ret (.d (.bl (isT Ty x)), ρ1)) := id rfl
theorem eIsi2_e {Ty Uy : String} {f : E'} {s0 : Sl} {ρ0 : Env'} : eIsi2 Ty Uy f (s0 :: ρ0) = (f (s0 :: ρ0)).bind2 fun s ρ1 => T.ofO s.dat fun x => T.need (!isIns x) (.ret (.d (.bl (isT Ty x || isT Uy x)), ρ1)) := id rfl
theorem eDg_e {f g : E'} {s0 : Sl} {ρ0 : Env'} : eDg f g (s0 :: ρ0) = (f (s0 :: ρ0)).bind2 fun s ρ1 => T.ofO s.dat fun x => (g ρ1).bind2 fun s2 ρ2 => T.ofO s2.dat fun y => T.ofO (dicO x) fun q => T.ofO (keyD y) fun j => T.ofO (lkD q.1 q.2 j) fun z => .ret (.d z, ρ2) := id rfl
theorem eDin_e {f g : E'} {s0 : Sl} {ρ0 : Env'} : eDin f g (s0 :: ρ0) = (f (s0 :: ρ0)).bind2 fun s2 ρ1 => T.ofO s2.dat fun y => (g ρ1).bind2 fun s ρ2 => T.ofO s.dat fun x => T.ofO (dicO x) fun q => T.ofO (keyD y) fun j => .ret (.d (.bl (lkD q.1 q.2 j).isSome), ρ2) := id rfl
theorem eApp_e {i : Nat} {f : E'} {s0 : Sl} {ρ0 : Env'} : eApp i f (s0 :: ρ0) = T.ofO (ownO i (s0 :: ρ0)) fun _ => (f (s0 :: ρ0)).bind2 fun s ρ1 => T.ofO s.dat fun d => T.ofO (ownO i ρ1) fun xs => T.need (decide (xs.length < 1000000)) (.ret (.d .non, ρ1.set i (.ol (xs ++ [d])))) := id rfl
theorem eExt_e {i : Nat} {f : E'} {s0 : Sl} {ρ0 : Env'} : eExt i f (s0 :: ρ0) = T.ofO (ownO i (s0 :: ρ0)) fun _ => (f (s0 :: ρ0)).bind2 fun s ρ1 => T.ofO s.dat fun d => T.ofO (dlst d) fun ys => T.ofO (ownO i ρ1) fun xs => T.need (decide (xs.length + ys.length < 1000000)) (.ret (.d .non, ρ1.set i (.ol (xs ++ ys)))) := id rfl
theorem ePop_e {i : Nat} {f : E'} {s0 : Sl} {ρ0 : Env'} : ePop i f (s0 :: ρ0) = T.ofO (ownO i (s0 :: ρ0)) fun _ => (f (s0 :: ρ0)).bind2 fun s ρ1 => T.ofO s.dat fun d => T.ofO (dint d) fun j => T.need (decide (0 ≤ j)) (T.ofO (ownO i ρ1) fun xs => T.need (decide (xs.length < 1000000)) (T.ofO xs[j.toNat]? fun y => .ret (.d y, ρ1.set i (.ol (xs.eraseIdx j.toNat))))) := id rfl
theorem eIns_e {i : Nat} {f g : E'} {s0 : Sl} {ρ0 : Env'} : eIns i f g (s0 :: ρ0) = T.ofO (ownO i (s0 :: ρ0)) fun _ => (f (s0 :: ρ0)).bind2 fun s ρ1 => T.ofO s.dat fun d => (g ρ1).bind2 fun s2 ρ2 => T.ofO s2.dat fun y => T.ofO (dint d) fun j => T.need (decide (0 ≤ j ∧ j < 1000000)) (T.ofO (ownO i ρ2) fun xs => T.need (decide (xs.length < 1000000)) (.ret (.d .non, ρ2.set i (.ol (xs.take j.toNat ++ [y] ++ xs.drop j.toNat))))) := id rfl
theorem tOwnNe_e {i : Nat} {s0 : Sl} {ρ0 : Env'} : tOwnNe i (s0 :: ρ0) = T.ofO (ownO i (s0 :: ρ0)) fun xs => T.need (xs.all (ok 50)) (.ret (!xs.isEmpty, (s0 :: ρ0))) := id rfl
theorem eOwnLen_e {i : Nat} {s0 : Sl} {ρ0 : Env'} : eOwnLen i (s0 :: ρ0) = T.ofO (ownO i (s0 :: ρ0)) fun xs => .ret (.d (.int (xs.length : Nat)), (s0 :: ρ0)) := id rfl
theorem eOwnIx_e {i : Nat} {f : E'} {s0 : Sl} {ρ0 : Env'} : eOwnIx i f (s0 :: ρ0) = T.ofO (ownO i (s0 :: ρ0)) fun _ => (f (s0 :: ρ0)).bind2 fun s ρ1 => T.ofO s.dat fun d => T.ofO (dint d) fun j => T.ofO (ownO i ρ1) fun xs => T.ofO (atI xs j) fun y => .ret (.d y, ρ1) := id rfl
theorem eOwnIn_e {neg : Bool} {i : Nat} {f : E'} {s0 : Sl} {ρ0 : Env'} : eOwnIn neg i f (s0 :: ρ0) = (f (s0 :: ρ0)).bind2 fun s ρ1 => T.ofO s.dat fun d => T.need (flat d) (T.ofO (ownO i ρ1) fun xs => T.need (xs.all flat) (.ret (.d (.bl (if neg then !inD d xs else inD d xs)), ρ1))) := id rfl
theorem eClr_e {i : Nat} {s0 : Sl} {ρ0 : Env'} : eClr i (s0 :: ρ0) = T.ofO (odO i (s0 :: ρ0)) fun _ => .ret (.d .non, (s0 :: ρ0).set i (.od [] [])) := id rfl
theorem eJoin_e {f g : E'} {s0 : Sl} {ρ0 : Env'} : eJoin f g (s0 :: ρ0) = (f (s0 :: ρ0)).bind2 fun s ρ1 => T.ofO s.dat fun d => T.ofO (dstr d) fun a => (g ρ1).bind2 fun s2 ρ2 => T.ofO s2.dat fun y => T.ofO (strsOf y) fun ws =>
 T.need (decide ((ws.map (·.length)).sum + ws.length * a.length ≤ 1000000)) (T.need (sOk (PySem.Txt.join a ws)) (.ret (.d (.str (PySem.Txt.join a ws)), ρ2))) := rfl
theorem eItems_e {f : E'} {s0 : Sl} {ρ0 : Env'} : eItems f (s0 :: ρ0) = (f (s0 :: ρ0)).bind2 fun s ρ1 => T.ofO s.dat fun x => T.ofO (dicO x) fun q => T.need (q.1.all kOk) (.ret (.d (.lst (pairD q.1 q.2)), ρ1)) := id rfl
theorem eNeg_e {f : E'} {s0 : Sl} {ρ0 : Env'} : eNeg f (s0 :: ρ0) = (f (s0 :: ρ0)).bind2 fun s ρ1 => T.ofO (intO s) fun i => .ret (.d (.int (-i)), ρ1) := id rfl
theorem eFld_e {C : Addr} {n : Str} {f : E'} {s0 : Sl} {ρ0 : Env'} : eFld C n f (s0 :: ρ0) = (f (s0 :: ρ0)).bind2 fun s ρ1 => T.ofO s.dat fun x => T.ofO (insOf C x) fun q => T.ofO (lkF q.1 q.2 n) fun y => .ret (.d y, ρ1) := id rfl
theorem bNil_e {s0 : Sl} {ρ0 : Env'} : bNil' (s0 :: ρ0) = .ret ([], (s0 :: ρ0)) := id rfl
theorem bCons_e {f : E'} {g : B'} {s0 : Sl} {ρ0 : Env'} : bCons' f g (s0 :: ρ0) = (f (s0 :: ρ0)).bind2 fun s ρ1 => T.need (pend s) ((g ρ1).bind2 fun ss ρ2 => .ret (s :: ss, ρ2)) := id rfl
theorem bArg_e {f : E'} {g : B'} {s0 : Sl} {ρ0 : Env'} : bArg' f g (s0 :: ρ0) = (f (s0 :: ρ0)).bind2 fun s ρ1 => T.ofO s.arg fun s' => (g ρ1).bind2 fun ss ρ2 => .ret (s' :: ss, ρ2) := id rfl
theorem eFn_e {n : Nat} {m : M} {f : B'} {s0 : Sl} {ρ0 : Env'} : eFn n m f (s0 :: ρ0) = (f (s0 :: ρ0)).bind2 fun ss ρ1 => T.need (ss.all argOk && (ss.length == n)) (back (m ss) ρ1) := id rfl
theorem eMeth_e {C : Addr} {x : Str} {n : Nat} {m : M} {f : E'} {g : B'} {s0 : Sl} {ρ0 : Env'} : eMeth C x n m f g (s0 :: ρ0) = (f (s0 :: ρ0)).bind2 fun s ρ1 => T.ofO s.dat fun d => T.ofO (insOf C d) fun q => T.need (lkF q.1 q.2 x).isNone
 ((g ρ1).bind2 fun ss ρ2 => T.need (ss.all argOk && (ss.length + 1 == n)) (back (m (.d d :: ss)) ρ2)) := rfl
theorem eMeth0_e {C : Addr} {x : Str} {m : M} {f : E'} {s0 : Sl} {ρ0 : Env'} : eMeth0 C x m f (s0 :: ρ0) = (f (s0 :: ρ0)).bind2 fun s ρ1 => T.ofO s.dat fun d => T.ofO (insOf C d) fun q => T.need (lkF q.1 q.2 x).isNone (back (m [.d d]) ρ1) := id rfl
theorem eProp_e {C : Addr} {m : M} {f : E'} {s0 : Sl} {ρ0 : Env'} : eProp C m f (s0 :: ρ0) = (f (s0 :: ρ0)).bind2 fun s ρ1 => T.ofO s.dat fun d => T.ofO (insOf C d) fun _ => back (m [.d d]) ρ1 := id rfl
theorem eMakeK_e {C : Addr} {n k : Nat} {m : MI} {f g : B'} {s0 : Sl} {ρ0 : Env'} : eMakeK C n k m f g (s0 :: ρ0) = (f (s0 :: ρ0)).bind2 fun ss ρ1 => T.need (ss.all argOk) ((g ρ1).bind2 fun zs ρ2 => T.need (zs.all argOk && ((ss.length == n) && (zs.length == k))) ((m (ss ++ zs)).bind2 fun ns vs => .ret (.oi C ns vs, ρ2))) := id rfl
theorem eMake_e {C : Addr} {n : Nat} {m : MI} {f : B'} {s0 : Sl} {ρ0 : Env'} : eMake C n m f (s0 :: ρ0) = (f (s0 :: ρ0)).bind2 fun ss ρ1 => T.need (ss.all argOk && (ss.length == n)) ((m ss).bind2 fun ns vs => .ret (.oi C ns vs, ρ1)) := id rfl
theorem eIsOwn_e {C : Addr} {f : E'} {s0 : Sl} {ρ0 : Env'} : eIsOwn C f (s0 :: ρ0) = (f (s0 :: ρ0)).bind2 fun s ρ1 => T.ofO s.dat fun x => T.need (!isIns x || (insOf C x).isSome) (.ret (.d (.bl (isIns x)), ρ1)) := id rfl
theorem gNm_e {i : Nat} {s : Sl} {s0 : Sl} {ρ0 : Env'} : gNm' i s (s0 :: ρ0) = T.need (decide (i < (s0 :: ρ0).length)) (.ret ((s0 :: ρ0).set i s)) := id rfl
theorem gTp_e {n : Nat} {gs : Gs'} {s : Sl} {s0 : Sl} {ρ0 : Env'} : gTp' n gs s (s0 :: ρ0) = T.ofO (tupO n s) fun xs => gs xs (s0 :: ρ0) := id rfl
theorem sNext_e {s0 : Sl} {ρ0 : Env'} : sNext (s0 :: ρ0) = .ret (.nx (s0 :: ρ0)) := id rfl
theorem sBreak_e {s0 : Sl} {ρ0 : Env'} : sBreak (s0 :: ρ0) = .ret (.bk (s0 :: ρ0)) := id rfl
theorem sCont_e {s0 : Sl} {ρ0 : Env'} : sCont (s0 :: ρ0) = .ret (.ct (s0 :: ρ0)) := id rfl
theorem sSeq_e {f g : S'} {s0 : Sl} {ρ0 : Env'} : sSeq f g (s0 :: ρ0) = (f (s0 :: ρ0)).bind (thenS g) := id rfl
theorem sExpr_e {f : E'} {s0 : Sl} {ρ0 : Env'} : sExpr f (s0 :: ρ0) = (f (s0 :: ρ0)).bind2 fun _ ρ1 => .ret (.nx ρ1) := id rfl
theorem sRet_e {f : E'} {s0 : Sl} {ρ0 : Env'} : sRet f (s0 :: ρ0) = (f (s0 :: ρ0)).bind2 fun s _ => .ret (.rt s) := id rfl
theorem sIf_e {c : C'} {f g : S'} {s0 : Sl} {ρ0 : Env'} : sIf c f g (s0 :: ρ0) = (c (s0 :: ρ0)).bind2 fun b ρ1 => if b = true then f ρ1 else g ρ1 := id rfl
theorem sAsg_e {f : E'} {g : G'} {s0 : Sl} {ρ0 : Env'} : sAsg f g (s0 :: ρ0) = (f (s0 :: ρ0)).bind2 fun s ρ1 => (g s ρ1).bind fun ρ2 => .ret (.nx ρ2) := id rfl
theorem sPar_e {i j : Nat} {f : B'} {s0 : Sl} {ρ0 : Env'} : sPar i j f (s0 :: ρ0) = (f (s0 :: ρ0)).bind2 fun ss ρ1 => T.ofO (two ss) fun q => T.need (decide (i < ρ1.length ∧ j < ρ1.length)) (.ret (.nx ((ρ1.set i q.1).set j q.2))) := id rfl
theorem sPar3_e {i j l : Nat} {f : B'} {s0 : Sl} {ρ0 : Env'} : sPar3 i j l f (s0 :: ρ0) = (f (s0 :: ρ0)).bind2 fun ss ρ1 => T.ofO (three ss) fun q => T.need (decide (i < ρ1.length ∧ j < ρ1.length ∧ l < ρ1.length)) (.ret (.nx (((ρ1.set i q.1).set j q.2.1).set l q.2.2))) := id rfl
theorem sFor_e {f : A'} {g : G'} {b : S'} {s0 : Sl} {ρ0 : Env'} : sFor f g b (s0 :: ρ0) = (f (s0 :: ρ0)).bind2 fun xs ρ1 => loopT g b xs ρ1 := id rfl
theorem sWhile_e {n : Nat} {c : C'} {b : S'} {s0 : Sl} {ρ0 : Env'} : sWhile n c b (s0 :: ρ0) = whileT c b n (s0 :: ρ0) := id rfl
theorem sSetL_e {i : Nat} {f g : E'} {s0 : Sl} {ρ0 : Env'} : sSetL i f g (s0 :: ρ0) = (f (s0 :: ρ0)).bind2 fun s ρ1 => T.ofO s.dat fun y => T.ofO (ownO i ρ1) fun _ => (g ρ1).bind2 fun s2 ρ2 => T.ofO s2.dat fun d => T.ofO (dint d) fun j => T.need (decide (0 ≤ j)) (T.ofO (ownO i ρ2) fun xs => T.need (decide (j < (xs.length : Nat))) (.ret (.nx (ρ2.set i (.ol (xs.set j.toNat y)))))) := id rfl
theorem sSetD_e {i : Nat} {f g : E'} {s0 : Sl} {ρ0 : Env'} : sSetD i f g (s0 :: ρ0) = (f (s0 :: ρ0)).bind2 fun s ρ1 => T.ofO s.dat fun y => T.ofO (odO i ρ1) fun _ => (g ρ1).bind2 fun s2 ρ2 => T.ofO s2.dat fun d => T.ofO (keyD d) fun j => T.ofO (odO i ρ2) fun q => T.need (decide (q.1.length < 1000000)) (.ret (.nx (ρ2.set i (.od (putD q.1 q.2 j y).1 (putD q.1 q.2 j y).2)))) := id rfl
theorem sSetF_e {C : Addr} {i : Nat} {n : Str} {f : E'} {s0 : Sl} {ρ0 : Env'} : sSetF C i n f (s0 :: ρ0) = (f (s0 :: ρ0)).bind2 fun s ρ1 => T.ofO s.dat fun y => T.ofO (instO C i ρ1) fun q => T.need (decide (q.2.1.length < 1000)) (.ret (.nx (ρ1.set i (q.1.withF (putN q.2.1 q.2.2 n y).1 (putN q.2.1 q.2.2 n y).2)))) := id rfl
theorem sMatch_e {f : E'} {m : Str → S'} {s0 : Sl} {ρ0 : Env'} : sMatch f m (s0 :: ρ0) = (f (s0 :: ρ0)).bind2 fun s ρ1 => T.ofO (s.dat.bind dstr) fun z => m z ρ1 := id rfl
theorem iL_e {f : E'} {s0 : Sl} {ρ0 : Env'} : iL' f (s0 :: ρ0) = (f (s0 :: ρ0)).bind2 fun s ρ1 => T.ofO (s.dat.bind dlst) fun xs => .ret (xs, ρ1) := id rfl
theorem iT_e {f : E'} {s0 : Sl} {ρ0 : Env'} : iT' f (s0 :: ρ0) = (f (s0 :: ρ0)).bind2 fun s ρ1 => T.ofO (s.dat.bind dtup) fun xs => .ret (xs, ρ1) := id rfl
theorem iS_e {f : E'} {s0 : Sl} {ρ0 : Env'} : iS' f (s0 :: ρ0) = (f (s0 :: ρ0)).bind2 fun s ρ1 => T.ofO (s.dat.bind dstr) fun z => .ret (signs z, ρ1) := id rfl
theorem iR_e {f : A'} {s0 : Sl} {ρ0 : Env'} : iR' f (s0 :: ρ0) = (f (s0 :: ρ0)).bind2 fun ys ρ1 => T.ofO (int1 ys) fun n => T.need (decide (-1000000 < n ∧ n < 1000000)) (.ret (upto n, ρ1)) := id rfl
theorem iEn_e {f : A'} {s0 : Sl} {ρ0 : Env'} : iEn' f (s0 :: ρ0) = (f (s0 :: ρ0)).bind2 fun ys ρ1 => T.ofO (lst1 ys) fun xs => .ret (numbered xs, ρ1) := id rfl
theorem eLc_e {f : A'} {g : G'} {tt : C'} {te : E'} {vs : List Nat} {s0 : Sl} {ρ0 : Env'} : eLc f g tt te vs (s0 :: ρ0) = (f (s0 :: ρ0)).bind2 fun xs ρ1 => lcT g tt te vs xs [] (wipeD ρ1 vs) := id rfl
theorem tYes_e {s0 : Sl} {ρ0 : Env'} : tYes' (s0 :: ρ0) = .ret (true, (s0 :: ρ0)) := id rfl
theorem eDc_e {f : A'} {g : G'} {tt : C'} {tk tv : E'} {vs : List Nat} {s0 : Sl} {ρ0 : Env'} : eDc f g tt tk tv vs (s0 :: ρ0) = (f (s0 :: ρ0)).bind2 fun xs ρ1 => dcT g tt tk tv vs xs [] [] (wipeD ρ1 vs) := id rfl
theorem iEnA_e {f : A'} {s0 : Sl} {ρ0 : Env'} : iEnA' f (s0 :: ρ0) = (f (s0 :: ρ0)).bind2 fun ys ρ1 => T.ofO ((cp ys).bind seqD) fun xs => .ret (numbered xs, ρ1) := id rfl
theorem iSq_e {f : E'} {s0 : Sl} {ρ0 : Env'} : iSq' f (s0 :: ρ0) = (f (s0 :: ρ0)).bind2 fun s ρ1 => T.ofO (s.dat.bind itemsD) fun xs => .ret (xs, ρ1) := id rfl
theorem eFnP_e {n m N : Nat} {is : List Nat} {t : M} {f g : B'} {s0 : Sl} {ρ0 : Env'} : eFnP n m N is t f g (s0 :: ρ0) = (f (s0 :: ρ0)).bind2 fun ss ρ1 => T.need (ss.all argOk) ((g ρ1).bind2 fun zs ρ2 => T.need (zs.all argOk && ((ss.length == n) && ((zs.length == m) && ((pk is (ss ++ zs)).length == N)))) (back (t (pk is (ss ++ zs))) ρ2)) := id rfl
theorem eMethP_e {C : Addr} {x : Str} {m N : Nat} {is : List Nat} {t : M} {f : E'} {g : B'} {s0 : Sl} {ρ0 : Env'} : eMethP C x m N is t f g (s0 :: ρ0) = (f (s0 :: ρ0)).bind2 fun s ρ1 => T.ofO s.dat fun d => T.ofO (insOf C d) fun q => T.need (lkF q.1 q.2 x).isNone
 ((g ρ1).bind2 fun ss ρ2 => T.need ((ss.length == m) && (ss.all argOk && ((pk is ss).length + 1 == N))) (back (t (.d d :: pk is ss)) ρ2)) := rfl
theorem eMakeP_e {C : Addr} {n m N : Nat} {is : List Nat} {t : MI} {f g : B'} {s0 : Sl} {ρ0 : Env'} : eMakeP C n m N is t f g (s0 :: ρ0) = (f (s0 :: ρ0)).bind2 fun ss ρ1 => T.need (ss.all argOk) ((g ρ1).bind2 fun zs ρ2 => T.need (zs.all argOk && ((ss.length == n) && ((zs.length == m) && ((pk is (ss ++ zs)).length + 1 == N)))) ((t (pk is (ss ++ zs))).bind2 fun ns vs => .ret (.oi C ns vs, ρ2))) := id rfl
theorem eSortSet_e {f : E'} {s0 : Sl} {ρ0 : Env'} : eSortSet f (s0 :: ρ0) = (f (s0 :: ρ0)).bind2 fun s ρ1 => T.ofO (s.dat.bind dlst) fun xs => T.ofO (intsD xs) fun ns => T.need (decide (ns.length ≤ 60)) (.ret (.ol ((uniqI ns).map D.int), ρ1)) := id rfl
theorem eRev_e {f : E'} {s0 : Sl} {ρ0 : Env'} : eRev f (s0 :: ρ0) = (f (s0 :: ρ0)).bind2 fun s ρ1 => T.ofO (s.dat.bind dlst) fun xs => .ret (.ol xs.reverse, ρ1) := id rfl
theorem eListRg_e {f : E'} {s0 : Sl} {ρ0 : Env'} : eListRg f (s0 :: ρ0) = (f (s0 :: ρ0)).bind2 fun s ρ1 => T.ofO (intO s) fun n => T.need (decide (-1000000 < n ∧ n < 1000000)) (.ret (.ol (upto n), ρ1)) := id rfl
theorem oAdd_ii {i j : Int} : oAdd (.int i) (.int j) = .ret (.d (.int (i + j))) := id rfl
theorem oAdd_ss {a b : Str} : oAdd (.str a) (.str b) = T.need (decide (a.length + b.length ≤ 100000)) (.ret (.d (.str (a ++ b)))) := id rfl
theorem oAdd_ll {a b : List D} : oAdd (.lst a) (.lst b) = T.need (decide (a.length + b.length ≤ 100000)) (.ret (.ol (a ++ b))) := id rfl
theorem oAdd_tt {a b : List D} : oAdd (.tup a) (.tup b) = T.need (decide (a.length + b.length ≤ 100000)) (.ret (.d (.tup (a ++ b)))) := id rfl
theorem oSub_ii {i j : Int} : oSub (.int i) (.int j) = .ret (.d (.int (i - j))) := id rfl
theorem oMul_ii {i j : Int} : oMul (.int i) (.int j) = T.need (decide (-1000000000000 < i ∧ i < 1000000000000)) (.ret (.d (.int (i * j)))) := id rfl
theorem oMul_li {a : List D} {j : Int} : oMul (.lst a) (.int j) = T.need (decide (0 ≤ j ∧ j ≤ 1000 ∧ a.length ≤ 1000)) (.ret (.ol (reps a j))) := id rfl
theorem oMod_ii {i j : Int} : oMod (.int i) (.int j) = T.need (decide (0 < j)) (.ret (.d (.int (i % j)))) := id rfl
theorem oFdv_ii {i j : Int} : oFdv (.int i) (.int j) = T.need (decide (0 < j ∧ j < 1000000000)) (.ret (.d (.int (i.fdiv j)))) := id rfl
theorem oLt_ii {i j : Int} : oLt (.int i) (.int j) = .ret (.d (.bl (decide (i < j)))) := id rfl
theorem oLe_ii {i j : Int} : oLe (.int i) (.int j) = .ret (.d (.bl (decide (i ≤ j)))) := id rfl
theorem oGt_ii {i j : Int} : oGt (.int i) (.int j) = .ret (.d (.bl (decide (j < i)))) := id rfl
theorem oGe_ii {i j : Int} : oGe (.int i) (.int j) = .ret (.d (.bl (decide (j ≤ i)))) := id rfl
theorem oEq_e {x y : D} : oEq x y = T.need (ok 60 x && ok 60 y) (.ret (.d (.bl (eqD x y)))) := id rfl
theorem oNe_e {x y : D} : oNe x y = T.need (ok 60 x && ok 60 y) (.ret (.d (.bl (!eqD x y)))) := id rfl
theorem oIsN_e {x : D} : oIsN x .non = .ret (.d (.bl (isNon x))) := id rfl
theorem oNotN_e {x : D} : oNotN x .non = .ret (.d (.bl (!isNon x))) := id rfl
theorem oIn_e {x y : D} : oIn x y = T.ofO (inSeq x y) fun b => .ret (.d (.bl b)) := id rfl
theorem oNotIn_e {x y : D} : oNotIn x y = T.ofO (inSeq x y) fun b => .ret (.d (.bl (!b))) := id rfl
theorem oInD_e {neg : Bool} {x y : D} : oInD neg x y = T.ofO (inDp x y) fun b => .ret (.d (.bl (if neg then !b else b))) := id rfl
theorem fLen_e {xs : List D} : fLen xs = T.ofO (cp xs) fun x => T.ofO (lenD x) fun n => .ret (.d (.int (n : Nat))) := id rfl
theorem fList_e {xs : List D} : fList xs = T.ofO (cp xs) fun x => T.ofO (seqD x) fun ys => .ret (.ol ys) := id rfl
theorem fTuple_e {xs : List D} : fTuple xs = T.ofO (cp xs) fun x => T.ofO (seqD x) fun ys => .ret (.d (.tup ys)) := id rfl
theorem fInt_i {i : Int} : fInt [.int i] = .ret (.d (.int i)) := id rfl
theorem fInt_b {b : Bool} : fInt [.bl b] = .ret (.d (.int (if b then 1 else 0))) := id rfl
theorem fAll_e {xs : List D} : fAll xs = T.ofO (lst1 xs) fun ys => T.ofO (bls ys) fun bs => .ret (.d (.bl (bs.all id))) := id rfl
theorem fAny_e {xs : List D} : fAny xs = T.ofO (lst1 xs) fun ys => T.ofO (bls ys) fun bs => .ret (.d (.bl (bs.any id))) := id rfl
theorem fSortS_e {xs : List D} : fSortS xs = T.ofO (cp xs) fun x => T.ofO (sortIn x) fun ws => T.need (decide (ws.length < 64) && ws.all sOk) (.ret (.ol ((sortS ws).map D.str))) := id rfl
theorem fRepr_e {xs : List D} : fRepr xs = T.ofO (cp xs) fun x => T.need (shw 60 x && decide (wt x ≤ 100000)) (.ret (.d (.str (reprD x)))) := id rfl
theorem fDict_e {xs : List D} : fDict xs = T.ofO (cp xs) fun x => T.ofO (dicO x) fun q => .ret (.od q.1 q.2) := id rfl
theorem fOwnLen_e {C : Addr} {m : M} {xs : List D} : fOwnLen C m xs = T.ofO (cp xs) fun x => T.ofO (insOf C x) fun _ => (m [.d x]).bind fun s => T.ofO (intO s) fun i => T.need (decide (0 ≤ i ∧ i < 1000000)) (.ret (.d (.int i))) := id rfl
theorem oOwnEq_e {C : Addr} {m : M} {x y : D} : oOwnEq C m x y = T.ofO (insOf C x) fun _ => T.need (!isIns y || (insOf C y).isSome) ((m [.d x, .d y]).bind fun s => T.need (noNo s) (.ret s)) := id rfl
theorem oOwnNe_e {C : Addr} {m : M} {x y : D} : oOwnNe C m x y = T.ofO (insOf C x) fun _ => T.need (!isIns y || (insOf C y).isSome) ((m [.d x, .d y]).bind fun s => T.ofO (blO s) fun b => .ret (.d (.bl (!b)))) := id rfl
theorem drawM_e {m : Int} : drawM [.src, .d (.int m)] = .draw m fun r => .ret (.d (.int r)) := id rfl
theorem ok_non {n : Nat} : ok n .non = true := by cases n <;> rfl
theorem ok_bl {n : Nat} {b : Bool} : ok n (.bl b) = true := by cases n <;> rfl
theorem ok_int {n : Nat} {b : Int} : ok n (.int b) = true := by cases n <;> rfl
theorem ok_str {n : Nat} {b : Str} : ok n (.str b) = true := by cases n <;> rfl
theorem ok_lst {n : Nat} {xs : List D} : ok (n + 1) (.lst xs) = xs.all (ok n) := id rfl
theorem ok_tup {n : Nat} {xs : List D} : ok (n + 1) (.tup xs) = xs.all (ok n) := id rfl
theorem ixD_tup {xs : List D} {i : Int} : ixD (.tup xs) (.int i) = atI xs i := id rfl
theorem ixD_lst {xs : List D} {i : Int} : ixD (.lst xs) (.int i) = atI xs i := id rfl
theorem atI_nn {α : Type} {xs : List α} {n : Nat} (h : n < xs.length) : atI xs (n : Int) = xs[n]? := by
  have e : ixN xs.length (n : Int) = some n := by unfold ixN; rw [if_pos (by omega), if_pos (by omega)]; simp
  unfold atI
  rw [e]; rfl
theorem atI_0 {α : Type} {a : α} {xs : List α} : atI (a :: xs) 0 = some a := atI_nn (n := 0) (by simp)
theorem atI_1 {α : Type} {a b : α} {xs : List α} : atI (a :: b :: xs) 1 = some b := atI_nn (n := 1) (by simp)
theorem atI_2 {α : Type} {a b c : α} {xs : List α} : atI (a :: b :: c :: xs) 2 = some c := atI_nn (n := 2) (by simp)
theorem atI_3 {α : Type} {a b c d : α} {xs : List α} : atI (a :: b :: c :: d :: xs) 3 = some d := atI_nn (n := 3) (by simp)
theorem atI_4 {α : Type} {a b c d e : α} {xs : List α} : atI (a :: b :: c :: d :: e :: xs) 4 = some e := atI_nn (n := 4) (by simp)
theorem atI_5 {α : Type} {a b c d e f : α} {xs : List α} : atI (a :: b :: c :: d :: e :: f :: xs) 5 = some f := atI_nn (n := 5) (by simp)
theorem atI_6 {α : Type} {a b c d e f g : α} {xs : List α} : atI (a :: b :: c :: d :: e :: f :: g :: xs) 6 = some g := atI_nn (n := 6) (by simp)
theorem atI_7 {α : Type} {a b c d e f g h : α} {xs : List α} : atI (a :: b :: c :: d :: e :: f :: g :: h :: xs) 7 = some h := atI_nn (n := 7) (by simp)
theorem eqD_bl (a b : Bool) : eqD (.bl a) (.bl b) = (a == b) := by
  cases a <;> cases b <;> rfl
theorem cast2 : ((2 : Nat) : Int) = 2 := id rfl
theorem cast0 : ((0 : Nat) : Int) = 0 := id rfl
theorem cast1 : ((1 : Nat) : Int) = 1 := id rfl
theorem cast3 : ((3 : Nat) : Int) = 3 := id rfl
theorem cast4 : ((4 : Nat) : Int) = 4 := id rfl
theorem cast5 : ((5 : Nat) : Int) = 5 := id rfl
theorem cast6 : ((6 : Nat) : Int) = 6 := id rfl
theorem cast7 : ((7 : Nat) : Int) = 7 := id rfl
theorem cast8 : ((8 : Nat) : Int) = 8 := id rfl
theorem slD_lst {xs : List D} {lo hi : Option Int} : slD (.lst xs) lo hi = some (.ol (cutD xs lo hi)) := id rfl
theorem slD_tup {xs : List D} {lo hi : Option Int} : slD (.tup xs) lo hi = some (.d (.tup (cutD xs lo hi))) := id rfl
theorem slD_str {z : Str} {lo hi : Option Int} : slD (.str z) lo hi = some (.d (.str (cutS z lo hi))) := id rfl
theorem cut_1 {a : D} {xs : List D} : cutD (a :: xs) (some 1) none = xs := by
  unfold cutD HT.sIx
  simp
theorem cut_2 {a b : D} {xs : List D} : cutD (a :: b :: xs) (some 2) none = xs := by
  unfold cutD HT.sIx
  simp
theorem cut_3 {a b c : D} {xs : List D} : cutD (a :: b :: c :: xs) (some 3) none = xs := by
  unfold cutD HT.sIx
  simp
theorem isN_non : Fl.isNon .non = true := id rfl
theorem isN_tup {xs : List D} : Fl.isNon (.tup xs) = false := id rfl
theorem isN_int {i : Int} : Fl.isNon (.int i) = false := id rfl
end
section
variable {Z : Exc → Prop} {g : G'} {b : S'} {Q : Out → Prop} {vs : List Nat} {te tk tv : E'} {tt c : C'} {ρ : Env'}
/-- what a turn must bring -/
def turn (I : Env' → Prop) (Q : Out → Prop) : Out → Prop
  | .nx ρ => I ρ
  | .ct ρ => I ρ
  | .bk ρ => Q (.nx ρ)
  | .rt s => Q (.rt s)
/-- one item of a comprehension -/
def stepC (g : G') (tt : C') (te : E') (vs : List Nat) (x : D) (ρ : Env') : T (Option D × Env') :=
  (g (.d x) ρ).bind fun ρ1 => (tt ρ1).bind2 fun b ρ2 => if b = true then (te ρ2).bind2 fun s ρ3 => T.ofO s.dat fun y => .ret (some y, wipeD ρ3 vs) else .ret (none, wipeD ρ2 vs)
def goC (g : G') (tt : C') (te : E') (vs : List Nat) (xs acc : List D) (o : Option D) (ρ : Env') : T (Sl × Env') := match o with
  | some y => T.need (decide (acc.length < 1000000)) (lcT g tt te vs xs (acc ++ [y]) ρ)
  | none => lcT g tt te vs xs acc ρ
theorem lcT_cons {x : D} {xs acc : List D} : lcT g tt te vs (x :: xs) acc ρ = (stepC g tt te vs x ρ).bind2 (goC g tt te vs xs acc) := by
  unfold stepC
  rw [bind_bind2']
  show (g (.d x) ρ).bind _ = _
  congr 1
  funext ρ1
  rw [bind2_bind2]
  congr 1
  funext b ρ2
  cases b with
  | true =>
    rw [if_pos rfl, if_pos rfl, bind2_bind2]
    congr 1
    funext s ρ3
    rw [ofO_bind2]
    congr 1
  | false => rfl
theorem lc_fmap (fo : D → Option D) : ∀ (xs acc : List D), (acc.length + xs.length) < 1000000 → (∀ x ∈ xs, stepC g tt te vs x ρ = .ret (fo x, ρ)) → lcT g tt te vs xs acc ρ = .ret (.ol (acc ++ xs.filterMap fo), ρ)
  | [], acc, _, _ => by rw [List.filterMap_nil, List.append_nil]; rfl
  | x :: xs, acc, hl, h => by
    rw [List.length_cons] at hl
    rw [lcT_cons, h x (by simp), bind2_ret, List.filterMap_cons]
    cases e : fo x with
    | none => exact lc_fmap fo xs acc (by omega) fun y hy => h y (List.mem_cons_of_mem _ hy)
    | some y =>
      show T.need (decide (acc.length < 1000000)) _ = _
      rw [decide_eq_true (by omega), need_true, lc_fmap fo xs (acc ++ [y]) (by rw [List.length_append]; simp; omega) fun y hy => h y (List.mem_cons_of_mem _ hy)]
      simp
theorem lc_map (f : D → D) (xs acc : List D) (hl : acc.length + xs.length < 1000000) (h : ∀ x ∈ xs, stepC g tt te vs x ρ = .ret (some (f x), ρ)) : lcT g tt te vs xs acc ρ = .ret (.ol (acc ++ xs.map f), ρ) := by
  rw [lc_fmap (fun x => some (f x)) xs acc hl h]
  congr 3
  rw [List.filterMap_eq_map']
/-- one item of a dict comprehension -/
def stepK (g : G') (tt : C') (tk tv : E') (vs : List Nat) (x : D) (ρ : Env') : T (Option (Key × D) × Env') :=
  (g (.d x) ρ).bind fun ρ1 => (tt ρ1).bind2 fun b ρ2 => if b = true then (tk ρ2).bind2 fun s ρ3 => T.ofO s.dat fun y => (tv ρ3).bind2 fun s2 ρ4 => T.ofO s2.dat fun z => T.ofO (keyD y) fun j => .ret (some (j, z), wipeD ρ4 vs) else .ret (none, wipeD ρ2 vs)
theorem stepC_e {s0 : Sl} {ρ0 : Env'} {x : D} : stepC g tt te vs x (s0 :: ρ0) = (g (.d x) (s0 :: ρ0)).bind fun ρ1 => (tt ρ1).bind2 fun b ρ2 => if b = true then (te ρ2).bind2 fun s ρ3 => T.ofO s.dat fun y => .ret (some y, wipeD ρ3 vs) else .ret (none, wipeD ρ2 vs) := id rfl
theorem stepK_e {s0 : Sl} {ρ0 : Env'} {x : D} : stepK g tt tk tv vs x (s0 :: ρ0) = (g (.d x) (s0 :: ρ0)).bind fun ρ1 => (tt ρ1).bind2 fun b ρ2 => if b = true then (tk ρ2).bind2 fun s ρ3 => T.ofO s.dat fun y => (tv ρ3).bind2 fun s2 ρ4 => T.ofO s2.dat fun z => T.ofO (keyD y) fun j => .ret (some (j, z), wipeD ρ4 vs) else .ret (none, wipeD ρ2 vs) := id rfl
/-- behind a turn -/
def thenL (g : G') (b : S') (xs : List D) : Out → T Out
  | .nx ρ => loopT g b xs ρ
  | .ct ρ => loopT g b xs ρ
  | .bk ρ => .ret (.nx ρ)
  | .rt s => .ret (.rt s)
theorem sNever_e {s0 : Sl} {ρ0 : Env'} : sNever (s0 :: ρ0) = .fail := id rfl
theorem loopT_nil {ρ : Env'} : loopT g b [] ρ = .ret (.nx ρ) := id rfl
theorem loopT_cons {x : D} {xs : List D} {ρ : Env'} : loopT g b (x :: xs) ρ = (g (.d x) ρ).bind fun ρ' => (b ρ').bind (thenL g b xs) := by
  show (g (.d x) ρ).bind _ = _
  congr 1
theorem thenL_nx {xs : List D} {ρ : Env'} : thenL g b xs (.nx ρ) = loopT g b xs ρ := id rfl
theorem thenL_rt {xs : List D} {s : Sl} : thenL g b xs (.rt s) = .ret (.rt s) := id rfl
def instS (C : Addr) : Option Sl → Option (Sl × List Str × List D)
  | some s => match s.inst with
    | some (C', ns, vs) => if C' = C then some (s, ns, vs) else none
    | none => none
  | none => none
theorem instO_e {C : Addr} {i : Nat} {ρ : Env'} : instO C i ρ = instS C ρ[i]? := by
  rfl
theorem instS_bi {C : Addr} {ns : List Str} {vs : List D} : instS C (some (.bi C ns vs)) = some (.bi C ns vs, ns, vs) := if_pos rfl
theorem instS_oi {C : Addr} {ns : List Str} {vs : List D} : instS C (some (.oi C ns vs)) = some (.oi C ns vs, ns, vs) := if_pos rfl
theorem withF_bi {C : Addr} {ns ns' : List Str} {vs vs' : List D} : (Sl.bi C ns vs).withF ns' vs' = .bi C ns' vs' := id rfl
theorem withF_oi {C : Addr} {ns ns' : List Str} {vs vs' : List D} : (Sl.oi C ns vs).withF ns' vs' = .oi C ns' vs' := id rfl
theorem biO_e {C : Addr} {ns : List Str} {vs : List D} {ρ : Env'} : biO C (.bi C ns vs :: ρ) = some (ns, vs) := if_pos rfl
theorem endI_nx {C : Addr} {ρ : Env'} : endI C (.nx ρ) = T.ofO (biO C ρ) .ret := id rfl
theorem defI_e {C : Addr} {k : Nat} {ss : List Sl} : defI C k b ss = (b (.bi C [] [] :: ss ++ List.replicate k .no)).bind (endI C) := id rfl
end
end Tr
namespace Sv
open PySem L2 Fl
def lets : List Nat := (Str.ofString "abcdefghijklmnopqrstuvwxyz").cps.toList
def nameS (s : Str) : Bool := decide (1 ≤ s.length) && (decide (s.length ≤ 8) && s.cps.toList.all fun c => decide (c ∈ lets))
/-- labels, as the law makes them -/
structure LabelsOk (ls : List Str) : Prop where
  lo : 1 ≤ ls.length
  hi : ls.length ≤ 3
  nm : ∀ s ∈ ls, nameS s = true
  so : PyProof.Rows.sortedS ls = true
  nd : ls.Nodup
def cellOk (f : Int) (x : D) : Prop := x = .non ∨ ∃ (i : Int) (s : Str), x = .tup [.int i, .str s] ∧ 0 ≤ i ∧ i < f ∧ (s = "r" ∨ s = "w")
def rowOk (p : Nat) (f : Int) (x : D) : Prop := ∃ cs : List D, x = .tup cs ∧ cs.length = p ∧ ∀ c ∈ cs, cellOk f c
structure GridOk (ls : List Str) (p : Nat) (f : Int) (ks : List Key) (vs : List D) : Prop where
  ln : ks.length = vs.length
  sz : ks.length = ls.length
  al : ∀ s ∈ ls, Sum.inr s ∈ ks
  rw_ : ∀ v ∈ vs, rowOk p f v
/-- the parts of a world -/
structure Parts where
  ls : List Str
  p : Nat
  f : Int
  ks : List Key
  vs : List D
  t : Bool
  c : Bool
  e : Bool
structure Parts.Ok (q : Parts) : Prop where
  l : LabelsOk q.ls
  p1 : 1 ≤ q.p
  p4 : q.p ≤ 4
  f1 : 1 ≤ q.f
  f4 : q.f ≤ 4
  g : GridOk q.ls q.p q.f q.ks q.vs
def Parts.lsD (q : Parts) : D := .tup (q.ls.map .str)
def Parts.rules (q : Parts) : D := .tup [.bl q.t, .bl q.c, .bl q.e]
def Parts.grid (q : Parts) : D := .dic q.ks q.vs
def Parts.d (q : Parts) : D := .tup [q.lsD, .int q.p, .int q.f, q.grid, q.rules]
def Parts.rowOf (q : Parts) (s : Str) : D := (lkD q.ks q.vs (.inr s)).getD .non
def fldN : List Str := ["own_spaces", "own_pages", "own_frames", "own_tables", "own_rules"]
def Parts.flds (q : Parts) : List D := [q.lsD, .int q.p, .int q.f, .dic (q.ls.map .inr) (q.ls.map q.rowOf), q.rules]
theorem len_signs (s : Str) : (signs s).length = s.length := by
  unfold signs Str.length
  rw [List.length_map]; simp
end Sv
namespace Sv
open PySem L2 Fl
end Sv
namespace Sv
open PySem L2 Fl
theorem flds_lk (q : Parts) : lkF fldN q.flds "own_spaces" = some q.lsD ∧ lkF fldN q.flds "own_pages" = some (.int q.p) ∧ lkF fldN q.flds "own_frames" = some (.int q.f) ∧ lkF fldN q.flds "own_rules" = some q.rules := by
  have h1 : ¬ ("own_pages" : Str) = "own_spaces" := by decide +kernel
  have h2 : ¬ ("own_frames" : Str) = "own_spaces" := by decide +kernel
  have h3 : ¬ ("own_rules" : Str) = "own_spaces" := by decide +kernel
  have h4 : ¬ ("own_frames" : Str) = "own_pages" := by decide +kernel
  have h5 : ¬ ("own_rules" : Str) = "own_pages" := by decide +kernel
  have h6 : ¬ ("own_rules" : Str) = "own_frames" := by decide +kernel
  have h7 : ¬ ("own_rules" : Str) = "own_tables" := by decide +kernel
  simp [fldN, Parts.flds, lkF, h1, h2, h3, h4, h5, h6, h7]
theorem flds_no (q : Parts) {m : Str} (h : m ∉ fldN) : lkF fldN q.flds m = none := by
  have h : ¬ (m = "own_spaces" ∨ m = "own_pages" ∨ m = "own_frames" ∨ m = "own_tables" ∨ m = "own_rules") := by simpa [fldN] using h
  simp only [not_or] at h
  simp [fldN, Parts.flds, lkF, h.1, h.2.1, h.2.2.1, h.2.2.2.1, h.2.2.2.2]
def Parts.obj (C : Addr) (q : Parts) : D := .ins C fldN q.flds
theorem Parts.Ok.row {q : Parts} (ok : q.Ok) {s : Str} (hs : s ∈ q.ls) : lkD q.ks q.vs (.inr s) = some (q.rowOf s) ∧ rowOk q.p q.f (q.rowOf s) := by
  obtain ⟨u, h1, h2⟩ := lkD_mem ok.g.ln (ok.g.al s hs)
  have e : q.rowOf s = u := by unfold Parts.rowOf; rw [h1]; rfl
  rw [e]
  exact ⟨h1, ok.g.rw_ u h2⟩
end Sv
namespace Tr
open PySem L2 Fl Sv
theorem ofS_inj {a b : String} : (Str.ofString a = Str.ofString b) = (a = b) := by
  apply propext
  constructor
  · intro h
    rw [Str.ofString_eq_toList, Str.ofString_eq_toList] at h
    have h1 : a.toList.map Char.toNat = b.toList.map Char.toNat := by
      have := congrArg (fun s : Str => s.cps.toList) h
      simpa using this
    have inj : ∀ (l m : List Char), l.map Char.toNat = m.map Char.toNat → l = m := by
      intro l
      induction l with
      | nil => intro m e; cases m with
        | nil => rfl
        | cons => cases e
      | cons x l ih =>
        intro m e
        cases m with
        | nil => cases e
        | cons y m =>
          rw [List.map_cons, List.map_cons] at e
          injection e with e1 e2
          have : x = y := Char.ext (UInt32.toNat_inj.mp e1)
          rw [this, ih m e2]
    have h2 := inj _ _ h1
    exact String.toList_inj.mp h2
  · rintro rfl; rfl
theorem eqD_tnil {x : D} {xs : List D} : eqD (.tup (x :: xs)) (.tup []) = false := rfl
theorem inSeq_tup {x : D} {ys : List D} : inSeq x (.tup ys) = if flat x && ys.all flat then some (inD x ys) else none := rfl
theorem inSeq_lst {x : D} {ys : List D} : inSeq x (.lst ys) = if flat x && ys.all flat then some (inD x ys) else none := rfl
theorem flat_int {i : Int} : flat (.int i) = true := rfl
theorem flat_str {i : Str} : flat (.str i) = true := rfl
theorem flat_non : flat .non = true := rfl
theorem flat_bl {b : Bool} : flat (.bl b) = true := rfl
theorem inD_nil {x : D} : inD x [] = false := rfl
theorem inD_cons {x y : D} {ys : List D} : inD x (y :: ys) = (eqD y x || inD x ys) := rfl
theorem inDp_tup {x : D} {ys : List D} : inDp x (.tup ys) = if ok 60 x && ok 60 (.tup ys) then some (inD x ys) else none := rfl
theorem inDp_lst {x : D} {ys : List D} : inDp x (.lst ys) = if ok 60 x && ok 60 (.lst ys) then some (inD x ys) else none := rfl
theorem eqD_tcons {x y : D} {xs ys : List D} : eqD (.tup (x :: xs)) (.tup (y :: ys)) = (eqD x y && eqD (.tup xs) (.tup ys)) := by
  unfold eqD
  simp only [toPy, toPys, PyData.eqv, PyData.eqvAll]
theorem eqD_tnil2 {x : D} {xs : List D} : eqD (.tup []) (.tup (x :: xs)) = false := rfl
theorem eqD_tnn : eqD (.tup []) (.tup []) = true := rfl
/-- the world at its class -/
abbrev W (C : Addr) (q : Parts) : D := Parts.obj C q
theorem insW {C : Addr} {q : Parts} : insOf C (Parts.obj C q) = some (fldN, q.flds) := insOf_me
theorem isInsW {C : Addr} {q : Parts} : isIns (Parts.obj C q) = true := rfl
theorem lkW1 {q : Parts} : lkF fldN q.flds (Str.ofString "own_spaces") = some q.lsD := (flds_lk q).1
theorem lkW2 {q : Parts} : lkF fldN q.flds (Str.ofString "own_pages") = some (.int q.p) := (flds_lk q).2.1
theorem lkW3 {q : Parts} : lkF fldN q.flds (Str.ofString "own_frames") = some (.int q.f) := (flds_lk q).2.2.1
theorem lkW5 {q : Parts} : lkF fldN q.flds (Str.ofString "own_rules") = some q.rules := (flds_lk q).2.2.2
theorem lkW4 {q : Parts} : lkF fldN q.flds (Str.ofString "own_tables") = some (.dic (q.ls.map .inr) (q.ls.map q.rowOf)) := by
  have h : ∀ a : String, a ≠ "own_tables" → ¬ (Str.ofString "own_tables" = Str.ofString a) := fun a h e => h (ofS_inj.mp e).symm
  have h1 := h "own_spaces" (by decide)
  have h2 := h "own_pages" (by decide)
  have h3 := h "own_frames" (by decide)
  unfold fldN Parts.flds
  simp only [lkF]
  rw [if_neg h1, if_neg h2, if_neg h3]
  exact if_pos trivial
theorem lkW_no {q : Parts} {m : String} (h : m ∉ ["own_spaces", "own_pages", "own_frames", "own_tables", "own_rules"]) : lkF fldN q.flds (Str.ofString m) = none := by
  refine flds_no q fun hm => h ?_
  simp only [fldN, List.mem_cons, List.not_mem_nil, or_false] at hm ⊢
  rcases hm with e | e | e | e | e
  · exact .inl (ofS_inj.mp e)
  · exact .inr (.inl (ofS_inj.mp e))
  · exact .inr (.inr (.inl (ofS_inj.mp e)))
  · exact .inr (.inr (.inr (.inl (ofS_inj.mp e))))
  · exact .inr (.inr (.inr (.inr (ofS_inj.mp e))))
theorem lkW_page {q : Parts} : lkF fldN q.flds (Str.ofString "is_page") = none := lkW_no (by decide)
theorem lkW_frame {q : Parts} : lkF fldN q.flds (Str.ofString "is_frame") = none := lkW_no (by decide)
theorem lkW_entry {q : Parts} : lkF fldN q.flds (Str.ofString "is_entry") = none := lkW_no (by decide)
theorem lkW_parts {q : Parts} : lkF fldN q.flds (Str.ofString "parts") = none := lkW_no (by decide)
theorem lkW_entries {q : Parts} : lkF fldN q.flds (Str.ofString "entries") = none := lkW_no (by decide)
theorem lkW_need {q : Parts} : lkF fldN q.flds (Str.ofString "need_entry") = none := lkW_no (by decide)
/-- a script at its class -/
def scN : List Str := [Str.ofString "own_world", Str.ofString "own_nodes"]
def Sc (C S : Addr) (q : Parts) (ns : List D) : D := .ins S scN [Parts.obj C q, .tup ns]
theorem insSc {C S : Addr} {q : Parts} {ns : List D} : insOf S (Sc C S q ns) = some (scN, [Parts.obj C q, .tup ns]) := insOf_me
theorem isInsSc {C S : Addr} {q : Parts} {ns : List D} : isIns (Sc C S q ns) = true := rfl
theorem lkS1 {x y : D} : lkF scN [x, y] (Str.ofString "own_world") = some x := if_pos rfl
theorem lkS2 {x y : D} : lkF scN [x, y] (Str.ofString "own_nodes") = some y := by
  unfold scN
  simp only [lkF]
  rw [if_neg (fun e => absurd (ofS_inj.mp e) (by decide)), if_pos trivial]
theorem lkS_no {x y : D} {m : String} (h : m ∉ ["own_world", "own_nodes"]) : lkF scN [x, y] (Str.ofString m) = none := by
  unfold scN
  simp only [List.mem_cons, List.not_mem_nil, or_false, not_or] at h
  simp only [lkF]
  rw [if_neg (fun e => h.1 (ofS_inj.mp e)), if_neg (fun e => h.2 (ofS_inj.mp e))]
theorem lkS_guards {x y : D} : lkF scN [x, y] (Str.ofString "guards") = none := lkS_no (by decide)
theorem lkS_entries {x y : D} : lkF scN [x, y] (Str.ofString "entries") = none := lkS_no (by decide)
theorem scput1 {x : D} : putN [] [] (Str.ofString "own_world") x = ([Str.ofString "own_world"], [x]) := rfl
theorem scput2 {x y : D} : putN [Str.ofString "own_world"] [x] (Str.ofString "own_nodes") y = (scN, [x, y]) := by
  simp only [putN]
  rw [if_neg (fun e => absurd (ofS_inj.mp e) (by decide))]
  rfl
theorem scput3 {x y z : D} : putN scN [x, y] (Str.ofString "own_nodes") z = (scN, [x, z]) := by
  unfold scN
  simp only [putN]
  rw [if_neg (fun e => absurd (ofS_inj.mp e) (by decide)), if_pos trivial]
/-- a step that a world has -/
inductive StepOk (q : Parts) : D → Prop
  | map {l : Str} {i f : Int} {r : Str} : l ∈ q.ls → 0 ≤ i → i < q.p → 0 ≤ f → f < q.f → r ∈ [Str.ofString "r", Str.ofString "w"] → StepOk q (.tup [.str (Str.ofString "map"), .str l, .int i, .int f, .str r])
  | unmap {l : Str} {i : Int} : l ∈ q.ls → 0 ≤ i → i < q.p → StepOk q (.tup [.str (Str.ofString "unmap"), .str l, .int i])
  | flush {l : Str} {i : Int} : l ∈ q.ls → -1 ≤ i → i < q.p → StepOk q (.tup [.str (Str.ofString "flush"), .str l, .int i])
  | ask {l : Str} {i : Int} {r : Str} : l ∈ q.ls → -1 ≤ i → i < q.p → r ∈ [Str.ofString "all", Str.ofString "running"] → StepOk q (.tup [.str (Str.ofString "ask"), .str l, .int i, .str r])
  | raise {l : Str} : l ∈ q.ls → StepOk q (.tup [.str (Str.ofString "raise"), .str l])
  | close {f : Int} {r : Str} : 0 ≤ f → f < q.f → r ∈ [Str.ofString "any", Str.ofString "write"] → StepOk q (.tup [.str (Str.ofString "close"), .int f, .str r])
  | open_ {f : Int} : 0 ≤ f → f < q.f → StepOk q (.tup [.str (Str.ofString "open"), .int f])
  | copy {f g : Int} : 0 ≤ f → f < q.f → 0 ≤ g → g < q.f → StepOk q (.tup [.str (Str.ofString "copy"), .int f, .int g])
  | wait : StepOk q (.tup [.str (Str.ofString "wait")])
  | skip : StepOk q (.tup [.str (Str.ofString "skip")])
/-- ascending indexes below m -/
def nextOk (m : Int) (ns : List Int) : Prop := ns.Pairwise (· < ·) ∧ ∀ i ∈ ns, 0 ≤ i ∧ i < m
def nodeD (st : D) (ns : List Int) : D := .tup [st, .tup (ns.map D.int)]
def NodeOk (q : Parts) (m : Int) (x : D) : Prop := ∃ st ns, x = nodeD st ns ∧ StepOk q st ∧ nextOk m ns
mutual
theorem eqv_self : ∀ x : D, PyData.eqv (toPy x) (toPy x) = true
  | .non => rfl
  | .bl b => by simp [toPy, PyData.eqv]
  | .int i => by simp [toPy, PyData.eqv]
  | .str z => by simp [toPy, PyData.eqv]
  | .lst xs => by simp only [toPy, PyData.eqv]; exact eqvAll_self xs
  | .tup xs => by simp only [toPy, PyData.eqv]; exact eqvAll_self xs
  | .dic _ _ => rfl
  | .ins _ _ _ => rfl
  | .nd _ => rfl
  | .exc _ _ _ => rfl
theorem eqvAll_self : ∀ xs : List D, PyData.eqvAll (toPys xs) (toPys xs) = true
  | [] => rfl
  | x :: xs => by simp only [toPys, PyData.eqvAll]; rw [eqv_self x, eqvAll_self xs]; rfl
end
theorem eqD_refl (x : D) : eqD x x = true := eqv_self x
theorem ok_ints {n : Nat} (ns : List Int) : (ns.map D.int).all (ok n) = true := by
  rw [List.all_map]; exact List.all_eq_true.mpr fun _ _ => ok_int
theorem isI_non : isIns .non = false := rfl
theorem isI_bl {b : Bool} : isIns (.bl b) = false := rfl
theorem isI_int {b : Int} : isIns (.int b) = false := rfl
theorem isI_str {b : Str} : isIns (.str b) = false := rfl
theorem isI_lst {b : List D} : isIns (.lst b) = false := rfl
theorem isI_tup {b : List D} : isIns (.tup b) = false := rfl
theorem isI_dic {a : List Key} {b : List D} : isIns (.dic a b) = false := rfl
theorem isI_ins {C : Addr} {a : List Str} {b : List D} : isIns (.ins C a b) = true := rfl
theorem back_draw {m : Int} {k : Int → T Sl} {ρ : Env'} : back (.draw m k) ρ = .draw m fun r => back (k r) ρ := id rfl
theorem bind2_draw {α β γ : Type} {m : Int} {k : Int → T (α × β)} {f : α → β → T γ} : (T.draw m k).bind2 f = .draw m fun r => (k r).bind2 f := id rfl
theorem wb {α β : Type} {Z : Exc → Prop} {t : T α} {f : α → T β} {P : β → Prop} (h : wp Z t fun a => wp Z (f a) P) : wp Z (t.bind f) P := wp_bind.mpr h
theorem wb2 {α β γ : Type} {Z : Exc → Prop} {t : T (α × β)} {f : α → β → T γ} {P : γ → Prop} (h : wp Z t fun r => wp Z (f r.1 r.2) P) : wp Z (t.bind2 f) P := wp_bind2.mpr h
theorem wcall {β : Type} {Z : Exc → Prop} {t : T Sl} {ρ : Env'} {f : Sl → Env' → T β} {P : β → Prop} (h : wp Z t fun s => wp Z (T.need (noNo s) (f s ρ)) P) : wp Z ((back t ρ).bind2 f) P := by
  refine wp_bind2.mpr (wp_bind.mpr (wp_mono (fun s q => ?_) h))
  obtain ⟨h1, h2⟩ := wp_need.mp q
  exact wp_need.mpr ⟨h1, h2⟩
end Tr
namespace Sv
open PySem L2 Fl
/-- what a draw's body computes -/
theorem spot_of {ns : List Int} (hn : ns ≠ []) (i : Int) : ∃ z, atI (ns.map V.int) (i % ((ns.map V.int).length : Nat)) = some (.int z) ∧ ∃ j, ixN (ns.map V.int).length (i % ((ns.map V.int).length : Nat)) = some j := by
  have hl : 0 < (ns.map V.int).length := by rw [List.length_map]; exact List.length_pos_iff.mpr hn
  have h0 : 0 ≤ i % (((ns.map V.int).length : Nat) : Int) := Int.emod_nonneg _ (by omega)
  have h1 : i % (((ns.map V.int).length : Nat) : Int) < ((ns.map V.int).length : Nat) := Int.emod_lt_of_pos _ (by omega)
  have e : ixN (ns.map V.int).length (i % ((ns.map V.int).length : Nat)) = some (i % ((ns.map V.int).length : Nat)).toNat := by
    unfold ixN
    rw [if_pos h0, if_pos h1]
  have hj : (i % ((ns.map V.int).length : Nat)).toNat < ns.length := by rw [List.length_map] at h0 h1 ⊢; omega
  refine ⟨ns[(i % ((ns.map V.int).length : Nat)).toNat], ?_, _, e⟩
  unfold atI
  rw [e]
  simp only [Option.bind_some, List.getElem?_map, List.getElem?_eq_getElem hj, Option.map_some]
theorem atI_mem {α : Type} {xs : List α} {r : Int} (h0 : 0 ≤ r) (h1 : r < (xs.length : Nat)) : ∃ x, atI xs r = some x ∧ x ∈ xs := by
  have e : ixN xs.length r = some r.toNat := by unfold ixN; rw [if_pos h0, if_pos h1]
  have hj : r.toNat < xs.length := by omega
  refine ⟨xs[r.toNat], ?_, List.getElem_mem hj⟩
  unfold atI
  rw [e]
  simp only [Option.bind_some, List.getElem?_eq_getElem hj]
/-- what can be picked from -/
def pickIn (y : D) (xs : List D) : Prop := y = .lst xs ∨ y = .tup xs ∨ ∃ z, y = .str z ∧ xs = signs z
theorem pick_len {y : D} {xs : List D} (h : pickIn y xs) : lenD y = some xs.length := by
  rcases h with rfl | rfl | ⟨z, rfl, rfl⟩
  · rfl
  · rfl
  · rw [len_signs]; rfl
theorem pick_at {y : D} {xs : List D} (h : pickIn y xs) {r : Int} (h0 : 0 ≤ r) (h1 : r < (xs.length : Nat)) : ∃ x, ixD y (.int r) = some x ∧ x ∈ xs := by
  rcases h with rfl | rfl | ⟨z, rfl, rfl⟩
  · exact atI_mem h0 h1
  · exact atI_mem h0 h1
  · obtain ⟨c, h2, h3⟩ := atI_mem (xs := z.cps.toList) h0 (by rw [len_signs] at h1; simpa [Str.length] using h1)
    refine ⟨.str ⟨#[c]⟩, ?_, List.mem_map.mpr ⟨c, h3, rfl⟩⟩
    show (atI z.cps.toList r).map _ = _
    rw [h2]; rfl
def other (w : Str) (c : Nat) : Str := cutS w none (some 6) ++ "x" ++ ⟨#[c]⟩
end Sv
namespace Tr
open PySem L2 Fl Sv
theorem StepOk.ok' {q : Parts} {x : D} (h : StepOk q x) (n : Nat) : ok (n + 1) x = true := by
  cases h <;> simp only [ok_tup, List.all_cons, List.all_nil, ok_str, ok_int, Bool.and_self, Bool.and_true]
theorem NodeOk.ok' {q : Parts} {m : Int} {x : D} (h : NodeOk q m x) (n : Nat) : ok (n + 2) x = true := by
  obtain ⟨st, ns, rfl, h1, _⟩ := h
  unfold nodeD
  rw [ok_tup, List.all_cons, List.all_cons, h1.ok', ok_tup, ok_ints]; rfl
structure V {α : Type} (Z : Exc → Prop) (t : T α) (P : α → Prop) : Prop where
  mk' ::
  get : wp Z t P
section
variable {α β γ : Type} {Z : Exc → Prop}
theorem v_ret {a : α} {P : α → Prop} : V Z (.ret a) P = P a := propext ⟨fun h => h.get, fun h => ⟨h⟩⟩
theorem v_draw {m : Int} {k : Int → T α} {P : α → Prop} (h0 : 0 < m) (h1 : m < 1000000000) (h : ∀ r : Int, 0 ≤ r → r < m → V Z (k r) P) : V Z (.draw m k) P := ⟨⟨⟨h0, h1⟩, fun r a b => (h r a b).get⟩⟩
theorem v_b {t : T α} {f : α → T β} {P : β → Prop} (h : V Z t fun a => V Z (f a) P) : V Z (t.bind f) P := ⟨wb (wp_mono (fun _ q => q.get) h.get)⟩
theorem v_b2 {t : T (α × β)} {f : α → β → T γ} {P : γ → Prop} (h : V Z t fun r => V Z (f r.1 r.2) P) : V Z (t.bind2 f) P := ⟨wb2 (wp_mono (fun _ q => q.get) h.get)⟩
theorem v_call {t : T Sl} {ρ : Env'} {f : Sl → Env' → T β} {P : β → Prop} (h : V Z t fun s => V Z (T.need (noNo s) (f s ρ)) P) : V Z ((back t ρ).bind2 f) P := ⟨wcall (wp_mono (fun _ q => q.get) h.get)⟩
end
theorem odO_eq {i : Nat} {ρ : Env'} : odO i ρ = (match ρ[i]? with | some (.od ks vs) => some (ks, vs) | _ => none) := rfl
end Tr
namespace Fl
open PySem L2
section
variable {X : Cx}
end
end Fl
namespace Tr
open PySem L2 Fl
end Tr
namespace Fl
open PySem L2
mutual
def noDic : D → Bool
  | .lst xs => noDics xs
  | .tup xs => noDics xs
  | .dic _ _ => false
  | .ins _ _ vs => noDics vs
  | .exc _ _ _ => false
  | _ => true
def noDics : List D → Bool
  | [] => true
  | x :: xs => noDic x && noDics xs
end
def Sl.lk : Sl → Sl
  | .d x => if noDic x = true then .d x else .no
  | .ol xs => if noDics xs = true then .ol xs else .no
  | .od ks vs => if noDics vs = true then .od ks vs else .no
  | .oi C ns vs => if noDics vs = true then .oi C ns vs else .no
  | .bi _ _ _ => .no
  | .src => .src
  | .sr2 => .sr2
  | .on _ _ _ _ _ => .no
  | .xt _ => .no
  | .gr _ _ => .no
  | .pk _ _ => .no
  | .ld _ => .no
  | .no => .no
def dl (G : Hp) (d : Addr) : Hp := fun b => if b = d then none else G b
theorem dl_ne {G : Hp} {d b : Addr} (h : b ≠ d) : dl G d b = G b := if_neg h
section
variable {K : PySem.W.Frag} {F : Fr} {G G' H H' : Hp} {σ σ' : St} {ρ ρ' : Env'} {d : Addr} {kvs : List (Key × V)} {od : Obj}
theorem ne_dK {a : Addr} {o : HO} (g : G d = some (.dK kvs)) (h : G a = some o) (no : o ≠ .dK kvs) : a ≠ d := fun e => by
  rw [e, g] at h; cases h; exact no rfl
theorem sqT_dl {a : Addr} {us : List V} (g : G d = some (.dK kvs)) (h : SqT K G a us) : SqT K (dl G d) a us := by
  rcases h with (h | ⟨o, h⟩) | h
  · exact .inl (.inl ((dl_ne (ne_dK g h (by intro z; cases z))).trans h))
  · exact .inl (.inr ⟨o, (dl_ne (ne_dK g h (by intro z; cases z))).trans h⟩)
  · exact .inr h
mutual
theorem Dd.dl (g : G d = some (.dK kvs)) : ∀ {v : V} {x : D}, Dd K G v x → noDic x = true → Dd K (dl G d) v x
  | _, _, .non, _ => .non
  | _, _, .bl b, _ => .bl b
  | _, _, .int i, _ => .int i
  | _, _, .str x h, _ => .str x h
  | _, _, .lst h t, n => .lst ((dl_ne (ne_dK g h (by intro z; cases z))).trans h) (DdL.dl g t n)
  | _, _, .tup h t, n => .tup (sqT_dl g h) (DdL.dl g t n)
  | _, _, .dic h l nd t, n => by exact absurd n (by simp [noDic])
  | _, _, .ins h l o t, n => .ins ((dl_ne (ne_dK g h (by intro z; cases z))).trans h) l ((dl_ne (ne_dK g o (by intro z; cases z))).trans o) (DdL.dl g t n)
  | _, _, .nd p, _ => .nd p
  | _, _, .exc0 h, n => by exact absurd n (by simp [noDic])
  | _, _, .exc1 h l o t, n => by exact absurd n (by simp [noDic])
theorem DdL.dl (g : G d = some (.dK kvs)) : ∀ {us : List V} {xs : List D}, DdL K G us xs → noDics xs = true → DdL K (dl G d) us xs
  | _, _, .nil, _ => .nil
  | _, _, .cons a t, n => by
    have n : (noDic _ && noDics _) = true := n
    rw [Bool.and_eq_true] at n
    exact .cons (Dd.dl g a n.1) (DdL.dl g t n.2)
end
def lkd (od : Obj) (kvs : List (Key × V)) : HO := .frz od (.dK kvs)
def Fr.lk (F : Fr) (d : Addr) (od : Obj) (kvs : List (Key × V)) : Fr := { F with G0 := Fl.dl F.G0 d, ks := (d, lkd od kvs) :: F.ks }
theorem SlOk.lk {v : Option V} {s : Sl} {os : List Addr} (g : G d = some (.dK kvs)) (no : ∀ p ∈ os, G p = none) (h : SlOk K F G H v s os) :
    ∃ os', SlOk K (F.lk d od kvs) (dl G d) (upd H d (lkd od kvs)) v s.lk os' ∧ os'.Sublist os := by
  have ne : ∀ p ∈ os, p ≠ d := fun p hp e => by rw [e] at hp; rw [no d hp] at g; cases g
  have emp : ∃ os', SlOk K (F.lk d od kvs) (dl G d) (upd H d (lkd od kvs)) v .no os' ∧ os'.Sublist os := ⟨[], .no _, by simp⟩
  cases h with
  | no => exact ⟨_, .no _, .refl _⟩
  | @d _ x t =>
    by_cases n : noDic x = true
    · exact ⟨_, by show SlOk _ _ _ _ _ (if _ then _ else _) _; rw [if_pos n]; exact .d (t.dl g n), .refl _⟩
    · exact ⟨[], by show SlOk _ _ _ _ _ (if _ then _ else _) _; rw [if_neg n]; exact .no _, by simp⟩
  | @ol p us xs h1 h2 h3 =>
    by_cases n : noDics xs = true
    · exact ⟨_, by show SlOk _ _ _ _ _ (if _ then _ else _) _; rw [if_pos n]; exact .ol ((upd_ne (ne p (by simp))).trans h1) (h2.dl g n) h3, .refl _⟩
    · exact ⟨[], by show SlOk _ _ _ _ _ (if _ then _ else _) _; rw [if_neg n]; exact .no _, by simp⟩
  | @od p ks us vs h1 h2 h4 h3 h5 =>
    by_cases n : noDics vs = true
    · exact ⟨_, by show SlOk _ _ _ _ _ (if _ then _ else _) _; rw [if_pos n]; exact .od ((upd_ne (ne p (by simp))).trans h1) h2 h4 (h3.dl g n) h5, .refl _⟩
    · exact ⟨[], by show SlOk _ _ _ _ _ (if _ then _ else _) _; rw [if_neg n]; exact .no _, by simp⟩
  | @oi p C dx ns us vs h1 h2 h3 h4 h5 h6 =>
    by_cases n : noDics vs = true
    · exact ⟨_, by show SlOk _ _ _ _ _ (if _ then _ else _) _; rw [if_pos n]; exact .oi ((upd_ne (ne p (by simp))).trans h1) h2 ((upd_ne (ne dx (by simp))).trans h3) (h4.dl g n) h5 h6, .refl _⟩
    · exact ⟨[], by show SlOk _ _ _ _ _ (if _ then _ else _) _; rw [if_neg n]; exact .no _, by simp⟩
  | bi => exact ⟨[], .no _, by simp⟩
  | ld => exact ⟨[], .no _, by simp⟩
  | src h => exact ⟨_, .src h, .refl _⟩
  | sr2 h => exact ⟨_, .sr2 h, .refl _⟩
  | on => exact ⟨[], .no _, by simp⟩
  | xt => exact ⟨[], .no _, by simp⟩
  | gr => exact ⟨[], .no _, by simp⟩
  | pk => exact ⟨[], .no _, by simp⟩
theorem Sls.lk {os : List Addr} (g : G d = some (.dK kvs)) (h : Sls K F G H σ ρ os) : (∀ p ∈ os, G p = none) → ∃ os', Sls K (F.lk d od kvs) (dl G d) (upd H d (lkd od kvs)) σ (ρ.map Sl.lk) os' ∧ os'.Sublist os := by
  induction h with
  | nil => exact fun _ => ⟨[], .nil, .refl _⟩
  | cons a t ih =>
    intro no
    obtain ⟨o1, a', s1⟩ := a.lk (od := od) g fun p hp => no p (List.mem_append_left _ hp)
    obtain ⟨o2, t', s2⟩ := ih fun p hp => no p (List.mem_append_right _ hp)
    exact ⟨o1 ++ o2, .cons a' t', s1.append s2⟩
theorem sqT_up {a : Addr} {us : List V} (g : ∀ o, G d = some o → o = lkd od kvs) (h : SqT K G a us) : SqT K (upd G d (.dK kvs)) a us := by
  rcases h with (h | ⟨o, h⟩) | h
  · exact .inl (.inl ((upd_ne (fun e => by rw [e] at h; have := g _ h; cases this)).trans h))
  · exact .inl (.inr ⟨o, (upd_ne (fun e => by rw [e] at h; have := g _ h; cases this)).trans h⟩)
  · exact .inr h
mutual
theorem Dd.up (g : ∀ o, G d = some o → o = lkd od kvs) : ∀ {v : V} {x : D}, Dd K G v x → Dd K (upd G d (.dK kvs)) v x
  | _, _, .non => .non
  | _, _, .bl b => .bl b
  | _, _, .int i => .int i
  | _, _, .str x h => .str x h
  | _, _, .lst h t => .lst ((upd_ne (fun e => by rw [e] at h; have := g _ h; cases this)).trans h) (DdL.up g t)
  | _, _, .tup h t => .tup (sqT_up g h) (DdL.up g t)
  | _, _, .dic h l nd t => .dic ((upd_ne (fun e => by rw [e] at h; have := g _ h; cases this)).trans h) l nd (DdL.up g t)
  | _, _, .ins h l o t => .ins ((upd_ne (fun e => by rw [e] at h; have := g _ h; cases this)).trans h) l ((upd_ne (fun e => by rw [e] at o; have := g _ o; cases this)).trans o) (DdL.up g t)
  | _, _, .nd p => .nd p
  | _, _, .exc0 h => .exc0 ((upd_ne (fun e => by rw [e] at h; have := g _ h; cases this)).trans h)
  | _, _, .exc1 h l o t => .exc1 ((upd_ne (fun e => by rw [e] at h; have := g _ h; cases this)).trans h) l ((upd_ne (fun e => by rw [e] at o; have := g _ o; cases this)).trans o) (DdL.up g t)
theorem DdL.up (g : ∀ o, G d = some o → o = lkd od kvs) : ∀ {us : List V} {xs : List D}, DdL K G us xs → DdL K (upd G d (.dK kvs)) us xs
  | _, _, .nil => .nil
  | _, _, .cons a t => .cons (Dd.up g a) (DdL.up g t)
end
end
section
variable {X : Cx} {x f : Str} {p1 p2 apos cpos pos tpos : Pos} {C : Addr} {i kk : Nat} {elts : List Expr}
end
end Fl
namespace Fl
open PySem L2
section
variable {X : Cx} {K : PySem.W.Frag} {F : Fr} {G G' H H' : Hp} {σ : St} {ρ : Env'} {pos p : Pos} {e : Expr} {es : List Expr} {bb : BT} {k n : Nat} {C fa : Addr} {fd : FuncData} {ps : List Str} {fi : FI} {x : Str}
end
end Fl
namespace Tr
open PySem L2 Fl
section
variable {Z : Exc → Prop} {ρ : Env'} {P : Sl → Env' → Prop} {fb : B'}
end
end Tr
namespace Fl
open PySem PySem.Spec PyProof.Rows L2
section
variable {prog : Program} {w : World} {A : Around} {E : Value → Shared → Prop} {s : Shared}
end
section
variable {prog : Program} {w : World} {A : Around} {E : Value → Shared → Prop} {s : Shared}
end
section
variable {X : Cx} {e e2 : Expr} {ta : TA} {p pos tpos : Pos} {elts : List Expr} {kk : Nat}
end
end Fl
namespace Fl
open PySem L2
section
variable {X : Cx} {K : PySem.W.Frag} {F : Fr} {G G' H H' : Hp} {σ : St} {ρ : Env'} {pos p : Pos} {e e2 : Expr} {es : List Expr} {te : ET} {ta : AT}
end
end Fl
namespace Tr
open PySem L2 Fl
section
variable {Z : Exc → Prop} {ρ : Env'} {f : E'} {fa : A'} {PA' : List D → Env' → Prop}
end
end Tr
namespace Tr
open PySem L2 Fl Sv
theorem sOk_app {a b : Str} (ha : sOk a = true) (hb : sOk b = true) (h : a.length + b.length ≤ 1000000) : sOk (a ++ b) = true := sOk_of (sok_app (sOk_1 ha) (sOk_1 hb)) (by rw [app_len]; omega)
def fz : D → Option D
  | .tup [w, .bl true] => some w
  | _ => none
theorem ac {α : Type} {P : α → Prop} {x : α} {xs : List α} (h : P x) (t : ∀ y ∈ xs, P y) : ∀ y ∈ x :: xs, P y := fun y hy => by
  rcases List.mem_cons.mp hy with rfl | hy
  · exact h
  · exact t y hy
theorem an {α : Type} {P : α → Prop} : ∀ y ∈ ([] : List α), P y := fun y hy => by cases hy
end Tr
namespace Fl
open PySem L2
def Sl.blank : Sl → Sl
  | .d x => .d x
  | .src => .src
  | .sr2 => .sr2
  | .ld x => .ld x
  | _ => .no
def showY : Sl → Option D
  | .ol xs => some (.lst xs)
  | .od ks vs => some (.dic ks vs)
  | .ld x => some x
  | _ => none
def showO (i : Nat) (ρ : Env') : Option D := ρ[i]?.bind showY
def flatO : Sl → Option D
  | .d .non => some .non
  | .d (.bl b) => some (.bl b)
  | .d (.int i) => some (.int i)
  | .d (.str s) => some (.str s)
  | _ => none
section
variable {X : Cx} {K : PySem.W.Frag} {F F' : Fr} {G G' H H' : Hp} {σ : St} {ρ : Env'} {pos : Pos} {e b : Expr} {te tb : ET} {os : List Addr} {s : Sl} {v : Option V} {y : D} {i : Nat}
theorem Sls.blank (h : Sls K F G H σ ρ os) (hz : ∀ {p o}, F.H0 p = some o → ¬ InSrc F p → ¬ InSelf F p → F'.H0 p = some o ∧ ¬ InSrc F' p ∧ ¬ InSelf F' p) (hs : F'.src = F.src) (eg : Ex G G') : Sls K F' G' H σ (ρ.map Sl.blank) [] := by
  induction h with
  | nil => exact .nil
  | cons a t ih =>
    rw [List.map_cons]
    refine .cons (os := []) (ps := []) ?_ ih
    cases a with
    | d h => exact .d (h.ex eg)
    | src h => exact .src (by rw [hs]; exact h)
    | sr2 h => exact .sr2 (by rw [hs]; exact h)
    | on _ _ _ _ _ _ _ _ _ _ => exact .no _
    | xt _ _ _ => exact .no _
    | gr _ => exact .no _
    | pk _ _ => exact .no _
    | ld h h0 h1 h2 => exact .ld (h.ex eg) (hz h0 h1 h2).1 (hz h0 h1 h2).2.1 (hz h0 h1 h2).2.2
    | no => exact .no _
    | ol _ _ _ => exact .no _
    | od _ _ _ _ _ => exact .no _
    | oi _ _ _ _ _ _ => exact .no _
    | bi _ _ _ _ _ => exact .no _
theorem Sls.set0 (h : Sls K F G H σ ρ []) {s' : Sl} (hi : i < ρ.length) (a : SlOk K F G H (σ[i]?.getD none) s' []) : Sls K F G H σ (ρ.set i s') [] := by
  obtain ⟨w, o1, o2, e1, e2, e3, g⟩ := h.at (List.getElem?_eq_getElem hi)
  have z := List.append_eq_nil_iff.mp e3.nil_eq.symm
  rw [e1] at a
  obtain ⟨o3, h3, p3⟩ := g (G' := G) (H' := H) .rfl (fun _ _ => rfl) (s' := s') (v' := w) (os' := []) a
  have e4 : σ.set i w = σ := by
    obtain ⟨hl, e5⟩ := List.getElem?_eq_some_iff.mp e1
    rw [← e5]; exact List.set_getElem_self hl
  rw [e4] at h3
  rw [z.2] at p3
  have : o3 = [] := by simpa using p3
  rwa [this] at h3
/-- what a slot's own list or dict, or a lent one, is -/
theorem R.thing (r : R K F G H σ ρ) (hy : showO i ρ = some y) : i < ρ.length ∧ ∃ p o, σ[i]? = some (some (.ref p)) ∧ H p = some o ∧ LdOk K G o y ∧ ¬ InSrc F p := by
  unfold showO at hy
  cases e : ρ[i]? with
  | none => rw [e] at hy; cases hy
  | some s =>
    rw [e] at hy
    have hy : showY s = some y := hy
    obtain ⟨os, h, nd, f⟩ := r.sl
    obtain ⟨w, o1, o2, e1, e2, e3, g⟩ := h.at e
    have f1 : ∀ p ∈ o1, G p = none ∧ ¬ InSrc F p := fun p hp => f p (e3.mem_iff.mpr (List.mem_append_left _ hp))
    refine ⟨(List.getElem?_eq_some_iff.mp e).1, ?_⟩
    cases e2 with
    | ol h1 h2 h3 => cases hy; exact ⟨_, _, e1, h1, .lst h2, (f1 _ (by simp)).2⟩
    | od h1 h2 h4 h3 h5 => cases hy; exact ⟨_, _, e1, h1, .dic h2 h4 h3, (f1 _ (by simp)).2⟩
    | ld h h0 h1 h2 => cases hy; exact ⟨_, _, e1, r.fr _ _ h0 h1 h2, h, h1⟩
    | no => cases hy
    | d _ => cases hy
    | src _ => cases hy
    | sr2 _ => cases hy
    | on _ _ _ _ _ _ _ _ _ _ => cases hy
    | xt _ _ _ => cases hy
    | gr _ => cases hy
    | pk _ _ => cases hy
    | oi _ _ _ _ _ _ => cases hy
    | bi _ _ _ _ _ => cases hy
theorem inSrc_new {G0 H0 : Hp} {p : Addr} (m : InSrc ⟨G0, H0, F.src, none, []⟩ p) : InSrc F p := by
  rcases m with m | ⟨o, m⟩
  · exact .inl m
  · cases m
theorem nself {G0 H0 : Hp} {p : Addr} : ¬ InSelf ⟨G0, H0, F.src, none, []⟩ p := fun ⟨_, _, z, _⟩ => by cases z
theorem LdOk.dd {p : Addr} {o : HO} (h : LdOk K G o y) (g : G p = some o) : Dd K G (.ref p) y := by
  cases h with
  | lst t => exact .lst g t
  | dic a b t => exact .dic g a b t
theorem R.show (r : R K F G H σ ρ) (hy : showO i ρ = some y) : ∃ G1, Ex G G1 ∧ R K ⟨G1, H, F.src, none, []⟩ G1 H σ ((ρ.map Sl.blank).set i (.d y)) := by
  obtain ⟨hi, p, o, e1, e2, e3, e4⟩ := r.thing hy
  obtain ⟨os, h, nd, f⟩ := r.sl
  have eg : Ex G (upd G p o) := fun b u q => by
    by_cases hb : b = p
    · subst hb; have := r.gh _ _ q; rw [e2] at this; cases this; exact upd_same
    · rw [upd_ne hb]; exact q
  have gh : Ex (upd G p o) H := fun b u q => by
    by_cases hb : b = p
    · subst hb; rw [upd_same] at q; cases q; exact e2
    · rw [upd_ne hb] at q; exact r.gh _ _ q
  have h1 : Sls K ⟨upd G p o, H, F.src, none, []⟩ (upd G p o) H σ (ρ.map Sl.blank) [] := h.blank (fun z0 z1 z2 => ⟨r.fr _ _ z0 z1 z2, fun m => z1 (inSrc_new m), nself⟩) rfl eg
  refine ⟨_, eg, .rfl, gh, fun b o e _ _ => e, fun b o e => .inl e, fun b hb => ?_, fun a c e => ?_, fun q hq => (by cases hq), r.nm, [], h1.set0 (by simpa using hi) ?_, List.nodup_nil, by simp⟩
  · rcases hb with hb | hb
    · exact r.th b (.inl (inSrc_new hb))
    · exact absurd hb nself
  · obtain ⟨z1, z2, z3⟩ := r.sr a c e
    exact ⟨z1, (upd_ne fun z => e4 (.inl ⟨a, c, e, .inl z.symm⟩)).trans z2, fun y hy => (upd_ne fun z => e4 (.inl ⟨a, c, e, .inr (by rw [← z]; exact hy)⟩)).trans (z3 y hy)⟩
  · rw [e1]
    exact .d ((e3.ex eg).dd upd_same)
theorem flat_dd {G2 : Hp} {w : V} {x : D} {F2 : Fr} {os : List Addr} (h : SlOk K F2 G2 H (some w) s os) (hf : flatO s = some x) : s = .d x ∧ ∀ G3, Dd K G3 w x := by
  cases h with
  | d h =>
    cases h with
    | non => cases hf; exact ⟨rfl, fun _ => .non⟩
    | bl _ => cases hf; exact ⟨rfl, fun _ => .bl _⟩
    | int _ => cases hf; exact ⟨rfl, fun _ => .int _⟩
    | str _ ho => cases hf; exact ⟨rfl, fun _ => .str _ ho⟩
    | _ => cases hf
  | _ => cases hf
theorem R.shown (r : R K F G H σ ρ) {G1 : Hp} (eg : Ex G G1) {w : V} {x : D} (c : R K ⟨G1, H, F.src, none, []⟩ G' H' [some w] [s]) (hf : flatO s = some x) : R K F G H' (some w :: σ) (.d x :: ρ) := by
  obtain ⟨os, h, nd, f⟩ := c.sl
  cases h with
  | cons a t =>
    obtain ⟨rfl, dd⟩ := flat_dd a hf
    refine r.leave ⟨.rfl, (eg.tr c.gg).tr c.gh, fun b o e n1 n2 => c.fr b o e (fun m => n1 m) nself, fun b o e => .inl e, fun b hb => ?_, fun a c' e => ⟨(c.sr a c' e).1, (r.sr a c' e).2⟩, fun q hq => (by cases hq), c.nm, [], .cons (os := []) (ps := []) (.d (dd G)) .nil, List.nodup_nil, by simp⟩ (by intro z; cases z) (by intro x z; cases z)
    rcases hb with hb | hb
    · exact c.th b (.inl hb)
    · exact absurd hb nself
end
end Fl
namespace Tr
open PySem L2 Fl
section
variable {Z : Exc → Prop} {ρ : Env'} {f : E'} {P : Sl → Env' → Prop} {i : Nat}
end
end Tr
namespace Fl
open PySem L2
section
variable {X : Cx} {K : PySem.W.Frag} {F : Fr} {G G' H H' : Hp} {σ : St} {ρ : Env'} {pins : List (Addr × Obj)} {s : Shared}
end
end Fl
namespace Tr
open PySem L2 Fl
section
variable {Z : Exc → Prop}
end
end Tr
namespace Tr
open PySem L2 Fl Sv
section
variable {f g : E'} {i : Nat} {s0 : Sl} {ρ0 ρ : Env'} {x : D}
end
section
variable {q q' : Parts}
end
end Tr
namespace Fl
open PySem PySem.W L2
open PyProof.Rows (envOfC)
section
variable {K : PySem.W.Frag} {G H H' : Hp} {σ : St} {ρ : Env'} {a c g : Addr}
theorem k_gc : ¬ ((.inr "great" : Key) = .inr "cells") := by decide +kernel
theorem k_gr : ¬ ((.inr "great" : Key) = .inr "rest") := by decide +kernel
theorem k_gt : ¬ ((.inr "great" : Key) = .inr "turn") := by decide +kernel
theorem k_cr : ¬ ((.inr "cells" : Key) = .inr "rest") := by decide +kernel
theorem k_ct : ¬ ((.inr "cells" : Key) = .inr "turn") := by decide +kernel
theorem k_rt : ¬ ((.inr "rest" : Key) = .inr "turn") := by decide +kernel
def srcV (a b x y : V) : List (Key × V) := srcK.zip [a, b, x, y]
theorem src_get {p q x y : V} : valV (srcV p q x y) (.inr "great") = some p ∧ valV (srcV p q x y) (.inr "cells") = some q ∧ valV (srcV p q x y) (.inr "rest") = some x ∧ valV (srcV p q x y) (.inr "turn") = some y := by
  have h1 := k_gc; have h2 := k_gr; have h3 := k_gt; have h4 := k_cr; have h5 := k_ct; have h6 := k_rt
  simp [srcV, srcK, valV, h1, h2, h3, h4, h5, h6]
/-- what is known of the source's three things -/
structure Src2 (H : Hp) (a c g : Addr) (r t : Int) (ns gs : List Int) : Prop where
  hd : H a = some (.dK (srcV (.ref g) (.ref c) (.int r) (.int t)))
  hc : H c = some (.lst (ns.map V.int))
  hg : H g = some (.lst (gs.map V.int))
  ne : c ≠ g
  n0 : ns ≠ []
  n64 : ns.length ≤ 64
  g63 : gs.length ≤ 63
theorem Src2.at {r t : Int} {ns gs : List Int} (s : Src2 H a c g r t ns gs) : SrcD H a c g := ⟨r, t, ns, gs, s.hd, s.hc, s.hg, s.ne, s.n0, s.n64, s.g63⟩
theorem SrcD.of (s : SrcD H a c g) : ∃ r t ns gs, Src2 H a c g r t ns gs := by
  obtain ⟨r, t, ns, gs, h1, h2, h3, h4, h5, h6, h7⟩ := s
  exact ⟨r, t, ns, gs, h1, h2, h3, h4, h5, h6, h7⟩
theorem Src2.ac {r t : Int} {ns gs : List Int} (s : Src2 H a c g r t ns gs) : a ≠ c := fun e => by
  have h1 := s.hd
  rw [e, s.hc] at h1
  cases h1
theorem Src2.ag {r t : Int} {ns gs : List Int} (s : Src2 H a c g r t ns gs) : a ≠ g := fun e => by
  have h1 := s.hd
  rw [e, s.hg] at h1
  cases h1
section
variable {r t : Int} {ns gs : List Int}
theorem Src2.get (s : Src2 H a c g r t ns gs) : DGet H a (.str "great") (some (.ref g)) ∧ DGet H a (.str "cells") (some (.ref c)) ∧ DGet H a (.str "rest") (some (.int r)) ∧ DGet H a (.str "turn") (some (.int t)) := by
  have h1 := DGet.k (k := .inr "great") s.hd
  have h2 := DGet.k (k := .inr "cells") s.hd
  have h3 := DGet.k (k := .inr "rest") s.hd
  have h4 := DGet.k (k := .inr "turn") s.hd
  obtain ⟨e1, e2, e3, e4⟩ := src_get (p := .ref g) (q := .ref c) (x := .int r) (y := .int t)
  rw [e1] at h1
  rw [e2] at h2
  rw [e3] at h3
  rw [e4] at h4
  exact ⟨h1, h2, h3, h4⟩
theorem Src2.upA (s : Src2 H a c g r t ns gs) (z y : Int) : Src2 (upd H a (.dK (srcV (.ref g) (.ref c) (.int z) (.int y)))) a c g z y ns gs :=
  ⟨upd_same, (upd_ne s.ac.symm).trans s.hc, (upd_ne s.ag.symm).trans s.hg, s.ne, s.n0, s.n64, s.g63⟩
theorem Src2.keep (s : Src2 H a c g r t ns gs) (h1 : H' a = H a) (h2 : H' c = H c) (h3 : H' g = H g) : Src2 H' a c g r t ns gs :=
  ⟨h1.trans s.hd, h2.trans s.hc, h3.trans s.hg, s.ne, s.n0, s.n64, s.g63⟩
theorem Src2.new (s : Src2 H a c g r t ns gs) {p : Addr} {o : HO} (hp : H p = none) : Src2 (upd H p o) a c g r t ns gs :=
  s.keep (upd_ne fun e => by have := s.hd; rw [e, hp] at this; cases this) (upd_ne fun e => by have := s.hc; rw [e, hp] at this; cases this) (upd_ne fun e => by have := s.hg; rw [e, hp] at this; cases this)
theorem Src2.pop {z : Int} (s : Src2 H a c g r t ns (z :: gs)) : Src2 (upd H g (.lst (gs.map V.int))) a c g r t ns gs :=
  ⟨(upd_ne s.ag).trans s.hd, (upd_ne s.ne).trans s.hc, upd_same, s.ne, s.n0, s.n64, by have := s.g63; rw [List.length_cons] at this; omega⟩
end
end
end Fl
namespace Fl
open PySem L2
abbrev PT' := Env' → (List (Key × D) → Env' → Prop) → Prop
section
variable {X : Cx} {K : PySem.W.Frag} {F : Fr} {G G' H H' : Hp} {σ : St} {ρ : Env'} {pos : Pos}
end
end Fl
namespace Tr
open PySem L2 Fl
section
variable {Z : Exc → Prop} {ρ : Env'} {P : Sl → Env' → Prop}
end
end Tr
namespace Fl
open PySem L2
section
variable {X : Cx} {K : PySem.W.Frag} {F : Fr} {G G' H H' : Hp} {σ : St} {ρ : Env'} {pos p1 p2 p3 p4 p5 : Pos} {i j : Nat} {e : Expr} {te : ET} {x z : Str}
end
def dlL (G : Hp) (ds : List Addr) : Hp := fun b => if b ∈ ds then none else G b
theorem dlL_ne {G : Hp} {ds : List Addr} {b : Addr} (h : b ∉ ds) : dlL G ds b = G b := if_neg h
section
variable {X : Cx} {K : PySem.W.Frag} {F : Fr} {G G' G1 H H' : Hp} {σ : St} {ρ : Env'} {i : Nat} {y : D} {ds : List Addr} {e : Expr} {te : ET}
theorem nin_ds (g : ∀ d ∈ ds, ∃ kvs, G d = some (.dK kvs)) {a : Addr} {o : HO} (h : G a = some o) (no : ∀ kvs, o ≠ .dK kvs) : a ∉ ds := fun m => by
  obtain ⟨kvs, q⟩ := g a m
  rw [h] at q
  exact no kvs (Option.some.inj q)
theorem sqT_dlL {a : Addr} {us : List V} (g : ∀ d ∈ ds, ∃ kvs, G d = some (.dK kvs)) (h : SqT K G a us) : SqT K (dlL G ds) a us := by
  rcases h with (h | ⟨o, h⟩) | h
  · exact .inl (.inl ((dlL_ne (nin_ds g h (by intro _ z; cases z))).trans h))
  · exact .inl (.inr ⟨o, (dlL_ne (nin_ds g h (by intro _ z; cases z))).trans h⟩)
  · exact .inr h
mutual
theorem Dd.dlL (g : ∀ d ∈ ds, ∃ kvs, G d = some (.dK kvs)) : ∀ {v : V} {x : D}, Dd K G v x → noDic x = true → Dd K (Fl.dlL G ds) v x
  | _, _, .non, _ => .non
  | _, _, .bl b, _ => .bl b
  | _, _, .int i, _ => .int i
  | _, _, .str x h, _ => .str x h
  | _, _, .lst h t, n => .lst ((dlL_ne (nin_ds g h (by intro _ z; cases z))).trans h) (DdL.dlL g t n)
  | _, _, .tup h t, n => .tup (sqT_dlL g h) (DdL.dlL g t n)
  | _, _, .dic h l nd t, n => by exact absurd n (by simp [noDic])
  | _, _, .ins h l o t, n => .ins ((dlL_ne (nin_ds g h (by intro _ z; cases z))).trans h) l ((dlL_ne (nin_ds g o (by intro _ z; cases z))).trans o) (DdL.dlL g t n)
  | _, _, .nd p, _ => .nd p
  | _, _, .exc0 h, n => by exact absurd n (by simp [noDic])
  | _, _, .exc1 h l o t, n => by exact absurd n (by simp [noDic])
theorem DdL.dlL (g : ∀ d ∈ ds, ∃ kvs, G d = some (.dK kvs)) : ∀ {us : List V} {xs : List D}, DdL K G us xs → noDics xs = true → DdL K (Fl.dlL G ds) us xs
  | _, _, .nil, _ => .nil
  | _, _, .cons a t, n => by
    have n : (noDic _ && noDics _) = true := n
    rw [Bool.and_eq_true] at n
    exact .cons (Dd.dlL g a n.1) (DdL.dlL g t n.2)
end
end
end Fl
namespace Tr
open PySem L2 Fl
section
variable {Z : Exc → Prop} {f : E'} {ρ : Env'} {P : Sl → Env' → Prop} {E : DE} {i j : Nat} {k : Str} {t : S'}
end
end Tr
namespace Tr
open PySem L2 Fl
end Tr
namespace Tr
open PySem L2 Fl Sv
section
variable {f g : E'} {i j : Nat} {s0 : Sl} {ρ0 ρ : Env'} {x : D} {t : S'} {k : Str} {items : List (E' × E')}
end
end Tr
namespace Fl
open PySem L2 Tr
open PyProof.Rows (envOfC)
/-- an exception, as data: its class, its fields; d: where its dict stands -/
def ExcAt (K : PySem.W.Frag) (G H : Hp) (cls : Value) (d : Option Addr) (e : Exc) : Prop := cls = .ref e.C ∧
  ((d = none ∧ e.fs = []) ∨ ∃ dd us, (d = some dd ∧ e.fs ≠ []) ∧ H dd = some (.xd ((e.fs.map (·.1)).zip us)) ∧ DdL K G us (e.fs.map (·.2)))
theorem ExcAt.ex {K : PySem.W.Frag} {G G' H : Hp} {cls : Value} {d : Option Addr} {e : Exc} (x : Ex G G') (h : ExcAt K G H cls d e) : ExcAt K G' H cls d e := by
  obtain ⟨h1, h2 | ⟨dd, us, h2, h3, h4⟩⟩ := h
  · exact ⟨h1, .inl h2⟩
  · exact ⟨h1, .inr ⟨dd, us, h2, h3, h4.ex x⟩⟩
section
variable {X : Cx} {T : Fr → Prop} {Z : Exc → Prop} {K : PySem.W.Frag} {F : Fr} {G G' H H' : Hp} {σ : St} {ρ : Env'} {pos : Pos} {e : Expr} {st : Stmt} {rest : List Stmt} {t u : ST} {te : ET} {tc : TTd}
end
end Fl
namespace Tr
open PySem L2 Fl
open PyProof.Rows (envOfC)
section
variable {Z : Exc → Prop}
end
section
variable {Pr : Program} {w : World} {K : PySem.W.Frag} {mg : Str → Option Value} {base : Heap} {x qual : Str} {st : Stmt} {f : Addr} {fd : FuncData} {N ps : List Str} {k n j : Nat} {b : S'}
end
end Tr
namespace Fl
open PySem PySem.Spec PyProof.Rows L2 LamX
end Fl
namespace Fl
open PySem PySem.Spec PyProof.Rows L2
section
variable {X : Cx} {e : Expr} {t : L2.St → Hp → XK → Prop}
/-- an exception that is made and kept as a value -/
def tKeep (t : L2.St → Hp → XK → Prop) : TE := fun σ H Q => t σ H fun cls d H' => ∀ a, H' a = none → Q (.ref a) (upd H' a (ExK a cls d))
theorem pe_keep (h : PMk X e t) : PE X e (tKeep t) := by
  refine ⟨fun pins s σ H Q I want => ?_⟩
  refine wpAny_mono (h pins s σ H _ I want) (fun u s' made => ?_) fun _ _ x => x
  obtain ⟨a, oe, vs, sI, H', cls, d, rfl, J, k, hne, ha, hz, hd, h1, na, os, ag, r, q⟩ := made
  have ne : ∀ {b : Addr} {o : Obj}, sI.heap.get? b = some o → b ≠ a := fun {b o} z e => by rw [e, hne] at z; cases z
  have U : Un (frs X.stack) [] H' (upd H' a (ExK a cls d)) sI.heap s'.heap := {
    keep := fun b o z n _ _ => k b o z
    slot := fun b o z n _ _ => ⟨o.slots, k b o z⟩
    free := fun b o z n _ => (upd_ne (ne z)).trans n
    there := fun b o z _ => ⟨o, k b o z⟩
    tups := fun b xs z => by rw [upd_ne (ne_of_none z na)]; exact z
    frzs := fun b o v z => by rw [upd_ne (ne_of_none z na)]; exact z
    tbls := fun b ps z => ⟨#[], by rw [upd_ne (ne_of_none z na), z]; simp⟩ }
  refine ⟨.ref a, _, J.call' (ch := []) os U (fun b o z => ?_) ag (fun b z => absurd z (by simp)), rfl, q a na⟩
  by_cases hb : b = a
  · subst hb
    rw [upd_same] at z
    cases z
    exact exK_ok ha hz hd
  · rw [upd_ne hb] at z
    exact (J.hok b o z).stay (fun c v hc y => k c v y) (fun c hc => by rw [upd_ne (ne_of_none hc na)]; exact hc) (fun c xs hc => by rw [upd_ne (ne_of_none hc na)]; exact hc)
/-- C(f=e) -/
def tMkKw (C : Addr) (sp : Sp) (tk : TA) : L2.St → Hp → XK → Prop := fun σ H Q => tk σ H fun zs H1 => zs.length = 1 ∧ ∀ a, H1 a = none → sp (.ref a :: zs) (upd H1 a (exo a C none))
  (fun v H2 => v = .non ∧ ∃ (d : Addr) (fs : List (Str × V)), H2 a = some (exo a C (some d)) ∧ H2 d = some (exd d fs) ∧ H1 d = none ∧ Q (.ref C) (some d) (upd (L2.del H2 a) d (.xd fs))) (fun _ _ _ => False)
theorem pmk_kw {CX : CXT} {x par : Str} {C fI : Addr} {k : Nat} {fd : FuncData} {ps : List Str} {sp : Sp} {tk : TA} {kws : List Keyword} {p pos : Pos} (Y : OexC X.K C) (iC : PySem.W.findIn X.K (.ref C) "__init__" = some (some (.ref fI))) (tI : PySem.W.typeIn X.K (.ref fI) = some (.type "function"))
    (F1 : FnOk X.prog X.w X.K X.mg X.base CX k fI fd ps sp) (hr : Room (k + 1) X.A) (hb : KBn X.K fd ps 1 [par] (fun us ws => us ++ ws) (fun vs zs => vs ++ zs)) (hx : Passes CX X (fun _ _ _ => False)) (hg : Gl X x) (hm : X.mg x = some (.ref C)) (hkw : PK X kws tk)
    (hall : (backToKw pos (keywordEach kws X.env)).all (·.1.isSome) = true := by rfl) (hks : (backToKw pos (keywordEach kws X.env)).filterMap (·.1) = [par] := by rfl) (hdb : (x == ("__debug__" : Str)) = false := by decide)
    (plain : ((backTo pos (starEach [] X.env)).any (·.1) || (backToKw pos (keywordEach kws X.env)).any (·.1.isNone)) = false := by rfl) :
    PMk X (.Call (.Name x p) [] kws pos) (tMkKw C sp tk) := by
  intro pins s σ H Q I h
  obtain ⟨nm, q, N, bs, bm, sn, sub, ab, col, dd, k0, k1, k2, k3, k5, hC, hbm⟩ := Y.cls
  refine wpAny_Call_Name_kw (ld_glob I hg hm ?_ hdb)
  refine PySem.W.callWith_KW0 (h₀ := X.base) I.ok.mod.kin Y.kC hall ?_ plain
  refine thn (hkw.run pos pins s σ H _ I h) fun ws s1 ⟨zs, H1, I1, rz, l1, q1⟩ => ⟨I1.kIn, ?_⟩
  rw [hks]
  show wpAny _ _ (call (.ref C) [] ([par].zip ws)) _ _ _
  cases rz with
  | nil => cases l1
  | @cons z0 w0 zs0 ws0 r0 rz0 =>
    cases rz0 with
    | cons _ _ => cases l1
    | nil =>
      obtain ⟨hp, g, dr, tkn, os⟩ := s1
      have big : hp.objs.size ≤ hp.objs.size + 1 := Nat.le_succ _
      have hq := q1 (hp.objs.size + 1) (I1.hok.fresh big)
      have kk : ∀ b o, hp.get? b = some o → ((hp.push (PySem.W.kdv_tup [])).push (PySem.HandSPX.excO C hp.objs.size)).get? b = some o := fun b o e => Heap.get?_push_of_some _ (Heap.get?_push_of_some _ e)
      have made : ((hp.push (PySem.W.kdv_tup [])).push (PySem.HandSPX.excO C hp.objs.size)).get? (hp.objs.size + 1) = some (PySem.HandSPX.excO C hp.objs.size) := by heap_get
      have I2 : Inv X pins σ (upd H1 (hp.objs.size + 1) (exo (hp.objs.size + 1) C none)) ⟨(hp.push (PySem.W.kdv_tup [])).push (PySem.HandSPX.excO C hp.objs.size), g, dr, tkn, os⟩ :=
        I1.laid (t' := tkn) (a := hp.objs.size + 1) (o := exo (hp.objs.size + 1) C none) kk big (exo_ok made)
      have r2 := hb.rel (Paired.cons (show RelV (V.ref (hp.objs.size + 1)) (Value.ref (hp.objs.size + 1)) from rfl) Paired.nil) (Paired.cons r0 Paired.nil)
      refine wpAny_call (kw_call PySem.F.excBase_ValueError (fun Y => PySem.HandSPX.refsVE_contains Y bm hbm) (I1.kIn _ _ hC) (PySem.W.looks_findIn I1.kIn iC) (fun self => PySem.W.bind_fn I1.kIn self tI)
        (codeAny_mono (F1.run _ X.stack _ _ ⟨[.ref (hp.objs.size + 1)], [(par, w0)]⟩ [.ref (hp.objs.size + 1), w0] _ _ (fun _ _ _ => False) (hr.make C [] [(par, w0)]) (I2.env0.make C [] [(par, w0)]) (hb.to _ [.ref (hp.objs.size + 1)] [w0] I2.kIn rfl rfl) r2 hq) fun r s' back => ?_))
      cases r with
      | error thrown => exact hx pins σ _ _ thrown s' I2 back
      | ok fl =>
        cases fl with
        | ret u =>
          obtain ⟨v, H2, os2, bare2, un2, hok2, rv, ev, d, fs, ea, ed, hd1, q2⟩ := back
          subst ev
          obtain ⟨hB, gB, dB, tB, osB⟩ := s'
          exact ⟨rv, mk_end (raises_own Y.exC Y.tyC) I1 big kk un2 hok2 os2 bare2 ea ed hd1 q2⟩
        | next => exact back.elim
        | brk => exact back.elim
        | cont => exact back.elim
end
section
variable {X : Cx} {e : Expr} {te : ET} {pos : Pos} {C : Addr} {fld : Str}
/-- a new exception with one field, as data -/
theorem R.excN {K : PySem.W.Frag} {F : Fr} {G H : Hp} {σ : L2.St} {ρ : Env'} {v : V} {x : D} {a d : Addr} (r : R K F G H σ ρ) (dx : Dd K G v x) (hd : H d = none) (ha : upd H d (.xd [(fld, v)]) a = none) :
    ∃ G', Ex G G' ∧ R K F G' (upd (upd H d (.xd [(fld, v)])) a (ExK a (.ref C) (some d))) (some (.ref a) :: σ) (.d (.exc C [fld] [x]) :: ρ) := by
  have e1 : Ex G (upd G d (.xd [(fld, v)])) := .put (r.new hd).1
  have r1 := r.both (o := .xd [(fld, v)]) hd
  have e2 : Ex (upd G d (.xd [(fld, v)])) (upd (upd G d (.xd [(fld, v)])) a (ExK a (.ref C) (some d))) := .put (r1.new ha).1
  have r2 := r1.both (o := ExK a (.ref C) (some d)) ha
  have da : d ≠ a := fun z => by rw [← z, upd_same] at ha; cases ha
  exact ⟨_, e1.tr e2, r2.push (.exc1 (ns := [fld]) (us := [v]) (dx := d) upd_same rfl (by rw [upd_ne da, upd_same]; rfl) (.cons ((dx.ex e1).ex e2) .nil))⟩
/-- C(e) of an own exception class with one field -/
def dMkX (C : Addr) (fld : Str) (te : ET) : ET := fun ρ P => te ρ fun s ρ1 => ∃ x, s.dat = some x ∧ P (.d (.exc C [fld] [x])) ρ1
theorem exd_end {H1 : Hp} {a d C : Addr} {v : V} (ha : H1 a = none) (hd : H1 d = none) (hne : d ≠ a) : upd (L2.del (upd (upd (upd H1 a (exo a C none)) d (exd d [(fld, v)])) a (exo a C (some d))) a) d (.xd [(fld, v)]) = upd H1 d (.xd [(fld, v)]) := by
  funext b
  by_cases hbd : b = d
  · rw [hbd, upd_same, upd_same]
  · rw [upd_ne hbd, upd_ne hbd]
    by_cases hba : b = a
    · rw [hba, L2.del_same]; exact ha.symm
    · rw [L2.del_ne hba, upd_ne hba, upd_ne hbd, upd_ne hba]
theorem pd_mkX {k : Nat} {fI : Addr} {fd : FuncData} {par x : Str} {p : Pos} (O : OexC X.K C) (iC : PySem.W.findIn X.K (.ref C) "__init__" = some (some (.ref fI))) (tI : PySem.W.typeIn X.K (.ref fI) = some (.type "function"))
    (F1 : FnOk X.prog X.w X.K X.mg X.base CX0 k fI fd ["self", par] (spOx C fld)) (hr : Room (k + 1) X.A) (hb : Binds X.K fd ["self", par] []) (hg : Gl X x) (hm : X.mg x = some (.ref C)) (he : PE X e (lift X.K te))
    (hdb : (x == ("__debug__" : Str)) = false := by decide) (hs : starEach [e] X.env = (false, eval e X.env) :: starEach [] X.env := by rfl) (hpl : (backTo pos (starEach [] X.env)).any (·.1) = false := by rfl) :
    PE X (.Call (.Name x p) [e] [] pos) (lift X.K (dMkX C fld te)) :=
  peImp (pe_keep (pmk_oex O iC tI F1 hr hb .nil pass0 hg hm (pa_cons he pa_nil hs) hdb hs hpl)) fun σ H Q ⟨F, G, ρ, P, r, h, k⟩ => goD r h fun x ρ1 v G1 H1 hz e1 r1 d1 => by
    refine ⟨by simp, fun a ha => ⟨a, v, rfl, upd_same, fun d hd hne => ⟨rfl, d, [(fld, v)], upd_same, by rw [upd_ne hne]; exact upd_same, ?_, fun a' ha' => ?_⟩⟩⟩
    · rw [upd_ne hne] at hd; exact hd
    · have hd1 : H1 d = none := by rw [upd_ne hne] at hd; exact hd
      rw [exd_end ha hd1 hne] at ha' ⊢
      obtain ⟨G2, e2, r2⟩ := r1.excN (C := C) d1 hd1 ha'
      exact k _ _ _ _ _ hz (e1.tr e2) r2
/-- C(f=e) -/
theorem pd_mkXk {k : Nat} {fI : Addr} {fd : FuncData} {par x : Str} {p kp : Pos} (O : OexC X.K C) (iC : PySem.W.findIn X.K (.ref C) "__init__" = some (some (.ref fI))) (tI : PySem.W.typeIn X.K (.ref fI) = some (.type "function"))
    (F1 : FnOk X.prog X.w X.K X.mg X.base CX0 k fI fd ["self", par] (spOx C fld)) (hr : Room (k + 1) X.A) (hb : KBn X.K fd ["self", par] 1 [par] (fun us ws => us ++ ws) (fun vs zs => vs ++ zs)) (hg : Gl X x) (hm : X.mg x = some (.ref C)) (he : PE X e (lift X.K te))
    (hall : (backToKw pos (keywordEach [⟨some par, e, kp⟩] X.env)).all (·.1.isSome) = true := by rfl) (hks : (backToKw pos (keywordEach [⟨some par, e, kp⟩] X.env)).filterMap (·.1) = [par] := by rfl) (hdb : (x == ("__debug__" : Str)) = false := by decide)
    (hpl : ((backTo pos (starEach [] X.env)).any (·.1) || (backToKw pos (keywordEach [⟨some par, e, kp⟩] X.env)).any (·.1.isNone)) = false := by rfl) :
    PE X (.Call (.Name x p) [] [⟨some par, e, kp⟩] pos) (lift X.K (dMkX C fld te)) :=
  peImp (pe_keep (pmk_kw O iC tI F1 hr hb pass0 hg hm (pk_cons he pk_nil) hall hks hdb hpl)) fun σ H Q ⟨F, G, ρ, P, r, h, k⟩ => goD r h fun x ρ1 v G1 H1 hz e1 r1 d1 => by
    refine ⟨by simp, fun a ha => ⟨a, v, rfl, upd_same, fun d hd hne => ⟨rfl, d, [(fld, v)], upd_same, by rw [upd_ne hne]; exact upd_same, ?_, fun a' ha' => ?_⟩⟩⟩
    · rw [upd_ne hne] at hd; exact hd
    · have hd1 : H1 d = none := by rw [upd_ne hne] at hd; exact hd
      rw [exd_end ha hd1 hne] at ha' ⊢
      obtain ⟨G2, e2, r2⟩ := r1.excN (C := C) d1 hd1 ha'
      exact k _ _ _ _ _ hz (e1.tr e2) r2
/-- C("..") of an own exception class without __init__ -/
def dMkX0 (C : Addr) : ET := fun ρ P => P (.d (.exc C [] [])) ρ
theorem pd_mkX0 {bmB : List Value} {B newId initId : String} {x m : Str} {j : Nat} {p p2 : Pos} (Fc : ExcBaseFacts B newId initId bmB) (q : PySem.W.excIn X.K C bmB newId = true) (gC : X.mg x = some (.ref C)) (kC : PySem.W.keepIn X.K (.ref C) = true)
    (rC : Raises X (.ref C)) (hg : Gl X x) (hdb : (x == ("__debug__" : Str)) = false := by decide) : PE X (.Call (.Name x p) [.Constant (.str m) j p2] [] pos) (lift X.K (dMkX0 C)) :=
  peImp (pe_keep (pmk_own Fc q gC kC rC hg hdb)) fun σ H Q ⟨F, G, ρ, P, r, h, k⟩ a ha => by
    have e1 : Ex G (upd G a (ExK a (.ref C) none)) := .put (r.new ha).1
    exact k _ _ _ _ _ h e1 ((r.both (o := ExK a (.ref C) none) ha).push (.exc0 upd_same))
/-- an exception's object, its dict -/
theorem Dd.excAt {K : PySem.W.Frag} {G : Hp} {v : V} {ns : List Str} {vs : List D} (d : Dd K G v (.exc C ns vs)) : ∃ a o, v = .ref a ∧ G a = some (ExK a (.ref C) o) ∧ ∀ dd, o = some dd → ∃ fs, G dd = some (.xd fs) := by
  cases d with
  | exc0 h => exact ⟨_, none, rfl, h, fun _ z => nomatch z⟩
  | exc1 h _ o _ => exact ⟨_, _, rfl, h, fun dd z => by cases z; exact ⟨_, o⟩⟩
/-- isinstance(e, cv), e an exception -/
def dIsX (K : PySem.W.Frag) (cv : Value) (te : ET) : ET := fun ρ P => te ρ fun s ρ1 => ∃ C ns vs b, s.dat = some (.exc C ns vs) ∧ ExcC K C ∧ PySem.W.kitOne K (.ref C) cv = some b ∧ P (.d (.bl b)) ρ1
theorem isX_go {cv : Value} {c : V} (only : ∀ u, RelV c u → u = cv) {σ : L2.St} {H : Hp} {Q : VK} (h : lift X.K (dIsX X.K cv te) σ H Q) : lift X.K te σ H fun v H1 => rIsK X.K [v, c] H1 Q := by
  obtain ⟨F, G, ρ, P, r, h, k⟩ := h
  refine goE r h fun s ρ1 v G1 H1 ⟨C, ns, vs, b, hs, hc, hk, hp⟩ e1 r1 => ?_
  obtain ⟨G2, e2, d2, r2⟩ := r1.frz hs
  obtain ⟨a, o, rfl, h1, h2⟩ := d2.excAt
  exact ⟨a, C, o, c, cv, b, rfl, hc, r2.gh _ _ h1, fun dd z => by obtain ⟨fs, q⟩ := h2 dd z; exact ⟨fs, r2.gh _ _ q⟩, only, hk, k _ _ _ _ _ hp (e1.tr e2) (r2.push (.bl b))⟩
theorem pd_isX {x : Str} {p p2 : Pos} (he : PE X e (lift X.K te)) (hg : Gl X "isinstance") (hm : X.mg "isinstance" = none) (hg2 : Gl X x) (hm2 : X.mg x = some (.ref C))
    (hb : bootBuiltins "isinstance" = some (.builtin "isinstance") := by decide +kernel) (hdb : (x == ("__debug__" : Str)) = false := by decide)
    (hs : starEach [e, .Name x p2] X.env = (false, eval e X.env) :: starEach [.Name x p2] X.env := by rfl) (hs2 : starEach [.Name x p2] X.env = (false, eval (.Name x p2) X.env) :: starEach [] X.env := by rfl) (hpl : (backTo pos (starEach [.Name x p2] X.env)).any (·.1) = false := by rfl) :
    PE X (.Call (.Name "isinstance" p) [e, .Name x p2] [] pos) (lift X.K (dIsX X.K (.ref C) te)) :=
  peImp (pe_callB call_isK hg hm hb (pa_cons he (pa_cons (pe_glob (v := .ref C) hg2 hm2 rfl hdb) pa_nil hs2) hs) (by decide) (by decide) hs hpl) fun σ H Q h => isX_go (c := .ref C) (fun u hu => hu) h
theorem pd_isXb {T : String} {x : Str} {p p2 : Pos} (he : PE X e (lift X.K te)) (hg : Gl X "isinstance") (hm : X.mg "isinstance" = none) (hg2 : Gl X x) (hm2 : X.mg x = none) (hv : bootBuiltins x = some (.type T) := by decide +kernel)
    (hb : bootBuiltins "isinstance" = some (.builtin "isinstance") := by decide +kernel) (hn : x ≠ "__name__" := by decide) (hdb : (x == ("__debug__" : Str)) = false := by decide)
    (hs : starEach [e, .Name x p2] X.env = (false, eval e X.env) :: starEach [.Name x p2] X.env := by rfl) (hs2 : starEach [.Name x p2] X.env = (false, eval (.Name x p2) X.env) :: starEach [] X.env := by rfl) (hpl : (backTo pos (starEach [.Name x p2] X.env)).any (·.1) = false := by rfl) :
    PE X (.Call (.Name "isinstance" p) [e, .Name x p2] [] pos) (lift X.K (dIsX X.K (.type T) te)) :=
  peImp (pe_callB call_isK hg hm hb (pa_cons he (pa_cons (pe_bltn (v := .ty T) hg2 hm2 hv rfl hn hdb) pa_nil hs2) hs) (by decide) (by decide) hs hpl) fun σ H Q h => isX_go (c := .ty T) (fun u hu => hu) h
/-- e.f, e an exception -/
def dFldX (K : PySem.W.Frag) (f : Str) (te : ET) : ET := fun ρ P => te ρ fun s ρ1 => ∃ C ns vs y, s.dat = some (.exc C ns vs) ∧ (XfC K C ∧ PySem.W.findIn K (.ref C) f = some none) ∧ lkF ns vs f = some y ∧ P (.d y) ρ1
theorem pd_fldX {f : Str} (he : PE X e (lift X.K te)) (hb : attributeBase e f X.env (eval e X.env) = eval e X.env := by rfl) : PE X (.Attribute e f pos) (lift X.K (dFldX X.K f te)) :=
  peImp (pe_xk he hb) fun σ H Q ⟨F, G, ρ, P, r, h, k⟩ => goE r h fun s ρ1 v G1 H1 ⟨C, ns, vs, y, hs, ⟨c1, c2⟩, hl, hp⟩ e1 r1 => by
    obtain ⟨G2, e2, d2, r2⟩ := r1.frz hs
    cases d2 with
    | exc0 _ => cases hl
    | exc1 h1 l1 o1 t1 =>
      obtain ⟨w, w1, w2⟩ := (lkF_of l1 t1).1 y hl
      exact ⟨_, C, _, _, w, rfl, c1, c2, r2.gh _ _ h1, r2.gh _ _ o1, w1, k _ _ _ _ _ hp (e1.tr e2) (r2.push w2)⟩
end
end Fl
namespace Fl
open PySem PySem.Spec PyProof.Rows L2
def dTryR (te : ET) (tu : ST) : ST := fun E ρ => te ρ fun s ρ1 => ∃ x, s.dat = some x ∧ tu E ρ1
section
variable {X : Cx} {e : Expr} {te : ET} {tu : ST} {pos pos2 pos3 pos4 np p : Pos} {C : Addr} {fld x y : Str} {c : Value} {b1 : Stmt} {su : List Stmt}
theorem takesNo : Takes X (fun _ _ _ _ => False) := fun u s' h => by
  obtain ⟨a, B, sI, pins, σ, H, cls, d, _, _, _, _, _, _, _, _, w⟩ := h
  exact w.elim
theorem ds_tryR {k : Nat} {fI : Addr} {fd : FuncData} {par : Str} (hcalm : X.calm = true) (hst : X.stack = X.env :: X.outer) (hfl : X.env.frame = some X.env.locals) (hc : Names X y c) (hit : PySem.W.exmOne X.K (.ref C) c = some true)
    (O : OexC X.K C) (iC : PySem.W.findIn X.K (.ref C) "__init__" = some (some (.ref fI))) (tI : PySem.W.typeIn X.K (.ref fI) = some (.type "function"))
    (F1 : FnOk X.prog X.w X.K X.mg X.base CX0 k fI fd ["self", par] (spOx C fld)) (hr : Room (k + 1) X.A) (hb : Binds X.K fd ["self", par] []) (hg : Gl X x) (hm : X.mg x = some (.ref C))
    (he : ∀ (pn : List (Addr × Obj)) (xe : Value → Shared → Prop), PE (X.tr pn xe) e (lift X.K te)) (hsu : ∀ (a : Addr) (pn : List (Addr × Obj)), PSs (X.suite a pn) (b1 :: su) (liftS X.K tu))
    (hdb : (x == ("__debug__" : Str)) = false := by decide) (hs : ∀ (pn : List (Addr × Obj)) (xe : Value → Shared → Prop), starEach [e] (X.tr pn xe).env = (false, eval e (X.tr pn xe).env) :: starEach [] (X.tr pn xe).env := by intro _ _; rfl) (hpl : (backTo pos (starEach [] X.env)).any (·.1) = false := by rfl) :
    PS X (.Try [.Raise (some (.Call (.Name x p) [e] [] pos)) none pos2] [.ExceptHandler (some (.Name y np)) none (b1 :: su) pos3] [] [] pos4) (liftS X.K (dTryR te tu)) :=
  psImp (ps_try_only (ts := fun _ _ _ => liftS X.K tu) (Wout := fun _ _ _ _ => False) hst hfl hc takesNo
    (fun W pn xe tk _ => pss_one (ps_raise (X := X.tr pn xe) hcalm tk (pmk_oex (X := X.tr pn xe) O iC tI F1 hr hb .nil pass0 hg hm (pa_cons (he pn xe) pa_nil (hs pn xe)) hdb (hs pn xe) hpl)))
    (fun a oe cls d pn _ _ => hsu a _)) fun D σ H ⟨F, G, ρ, E, r, h, w⟩ => goD r h fun x ρ1 v G1 H1 hz e1 r1 d1 => by
      refine ⟨by simp, fun a ha => ⟨a, v, rfl, upd_same, fun d hd hne => ⟨rfl, d, [(fld, v)], upd_same, by rw [upd_ne hne]; exact upd_same, ?_, true, hit, fun _ a' ha' => ?_, fun z => by cases z⟩⟩⟩
      · rw [upd_ne hne] at hd; exact hd
      · have hd1 : H1 d = none := by rw [upd_ne hne] at hd; exact hd
        rw [exd_end ha hd1 hne]
        exact ⟨F, G1, ρ1, E, r1.grow .rfl (r1.gh.under (r1.new hd1).1) (.put hd1) fun b u e => .inl e, hz, w.up e1⟩
def dTryR0 (tu : ST) : ST := fun E ρ => tu E ρ
theorem ds_tryR0 {bmB : List Value} {B newId initId : String} {m : Str} {j : Nat} {p2 : Pos} (hcalm : X.calm = true) (hst : X.stack = X.env :: X.outer) (hfl : X.env.frame = some X.env.locals) (hc : Names X y c) (hit : PySem.W.exmOne X.K (.ref C) c = some true)
    (Fc : ExcBaseFacts B newId initId bmB) (q : PySem.W.excIn X.K C bmB newId = true) (gC : X.mg x = some (.ref C)) (kC : PySem.W.keepIn X.K (.ref C) = true) (rC : Raises X (.ref C)) (hg : Gl X x) (hsu : ∀ (a : Addr) (pn : List (Addr × Obj)), PSs (X.suite a pn) (b1 :: su) (liftS X.K tu))
    (hdb : (x == ("__debug__" : Str)) = false := by decide) :
    PS X (.Try [.Raise (some (.Call (.Name x p) [.Constant (.str m) j p2] [] pos)) none pos2] [.ExceptHandler (some (.Name y np)) none (b1 :: su) pos3] [] [] pos4) (liftS X.K (dTryR0 tu)) :=
  psImp (ps_try_only (ts := fun _ _ _ => liftS X.K tu) (Wout := fun _ _ _ _ => False) hst hfl hc takesNo
    (fun W pn xe tk _ => pss_one (ps_raise (X := X.tr pn xe) hcalm tk (pmk_own (X := X.tr pn xe) Fc q gC kC rC hg hdb)))
    (fun a oe cls d pn _ _ => hsu a _)) fun D σ H ⟨F, G, ρ, E, r, h, w⟩ => ⟨true, hit, fun _ a' ha' => ⟨F, G, ρ, E, r, h, w⟩, fun z => by cases z⟩
end
end Fl
namespace Tr
open PySem L2 Fl
def eMkX (C : Addr) (fld : Str) (f : E') : E' := fun ρ => (f ρ).bind2 fun s ρ1 => T.ofO s.dat fun x => .ret (.d (.exc C [fld] [x]), ρ1)
def eMkX0 (C : Addr) : E' := fun ρ => .ret (.d (.exc C [] []), ρ)
/-- the class of an exception, its fields -/
def excOf : D → Option (Addr × List Str × List D)
  | .exc C ns vs => some (C, ns, vs)
  | _ => none
theorem excOf_some {x : D} {r : Addr × List Str × List D} (h : excOf x = some r) : x = .exc r.1 r.2.1 r.2.2 := by cases x <;> first | (cases h; rfl) | cases h
/-- what isinstance says of each class -/
def eIsX (tab : List (Addr × Bool)) (f : E') : E' := fun ρ => (f ρ).bind2 fun s ρ1 => T.ofO s.dat fun x => T.ofO (excOf x) fun r => T.ofO (tab.lookup r.1) fun b => .ret (.d (.bl b), ρ1)
def eFldX (cs : List Addr) (n : Str) (f : E') : E' := fun ρ => (f ρ).bind2 fun s ρ1 => T.ofO s.dat fun x => T.ofO (excOf x) fun r => T.need (decide (r.1 ∈ cs)) (T.ofO (lkF r.2.1 r.2.2 n) fun y => .ret (.d y, ρ1))
def sTryR (f : E') (g : S') : S' := fun ρ => (f ρ).bind2 fun s ρ1 => T.ofO s.dat fun _ => g ρ1
section
variable {Z : Exc → Prop} {K : PySem.W.Frag} {f : E'} {g : S'} {ρ : Env'} {P : Sl → Env' → Prop} {E : DE} {C : Addr} {fld : Str} {cv : Value}
theorem w_mkX (q : up Z (eMkX C fld f) ρ P) : dMkX C fld (up Z f) ρ P := by
  refine wp_mono (fun a q => ?_) (wp_bind2.mp (show wp Z ((f ρ).bind2 _) _ from q))
  obtain ⟨x, h, q⟩ := wp_ofO.mp q
  exact ⟨x, h, q⟩
theorem w_mkX0 (q : up Z (eMkX0 C) ρ P) : dMkX0 C ρ P := q
theorem lookup_memP {C : Addr} {b : Bool} : ∀ {tab : List (Addr × Bool)}, tab.lookup C = some b → (C, b) ∈ tab
  | (D, c) :: tab, h => by
    rw [List.lookup_cons] at h
    by_cases e : C = D
    · subst e
      rw [beq_self_eq_true] at h
      cases h
      exact List.mem_cons_self
    · rw [beq_eq_false_iff_ne.mpr e] at h
      exact List.mem_cons_of_mem _ (lookup_memP h)
theorem w_isX {tab : List (Addr × Bool)} (ht : ∀ p ∈ tab, ExcC K p.1 ∧ PySem.W.kitOne K (.ref p.1) cv = some p.2) (q : up Z (eIsX tab f) ρ P) : dIsX K cv (up Z f) ρ P := by
  refine wp_mono (fun a q => ?_) (wp_bind2.mp (show wp Z ((f ρ).bind2 _) _ from q))
  obtain ⟨x, h, q⟩ := wp_ofO.mp q
  obtain ⟨r, h2, q⟩ := wp_ofO.mp q
  obtain ⟨b, h3, q⟩ := wp_ofO.mp q
  have hm := ht _ (lookup_memP h3)
  exact ⟨r.1, r.2.1, r.2.2, b, by rw [h, excOf_some h2], hm.1, hm.2, q⟩
theorem w_fldX {cs : List Addr} {n : Str} (ht : ∀ C ∈ cs, XfC K C ∧ PySem.W.findIn K (.ref C) n = some none) (q : up Z (eFldX cs n f) ρ P) : dFldX K n (up Z f) ρ P := by
  refine wp_mono (fun a q => ?_) (wp_bind2.mp (show wp Z ((f ρ).bind2 _) _ from q))
  obtain ⟨x, h, q⟩ := wp_ofO.mp q
  obtain ⟨r, h2, q⟩ := wp_ofO.mp q
  obtain ⟨h3, q⟩ := wp_need.mp q
  obtain ⟨y, h4, q⟩ := wp_ofO.mp q
  exact ⟨r.1, r.2.1, r.2.2, y, by rw [h, excOf_some h2], ht _ (of_decide_eq_true h3), h4, q⟩
theorem w_tryR (q : upS Z (sTryR f g) E ρ) : dTryR (up Z f) (upS Z g) E ρ := by
  refine wp_mono (fun a q => ?_) (wp_bind2.mp (show wp Z ((f ρ).bind2 _) _ from q))
  obtain ⟨x, h, q⟩ := wp_ofO.mp q
  exact ⟨x, h, q⟩
theorem eMkX_e {s0 : Sl} {ρ0 : Env'} : eMkX C fld f (s0 :: ρ0) = (f (s0 :: ρ0)).bind2 fun s ρ1 => T.ofO s.dat fun x => .ret (.d (.exc C [fld] [x]), ρ1) := id rfl
theorem eMkX0_e {s0 : Sl} {ρ0 : Env'} : eMkX0 C (s0 :: ρ0) = .ret (.d (.exc C [] []), s0 :: ρ0) := id rfl
theorem eIsX_e {tab : List (Addr × Bool)} {s0 : Sl} {ρ0 : Env'} : eIsX tab f (s0 :: ρ0) = (f (s0 :: ρ0)).bind2 fun s ρ1 => T.ofO s.dat fun x => T.ofO (excOf x) fun r => T.ofO (tab.lookup r.1) fun b => .ret (.d (.bl b), ρ1) := id rfl
theorem eFldX_e {cs : List Addr} {n : Str} {s0 : Sl} {ρ0 : Env'} : eFldX cs n f (s0 :: ρ0) = (f (s0 :: ρ0)).bind2 fun s ρ1 => T.ofO s.dat fun x => T.ofO (excOf x) fun r => T.need (decide (r.1 ∈ cs)) (T.ofO (lkF r.2.1 r.2.2 n) fun y => .ret (.d y, ρ1)) := id rfl
theorem sTryR_e {s0 : Sl} {ρ0 : Env'} : sTryR f g (s0 :: ρ0) = (f (s0 :: ρ0)).bind2 fun s ρ1 => T.ofO s.dat fun _ => g ρ1 := id rfl
theorem excOf_e {ns : List Str} {vs : List D} : excOf (.exc C ns vs) = some (C, ns, vs) := id rfl
theorem dat_exc {ns : List Str} {vs : List D} : (Sl.d (.exc C ns vs)).dat = some (.exc C ns vs) := id rfl
end
end Tr
namespace K01
open PySem L2 Fl Tr
/-- the classes -/
structure Cs where
  BadWorld : Addr
  BadNode : Addr
  BadMove : Addr
  BadEntry : Addr
  BadState : Addr
  BadNodes : Addr
  TooMany : Addr
  BadDeed : Addr
  BadJournal : Addr
  BadText : Addr
  ViewError : Addr
def m__law_draw (c : Cs) : M := drawM
theorem draw_e {c : Cs} {m : Int} : m__law_draw c [.src, .d (.int m)] = .draw m fun r => .ret (.d (.int r)) := id rfl
def b__law_pick (c : Cs) : S' := (sRet (eIx (eVar 1) (eFn 2 (m__law_draw c) (bArg' (eVar 0) (bArg' (eCall fLen (aCons (eVar 1) aNil)) bNil')))))
def m__law_pick (c : Cs) : M := defM 0 (b__law_pick c)
def b__law_marks (c : Cs) : S' := (sSeq (sAsg (eLst (aCons (eIsX [(c.BadWorld, true), (c.BadNode, false), (c.BadMove, false), (c.BadEntry, false), (c.BadState, false), (c.BadNodes, false), (c.TooMany, false), (c.BadDeed, false), (c.BadJournal, false), (c.BadText, false)] (eVar 0)) (aCons (eIsX [(c.BadWorld, false), (c.BadNode, true), (c.BadMove, false), (c.BadEntry, false), (c.BadState, false), (c.BadNodes, false), (c.TooMany, false), (c.BadDeed, false), (c.BadJournal, false), (c.BadText, false)] (eVar 0)) (aCons (eIsX [(c.BadWorld, false), (c.BadNode, false), (c.BadMove, true), (c.BadEntry, false), (c.BadState, false), (c.BadNodes, false), (c.TooMany, false), (c.BadDeed, false), (c.BadJournal, false), (c.BadText, false)] (eVar 0)) aNil)))) (gNm' 1)) (sSeq (sAsg (eOp oAdd (eVar 1) (eLst (aCons (eIsX [(c.BadWorld, false), (c.BadNode, false), (c.BadMove, false), (c.BadEntry, true), (c.BadState, false), (c.BadNodes, false), (c.TooMany, false), (c.BadDeed, false), (c.BadJournal, false), (c.BadText, false)] (eVar 0)) (aCons (eIsX [(c.BadWorld, false), (c.BadNode, false), (c.BadMove, false), (c.BadEntry, false), (c.BadState, true), (c.BadNodes, false), (c.TooMany, false), (c.BadDeed, false), (c.BadJournal, false), (c.BadText, false)] (eVar 0)) (aCons (eIsX [(c.BadWorld, false), (c.BadNode, false), (c.BadMove, false), (c.BadEntry, false), (c.BadState, false), (c.BadNodes, true), (c.TooMany, false), (c.BadDeed, false), (c.BadJournal, false), (c.BadText, false)] (eVar 0)) aNil))))) (gNm' 1)) (sSeq (sAsg (eOp oAdd (eVar 1) (eLst (aCons (eIsX [(c.BadWorld, false), (c.BadNode, false), (c.BadMove, false), (c.BadEntry, false), (c.BadState, false), (c.BadNodes, false), (c.TooMany, true), (c.BadDeed, false), (c.BadJournal, false), (c.BadText, false)] (eVar 0)) (aCons (eIsX [(c.BadWorld, false), (c.BadNode, false), (c.BadMove, false), (c.BadEntry, false), (c.BadState, false), (c.BadNodes, false), (c.TooMany, false), (c.BadDeed, true), (c.BadJournal, false), (c.BadText, false)] (eVar 0)) (aCons (eIsX [(c.BadWorld, false), (c.BadNode, false), (c.BadMove, false), (c.BadEntry, false), (c.BadState, false), (c.BadNodes, false), (c.TooMany, false), (c.BadDeed, false), (c.BadJournal, true), (c.BadText, false)] (eVar 0)) aNil))))) (gNm' 1)) (sRet (eOp oAdd (eVar 1) (eLst (aCons (eIsX [(c.BadWorld, false), (c.BadNode, false), (c.BadMove, false), (c.BadEntry, false), (c.BadState, false), (c.BadNodes, false), (c.TooMany, false), (c.BadDeed, false), (c.BadJournal, false), (c.BadText, true)] (eVar 0)) aNil)))))))
def m__law_marks (c : Cs) : M := defM 1 (b__law_marks c)
def b__law_pairs (c : Cs) : S' := (sSeq (sAsg (eLst (aCons (eTup (aCons (eMkX c.BadWorld "part" (eVar 0)) (aCons (eMkX c.BadWorld "part" (eVar 0)) aNil))) (aCons (eTup (aCons (eMkX c.BadNode "index" (eVar 0)) (aCons (eMkX c.BadNode "index" (eVar 0)) aNil))) aNil))) (gNm' 1)) (sSeq (sAsg (eOp oAdd (eVar 1) (eLst (aCons (eTup (aCons (eMkX c.BadMove "at" (eVar 0)) (aCons (eMkX c.BadMove "at" (eVar 0)) aNil))) (aCons (eTup (aCons (eMkX0 c.BadEntry) (aCons (eMkX0 c.BadEntry) aNil))) aNil)))) (gNm' 1)) (sSeq (sAsg (eOp oAdd (eVar 1) (eLst (aCons (eTup (aCons (eMkX0 c.BadState) (aCons (eMkX0 c.BadState) aNil))) (aCons (eTup (aCons (eMkX c.BadNodes "index" (eVar 0)) (aCons (eMkX c.BadNodes "index" (eVar 0)) aNil))) aNil)))) (gNm' 1)) (sSeq (sAsg (eOp oAdd (eVar 1) (eLst (aCons (eTup (aCons (eMkX0 c.TooMany) (aCons (eMkX0 c.TooMany) aNil))) (aCons (eTup (aCons (eMkX c.BadDeed "at" (eVar 0)) (aCons (eMkX c.BadDeed "at" (eVar 0)) aNil))) aNil)))) (gNm' 1)) (sRet (eOp oAdd (eVar 1) (eLst (aCons (eTup (aCons (eMkX c.BadJournal "row" (eVar 0)) (aCons (eMkX c.BadJournal "row" (eVar 0)) aNil))) (aCons (eTup (aCons (eMkX c.BadText "row" (eVar 0)) (aCons (eMkX c.BadText "row" (eVar 0)) aNil))) aNil)))))))))
def m__law_pairs (c : Cs) : M := defM 1 (b__law_pairs c)
def b__law_held (c : Cs) : S' := (sSeq (sIf (tTst (eOp oEq (eVar 1) (eC (.int 0)))) (sRet (eLst (aCons (eFldX [c.BadWorld] "part" (eVar 0)) aNil))) sNext) (sSeq (sIf (tTst (eOp oIn (eVar 1) (eTup (aCons (eC (.int 1)) (aCons (eC (.int 5)) aNil))))) (sRet (eLst (aCons (eFldX [c.BadNode, c.BadNodes] "index" (eVar 0)) aNil))) sNext) (sSeq (sIf (tTst (eOp oIn (eVar 1) (eTup (aCons (eC (.int 2)) (aCons (eC (.int 7)) aNil))))) (sRet (eLst (aCons (eFldX [c.BadMove, c.BadDeed] "at" (eVar 0)) aNil))) sNext) (sRet (eIf (tTst (eOp oGt (eVar 1) (eC (.int 7)))) (eLst (aCons (eFldX [c.BadJournal, c.BadText] "row" (eVar 0)) aNil)) (eLst aNil))))))
def m__law_held (c : Cs) : M := defM 0 (b__law_held c)
def b__law_caught (c : Cs) : S' := (sSeq (sAsg (eC (.int 0)) (gNm' 1)) (sSeq (sTryR (eVar 0) (sAsg (eOp oAdd (eVar 1) (eC (.int 1))) (gNm' 1))) (sSeq (sAsg (eOp oAdd (eVar 1) (eC (.int 1))) (gNm' 1)) (sRet (eVar 1)))))
def m__law_caught (c : Cs) : M := defM 1 (b__law_caught c)
def b_turn (c : Cs) : S' := (sSeq (sAsg (eFn 2 (m__law_pick c) (bArg' (eVar 1) (bArg' (eLst (aCons (eC (.int 0)) (aCons (eC (.int 1)) (aCons (eNeg (eC (.int 1))) (aCons (eC (.str "a")) (aCons (eC (.str "")) (aCons (eC .non) (aCons (eC (.bl true)) (aCons (eTup (aCons (eC (.int 0)) (aCons (eC (.int 1)) aNil))) (aCons (eLst (aCons (eC (.int 1)) aNil)) (aCons eDic0 (aCons (eFn 2 (m__law_draw c) (bArg' (eVar 1) (bArg' (eC (.int 100)) bNil'))) aNil)))))))))))) bNil'))) (gNm' 3)) (sSeq (sFor (iEnA' (aCons (eFn 1 (m__law_pairs c) (bArg' (eVar 3) bNil')) aNil)) (gTp' 2 (gsCons (gNm' 4) (gsCons (gNm' 5) gsNil))) (sFor (iSq' (eVar 5)) (gNm' 6) (sSeq (sIf (tTst (eOp oNe (eFn 1 (m__law_marks c) (bArg' (eVar 6) bNil')) (eLc (iR' (aCons (eC (.int 10)) aNil)) (gNm' 7) tYes' (eOp oEq (eVar 7) (eVar 4)) [7]))) (sRet (eC (.bl false))) sNext) (sSeq (sIf (tOr' (tNot' (tTst (eIsX [(c.BadWorld, true), (c.BadNode, true), (c.BadMove, true), (c.BadEntry, true), (c.BadState, true), (c.BadNodes, true), (c.TooMany, true), (c.BadDeed, true), (c.BadJournal, true), (c.BadText, true)] (eVar 6)))) (tNot' (tTst (eIsX [(c.BadWorld, true), (c.BadNode, true), (c.BadMove, true), (c.BadEntry, true), (c.BadState, true), (c.BadNodes, true), (c.TooMany, true), (c.BadDeed, true), (c.BadJournal, true), (c.BadText, true)] (eVar 6))))) (sRet (eC (.bl false))) sNext) (sIf (tTst (eOp oNe (eCall fRepr (aCons (eFn 2 (m__law_held c) (bArg' (eVar 6) (bArg' (eVar 4) bNil'))) aNil)) (eCall fRepr (aCons (eIf (tTst (eOp oNotIn (eVar 4) (eTup (aCons (eC (.int 3)) (aCons (eC (.int 4)) (aCons (eC (.int 6)) aNil)))))) (eLst (aCons (eVar 3) aNil)) (eLst aNil)) aNil)))) (sRet (eC (.bl false))) sNext))))) (sIf (tTst (eOp oNe (eFn 1 (m__law_caught c) (bArg' (eVar 3) bNil')) (eC (.int 2)))) (sRet (eC (.bl false))) sNext)))
abbrev PP : Program := PySem.Challenge.pw_staleview_k01_errors_by_class
def top (i : Nat) : Stmt := PySem.Challenge.pw_staleview_k01_errors_by_class.main.body.getD i (.Pass ⟨0, 0, 0, 0⟩)
abbrev s__law_state : Stmt := top 13
abbrev s__law_draw : Stmt := top 14
abbrev s__law_pick : Stmt := top 15
abbrev s__law_marks : Stmt := top 16
abbrev s__law_pairs : Stmt := top 17
abbrev s__law_held : Stmt := top 18
abbrev s__law_caught : Stmt := top 19
abbrev s_law : Stmt := top 20
theorem sc__law_state : FnScope ["_law_script", "_law_cell"] ["_law_script"] (defScope s__law_state) := ⟨rfl, rfl, rfl, by decide +kernel, rfl, by decide +kernel, by decide +kernel⟩
theorem sc__law_draw : FnScope ["_law_draws", "_law_many", "_law_cells", "_law_spot", "_law_cell", "_law_mixed"] ["_law_draws", "_law_many"] (defScope s__law_draw) := ⟨rfl, rfl, rfl, by decide +kernel, rfl, by decide +kernel, by decide +kernel⟩
theorem sc__law_pick : FnScope ["_law_draws", "_law_some"] ["_law_draws", "_law_some"] (defScope s__law_pick) := ⟨rfl, rfl, rfl, by decide +kernel, rfl, by decide +kernel, by decide +kernel⟩
theorem sc__law_marks : FnScope ["_law_error", "_law_found"] ["_law_error"] (defScope s__law_marks) := ⟨rfl, rfl, rfl, by decide +kernel, rfl, by decide +kernel, by decide +kernel⟩
theorem sc__law_pairs : FnScope ["_law_what", "_law_found"] ["_law_what"] (defScope s__law_pairs) := ⟨rfl, rfl, rfl, by decide +kernel, rfl, by decide +kernel, by decide +kernel⟩
theorem sc__law_held : FnScope ["_law_error", "_law_spot"] ["_law_error", "_law_spot"] (defScope s__law_held) := ⟨rfl, rfl, rfl, by decide +kernel, rfl, by decide +kernel, by decide +kernel⟩
theorem sc__law_caught : FnScope ["_law_what", "_law_found"] ["_law_what"] (defScope s__law_caught) := ⟨rfl, rfl, rfl, by decide +kernel, rfl, by decide +kernel, by decide +kernel⟩
theorem sc_law : FnScope ["_law_script", "_law_draws", "_law_turn", "_law_what", "_law_spot", "_law_pair", "_law_error", "_law_k"] ["_law_script"] (defScope s_law) := ⟨rfl, rfl, rfl, by decide +kernel, rfl, by decide +kernel, by decide +kernel⟩
abbrev s_BadWorld_init : Stmt := inClass (top 2) 0
abbrev s_BadNode_init : Stmt := inClass (top 3) 0
abbrev s_BadMove_init : Stmt := inClass (top 4) 0
abbrev s_BadNodes_init : Stmt := inClass (top 7) 0
abbrev s_BadDeed_init : Stmt := inClass (top 9) 0
abbrev s_BadJournal_init : Stmt := inClass (top 10) 0
abbrev s_BadText_init : Stmt := inClass (top 11) 0
set_option genInjectivity false in
structure Ad where
  cs : Cs
  _law_state : Addr
  fd__law_state : FuncData
  _law_draw : Addr
  fd__law_draw : FuncData
  _law_pick : Addr
  fd__law_pick : FuncData
  _law_marks : Addr
  fd__law_marks : FuncData
  _law_pairs : Addr
  fd__law_pairs : FuncData
  _law_held : Addr
  fd__law_held : FuncData
  _law_caught : Addr
  fd__law_caught : FuncData
  law : Addr
  fd_law : FuncData
  x_BadWorld : Addr
  fdx_BadWorld : FuncData
  x_BadNode : Addr
  fdx_BadNode : FuncData
  x_BadMove : Addr
  fdx_BadMove : FuncData
  x_BadNodes : Addr
  fdx_BadNodes : FuncData
  x_BadDeed : Addr
  fdx_BadDeed : FuncData
  x_BadJournal : Addr
  fdx_BadJournal : FuncData
  x_BadText : Addr
  fdx_BadText : FuncData
structure Txt (K : PySem.W.Frag) (mg : Str → Option Value) (a : Ad) : Prop where
  z_ValueError : mg "ValueError" = none
  z_abs : mg "abs" = none
  z_enumerate : mg "enumerate" = none
  z_int : mg "int" = none
  z_isinstance : mg "isinstance" = none
  z_len : mg "len" = none
  z_min : mg "min" = none
  z_range : mg "range" = none
  z_repr : mg "repr" = none
  g_BadWorld : mg "BadWorld" = some (.ref a.cs.BadWorld)
  g_BadNode : mg "BadNode" = some (.ref a.cs.BadNode)
  g_BadMove : mg "BadMove" = some (.ref a.cs.BadMove)
  g_BadEntry : mg "BadEntry" = some (.ref a.cs.BadEntry)
  g_BadState : mg "BadState" = some (.ref a.cs.BadState)
  g_BadNodes : mg "BadNodes" = some (.ref a.cs.BadNodes)
  g_TooMany : mg "TooMany" = some (.ref a.cs.TooMany)
  g_BadDeed : mg "BadDeed" = some (.ref a.cs.BadDeed)
  g_BadJournal : mg "BadJournal" = some (.ref a.cs.BadJournal)
  g_BadText : mg "BadText" = some (.ref a.cs.BadText)
  g_ViewError : mg "ViewError" = some (.ref a.cs.ViewError)
  xo_BadWorld : OexC K a.cs.BadWorld
  xi_BadWorld : PySem.W.findIn K (.ref a.cs.BadWorld) "__init__" = some (some (.ref a.x_BadWorld))
  xt_BadWorld : PySem.W.typeIn K (.ref a.x_BadWorld) = some (.type "function")
  xf_BadWorld : ∀ (w : World) (base : Heap), FnOk PP w K mg base CX0 1 a.x_BadWorld a.fdx_BadWorld ["self", "part"] (spOx a.cs.BadWorld "part")
  xb_BadWorld : Binds K a.fdx_BadWorld ["self", "part"] []
  xk_BadWorld : KBn K a.fdx_BadWorld ["self", "part"] 1 ["part"] (fun us ws => us ++ ws) (fun vs zs => vs ++ zs)
  xo_BadNode : OexC K a.cs.BadNode
  xi_BadNode : PySem.W.findIn K (.ref a.cs.BadNode) "__init__" = some (some (.ref a.x_BadNode))
  xt_BadNode : PySem.W.typeIn K (.ref a.x_BadNode) = some (.type "function")
  xf_BadNode : ∀ (w : World) (base : Heap), FnOk PP w K mg base CX0 1 a.x_BadNode a.fdx_BadNode ["self", "index"] (spOx a.cs.BadNode "index")
  xb_BadNode : Binds K a.fdx_BadNode ["self", "index"] []
  xk_BadNode : KBn K a.fdx_BadNode ["self", "index"] 1 ["index"] (fun us ws => us ++ ws) (fun vs zs => vs ++ zs)
  xo_BadMove : OexC K a.cs.BadMove
  xi_BadMove : PySem.W.findIn K (.ref a.cs.BadMove) "__init__" = some (some (.ref a.x_BadMove))
  xt_BadMove : PySem.W.typeIn K (.ref a.x_BadMove) = some (.type "function")
  xf_BadMove : ∀ (w : World) (base : Heap), FnOk PP w K mg base CX0 1 a.x_BadMove a.fdx_BadMove ["self", "at"] (spOx a.cs.BadMove "at")
  xb_BadMove : Binds K a.fdx_BadMove ["self", "at"] []
  xk_BadMove : KBn K a.fdx_BadMove ["self", "at"] 1 ["at"] (fun us ws => us ++ ws) (fun vs zs => vs ++ zs)
  xp_BadEntry : PySem.W.excIn K a.cs.BadEntry [.type "ValueError", .type "Exception", .type "BaseException", .type "object"] "ValueError.__new__" = true
  xkp_BadEntry : PySem.W.keepIn K (.ref a.cs.BadEntry) = true
  xs_BadEntry : PySem.W.subIn K (.ref a.cs.BadEntry) (.type "BaseException") = some true
  xy_BadEntry : PySem.W.typeIn K (.ref a.cs.BadEntry) = some (.type "type")
  xp_BadState : PySem.W.excIn K a.cs.BadState [.type "ValueError", .type "Exception", .type "BaseException", .type "object"] "ValueError.__new__" = true
  xkp_BadState : PySem.W.keepIn K (.ref a.cs.BadState) = true
  xs_BadState : PySem.W.subIn K (.ref a.cs.BadState) (.type "BaseException") = some true
  xy_BadState : PySem.W.typeIn K (.ref a.cs.BadState) = some (.type "type")
  xo_BadNodes : OexC K a.cs.BadNodes
  xi_BadNodes : PySem.W.findIn K (.ref a.cs.BadNodes) "__init__" = some (some (.ref a.x_BadNodes))
  xt_BadNodes : PySem.W.typeIn K (.ref a.x_BadNodes) = some (.type "function")
  xf_BadNodes : ∀ (w : World) (base : Heap), FnOk PP w K mg base CX0 1 a.x_BadNodes a.fdx_BadNodes ["self", "index"] (spOx a.cs.BadNodes "index")
  xb_BadNodes : Binds K a.fdx_BadNodes ["self", "index"] []
  xk_BadNodes : KBn K a.fdx_BadNodes ["self", "index"] 1 ["index"] (fun us ws => us ++ ws) (fun vs zs => vs ++ zs)
  xp_TooMany : PySem.W.excIn K a.cs.TooMany [.type "ValueError", .type "Exception", .type "BaseException", .type "object"] "ValueError.__new__" = true
  xkp_TooMany : PySem.W.keepIn K (.ref a.cs.TooMany) = true
  xs_TooMany : PySem.W.subIn K (.ref a.cs.TooMany) (.type "BaseException") = some true
  xy_TooMany : PySem.W.typeIn K (.ref a.cs.TooMany) = some (.type "type")
  xo_BadDeed : OexC K a.cs.BadDeed
  xi_BadDeed : PySem.W.findIn K (.ref a.cs.BadDeed) "__init__" = some (some (.ref a.x_BadDeed))
  xt_BadDeed : PySem.W.typeIn K (.ref a.x_BadDeed) = some (.type "function")
  xf_BadDeed : ∀ (w : World) (base : Heap), FnOk PP w K mg base CX0 1 a.x_BadDeed a.fdx_BadDeed ["self", "at"] (spOx a.cs.BadDeed "at")
  xb_BadDeed : Binds K a.fdx_BadDeed ["self", "at"] []
  xk_BadDeed : KBn K a.fdx_BadDeed ["self", "at"] 1 ["at"] (fun us ws => us ++ ws) (fun vs zs => vs ++ zs)
  xo_BadJournal : OexC K a.cs.BadJournal
  xi_BadJournal : PySem.W.findIn K (.ref a.cs.BadJournal) "__init__" = some (some (.ref a.x_BadJournal))
  xt_BadJournal : PySem.W.typeIn K (.ref a.x_BadJournal) = some (.type "function")
  xf_BadJournal : ∀ (w : World) (base : Heap), FnOk PP w K mg base CX0 1 a.x_BadJournal a.fdx_BadJournal ["self", "row"] (spOx a.cs.BadJournal "row")
  xb_BadJournal : Binds K a.fdx_BadJournal ["self", "row"] []
  xk_BadJournal : KBn K a.fdx_BadJournal ["self", "row"] 1 ["row"] (fun us ws => us ++ ws) (fun vs zs => vs ++ zs)
  xo_BadText : OexC K a.cs.BadText
  xi_BadText : PySem.W.findIn K (.ref a.cs.BadText) "__init__" = some (some (.ref a.x_BadText))
  xt_BadText : PySem.W.typeIn K (.ref a.x_BadText) = some (.type "function")
  xf_BadText : ∀ (w : World) (base : Heap), FnOk PP w K mg base CX0 1 a.x_BadText a.fdx_BadText ["self", "row"] (spOx a.cs.BadText "row")
  xb_BadText : Binds K a.fdx_BadText ["self", "row"] []
  xk_BadText : KBn K a.fdx_BadText ["self", "row"] 1 ["row"] (fun us ws => us ++ ws) (fun vs zs => vs ++ zs)
  xi2_BadWorld : ∀ p ∈ [(a.cs.BadWorld, true), (a.cs.BadNode, false), (a.cs.BadMove, false), (a.cs.BadEntry, false), (a.cs.BadState, false), (a.cs.BadNodes, false), (a.cs.TooMany, false), (a.cs.BadDeed, false), (a.cs.BadJournal, false), (a.cs.BadText, false)], ExcC K p.1 ∧ PySem.W.kitOne K (.ref p.1) (.ref a.cs.BadWorld) = some p.2
  xi2_BadNode : ∀ p ∈ [(a.cs.BadWorld, false), (a.cs.BadNode, true), (a.cs.BadMove, false), (a.cs.BadEntry, false), (a.cs.BadState, false), (a.cs.BadNodes, false), (a.cs.TooMany, false), (a.cs.BadDeed, false), (a.cs.BadJournal, false), (a.cs.BadText, false)], ExcC K p.1 ∧ PySem.W.kitOne K (.ref p.1) (.ref a.cs.BadNode) = some p.2
  xi2_BadMove : ∀ p ∈ [(a.cs.BadWorld, false), (a.cs.BadNode, false), (a.cs.BadMove, true), (a.cs.BadEntry, false), (a.cs.BadState, false), (a.cs.BadNodes, false), (a.cs.TooMany, false), (a.cs.BadDeed, false), (a.cs.BadJournal, false), (a.cs.BadText, false)], ExcC K p.1 ∧ PySem.W.kitOne K (.ref p.1) (.ref a.cs.BadMove) = some p.2
  xi2_BadEntry : ∀ p ∈ [(a.cs.BadWorld, false), (a.cs.BadNode, false), (a.cs.BadMove, false), (a.cs.BadEntry, true), (a.cs.BadState, false), (a.cs.BadNodes, false), (a.cs.TooMany, false), (a.cs.BadDeed, false), (a.cs.BadJournal, false), (a.cs.BadText, false)], ExcC K p.1 ∧ PySem.W.kitOne K (.ref p.1) (.ref a.cs.BadEntry) = some p.2
  xi2_BadState : ∀ p ∈ [(a.cs.BadWorld, false), (a.cs.BadNode, false), (a.cs.BadMove, false), (a.cs.BadEntry, false), (a.cs.BadState, true), (a.cs.BadNodes, false), (a.cs.TooMany, false), (a.cs.BadDeed, false), (a.cs.BadJournal, false), (a.cs.BadText, false)], ExcC K p.1 ∧ PySem.W.kitOne K (.ref p.1) (.ref a.cs.BadState) = some p.2
  xi2_BadNodes : ∀ p ∈ [(a.cs.BadWorld, false), (a.cs.BadNode, false), (a.cs.BadMove, false), (a.cs.BadEntry, false), (a.cs.BadState, false), (a.cs.BadNodes, true), (a.cs.TooMany, false), (a.cs.BadDeed, false), (a.cs.BadJournal, false), (a.cs.BadText, false)], ExcC K p.1 ∧ PySem.W.kitOne K (.ref p.1) (.ref a.cs.BadNodes) = some p.2
  xi2_TooMany : ∀ p ∈ [(a.cs.BadWorld, false), (a.cs.BadNode, false), (a.cs.BadMove, false), (a.cs.BadEntry, false), (a.cs.BadState, false), (a.cs.BadNodes, false), (a.cs.TooMany, true), (a.cs.BadDeed, false), (a.cs.BadJournal, false), (a.cs.BadText, false)], ExcC K p.1 ∧ PySem.W.kitOne K (.ref p.1) (.ref a.cs.TooMany) = some p.2
  xi2_BadDeed : ∀ p ∈ [(a.cs.BadWorld, false), (a.cs.BadNode, false), (a.cs.BadMove, false), (a.cs.BadEntry, false), (a.cs.BadState, false), (a.cs.BadNodes, false), (a.cs.TooMany, false), (a.cs.BadDeed, true), (a.cs.BadJournal, false), (a.cs.BadText, false)], ExcC K p.1 ∧ PySem.W.kitOne K (.ref p.1) (.ref a.cs.BadDeed) = some p.2
  xi2_BadJournal : ∀ p ∈ [(a.cs.BadWorld, false), (a.cs.BadNode, false), (a.cs.BadMove, false), (a.cs.BadEntry, false), (a.cs.BadState, false), (a.cs.BadNodes, false), (a.cs.TooMany, false), (a.cs.BadDeed, false), (a.cs.BadJournal, true), (a.cs.BadText, false)], ExcC K p.1 ∧ PySem.W.kitOne K (.ref p.1) (.ref a.cs.BadJournal) = some p.2
  xi2_BadText : ∀ p ∈ [(a.cs.BadWorld, false), (a.cs.BadNode, false), (a.cs.BadMove, false), (a.cs.BadEntry, false), (a.cs.BadState, false), (a.cs.BadNodes, false), (a.cs.TooMany, false), (a.cs.BadDeed, false), (a.cs.BadJournal, false), (a.cs.BadText, true)], ExcC K p.1 ∧ PySem.W.kitOne K (.ref p.1) (.ref a.cs.BadText) = some p.2
  xi2_ViewError : ∀ p ∈ [(a.cs.BadWorld, true), (a.cs.BadNode, true), (a.cs.BadMove, true), (a.cs.BadEntry, true), (a.cs.BadState, true), (a.cs.BadNodes, true), (a.cs.TooMany, true), (a.cs.BadDeed, true), (a.cs.BadJournal, true), (a.cs.BadText, true)], ExcC K p.1 ∧ PySem.W.kitOne K (.ref p.1) (.ref a.cs.ViewError) = some p.2
  xi2_ValueError : ∀ p ∈ [(a.cs.BadWorld, true), (a.cs.BadNode, true), (a.cs.BadMove, true), (a.cs.BadEntry, true), (a.cs.BadState, true), (a.cs.BadNodes, true), (a.cs.TooMany, true), (a.cs.BadDeed, true), (a.cs.BadJournal, true), (a.cs.BadText, true)], ExcC K p.1 ∧ PySem.W.kitOne K (.ref p.1) (.type "ValueError") = some p.2
  xl_part : ∀ C ∈ [a.cs.BadWorld], XfC K C ∧ PySem.W.findIn K (.ref C) "part" = some none
  xl_index : ∀ C ∈ [a.cs.BadNode, a.cs.BadNodes], XfC K C ∧ PySem.W.findIn K (.ref C) "index" = some none
  xl_at : ∀ C ∈ [a.cs.BadMove, a.cs.BadDeed], XfC K C ∧ PySem.W.findIn K (.ref C) "at" = some none
  xl_row : ∀ C ∈ [a.cs.BadJournal, a.cs.BadText], XfC K C ∧ PySem.W.findIn K (.ref C) "row" = some none
  xe_BadMove_BadMove : PySem.W.exmOne K (.ref a.cs.BadMove) (.ref a.cs.BadMove) = some true
  xe_TooMany_ViewError : PySem.W.exmOne K (.ref a.cs.TooMany) (.ref a.cs.ViewError) = some true
  xnd : [a.cs.BadWorld, a.cs.BadNode, a.cs.BadMove, a.cs.BadEntry, a.cs.BadState, a.cs.BadNodes, a.cs.TooMany, a.cs.BadDeed, a.cs.BadJournal, a.cs.BadText].Nodup
  F__law_state : Fun K "_law_state" "_law_state" s__law_state a._law_state a.fd__law_state
  g__law_state : mg "_law_state" = some (.ref a._law_state)
  k__law_state : PySem.W.keepIn K (.ref a._law_state) = true
  b__law_state : Binds K a.fd__law_state ["_law_script"] []
  F__law_draw : Fun K "_law_draw" "_law_draw" s__law_draw a._law_draw a.fd__law_draw
  g__law_draw : mg "_law_draw" = some (.ref a._law_draw)
  k__law_draw : PySem.W.keepIn K (.ref a._law_draw) = true
  b__law_draw : Binds K a.fd__law_draw ["_law_draws", "_law_many"] []
  F__law_pick : Fun K "_law_pick" "_law_pick" s__law_pick a._law_pick a.fd__law_pick
  g__law_pick : mg "_law_pick" = some (.ref a._law_pick)
  k__law_pick : PySem.W.keepIn K (.ref a._law_pick) = true
  b__law_pick : Binds K a.fd__law_pick ["_law_draws", "_law_some"] []
  F__law_marks : Fun K "_law_marks" "_law_marks" s__law_marks a._law_marks a.fd__law_marks
  g__law_marks : mg "_law_marks" = some (.ref a._law_marks)
  k__law_marks : PySem.W.keepIn K (.ref a._law_marks) = true
  b__law_marks : Binds K a.fd__law_marks ["_law_error"] []
  F__law_pairs : Fun K "_law_pairs" "_law_pairs" s__law_pairs a._law_pairs a.fd__law_pairs
  g__law_pairs : mg "_law_pairs" = some (.ref a._law_pairs)
  k__law_pairs : PySem.W.keepIn K (.ref a._law_pairs) = true
  b__law_pairs : Binds K a.fd__law_pairs ["_law_what"] []
  F__law_held : Fun K "_law_held" "_law_held" s__law_held a._law_held a.fd__law_held
  g__law_held : mg "_law_held" = some (.ref a._law_held)
  k__law_held : PySem.W.keepIn K (.ref a._law_held) = true
  b__law_held : Binds K a.fd__law_held ["_law_error", "_law_spot"] []
  F__law_caught : Fun K "_law_caught" "_law_caught" s__law_caught a._law_caught a.fd__law_caught
  g__law_caught : mg "_law_caught" = some (.ref a._law_caught)
  k__law_caught : PySem.W.keepIn K (.ref a._law_caught) = true
  b__law_caught : Binds K a.fd__law_caught ["_law_what"] []
  F_law : Fun K "law" "law" s_law a.law a.fd_law
  g_law : mg "law" = some (.ref a.law)
  k_law : PySem.W.keepIn K (.ref a.law) = true
end K01
namespace K01
open PySem L2 Fl Tr
open Sv
section
variable {w : World} {K : PySem.W.Frag} {mg : Str → Option Value} {base : Heap} {a : Ad}
theorem f__law_draw0 (T : Txt K mg a) : FnOk PP w K mg base CX0 1 a._law_draw a.fd__law_draw ["_law_draws", "_law_many"] (spD K 2 ftDraw) := by
  refine T.F__law_draw.ok sc__law_draw (fun vs H Q E h => spD_len h) (fun cdv A outer s H vs Q E hr h => ?_)
  obtain ⟨a1, c, m, i, j, ns, rfl, m0, m1, nac, h1, h2, hn, h63, k⟩ := draw_of h
  refine ⟨_, (pss_cons (ps_set sc__law_draw.nd (i := 2) rfl (by first | exact .inl rfl | exact .inr rfl) (pe_ix ix_list (pv 0) pe_int (fun _ _ => rfl)))
    (pss_cons (ps_set sc__law_draw.nd (i := 3) rfl (by first | exact .inl rfl | exact .inr rfl) (pe_op op_mod (pe_callTy call_int1 rfl T.z_int (by decide +kernel) (pa_cons (pe_ix ix_list (pv 0) pe_int (fun _ _ => rfl)) pa_nil)) (pe_callB call_len_seq rfl T.z_len (by decide +kernel) (pa_cons (pv 2) pa_nil))))
    (pss_cons (ps_set sc__law_draw.nd (i := 4) rfl (by first | exact .inl rfl | exact .inr rfl) (pe_ix ix_list (pv 2) (pv 3) (fun _ _ => rfl)))
    (pss_cons (ps_if (pt_cmpR op_ge (pv 4) (pe_op op_pow pe_int pe_int) rfl) (pss_cons (ps_asg (pe_op op_fdivN (pv 4) (pv 1)) (pg_sub (pv 2) (pv 3) set_list)) (pss_one (ps_ret (pe_op op_mod (pe_callTy call_int1 rfl T.z_int (by decide +kernel) (pa_cons (pv 4) pa_nil)) (pv 1))))) pss_nil)
    (pss_cons (ps_asg (pe_op op_add (pe_ix ix_list (pv 0) pe_int (fun _ _ => rfl)) pe_int) (pg_sub (pv 0) pe_int set_list))
    (pss_cons (ps_asg (pe_op op_mod (pe_callTy call_int1 rfl T.z_int (by decide +kernel) (pa_cons (pe_op op_add (pe_op op_add (pe_op op_add (pe_op op_mul (pe_ix ix_list (pv 0) pe_int (fun _ _ => rfl)) pe_int) (pv 4)) (pe_op op_mul pe_int (pe_ix ix_list (pv 0) pe_int (fun _ _ => rfl)))) pe_int) pa_nil)) pe_int) (pg_sub (pv 0) pe_int set_list))
    (pss_cons (ps_set sc__law_draw.nd (i := 5) rfl (by first | exact .inl rfl | exact .inr rfl) (pe_op op_mod (pe_callTy call_int1 rfl T.z_int (by decide +kernel) (pa_cons (pe_op op_mul (pe_ix ix_list (pv 0) pe_int (fun _ _ => rfl)) (pe_ix ix_list (pv 0) pe_int (fun _ _ => rfl))) pa_nil)) pe_int))
    (pss_one (ps_ret (pe_op op_mod (pe_callTy call_int1 rfl T.z_int (by decide +kernel) (pa_cons (pe_op op_fdivN (pv 5) pe_int) pa_nil)) (pv 1))))))))))), ?_⟩
  obtain ⟨z, hz, jn, hj⟩ := spot_of hn i
  have fin : ∀ (y : Int) (H' : Hp) (i' j' : Int) (ms : List Int), H' a1 = some (.lst [.ref c, .int i', .int j']) → H' c = some (.lst (ms.map V.int)) → ms ≠ [] → ms.length ≤ 63 → (∀ b, b ≠ a1 → b ≠ c → H' b = H b) → Q (.int (y % m)) H' := fun y H' i' j' ms e1 e2 e3 e4 e5 =>
    k _ _ (Int.emod_nonneg _ (by omega)) (Int.emod_lt_of_pos _ m0) e5 ⟨i', j', ms, e1, e2, e3, e4⟩
  refine ⟨_, rfl, a1, _, 0, .ref c, rfl, rfl, .of h1, rfl, ?_⟩
  refine ⟨_, rfl, a1, _, 1, .int i, rfl, rfl, .of h1, rfl, .inl ⟨i, rfl, ?_⟩⟩
  refine ⟨_, rfl, c, ns.map V.int, rfl, .inl (.of h2), i, _, rfl, rfl, ?_, ?_⟩
  · show (0 : Int) < ((ns.map V.int).length : Nat)
    rw [List.length_map]; have := List.length_pos_iff.mpr hn; omega
  refine ⟨_, rfl, _, rfl, c, _, _, .int z, rfl, rfl, .of h2, hz, ?_⟩
  refine ⟨_, rfl, 10, 18, rfl, rfl, ⟨by decide, by decide, by decide⟩, z, _, rfl, rfl, _, rfl, ?_⟩
  refine ifB (fun hb => ?_) (fun hb => ?_)
  · refine ⟨_, rfl, _, rfl, z, m, rfl, rfl, ⟨by omega, by omega⟩, _, rfl, _, rfl, c, _, _, jn, rfl, rfl, h2, hj, ?_⟩
    refine ⟨_, rfl, .inl ⟨z, rfl, _, rfl, z, m, rfl, rfl, m0, ?_⟩⟩
    refine fin z _ i j (ns.set jn (z.fdiv m)) (by rw [upd_ne nac]; exact h1) (by rw [upd_same, List.map_set]) (fun q => hn ?_) (by rw [List.length_set]; exact h63) fun b n1 n2 => upd_ne n2
    have := congrArg List.length q
    rw [List.length_set] at this
    exact List.length_eq_zero_iff.mp this
  · refine ⟨_, rfl, a1, _, 1, .int i, rfl, rfl, .of h1, rfl, i, 1, rfl, rfl, _, rfl, a1, _, 1, 1, rfl, rfl, h1, rfl, ?_⟩
    generalize hH1 : upd H a1 _ = H1
    have g1 : H1 a1 = some (.lst [.ref c, .int (i + 1), .int j]) := by rw [← hH1, upd_same]; rfl
    have g2 : ∀ b, b ≠ a1 → H1 b = H b := fun b n => by rw [← hH1, upd_ne n]
    refine ⟨_, rfl, a1, _, 2, .int j, rfl, rfl, .of g1, rfl, j, 48271, rfl, rfl, .inr ⟨by decide, by decide⟩, _, rfl, _, z, rfl, rfl, _, rfl, a1, _, 1, .int (i + 1), rfl, rfl, .of g1, rfl, 7919, _, rfl, rfl, .inl ⟨by decide, by decide⟩, _, _, rfl, rfl, _, _, rfl, rfl, .inl ⟨_, rfl, _, 2147483647, rfl, rfl, (by show (0 : Int) < 2147483647; decide), _, rfl, a1, _, 2, 2, rfl, rfl, g1, rfl, ?_⟩⟩
    generalize hJ : (j * 48271 + z + 7919 * (i + 1) + 12345) % 2147483647 = J
    have j0 : 0 ≤ J := by rw [← hJ]; exact Int.emod_nonneg _ (by decide)
    have j1 : J < 2147483647 := by rw [← hJ]; exact Int.emod_lt_of_pos _ (by decide)
    generalize hH2 : upd H1 a1 _ = H2
    have k1 : H2 a1 = some (.lst [.ref c, .int (i + 1), .int J]) := by rw [← hH2, upd_same, ← hJ]; rfl
    have k2 : ∀ b, b ≠ a1 → H2 b = H b := fun b n => by rw [← hH2, upd_ne n, g2 b n]
    refine ⟨_, rfl, a1, _, 2, .int J, rfl, rfl, .of k1, rfl, _, rfl, a1, _, 2, .int J, rfl, rfl, .of k1, rfl, J, J, rfl, rfl, .inl ⟨by omega, by omega⟩, .inl ⟨_, rfl, _, 2147483629, rfl, rfl, (by show (0 : Int) < 2147483629; decide), ?_⟩⟩
    refine ⟨_, rfl, _, 16, rfl, rfl, ⟨by decide, by decide⟩, .inl ⟨_, rfl, _, rfl, _, m, rfl, rfl, m0, ?_⟩⟩
    exact fin _ _ (i + 1) J ns k1 (by rw [k2 c nac.symm]; exact h2) hn h63 fun b n1 _ => k2 b n1
theorem f__law_draw (T : Txt K mg a) : FnOk PP w K mg base CX0 1 a._law_draw a.fd__law_draw ["_law_draws", "_law_many"] (spD K 2 (ftM Z0 (m__law_draw a.cs))) := FnOk.ft (f__law_draw0 T) ft_draw
theorem f__law_state (T : Txt K mg a) : FnOk PP w K mg base CX0 1 a._law_state a.fd__law_state ["_law_script"] (spState K) := by
  refine T.F__law_state.ok sc__law_state (fun vs H Q E h => ?_) (fun cdv A outer s H vs Q E hr h => ?_)
  · obtain ⟨a1, ns, rfl, _⟩ := h
    rfl
  obtain ⟨a1, ns, rfl, hS, h63, k⟩ := h
  refine ⟨_, (pss_one (ps_ret (pe_lst (pa_cons (pe_orT (pe_lc (own := [("_law_cell", 1)]) rfl sc__law_state.nd (pi_list (pe_slice sl_list (pv 0) po_none (po_some pe_int))) (blkOk_by (by rfl)) (fun _ _ _ _ _ => (pg_name (i := 1) sc__law_state.nd rfl (by first | exact .inl rfl | exact .inr rfl))) (fun _ _ _ _ _ => pts_nil) (fun _ _ _ _ _ => (pe_callB call_abs rfl T.z_abs (by decide +kernel) (pa_cons (pv 1) pa_nil))) (by intro _; rfl)) (pe_one (pe_lst (pa_cons pe_int pa_nil)))) (pa_cons pe_int (pa_cons pe_int pa_nil)))))), ?_⟩
  have fin : ∀ (c : Addr) (H1 : Hp) (ms : List Int), H c = none → H1 c = some (.lst (ms.map V.int)) → ms ≠ [] → ms.length ≤ 63 → (∀ b o, H b = some o → H1 b = some o) → 3 ≤ sizeLine ∧ ∀ p, H1 p = none → Q (.ref p) (upd H1 p (.lst [.ref c, .int 0, .int 1])) := fun c H1 ms h1 h2 h3 h4 h5 => ⟨by decide, fun p hp => by
    have ne : c ≠ p := fun e => by rw [e, hp] at h2; cases h2
    have hpn : H p = none := by
      cases e : H p with
      | none => rfl
      | some o => rw [h5 p o e] at hp; cases hp
    exact k p c _ ms hpn h1 ne.symm upd_same (by rw [upd_ne ne]; exact h2) h3 h4 fun b o e => by rw [upd_ne (fun q => by rw [q, hpn] at e; cases e)]; exact h5 b o e⟩
  refine ⟨_, rfl, 63, rfl, a1, ns.map V.int, rfl, hS, fun q hq => ⟨q, rfl, ⟨_, .of upd_same⟩, fun Dl hD => ?_⟩⟩
  have nqD : q ≠ Dl := fun e => by rw [e, upd_same] at hD; cases hD
  have hD0 : H Dl = none := by rw [upd_ne nqD.symm] at hD; exact hD
  have cl := cut_len (ns.map V.int) none (some 63)
  rw [List.length_map] at cl
  refine lc_list (a := q) (xs := cutV (ns.map V.int) none (some 63)) (fun i H' => ∃ ms : List Int, H' Dl = some (.lst (ms.map V.int)) ∧ ms.length = i ∧ H' q = some (.lst (cutV (ns.map V.int) none (some 63))) ∧ ∀ b o, H b = some o → H' b = some o) ?_ (fun i H' _ ⟨ms, _, _, h3, _⟩ => .of h3) ?_ ?_
  · refine ⟨[], upd_same, rfl, by rw [upd_ne nqD, upd_same], fun b o e => ?_⟩
    rw [upd_ne (fun z => by rw [z, hD0] at e; cases e), upd_ne (fun z => by rw [z, hq] at e; cases e)]; exact e
  · rintro i x H' hx ⟨ms, g1, g2, g3, g4⟩
    obtain ⟨z, rfl⟩ := cut_ints hx
    have hi : i < (cutV (ns.map V.int) none (some 63)).length := (List.getElem?_eq_some_iff.mp hx).1
    refine ⟨rfl, _, rfl, z, rfl, ms.map V.int, g1, Nat.lt_of_le_of_lt (show (ms.map V.int).length ≤ 1000 by rw [List.length_map]; omega) (by decide), ms ++ [if z < 0 then -z else z], by rw [upd_same, List.map_append]; rfl, by rw [List.length_append, g2]; rfl, by rw [upd_ne nqD]; exact g3, fun b o e => ?_⟩
    rw [upd_ne (fun y => by rw [y, hD0] at e; cases e)]; exact g4 b o e
  · rintro H' ⟨ms, g1, g2, g3, g4⟩
    refine ⟨!(ms.map V.int).isEmpty, .inl ⟨_, .of g1, rfl⟩, ?_⟩
    cases ms with
    | cons m ms => exact ifB (fun _ => fin Dl H' (m :: ms) hD0 g1 (by simp) (by omega) g4) fun h => by cases h
    | nil =>
      refine ifB (fun h => by cases h) fun _ => ⟨by decide, fun D2 hD2 => ?_⟩
      have hD20 : H D2 = none := by
        cases e : H D2 with
        | none => rfl
        | some o => rw [g4 D2 o e] at hD2; cases hD2
      exact fin D2 _ [1] hD20 upd_same (by simp) (by decide) fun b o e => by rw [upd_ne (fun y => by rw [y, hD20] at e; cases e)]; exact g4 b o e
theorem f__law_pick (T : Txt K mg a) : FnOk PP w K mg base CX0 2 a._law_pick a.fd__law_pick ["_law_draws", "_law_some"] (spD K 2 (ftM Z0 (m__law_pick a.cs))) :=
  fun_M (k := 1) (b := b__law_pick a.cs) T.F__law_pick sc__law_pick rfl rfl fun cdv A outer s H E hr => (dss_one (dnS (ds_ret (dnE (pd_ix (dnE (pd_var 1) fun _ _ => w_var) (dnE (pd_call (f__law_draw T) (hr.mono (by decide)) rfl T.g__law_draw T.k__law_draw T.b__law_draw (dnB (dab_arg (dnE (pd_var 0) fun _ _ => w_var) (dnB (dab_arg (dnE (pd_callB cd_len rfl T.z_len (by decide +kernel) (dnA (pda_cons (dnE (pd_var 1) fun _ _ => w_var) (dnA pda_nil fun _ _ => w_nil)) fun _ _ => w_cons)) fun _ _ => w_call wf_len) (dnB dab_nil fun _ _ => w_bnil)) fun _ _ => w_barg)) fun _ _ => w_barg)) fun _ _ => w_fn)) fun _ _ => w_ix)) fun _ _ => w_ret))
theorem f__law_marks (T : Txt K mg a) : FnOk PP w K mg base CX0 1 a._law_marks a.fd__law_marks ["_law_error"] (spD K 1 (ftM Z0 (m__law_marks a.cs))) :=
  fun_M (k := 0) (b := b__law_marks a.cs) T.F__law_marks sc__law_marks rfl rfl fun cdv A outer s H E hr => (dnSs (dss_cons (dnS (ds_set sc__law_marks.nd (i := 1) rfl (by first | exact .inl rfl | exact .inr rfl) (dnE (pd_lst (dnA (pda_cons (dnE (pd_isX (dnE (pd_var 0) fun _ _ => w_var) rfl T.z_isinstance rfl T.g_BadWorld) fun _ _ => w_isX T.xi2_BadWorld) (dnA (pda_cons (dnE (pd_isX (dnE (pd_var 0) fun _ _ => w_var) rfl T.z_isinstance rfl T.g_BadNode) fun _ _ => w_isX T.xi2_BadNode) (dnA (pda_cons (dnE (pd_isX (dnE (pd_var 0) fun _ _ => w_var) rfl T.z_isinstance rfl T.g_BadMove) fun _ _ => w_isX T.xi2_BadMove) (dnA pda_nil fun _ _ => w_nil)) fun _ _ => w_cons)) fun _ _ => w_cons)) fun _ _ => w_cons)) fun _ _ => w_lst)) fun _ _ => w_set) (dnSs (dss_cons (dnS (ds_set sc__law_marks.nd (i := 1) rfl (by first | exact .inl rfl | exact .inr rfl) (dnE (pd_op od_add (dnE (pd_var 1) fun _ _ => w_var) (dnE (pd_lst (dnA (pda_cons (dnE (pd_isX (dnE (pd_var 0) fun _ _ => w_var) rfl T.z_isinstance rfl T.g_BadEntry) fun _ _ => w_isX T.xi2_BadEntry) (dnA (pda_cons (dnE (pd_isX (dnE (pd_var 0) fun _ _ => w_var) rfl T.z_isinstance rfl T.g_BadState) fun _ _ => w_isX T.xi2_BadState) (dnA (pda_cons (dnE (pd_isX (dnE (pd_var 0) fun _ _ => w_var) rfl T.z_isinstance rfl T.g_BadNodes) fun _ _ => w_isX T.xi2_BadNodes) (dnA pda_nil fun _ _ => w_nil)) fun _ _ => w_cons)) fun _ _ => w_cons)) fun _ _ => w_cons)) fun _ _ => w_lst)) fun _ _ => w_op wo_add)) fun _ _ => w_set) (dnSs (dss_cons (dnS (ds_set sc__law_marks.nd (i := 1) rfl (by first | exact .inl rfl | exact .inr rfl) (dnE (pd_op od_add (dnE (pd_var 1) fun _ _ => w_var) (dnE (pd_lst (dnA (pda_cons (dnE (pd_isX (dnE (pd_var 0) fun _ _ => w_var) rfl T.z_isinstance rfl T.g_TooMany) fun _ _ => w_isX T.xi2_TooMany) (dnA (pda_cons (dnE (pd_isX (dnE (pd_var 0) fun _ _ => w_var) rfl T.z_isinstance rfl T.g_BadDeed) fun _ _ => w_isX T.xi2_BadDeed) (dnA (pda_cons (dnE (pd_isX (dnE (pd_var 0) fun _ _ => w_var) rfl T.z_isinstance rfl T.g_BadJournal) fun _ _ => w_isX T.xi2_BadJournal) (dnA pda_nil fun _ _ => w_nil)) fun _ _ => w_cons)) fun _ _ => w_cons)) fun _ _ => w_cons)) fun _ _ => w_lst)) fun _ _ => w_op wo_add)) fun _ _ => w_set) (dss_one (dnS (ds_ret (dnE (pd_op od_add (dnE (pd_var 1) fun _ _ => w_var) (dnE (pd_lst (dnA (pda_cons (dnE (pd_isX (dnE (pd_var 0) fun _ _ => w_var) rfl T.z_isinstance rfl T.g_BadText) fun _ _ => w_isX T.xi2_BadText) (dnA pda_nil fun _ _ => w_nil)) fun _ _ => w_cons)) fun _ _ => w_lst)) fun _ _ => w_op wo_add)) fun _ _ => w_ret))) fun _ _ => w_seq)) fun _ _ => w_seq)) fun _ _ => w_seq)
theorem f__law_pairs (T : Txt K mg a) : FnOk PP w K mg base CX0 3 a._law_pairs a.fd__law_pairs ["_law_what"] (spD K 1 (ftM Z0 (m__law_pairs a.cs))) :=
  fun_M (k := 2) (b := b__law_pairs a.cs) T.F__law_pairs sc__law_pairs rfl rfl fun cdv A outer s H E hr => (dnSs (dss_cons (dnS (ds_set sc__law_pairs.nd (i := 1) rfl (by first | exact .inl rfl | exact .inr rfl) (dnE (pd_lst (dnA (pda_cons (dnE (pd_tup (dnA (pda_cons (dnE (pd_mkX T.xo_BadWorld T.xi_BadWorld T.xt_BadWorld (T.xf_BadWorld w base) (hr.mono (by decide)) T.xb_BadWorld rfl T.g_BadWorld (dnE (pd_var 0) fun _ _ => w_var)) fun _ _ => w_mkX) (dnA (pda_cons (dnE (pd_mkXk T.xo_BadWorld T.xi_BadWorld T.xt_BadWorld (T.xf_BadWorld w base) (hr.mono (by decide)) T.xk_BadWorld rfl T.g_BadWorld (dnE (pd_var 0) fun _ _ => w_var)) fun _ _ => w_mkX) (dnA pda_nil fun _ _ => w_nil)) fun _ _ => w_cons)) fun _ _ => w_cons)) fun _ _ => w_tup) (dnA (pda_cons (dnE (pd_tup (dnA (pda_cons (dnE (pd_mkX T.xo_BadNode T.xi_BadNode T.xt_BadNode (T.xf_BadNode w base) (hr.mono (by decide)) T.xb_BadNode rfl T.g_BadNode (dnE (pd_var 0) fun _ _ => w_var)) fun _ _ => w_mkX) (dnA (pda_cons (dnE (pd_mkXk T.xo_BadNode T.xi_BadNode T.xt_BadNode (T.xf_BadNode w base) (hr.mono (by decide)) T.xk_BadNode rfl T.g_BadNode (dnE (pd_var 0) fun _ _ => w_var)) fun _ _ => w_mkX) (dnA pda_nil fun _ _ => w_nil)) fun _ _ => w_cons)) fun _ _ => w_cons)) fun _ _ => w_tup) (dnA pda_nil fun _ _ => w_nil)) fun _ _ => w_cons)) fun _ _ => w_cons)) fun _ _ => w_lst)) fun _ _ => w_set) (dnSs (dss_cons (dnS (ds_set sc__law_pairs.nd (i := 1) rfl (by first | exact .inl rfl | exact .inr rfl) (dnE (pd_op od_add (dnE (pd_var 1) fun _ _ => w_var) (dnE (pd_lst (dnA (pda_cons (dnE (pd_tup (dnA (pda_cons (dnE (pd_mkX T.xo_BadMove T.xi_BadMove T.xt_BadMove (T.xf_BadMove w base) (hr.mono (by decide)) T.xb_BadMove rfl T.g_BadMove (dnE (pd_var 0) fun _ _ => w_var)) fun _ _ => w_mkX) (dnA (pda_cons (dnE (pd_mkXk T.xo_BadMove T.xi_BadMove T.xt_BadMove (T.xf_BadMove w base) (hr.mono (by decide)) T.xk_BadMove rfl T.g_BadMove (dnE (pd_var 0) fun _ _ => w_var)) fun _ _ => w_mkX) (dnA pda_nil fun _ _ => w_nil)) fun _ _ => w_cons)) fun _ _ => w_cons)) fun _ _ => w_tup) (dnA (pda_cons (dnE (pd_tup (dnA (pda_cons (dnE (pd_mkX0 PySem.F.excBase_ValueError T.xp_BadEntry T.g_BadEntry T.xkp_BadEntry (raises_own T.xs_BadEntry T.xy_BadEntry) rfl) fun _ _ => w_mkX0) (dnA (pda_cons (dnE (pd_mkX0 PySem.F.excBase_ValueError T.xp_BadEntry T.g_BadEntry T.xkp_BadEntry (raises_own T.xs_BadEntry T.xy_BadEntry) rfl) fun _ _ => w_mkX0) (dnA pda_nil fun _ _ => w_nil)) fun _ _ => w_cons)) fun _ _ => w_cons)) fun _ _ => w_tup) (dnA pda_nil fun _ _ => w_nil)) fun _ _ => w_cons)) fun _ _ => w_cons)) fun _ _ => w_lst)) fun _ _ => w_op wo_add)) fun _ _ => w_set) (dnSs (dss_cons (dnS (ds_set sc__law_pairs.nd (i := 1) rfl (by first | exact .inl rfl | exact .inr rfl) (dnE (pd_op od_add (dnE (pd_var 1) fun _ _ => w_var) (dnE (pd_lst (dnA (pda_cons (dnE (pd_tup (dnA (pda_cons (dnE (pd_mkX0 PySem.F.excBase_ValueError T.xp_BadState T.g_BadState T.xkp_BadState (raises_own T.xs_BadState T.xy_BadState) rfl) fun _ _ => w_mkX0) (dnA (pda_cons (dnE (pd_mkX0 PySem.F.excBase_ValueError T.xp_BadState T.g_BadState T.xkp_BadState (raises_own T.xs_BadState T.xy_BadState) rfl) fun _ _ => w_mkX0) (dnA pda_nil fun _ _ => w_nil)) fun _ _ => w_cons)) fun _ _ => w_cons)) fun _ _ => w_tup) (dnA (pda_cons (dnE (pd_tup (dnA (pda_cons (dnE (pd_mkX T.xo_BadNodes T.xi_BadNodes T.xt_BadNodes (T.xf_BadNodes w base) (hr.mono (by decide)) T.xb_BadNodes rfl T.g_BadNodes (dnE (pd_var 0) fun _ _ => w_var)) fun _ _ => w_mkX) (dnA (pda_cons (dnE (pd_mkXk T.xo_BadNodes T.xi_BadNodes T.xt_BadNodes (T.xf_BadNodes w base) (hr.mono (by decide)) T.xk_BadNodes rfl T.g_BadNodes (dnE (pd_var 0) fun _ _ => w_var)) fun _ _ => w_mkX) (dnA pda_nil fun _ _ => w_nil)) fun _ _ => w_cons)) fun _ _ => w_cons)) fun _ _ => w_tup) (dnA pda_nil fun _ _ => w_nil)) fun _ _ => w_cons)) fun _ _ => w_cons)) fun _ _ => w_lst)) fun _ _ => w_op wo_add)) fun _ _ => w_set) (dnSs (dss_cons (dnS (ds_set sc__law_pairs.nd (i := 1) rfl (by first | exact .inl rfl | exact .inr rfl) (dnE (pd_op od_add (dnE (pd_var 1) fun _ _ => w_var) (dnE (pd_lst (dnA (pda_cons (dnE (pd_tup (dnA (pda_cons (dnE (pd_mkX0 PySem.F.excBase_ValueError T.xp_TooMany T.g_TooMany T.xkp_TooMany (raises_own T.xs_TooMany T.xy_TooMany) rfl) fun _ _ => w_mkX0) (dnA (pda_cons (dnE (pd_mkX0 PySem.F.excBase_ValueError T.xp_TooMany T.g_TooMany T.xkp_TooMany (raises_own T.xs_TooMany T.xy_TooMany) rfl) fun _ _ => w_mkX0) (dnA pda_nil fun _ _ => w_nil)) fun _ _ => w_cons)) fun _ _ => w_cons)) fun _ _ => w_tup) (dnA (pda_cons (dnE (pd_tup (dnA (pda_cons (dnE (pd_mkX T.xo_BadDeed T.xi_BadDeed T.xt_BadDeed (T.xf_BadDeed w base) (hr.mono (by decide)) T.xb_BadDeed rfl T.g_BadDeed (dnE (pd_var 0) fun _ _ => w_var)) fun _ _ => w_mkX) (dnA (pda_cons (dnE (pd_mkXk T.xo_BadDeed T.xi_BadDeed T.xt_BadDeed (T.xf_BadDeed w base) (hr.mono (by decide)) T.xk_BadDeed rfl T.g_BadDeed (dnE (pd_var 0) fun _ _ => w_var)) fun _ _ => w_mkX) (dnA pda_nil fun _ _ => w_nil)) fun _ _ => w_cons)) fun _ _ => w_cons)) fun _ _ => w_tup) (dnA pda_nil fun _ _ => w_nil)) fun _ _ => w_cons)) fun _ _ => w_cons)) fun _ _ => w_lst)) fun _ _ => w_op wo_add)) fun _ _ => w_set) (dss_one (dnS (ds_ret (dnE (pd_op od_add (dnE (pd_var 1) fun _ _ => w_var) (dnE (pd_lst (dnA (pda_cons (dnE (pd_tup (dnA (pda_cons (dnE (pd_mkX T.xo_BadJournal T.xi_BadJournal T.xt_BadJournal (T.xf_BadJournal w base) (hr.mono (by decide)) T.xb_BadJournal rfl T.g_BadJournal (dnE (pd_var 0) fun _ _ => w_var)) fun _ _ => w_mkX) (dnA (pda_cons (dnE (pd_mkXk T.xo_BadJournal T.xi_BadJournal T.xt_BadJournal (T.xf_BadJournal w base) (hr.mono (by decide)) T.xk_BadJournal rfl T.g_BadJournal (dnE (pd_var 0) fun _ _ => w_var)) fun _ _ => w_mkX) (dnA pda_nil fun _ _ => w_nil)) fun _ _ => w_cons)) fun _ _ => w_cons)) fun _ _ => w_tup) (dnA (pda_cons (dnE (pd_tup (dnA (pda_cons (dnE (pd_mkX T.xo_BadText T.xi_BadText T.xt_BadText (T.xf_BadText w base) (hr.mono (by decide)) T.xb_BadText rfl T.g_BadText (dnE (pd_var 0) fun _ _ => w_var)) fun _ _ => w_mkX) (dnA (pda_cons (dnE (pd_mkXk T.xo_BadText T.xi_BadText T.xt_BadText (T.xf_BadText w base) (hr.mono (by decide)) T.xk_BadText rfl T.g_BadText (dnE (pd_var 0) fun _ _ => w_var)) fun _ _ => w_mkX) (dnA pda_nil fun _ _ => w_nil)) fun _ _ => w_cons)) fun _ _ => w_cons)) fun _ _ => w_tup) (dnA pda_nil fun _ _ => w_nil)) fun _ _ => w_cons)) fun _ _ => w_cons)) fun _ _ => w_lst)) fun _ _ => w_op wo_add)) fun _ _ => w_ret))) fun _ _ => w_seq)) fun _ _ => w_seq)) fun _ _ => w_seq)) fun _ _ => w_seq)
theorem f__law_held (T : Txt K mg a) : FnOk PP w K mg base CX0 1 a._law_held a.fd__law_held ["_law_error", "_law_spot"] (spD K 2 (ftM Z0 (m__law_held a.cs))) :=
  fun_M (k := 0) (b := b__law_held a.cs) T.F__law_held sc__law_held rfl rfl fun cdv A outer s H E hr => (dnSs (dss_cons (dnS (ds_if (dnT (pt_cmpD (od_eq hr) (dnE (pd_var 1) fun _ _ => w_var) (dnE pd_int fun _ _ => w_c)) fun _ _ q => w_tst2 (w_op wo_eq) q) (dss_one (dnS (ds_ret (dnE (pd_lst (dnA (pda_cons (dnE (pd_fldX (dnE (pd_var 0) fun _ _ => w_var)) fun _ _ => w_fldX T.xl_part) (dnA pda_nil fun _ _ => w_nil)) fun _ _ => w_cons)) fun _ _ => w_lst)) fun _ _ => w_ret)) (dnSs dss_nil fun _ _ => w_next)) fun _ _ => w_ifS) (dnSs (dss_cons (dnS (ds_if (dnT (pt_cmpD od_in (dnE (pd_var 1) fun _ _ => w_var) (dnE (pd_tup (dnA (pda_cons (dnE pd_int fun _ _ => w_c) (dnA (pda_cons (dnE pd_int fun _ _ => w_c) (dnA pda_nil fun _ _ => w_nil)) fun _ _ => w_cons)) fun _ _ => w_cons)) fun _ _ => w_tup)) fun _ _ q => w_tst2 (w_op wo_in) q) (dss_one (dnS (ds_ret (dnE (pd_lst (dnA (pda_cons (dnE (pd_fldX (dnE (pd_var 0) fun _ _ => w_var)) fun _ _ => w_fldX T.xl_index) (dnA pda_nil fun _ _ => w_nil)) fun _ _ => w_cons)) fun _ _ => w_lst)) fun _ _ => w_ret)) (dnSs dss_nil fun _ _ => w_next)) fun _ _ => w_ifS) (dnSs (dss_cons (dnS (ds_if (dnT (pt_cmpD od_in (dnE (pd_var 1) fun _ _ => w_var) (dnE (pd_tup (dnA (pda_cons (dnE pd_int fun _ _ => w_c) (dnA (pda_cons (dnE pd_int fun _ _ => w_c) (dnA pda_nil fun _ _ => w_nil)) fun _ _ => w_cons)) fun _ _ => w_cons)) fun _ _ => w_tup)) fun _ _ q => w_tst2 (w_op wo_in) q) (dss_one (dnS (ds_ret (dnE (pd_lst (dnA (pda_cons (dnE (pd_fldX (dnE (pd_var 0) fun _ _ => w_var)) fun _ _ => w_fldX T.xl_at) (dnA pda_nil fun _ _ => w_nil)) fun _ _ => w_cons)) fun _ _ => w_lst)) fun _ _ => w_ret)) (dnSs dss_nil fun _ _ => w_next)) fun _ _ => w_ifS) (dss_one (dnS (ds_ret (dnE (pd_if (dnT (pt_cmpD od_gt (dnE (pd_var 1) fun _ _ => w_var) (dnE pd_int fun _ _ => w_c)) fun _ _ q => w_tst2 (w_op wo_gt) q) (dnE (pd_lst (dnA (pda_cons (dnE (pd_fldX (dnE (pd_var 0) fun _ _ => w_var)) fun _ _ => w_fldX T.xl_row) (dnA pda_nil fun _ _ => w_nil)) fun _ _ => w_cons)) fun _ _ => w_lst) (dnE (pd_lst (dnA pda_nil fun _ _ => w_nil)) fun _ _ => w_lst)) fun _ _ => w_if)) fun _ _ => w_ret))) fun _ _ => w_seq)) fun _ _ => w_seq)) fun _ _ => w_seq)
theorem f__law_caught (T : Txt K mg a) : FnOk PP w K mg base CX0 3 a._law_caught a.fd__law_caught ["_law_what"] (spD K 1 (ftM Z0 (m__law_caught a.cs))) :=
  fun_M (k := 2) (b := b__law_caught a.cs) T.F__law_caught sc__law_caught rfl rfl fun cdv A outer s H E hr => (dnSs (dss_cons (dnS (ds_set sc__law_caught.nd (i := 1) rfl (by first | exact .inl rfl | exact .inr rfl) (dnE pd_int fun _ _ => w_c)) fun _ _ => w_set) (dnSs (dss_cons (dnS (ds_tryR rfl rfl rfl ⟨rfl, by decide, .inl T.g_BadMove⟩ T.xe_BadMove_BadMove T.xo_BadMove T.xi_BadMove T.xt_BadMove (T.xf_BadMove w base) (hr.mono (by decide)) T.xb_BadMove rfl T.g_BadMove (fun _ _ => (dnE (pd_var 0) fun _ _ => w_var)) (fun _ _ => (dss_one (dnS (ds_set sc__law_caught.nd (i := 1) rfl (by first | exact .inl rfl | exact .inr rfl) (dnE (pd_op od_add (dnE (pd_var 1) fun _ _ => w_var) (dnE pd_int fun _ _ => w_c)) fun _ _ => w_op wo_add)) fun _ _ => w_set)))) fun _ _ => w_tryR) (dnSs (dss_cons (dnS (ds_tryR0 rfl rfl rfl ⟨rfl, by decide, .inl T.g_ViewError⟩ T.xe_TooMany_ViewError PySem.F.excBase_ValueError T.xp_TooMany T.g_TooMany T.xkp_TooMany (raises_own T.xs_TooMany T.xy_TooMany) rfl (fun _ _ => (dss_one (dnS (ds_set sc__law_caught.nd (i := 1) rfl (by first | exact .inl rfl | exact .inr rfl) (dnE (pd_op od_add (dnE (pd_var 1) fun _ _ => w_var) (dnE pd_int fun _ _ => w_c)) fun _ _ => w_op wo_add)) fun _ _ => w_set)))) fun _ _ => id) (dss_one (dnS (ds_ret (dnE (pd_var 1) fun _ _ => w_var)) fun _ _ => w_ret))) fun _ _ => w_seq)) fun _ _ => w_seq)) fun _ _ => w_seq)
end
end K01
namespace K01
open PySem L2 Fl Tr Sv
local macro_rules | `(tactic| walk_at "sv") => do let ids := (("bind_ret bind_fail bind_draw bind2_ret ofO_some ofO_none need_true need_false back_ret wp_ret varT_src varT_d varT_ol varT_od varT_oi dat_d dat_ol dat_od dat_oi arg_d arg_src arg_ol arg_od arg_oi noNo_d noNo_ol noNo_od noNo_oi argOk_d argOk_src blO_bl intO_int endM_nx endM_rt thenS_nx thenS_rt dlst_lst dint_int dstr_str seqD_lst seqD_tup itemsD_lst itemsD_tup itemsD_str cp_one lst1_one int1_one lenD_lst lenD_tup lenD_str insOf_me two_eq three_eq pend_d pend_ol pend_od tupO_eq gsCons_eq gsNil_eq mVal_eq dicO_dic dtup_tup keyD_str keyD_int eC_e aNil_e aCons_e eTup_e eLst_e eDic0_e eOp_e tTru_e tTst_e tNot_e tAnd_e tOr_e eAnd_e eOr_e eNot_e eIf_e eCall_e eIx_e oNo_e oSome_e eSl_e eChain_e eIsi_e eIsi2_e eDg_e eDin_e eApp_e eExt_e ePop_e eIns_e tOwnNe_e eOwnLen_e eOwnIx_e eOwnIn_e eClr_e eJoin_e eItems_e eNeg_e eFld_e bNil_e bCons_e bArg_e eFn_e eMeth_e eMeth0_e eProp_e eMakeK_e eMake_e eIsOwn_e gNm_e gTp_e sNext_e sBreak_e sCont_e sSeq_e sExpr_e sRet_e sIf_e sAsg_e sPar_e sPar3_e sFor_e sWhile_e sSetL_e sSetD_e sSetF_e sMatch_e iL_e iT_e iS_e iR_e iEn_e eLc_e tYes_e eDc_e iEnA_e iSq_e eFnP_e eMethP_e eMakeP_e eSortSet_e eRev_e eListRg_e oAdd_ii oAdd_ss oAdd_ll oAdd_tt oSub_ii oMul_ii oMul_li oMod_ii oFdv_ii oLt_ii oLe_ii oGt_ii oGe_ii oEq_e oNe_e oIsN_e oNotN_e oIn_e oNotIn_e oInD_e fLen_e fList_e fTuple_e fInt_i fInt_b fAll_e fAny_e fSortS_e fRepr_e fDict_e fOwnLen_e oOwnEq_e oOwnNe_e drawM_e eVar_eq ofO_bind ofO_bind2 need_bind need_bind2 ite_bind ite_bind2 back_ite ownO_eq wp_ret' v_ret bind2_bind bind_bind2 bind2_bind2 Tr.bind_assoc back_bind defM List.cons_append List.nil_append List.replicate_succ List.replicate_zero List.getElem?_cons_zero List.getElem?_cons_succ List.set_cons_zero List.set_cons_succ List.length_cons List.length_nil List.all_cons List.all_nil Bool.and_true Bool.true_and Bool.and_self beq_self_eq_true decide_true decide_false if_true if_false Bool.not_true Bool.not_false wipeD isI_non isI_bl isI_int isI_str isI_lst isI_tup isI_dic isI_ins Option.getD_some ite_true ite_false reduceCtorEq Bool.false_eq_true Nat.reduceAdd Nat.reduceLeDiff Nat.reduceLT Nat.reduceBEq Nat.reduceEqDiff Option.bind_some Option.isNone_none Option.isNone_some Option.isSome_some Option.isSome_none mNil' mAny' List.map_cons List.map_nil Option.map_some Option.map_none Int.reduceAdd ok_non ok_bl ok_int ok_str ok_lst ok_tup ixD_tup ixD_lst atI_0 atI_1 atI_2 atI_3 atI_4 atI_5 atI_6 atI_7 eqD_bl cast2 cast0 cast1 cast3 cast4 cast5 cast6 cast7 cast8 slD_lst slD_tup slD_str cut_1 cut_2 cut_3 isN_non stepC_e stepK_e isN_tup isN_int isT_str isT_int isT_bool isT_tuple isT_list isT_dict eqD_int eqD_str ite_bind loopT_nil loopT_cons thenL_nx thenL_rt instO_e instS_bi instS_oi withF_bi withF_oi biO_e endI_nx defI_e sNever_e Bool.true_or Bool.or_true Bool.or_false Bool.false_or Bool.false_and Bool.and_false back_draw bind2_draw draw_e Int.reduceBEq Int.reduceSub Int.reduceNeg Int.reduceLT Int.reduceLE and_self true_and and_true odO_eq eMkX_e eMkX0_e eIsX_e eFldX_e sTryR_e excOf_e dat_exc eqD_tnil inSeq_tup inSeq_lst flat_int flat_str flat_non flat_bl inD_nil inD_cons inDp_tup inDp_lst eqD_tcons eqD_tnil2 eqD_tnn insW isInsW lkW1 lkW2 lkW3 lkW5 lkW4 lkW_page lkW_frame lkW_entry lkW_parts lkW_entries lkW_need insSc isInsSc lkS1 lkS2 lkS_guards lkS_entries scput1 scput2 scput3 ofS_inj String.reduceEq eqD_refl".splitOn " ").map fun s => Lean.mkIdent s.toName).toArray; `(tactic| try simp only [$[$ids:ident],*])
local macro_rules | `(tactic| walk_at "ifs") => `(tactic| refine ifB (fun h => ?_) (fun h => ?_))
local macro_rules | `(tactic| walk_at "wd") => `(tactic| (with_reducible refine v_draw ?_ ?_ ?_; omega; omega))
local macro_rules | `(tactic| walk_at "wc") => `(tactic| with_reducible refine v_call ?_)
local macro_rules | `(tactic| walk_at "wb") => `(tactic| with_reducible refine v_b ?_)
local macro_rules | `(tactic| walk_at "w2") => `(tactic| with_reducible refine v_b2 ?_)
/-- no class stands twice -/
def NdX (c : Cs) : Prop := [c.BadWorld, c.BadNode, c.BadMove, c.BadEntry, c.BadState, c.BadNodes, c.TooMany, c.BadDeed, c.BadJournal, c.BadText].Nodup
theorem lookup_nd : ∀ {cs : List Addr} {bs : List Bool} {i : Nat} {C : Addr} {b : Bool}, cs.Nodup → cs[i]? = some C → bs[i]? = some b → (cs.zip bs).lookup C = some b
  | D :: cs, z :: bs, 0, C, b, h, h1, h2 => by
    cases h1; cases h2
    rw [List.zip_cons_cons, List.lookup_cons, beq_self_eq_true]
  | D :: cs, z :: bs, i + 1, C, b, h, h1, h2 => by
    have nd := List.nodup_cons.mp h
    have m : C ∈ cs := List.mem_of_getElem? (by simpa using h1)
    rw [List.zip_cons_cons, List.lookup_cons, beq_eq_false_iff_ne.mpr (show C ≠ D from fun e => nd.1 (by rw [← e]; exact m))]
    exact lookup_nd nd.2 (by simpa using h1) (by simpa using h2)
section
variable {c : Cs} {Z : Exc → Prop} {ns : List Str} {vs : List D}
theorem lk_0_0 (h : NdX c) : List.lookup c.BadWorld [(c.BadWorld, true), (c.BadNode, false), (c.BadMove, false), (c.BadEntry, false), (c.BadState, false), (c.BadNodes, false), (c.TooMany, false), (c.BadDeed, false), (c.BadJournal, false), (c.BadText, false)] = some true := (lookup_nd (bs := [true, false, false, false, false, false, false, false, false, false]) (i := 0) h rfl rfl :)
theorem lk_0_1 (h : NdX c) : List.lookup c.BadNode [(c.BadWorld, true), (c.BadNode, false), (c.BadMove, false), (c.BadEntry, false), (c.BadState, false), (c.BadNodes, false), (c.TooMany, false), (c.BadDeed, false), (c.BadJournal, false), (c.BadText, false)] = some false := (lookup_nd (bs := [true, false, false, false, false, false, false, false, false, false]) (i := 1) h rfl rfl :)
theorem lk_0_2 (h : NdX c) : List.lookup c.BadMove [(c.BadWorld, true), (c.BadNode, false), (c.BadMove, false), (c.BadEntry, false), (c.BadState, false), (c.BadNodes, false), (c.TooMany, false), (c.BadDeed, false), (c.BadJournal, false), (c.BadText, false)] = some false := (lookup_nd (bs := [true, false, false, false, false, false, false, false, false, false]) (i := 2) h rfl rfl :)
theorem lk_0_3 (h : NdX c) : List.lookup c.BadEntry [(c.BadWorld, true), (c.BadNode, false), (c.BadMove, false), (c.BadEntry, false), (c.BadState, false), (c.BadNodes, false), (c.TooMany, false), (c.BadDeed, false), (c.BadJournal, false), (c.BadText, false)] = some false := (lookup_nd (bs := [true, false, false, false, false, false, false, false, false, false]) (i := 3) h rfl rfl :)
theorem lk_0_4 (h : NdX c) : List.lookup c.BadState [(c.BadWorld, true), (c.BadNode, false), (c.BadMove, false), (c.BadEntry, false), (c.BadState, false), (c.BadNodes, false), (c.TooMany, false), (c.BadDeed, false), (c.BadJournal, false), (c.BadText, false)] = some false := (lookup_nd (bs := [true, false, false, false, false, false, false, false, false, false]) (i := 4) h rfl rfl :)
theorem lk_0_5 (h : NdX c) : List.lookup c.BadNodes [(c.BadWorld, true), (c.BadNode, false), (c.BadMove, false), (c.BadEntry, false), (c.BadState, false), (c.BadNodes, false), (c.TooMany, false), (c.BadDeed, false), (c.BadJournal, false), (c.BadText, false)] = some false := (lookup_nd (bs := [true, false, false, false, false, false, false, false, false, false]) (i := 5) h rfl rfl :)
theorem lk_0_6 (h : NdX c) : List.lookup c.TooMany [(c.BadWorld, true), (c.BadNode, false), (c.BadMove, false), (c.BadEntry, false), (c.BadState, false), (c.BadNodes, false), (c.TooMany, false), (c.BadDeed, false), (c.BadJournal, false), (c.BadText, false)] = some false := (lookup_nd (bs := [true, false, false, false, false, false, false, false, false, false]) (i := 6) h rfl rfl :)
theorem lk_0_7 (h : NdX c) : List.lookup c.BadDeed [(c.BadWorld, true), (c.BadNode, false), (c.BadMove, false), (c.BadEntry, false), (c.BadState, false), (c.BadNodes, false), (c.TooMany, false), (c.BadDeed, false), (c.BadJournal, false), (c.BadText, false)] = some false := (lookup_nd (bs := [true, false, false, false, false, false, false, false, false, false]) (i := 7) h rfl rfl :)
theorem lk_0_8 (h : NdX c) : List.lookup c.BadJournal [(c.BadWorld, true), (c.BadNode, false), (c.BadMove, false), (c.BadEntry, false), (c.BadState, false), (c.BadNodes, false), (c.TooMany, false), (c.BadDeed, false), (c.BadJournal, false), (c.BadText, false)] = some false := (lookup_nd (bs := [true, false, false, false, false, false, false, false, false, false]) (i := 8) h rfl rfl :)
theorem lk_0_9 (h : NdX c) : List.lookup c.BadText [(c.BadWorld, true), (c.BadNode, false), (c.BadMove, false), (c.BadEntry, false), (c.BadState, false), (c.BadNodes, false), (c.TooMany, false), (c.BadDeed, false), (c.BadJournal, false), (c.BadText, false)] = some false := (lookup_nd (bs := [true, false, false, false, false, false, false, false, false, false]) (i := 9) h rfl rfl :)
theorem lk_1_0 (h : NdX c) : List.lookup c.BadWorld [(c.BadWorld, false), (c.BadNode, true), (c.BadMove, false), (c.BadEntry, false), (c.BadState, false), (c.BadNodes, false), (c.TooMany, false), (c.BadDeed, false), (c.BadJournal, false), (c.BadText, false)] = some false := (lookup_nd (bs := [false, true, false, false, false, false, false, false, false, false]) (i := 0) h rfl rfl :)
theorem lk_1_1 (h : NdX c) : List.lookup c.BadNode [(c.BadWorld, false), (c.BadNode, true), (c.BadMove, false), (c.BadEntry, false), (c.BadState, false), (c.BadNodes, false), (c.TooMany, false), (c.BadDeed, false), (c.BadJournal, false), (c.BadText, false)] = some true := (lookup_nd (bs := [false, true, false, false, false, false, false, false, false, false]) (i := 1) h rfl rfl :)
theorem lk_1_2 (h : NdX c) : List.lookup c.BadMove [(c.BadWorld, false), (c.BadNode, true), (c.BadMove, false), (c.BadEntry, false), (c.BadState, false), (c.BadNodes, false), (c.TooMany, false), (c.BadDeed, false), (c.BadJournal, false), (c.BadText, false)] = some false := (lookup_nd (bs := [false, true, false, false, false, false, false, false, false, false]) (i := 2) h rfl rfl :)
theorem lk_1_3 (h : NdX c) : List.lookup c.BadEntry [(c.BadWorld, false), (c.BadNode, true), (c.BadMove, false), (c.BadEntry, false), (c.BadState, false), (c.BadNodes, false), (c.TooMany, false), (c.BadDeed, false), (c.BadJournal, false), (c.BadText, false)] = some false := (lookup_nd (bs := [false, true, false, false, false, false, false, false, false, false]) (i := 3) h rfl rfl :)
theorem lk_1_4 (h : NdX c) : List.lookup c.BadState [(c.BadWorld, false), (c.BadNode, true), (c.BadMove, false), (c.BadEntry, false), (c.BadState, false), (c.BadNodes, false), (c.TooMany, false), (c.BadDeed, false), (c.BadJournal, false), (c.BadText, false)] = some false := (lookup_nd (bs := [false, true, false, false, false, false, false, false, false, false]) (i := 4) h rfl rfl :)
theorem lk_1_5 (h : NdX c) : List.lookup c.BadNodes [(c.BadWorld, false), (c.BadNode, true), (c.BadMove, false), (c.BadEntry, false), (c.BadState, false), (c.BadNodes, false), (c.TooMany, false), (c.BadDeed, false), (c.BadJournal, false), (c.BadText, false)] = some false := (lookup_nd (bs := [false, true, false, false, false, false, false, false, false, false]) (i := 5) h rfl rfl :)
theorem lk_1_6 (h : NdX c) : List.lookup c.TooMany [(c.BadWorld, false), (c.BadNode, true), (c.BadMove, false), (c.BadEntry, false), (c.BadState, false), (c.BadNodes, false), (c.TooMany, false), (c.BadDeed, false), (c.BadJournal, false), (c.BadText, false)] = some false := (lookup_nd (bs := [false, true, false, false, false, false, false, false, false, false]) (i := 6) h rfl rfl :)
theorem lk_1_7 (h : NdX c) : List.lookup c.BadDeed [(c.BadWorld, false), (c.BadNode, true), (c.BadMove, false), (c.BadEntry, false), (c.BadState, false), (c.BadNodes, false), (c.TooMany, false), (c.BadDeed, false), (c.BadJournal, false), (c.BadText, false)] = some false := (lookup_nd (bs := [false, true, false, false, false, false, false, false, false, false]) (i := 7) h rfl rfl :)
theorem lk_1_8 (h : NdX c) : List.lookup c.BadJournal [(c.BadWorld, false), (c.BadNode, true), (c.BadMove, false), (c.BadEntry, false), (c.BadState, false), (c.BadNodes, false), (c.TooMany, false), (c.BadDeed, false), (c.BadJournal, false), (c.BadText, false)] = some false := (lookup_nd (bs := [false, true, false, false, false, false, false, false, false, false]) (i := 8) h rfl rfl :)
theorem lk_1_9 (h : NdX c) : List.lookup c.BadText [(c.BadWorld, false), (c.BadNode, true), (c.BadMove, false), (c.BadEntry, false), (c.BadState, false), (c.BadNodes, false), (c.TooMany, false), (c.BadDeed, false), (c.BadJournal, false), (c.BadText, false)] = some false := (lookup_nd (bs := [false, true, false, false, false, false, false, false, false, false]) (i := 9) h rfl rfl :)
theorem lk_2_0 (h : NdX c) : List.lookup c.BadWorld [(c.BadWorld, false), (c.BadNode, false), (c.BadMove, true), (c.BadEntry, false), (c.BadState, false), (c.BadNodes, false), (c.TooMany, false), (c.BadDeed, false), (c.BadJournal, false), (c.BadText, false)] = some false := (lookup_nd (bs := [false, false, true, false, false, false, false, false, false, false]) (i := 0) h rfl rfl :)
theorem lk_2_1 (h : NdX c) : List.lookup c.BadNode [(c.BadWorld, false), (c.BadNode, false), (c.BadMove, true), (c.BadEntry, false), (c.BadState, false), (c.BadNodes, false), (c.TooMany, false), (c.BadDeed, false), (c.BadJournal, false), (c.BadText, false)] = some false := (lookup_nd (bs := [false, false, true, false, false, false, false, false, false, false]) (i := 1) h rfl rfl :)
theorem lk_2_2 (h : NdX c) : List.lookup c.BadMove [(c.BadWorld, false), (c.BadNode, false), (c.BadMove, true), (c.BadEntry, false), (c.BadState, false), (c.BadNodes, false), (c.TooMany, false), (c.BadDeed, false), (c.BadJournal, false), (c.BadText, false)] = some true := (lookup_nd (bs := [false, false, true, false, false, false, false, false, false, false]) (i := 2) h rfl rfl :)
theorem lk_2_3 (h : NdX c) : List.lookup c.BadEntry [(c.BadWorld, false), (c.BadNode, false), (c.BadMove, true), (c.BadEntry, false), (c.BadState, false), (c.BadNodes, false), (c.TooMany, false), (c.BadDeed, false), (c.BadJournal, false), (c.BadText, false)] = some false := (lookup_nd (bs := [false, false, true, false, false, false, false, false, false, false]) (i := 3) h rfl rfl :)
theorem lk_2_4 (h : NdX c) : List.lookup c.BadState [(c.BadWorld, false), (c.BadNode, false), (c.BadMove, true), (c.BadEntry, false), (c.BadState, false), (c.BadNodes, false), (c.TooMany, false), (c.BadDeed, false), (c.BadJournal, false), (c.BadText, false)] = some false := (lookup_nd (bs := [false, false, true, false, false, false, false, false, false, false]) (i := 4) h rfl rfl :)
theorem lk_2_5 (h : NdX c) : List.lookup c.BadNodes [(c.BadWorld, false), (c.BadNode, false), (c.BadMove, true), (c.BadEntry, false), (c.BadState, false), (c.BadNodes, false), (c.TooMany, false), (c.BadDeed, false), (c.BadJournal, false), (c.BadText, false)] = some false := (lookup_nd (bs := [false, false, true, false, false, false, false, false, false, false]) (i := 5) h rfl rfl :)
theorem lk_2_6 (h : NdX c) : List.lookup c.TooMany [(c.BadWorld, false), (c.BadNode, false), (c.BadMove, true), (c.BadEntry, false), (c.BadState, false), (c.BadNodes, false), (c.TooMany, false), (c.BadDeed, false), (c.BadJournal, false), (c.BadText, false)] = some false := (lookup_nd (bs := [false, false, true, false, false, false, false, false, false, false]) (i := 6) h rfl rfl :)
theorem lk_2_7 (h : NdX c) : List.lookup c.BadDeed [(c.BadWorld, false), (c.BadNode, false), (c.BadMove, true), (c.BadEntry, false), (c.BadState, false), (c.BadNodes, false), (c.TooMany, false), (c.BadDeed, false), (c.BadJournal, false), (c.BadText, false)] = some false := (lookup_nd (bs := [false, false, true, false, false, false, false, false, false, false]) (i := 7) h rfl rfl :)
theorem lk_2_8 (h : NdX c) : List.lookup c.BadJournal [(c.BadWorld, false), (c.BadNode, false), (c.BadMove, true), (c.BadEntry, false), (c.BadState, false), (c.BadNodes, false), (c.TooMany, false), (c.BadDeed, false), (c.BadJournal, false), (c.BadText, false)] = some false := (lookup_nd (bs := [false, false, true, false, false, false, false, false, false, false]) (i := 8) h rfl rfl :)
theorem lk_2_9 (h : NdX c) : List.lookup c.BadText [(c.BadWorld, false), (c.BadNode, false), (c.BadMove, true), (c.BadEntry, false), (c.BadState, false), (c.BadNodes, false), (c.TooMany, false), (c.BadDeed, false), (c.BadJournal, false), (c.BadText, false)] = some false := (lookup_nd (bs := [false, false, true, false, false, false, false, false, false, false]) (i := 9) h rfl rfl :)
theorem lk_3_0 (h : NdX c) : List.lookup c.BadWorld [(c.BadWorld, false), (c.BadNode, false), (c.BadMove, false), (c.BadEntry, true), (c.BadState, false), (c.BadNodes, false), (c.TooMany, false), (c.BadDeed, false), (c.BadJournal, false), (c.BadText, false)] = some false := (lookup_nd (bs := [false, false, false, true, false, false, false, false, false, false]) (i := 0) h rfl rfl :)
theorem lk_3_1 (h : NdX c) : List.lookup c.BadNode [(c.BadWorld, false), (c.BadNode, false), (c.BadMove, false), (c.BadEntry, true), (c.BadState, false), (c.BadNodes, false), (c.TooMany, false), (c.BadDeed, false), (c.BadJournal, false), (c.BadText, false)] = some false := (lookup_nd (bs := [false, false, false, true, false, false, false, false, false, false]) (i := 1) h rfl rfl :)
theorem lk_3_2 (h : NdX c) : List.lookup c.BadMove [(c.BadWorld, false), (c.BadNode, false), (c.BadMove, false), (c.BadEntry, true), (c.BadState, false), (c.BadNodes, false), (c.TooMany, false), (c.BadDeed, false), (c.BadJournal, false), (c.BadText, false)] = some false := (lookup_nd (bs := [false, false, false, true, false, false, false, false, false, false]) (i := 2) h rfl rfl :)
theorem lk_3_3 (h : NdX c) : List.lookup c.BadEntry [(c.BadWorld, false), (c.BadNode, false), (c.BadMove, false), (c.BadEntry, true), (c.BadState, false), (c.BadNodes, false), (c.TooMany, false), (c.BadDeed, false), (c.BadJournal, false), (c.BadText, false)] = some true := (lookup_nd (bs := [false, false, false, true, false, false, false, false, false, false]) (i := 3) h rfl rfl :)
theorem lk_3_4 (h : NdX c) : List.lookup c.BadState [(c.BadWorld, false), (c.BadNode, false), (c.BadMove, false), (c.BadEntry, true), (c.BadState, false), (c.BadNodes, false), (c.TooMany, false), (c.BadDeed, false), (c.BadJournal, false), (c.BadText, false)] = some false := (lookup_nd (bs := [false, false, false, true, false, false, false, false, false, false]) (i := 4) h rfl rfl :)
theorem lk_3_5 (h : NdX c) : List.lookup c.BadNodes [(c.BadWorld, false), (c.BadNode, false), (c.BadMove, false), (c.BadEntry, true), (c.BadState, false), (c.BadNodes, false), (c.TooMany, false), (c.BadDeed, false), (c.BadJournal, false), (c.BadText, false)] = some false := (lookup_nd (bs := [false, false, false, true, false, false, false, false, false, false]) (i := 5) h rfl rfl :)
theorem lk_3_6 (h : NdX c) : List.lookup c.TooMany [(c.BadWorld, false), (c.BadNode, false), (c.BadMove, false), (c.BadEntry, true), (c.BadState, false), (c.BadNodes, false), (c.TooMany, false), (c.BadDeed, false), (c.BadJournal, false), (c.BadText, false)] = some false := (lookup_nd (bs := [false, false, false, true, false, false, false, false, false, false]) (i := 6) h rfl rfl :)
theorem lk_3_7 (h : NdX c) : List.lookup c.BadDeed [(c.BadWorld, false), (c.BadNode, false), (c.BadMove, false), (c.BadEntry, true), (c.BadState, false), (c.BadNodes, false), (c.TooMany, false), (c.BadDeed, false), (c.BadJournal, false), (c.BadText, false)] = some false := (lookup_nd (bs := [false, false, false, true, false, false, false, false, false, false]) (i := 7) h rfl rfl :)
theorem lk_3_8 (h : NdX c) : List.lookup c.BadJournal [(c.BadWorld, false), (c.BadNode, false), (c.BadMove, false), (c.BadEntry, true), (c.BadState, false), (c.BadNodes, false), (c.TooMany, false), (c.BadDeed, false), (c.BadJournal, false), (c.BadText, false)] = some false := (lookup_nd (bs := [false, false, false, true, false, false, false, false, false, false]) (i := 8) h rfl rfl :)
theorem lk_3_9 (h : NdX c) : List.lookup c.BadText [(c.BadWorld, false), (c.BadNode, false), (c.BadMove, false), (c.BadEntry, true), (c.BadState, false), (c.BadNodes, false), (c.TooMany, false), (c.BadDeed, false), (c.BadJournal, false), (c.BadText, false)] = some false := (lookup_nd (bs := [false, false, false, true, false, false, false, false, false, false]) (i := 9) h rfl rfl :)
theorem lk_4_0 (h : NdX c) : List.lookup c.BadWorld [(c.BadWorld, false), (c.BadNode, false), (c.BadMove, false), (c.BadEntry, false), (c.BadState, true), (c.BadNodes, false), (c.TooMany, false), (c.BadDeed, false), (c.BadJournal, false), (c.BadText, false)] = some false := (lookup_nd (bs := [false, false, false, false, true, false, false, false, false, false]) (i := 0) h rfl rfl :)
theorem lk_4_1 (h : NdX c) : List.lookup c.BadNode [(c.BadWorld, false), (c.BadNode, false), (c.BadMove, false), (c.BadEntry, false), (c.BadState, true), (c.BadNodes, false), (c.TooMany, false), (c.BadDeed, false), (c.BadJournal, false), (c.BadText, false)] = some false := (lookup_nd (bs := [false, false, false, false, true, false, false, false, false, false]) (i := 1) h rfl rfl :)
theorem lk_4_2 (h : NdX c) : List.lookup c.BadMove [(c.BadWorld, false), (c.BadNode, false), (c.BadMove, false), (c.BadEntry, false), (c.BadState, true), (c.BadNodes, false), (c.TooMany, false), (c.BadDeed, false), (c.BadJournal, false), (c.BadText, false)] = some false := (lookup_nd (bs := [false, false, false, false, true, false, false, false, false, false]) (i := 2) h rfl rfl :)
theorem lk_4_3 (h : NdX c) : List.lookup c.BadEntry [(c.BadWorld, false), (c.BadNode, false), (c.BadMove, false), (c.BadEntry, false), (c.BadState, true), (c.BadNodes, false), (c.TooMany, false), (c.BadDeed, false), (c.BadJournal, false), (c.BadText, false)] = some false := (lookup_nd (bs := [false, false, false, false, true, false, false, false, false, false]) (i := 3) h rfl rfl :)
theorem lk_4_4 (h : NdX c) : List.lookup c.BadState [(c.BadWorld, false), (c.BadNode, false), (c.BadMove, false), (c.BadEntry, false), (c.BadState, true), (c.BadNodes, false), (c.TooMany, false), (c.BadDeed, false), (c.BadJournal, false), (c.BadText, false)] = some true := (lookup_nd (bs := [false, false, false, false, true, false, false, false, false, false]) (i := 4) h rfl rfl :)
theorem lk_4_5 (h : NdX c) : List.lookup c.BadNodes [(c.BadWorld, false), (c.BadNode, false), (c.BadMove, false), (c.BadEntry, false), (c.BadState, true), (c.BadNodes, false), (c.TooMany, false), (c.BadDeed, false), (c.BadJournal, false), (c.BadText, false)] = some false := (lookup_nd (bs := [false, false, false, false, true, false, false, false, false, false]) (i := 5) h rfl rfl :)
theorem lk_4_6 (h : NdX c) : List.lookup c.TooMany [(c.BadWorld, false), (c.BadNode, false), (c.BadMove, false), (c.BadEntry, false), (c.BadState, true), (c.BadNodes, false), (c.TooMany, false), (c.BadDeed, false), (c.BadJournal, false), (c.BadText, false)] = some false := (lookup_nd (bs := [false, false, false, false, true, false, false, false, false, false]) (i := 6) h rfl rfl :)
theorem lk_4_7 (h : NdX c) : List.lookup c.BadDeed [(c.BadWorld, false), (c.BadNode, false), (c.BadMove, false), (c.BadEntry, false), (c.BadState, true), (c.BadNodes, false), (c.TooMany, false), (c.BadDeed, false), (c.BadJournal, false), (c.BadText, false)] = some false := (lookup_nd (bs := [false, false, false, false, true, false, false, false, false, false]) (i := 7) h rfl rfl :)
theorem lk_4_8 (h : NdX c) : List.lookup c.BadJournal [(c.BadWorld, false), (c.BadNode, false), (c.BadMove, false), (c.BadEntry, false), (c.BadState, true), (c.BadNodes, false), (c.TooMany, false), (c.BadDeed, false), (c.BadJournal, false), (c.BadText, false)] = some false := (lookup_nd (bs := [false, false, false, false, true, false, false, false, false, false]) (i := 8) h rfl rfl :)
theorem lk_4_9 (h : NdX c) : List.lookup c.BadText [(c.BadWorld, false), (c.BadNode, false), (c.BadMove, false), (c.BadEntry, false), (c.BadState, true), (c.BadNodes, false), (c.TooMany, false), (c.BadDeed, false), (c.BadJournal, false), (c.BadText, false)] = some false := (lookup_nd (bs := [false, false, false, false, true, false, false, false, false, false]) (i := 9) h rfl rfl :)
theorem lk_5_0 (h : NdX c) : List.lookup c.BadWorld [(c.BadWorld, false), (c.BadNode, false), (c.BadMove, false), (c.BadEntry, false), (c.BadState, false), (c.BadNodes, true), (c.TooMany, false), (c.BadDeed, false), (c.BadJournal, false), (c.BadText, false)] = some false := (lookup_nd (bs := [false, false, false, false, false, true, false, false, false, false]) (i := 0) h rfl rfl :)
theorem lk_5_1 (h : NdX c) : List.lookup c.BadNode [(c.BadWorld, false), (c.BadNode, false), (c.BadMove, false), (c.BadEntry, false), (c.BadState, false), (c.BadNodes, true), (c.TooMany, false), (c.BadDeed, false), (c.BadJournal, false), (c.BadText, false)] = some false := (lookup_nd (bs := [false, false, false, false, false, true, false, false, false, false]) (i := 1) h rfl rfl :)
theorem lk_5_2 (h : NdX c) : List.lookup c.BadMove [(c.BadWorld, false), (c.BadNode, false), (c.BadMove, false), (c.BadEntry, false), (c.BadState, false), (c.BadNodes, true), (c.TooMany, false), (c.BadDeed, false), (c.BadJournal, false), (c.BadText, false)] = some false := (lookup_nd (bs := [false, false, false, false, false, true, false, false, false, false]) (i := 2) h rfl rfl :)
theorem lk_5_3 (h : NdX c) : List.lookup c.BadEntry [(c.BadWorld, false), (c.BadNode, false), (c.BadMove, false), (c.BadEntry, false), (c.BadState, false), (c.BadNodes, true), (c.TooMany, false), (c.BadDeed, false), (c.BadJournal, false), (c.BadText, false)] = some false := (lookup_nd (bs := [false, false, false, false, false, true, false, false, false, false]) (i := 3) h rfl rfl :)
theorem lk_5_4 (h : NdX c) : List.lookup c.BadState [(c.BadWorld, false), (c.BadNode, false), (c.BadMove, false), (c.BadEntry, false), (c.BadState, false), (c.BadNodes, true), (c.TooMany, false), (c.BadDeed, false), (c.BadJournal, false), (c.BadText, false)] = some false := (lookup_nd (bs := [false, false, false, false, false, true, false, false, false, false]) (i := 4) h rfl rfl :)
theorem lk_5_5 (h : NdX c) : List.lookup c.BadNodes [(c.BadWorld, false), (c.BadNode, false), (c.BadMove, false), (c.BadEntry, false), (c.BadState, false), (c.BadNodes, true), (c.TooMany, false), (c.BadDeed, false), (c.BadJournal, false), (c.BadText, false)] = some true := (lookup_nd (bs := [false, false, false, false, false, true, false, false, false, false]) (i := 5) h rfl rfl :)
theorem lk_5_6 (h : NdX c) : List.lookup c.TooMany [(c.BadWorld, false), (c.BadNode, false), (c.BadMove, false), (c.BadEntry, false), (c.BadState, false), (c.BadNodes, true), (c.TooMany, false), (c.BadDeed, false), (c.BadJournal, false), (c.BadText, false)] = some false := (lookup_nd (bs := [false, false, false, false, false, true, false, false, false, false]) (i := 6) h rfl rfl :)
theorem lk_5_7 (h : NdX c) : List.lookup c.BadDeed [(c.BadWorld, false), (c.BadNode, false), (c.BadMove, false), (c.BadEntry, false), (c.BadState, false), (c.BadNodes, true), (c.TooMany, false), (c.BadDeed, false), (c.BadJournal, false), (c.BadText, false)] = some false := (lookup_nd (bs := [false, false, false, false, false, true, false, false, false, false]) (i := 7) h rfl rfl :)
theorem lk_5_8 (h : NdX c) : List.lookup c.BadJournal [(c.BadWorld, false), (c.BadNode, false), (c.BadMove, false), (c.BadEntry, false), (c.BadState, false), (c.BadNodes, true), (c.TooMany, false), (c.BadDeed, false), (c.BadJournal, false), (c.BadText, false)] = some false := (lookup_nd (bs := [false, false, false, false, false, true, false, false, false, false]) (i := 8) h rfl rfl :)
theorem lk_5_9 (h : NdX c) : List.lookup c.BadText [(c.BadWorld, false), (c.BadNode, false), (c.BadMove, false), (c.BadEntry, false), (c.BadState, false), (c.BadNodes, true), (c.TooMany, false), (c.BadDeed, false), (c.BadJournal, false), (c.BadText, false)] = some false := (lookup_nd (bs := [false, false, false, false, false, true, false, false, false, false]) (i := 9) h rfl rfl :)
theorem lk_6_0 (h : NdX c) : List.lookup c.BadWorld [(c.BadWorld, false), (c.BadNode, false), (c.BadMove, false), (c.BadEntry, false), (c.BadState, false), (c.BadNodes, false), (c.TooMany, true), (c.BadDeed, false), (c.BadJournal, false), (c.BadText, false)] = some false := (lookup_nd (bs := [false, false, false, false, false, false, true, false, false, false]) (i := 0) h rfl rfl :)
theorem lk_6_1 (h : NdX c) : List.lookup c.BadNode [(c.BadWorld, false), (c.BadNode, false), (c.BadMove, false), (c.BadEntry, false), (c.BadState, false), (c.BadNodes, false), (c.TooMany, true), (c.BadDeed, false), (c.BadJournal, false), (c.BadText, false)] = some false := (lookup_nd (bs := [false, false, false, false, false, false, true, false, false, false]) (i := 1) h rfl rfl :)
theorem lk_6_2 (h : NdX c) : List.lookup c.BadMove [(c.BadWorld, false), (c.BadNode, false), (c.BadMove, false), (c.BadEntry, false), (c.BadState, false), (c.BadNodes, false), (c.TooMany, true), (c.BadDeed, false), (c.BadJournal, false), (c.BadText, false)] = some false := (lookup_nd (bs := [false, false, false, false, false, false, true, false, false, false]) (i := 2) h rfl rfl :)
theorem lk_6_3 (h : NdX c) : List.lookup c.BadEntry [(c.BadWorld, false), (c.BadNode, false), (c.BadMove, false), (c.BadEntry, false), (c.BadState, false), (c.BadNodes, false), (c.TooMany, true), (c.BadDeed, false), (c.BadJournal, false), (c.BadText, false)] = some false := (lookup_nd (bs := [false, false, false, false, false, false, true, false, false, false]) (i := 3) h rfl rfl :)
theorem lk_6_4 (h : NdX c) : List.lookup c.BadState [(c.BadWorld, false), (c.BadNode, false), (c.BadMove, false), (c.BadEntry, false), (c.BadState, false), (c.BadNodes, false), (c.TooMany, true), (c.BadDeed, false), (c.BadJournal, false), (c.BadText, false)] = some false := (lookup_nd (bs := [false, false, false, false, false, false, true, false, false, false]) (i := 4) h rfl rfl :)
theorem lk_6_5 (h : NdX c) : List.lookup c.BadNodes [(c.BadWorld, false), (c.BadNode, false), (c.BadMove, false), (c.BadEntry, false), (c.BadState, false), (c.BadNodes, false), (c.TooMany, true), (c.BadDeed, false), (c.BadJournal, false), (c.BadText, false)] = some false := (lookup_nd (bs := [false, false, false, false, false, false, true, false, false, false]) (i := 5) h rfl rfl :)
theorem lk_6_6 (h : NdX c) : List.lookup c.TooMany [(c.BadWorld, false), (c.BadNode, false), (c.BadMove, false), (c.BadEntry, false), (c.BadState, false), (c.BadNodes, false), (c.TooMany, true), (c.BadDeed, false), (c.BadJournal, false), (c.BadText, false)] = some true := (lookup_nd (bs := [false, false, false, false, false, false, true, false, false, false]) (i := 6) h rfl rfl :)
theorem lk_6_7 (h : NdX c) : List.lookup c.BadDeed [(c.BadWorld, false), (c.BadNode, false), (c.BadMove, false), (c.BadEntry, false), (c.BadState, false), (c.BadNodes, false), (c.TooMany, true), (c.BadDeed, false), (c.BadJournal, false), (c.BadText, false)] = some false := (lookup_nd (bs := [false, false, false, false, false, false, true, false, false, false]) (i := 7) h rfl rfl :)
theorem lk_6_8 (h : NdX c) : List.lookup c.BadJournal [(c.BadWorld, false), (c.BadNode, false), (c.BadMove, false), (c.BadEntry, false), (c.BadState, false), (c.BadNodes, false), (c.TooMany, true), (c.BadDeed, false), (c.BadJournal, false), (c.BadText, false)] = some false := (lookup_nd (bs := [false, false, false, false, false, false, true, false, false, false]) (i := 8) h rfl rfl :)
theorem lk_6_9 (h : NdX c) : List.lookup c.BadText [(c.BadWorld, false), (c.BadNode, false), (c.BadMove, false), (c.BadEntry, false), (c.BadState, false), (c.BadNodes, false), (c.TooMany, true), (c.BadDeed, false), (c.BadJournal, false), (c.BadText, false)] = some false := (lookup_nd (bs := [false, false, false, false, false, false, true, false, false, false]) (i := 9) h rfl rfl :)
theorem lk_7_0 (h : NdX c) : List.lookup c.BadWorld [(c.BadWorld, false), (c.BadNode, false), (c.BadMove, false), (c.BadEntry, false), (c.BadState, false), (c.BadNodes, false), (c.TooMany, false), (c.BadDeed, true), (c.BadJournal, false), (c.BadText, false)] = some false := (lookup_nd (bs := [false, false, false, false, false, false, false, true, false, false]) (i := 0) h rfl rfl :)
theorem lk_7_1 (h : NdX c) : List.lookup c.BadNode [(c.BadWorld, false), (c.BadNode, false), (c.BadMove, false), (c.BadEntry, false), (c.BadState, false), (c.BadNodes, false), (c.TooMany, false), (c.BadDeed, true), (c.BadJournal, false), (c.BadText, false)] = some false := (lookup_nd (bs := [false, false, false, false, false, false, false, true, false, false]) (i := 1) h rfl rfl :)
theorem lk_7_2 (h : NdX c) : List.lookup c.BadMove [(c.BadWorld, false), (c.BadNode, false), (c.BadMove, false), (c.BadEntry, false), (c.BadState, false), (c.BadNodes, false), (c.TooMany, false), (c.BadDeed, true), (c.BadJournal, false), (c.BadText, false)] = some false := (lookup_nd (bs := [false, false, false, false, false, false, false, true, false, false]) (i := 2) h rfl rfl :)
theorem lk_7_3 (h : NdX c) : List.lookup c.BadEntry [(c.BadWorld, false), (c.BadNode, false), (c.BadMove, false), (c.BadEntry, false), (c.BadState, false), (c.BadNodes, false), (c.TooMany, false), (c.BadDeed, true), (c.BadJournal, false), (c.BadText, false)] = some false := (lookup_nd (bs := [false, false, false, false, false, false, false, true, false, false]) (i := 3) h rfl rfl :)
theorem lk_7_4 (h : NdX c) : List.lookup c.BadState [(c.BadWorld, false), (c.BadNode, false), (c.BadMove, false), (c.BadEntry, false), (c.BadState, false), (c.BadNodes, false), (c.TooMany, false), (c.BadDeed, true), (c.BadJournal, false), (c.BadText, false)] = some false := (lookup_nd (bs := [false, false, false, false, false, false, false, true, false, false]) (i := 4) h rfl rfl :)
theorem lk_7_5 (h : NdX c) : List.lookup c.BadNodes [(c.BadWorld, false), (c.BadNode, false), (c.BadMove, false), (c.BadEntry, false), (c.BadState, false), (c.BadNodes, false), (c.TooMany, false), (c.BadDeed, true), (c.BadJournal, false), (c.BadText, false)] = some false := (lookup_nd (bs := [false, false, false, false, false, false, false, true, false, false]) (i := 5) h rfl rfl :)
theorem lk_7_6 (h : NdX c) : List.lookup c.TooMany [(c.BadWorld, false), (c.BadNode, false), (c.BadMove, false), (c.BadEntry, false), (c.BadState, false), (c.BadNodes, false), (c.TooMany, false), (c.BadDeed, true), (c.BadJournal, false), (c.BadText, false)] = some false := (lookup_nd (bs := [false, false, false, false, false, false, false, true, false, false]) (i := 6) h rfl rfl :)
theorem lk_7_7 (h : NdX c) : List.lookup c.BadDeed [(c.BadWorld, false), (c.BadNode, false), (c.BadMove, false), (c.BadEntry, false), (c.BadState, false), (c.BadNodes, false), (c.TooMany, false), (c.BadDeed, true), (c.BadJournal, false), (c.BadText, false)] = some true := (lookup_nd (bs := [false, false, false, false, false, false, false, true, false, false]) (i := 7) h rfl rfl :)
theorem lk_7_8 (h : NdX c) : List.lookup c.BadJournal [(c.BadWorld, false), (c.BadNode, false), (c.BadMove, false), (c.BadEntry, false), (c.BadState, false), (c.BadNodes, false), (c.TooMany, false), (c.BadDeed, true), (c.BadJournal, false), (c.BadText, false)] = some false := (lookup_nd (bs := [false, false, false, false, false, false, false, true, false, false]) (i := 8) h rfl rfl :)
theorem lk_7_9 (h : NdX c) : List.lookup c.BadText [(c.BadWorld, false), (c.BadNode, false), (c.BadMove, false), (c.BadEntry, false), (c.BadState, false), (c.BadNodes, false), (c.TooMany, false), (c.BadDeed, true), (c.BadJournal, false), (c.BadText, false)] = some false := (lookup_nd (bs := [false, false, false, false, false, false, false, true, false, false]) (i := 9) h rfl rfl :)
theorem lk_8_0 (h : NdX c) : List.lookup c.BadWorld [(c.BadWorld, false), (c.BadNode, false), (c.BadMove, false), (c.BadEntry, false), (c.BadState, false), (c.BadNodes, false), (c.TooMany, false), (c.BadDeed, false), (c.BadJournal, true), (c.BadText, false)] = some false := (lookup_nd (bs := [false, false, false, false, false, false, false, false, true, false]) (i := 0) h rfl rfl :)
theorem lk_8_1 (h : NdX c) : List.lookup c.BadNode [(c.BadWorld, false), (c.BadNode, false), (c.BadMove, false), (c.BadEntry, false), (c.BadState, false), (c.BadNodes, false), (c.TooMany, false), (c.BadDeed, false), (c.BadJournal, true), (c.BadText, false)] = some false := (lookup_nd (bs := [false, false, false, false, false, false, false, false, true, false]) (i := 1) h rfl rfl :)
theorem lk_8_2 (h : NdX c) : List.lookup c.BadMove [(c.BadWorld, false), (c.BadNode, false), (c.BadMove, false), (c.BadEntry, false), (c.BadState, false), (c.BadNodes, false), (c.TooMany, false), (c.BadDeed, false), (c.BadJournal, true), (c.BadText, false)] = some false := (lookup_nd (bs := [false, false, false, false, false, false, false, false, true, false]) (i := 2) h rfl rfl :)
theorem lk_8_3 (h : NdX c) : List.lookup c.BadEntry [(c.BadWorld, false), (c.BadNode, false), (c.BadMove, false), (c.BadEntry, false), (c.BadState, false), (c.BadNodes, false), (c.TooMany, false), (c.BadDeed, false), (c.BadJournal, true), (c.BadText, false)] = some false := (lookup_nd (bs := [false, false, false, false, false, false, false, false, true, false]) (i := 3) h rfl rfl :)
theorem lk_8_4 (h : NdX c) : List.lookup c.BadState [(c.BadWorld, false), (c.BadNode, false), (c.BadMove, false), (c.BadEntry, false), (c.BadState, false), (c.BadNodes, false), (c.TooMany, false), (c.BadDeed, false), (c.BadJournal, true), (c.BadText, false)] = some false := (lookup_nd (bs := [false, false, false, false, false, false, false, false, true, false]) (i := 4) h rfl rfl :)
theorem lk_8_5 (h : NdX c) : List.lookup c.BadNodes [(c.BadWorld, false), (c.BadNode, false), (c.BadMove, false), (c.BadEntry, false), (c.BadState, false), (c.BadNodes, false), (c.TooMany, false), (c.BadDeed, false), (c.BadJournal, true), (c.BadText, false)] = some false := (lookup_nd (bs := [false, false, false, false, false, false, false, false, true, false]) (i := 5) h rfl rfl :)
theorem lk_8_6 (h : NdX c) : List.lookup c.TooMany [(c.BadWorld, false), (c.BadNode, false), (c.BadMove, false), (c.BadEntry, false), (c.BadState, false), (c.BadNodes, false), (c.TooMany, false), (c.BadDeed, false), (c.BadJournal, true), (c.BadText, false)] = some false := (lookup_nd (bs := [false, false, false, false, false, false, false, false, true, false]) (i := 6) h rfl rfl :)
theorem lk_8_7 (h : NdX c) : List.lookup c.BadDeed [(c.BadWorld, false), (c.BadNode, false), (c.BadMove, false), (c.BadEntry, false), (c.BadState, false), (c.BadNodes, false), (c.TooMany, false), (c.BadDeed, false), (c.BadJournal, true), (c.BadText, false)] = some false := (lookup_nd (bs := [false, false, false, false, false, false, false, false, true, false]) (i := 7) h rfl rfl :)
theorem lk_8_8 (h : NdX c) : List.lookup c.BadJournal [(c.BadWorld, false), (c.BadNode, false), (c.BadMove, false), (c.BadEntry, false), (c.BadState, false), (c.BadNodes, false), (c.TooMany, false), (c.BadDeed, false), (c.BadJournal, true), (c.BadText, false)] = some true := (lookup_nd (bs := [false, false, false, false, false, false, false, false, true, false]) (i := 8) h rfl rfl :)
theorem lk_8_9 (h : NdX c) : List.lookup c.BadText [(c.BadWorld, false), (c.BadNode, false), (c.BadMove, false), (c.BadEntry, false), (c.BadState, false), (c.BadNodes, false), (c.TooMany, false), (c.BadDeed, false), (c.BadJournal, true), (c.BadText, false)] = some false := (lookup_nd (bs := [false, false, false, false, false, false, false, false, true, false]) (i := 9) h rfl rfl :)
theorem lk_9_0 (h : NdX c) : List.lookup c.BadWorld [(c.BadWorld, false), (c.BadNode, false), (c.BadMove, false), (c.BadEntry, false), (c.BadState, false), (c.BadNodes, false), (c.TooMany, false), (c.BadDeed, false), (c.BadJournal, false), (c.BadText, true)] = some false := (lookup_nd (bs := [false, false, false, false, false, false, false, false, false, true]) (i := 0) h rfl rfl :)
theorem lk_9_1 (h : NdX c) : List.lookup c.BadNode [(c.BadWorld, false), (c.BadNode, false), (c.BadMove, false), (c.BadEntry, false), (c.BadState, false), (c.BadNodes, false), (c.TooMany, false), (c.BadDeed, false), (c.BadJournal, false), (c.BadText, true)] = some false := (lookup_nd (bs := [false, false, false, false, false, false, false, false, false, true]) (i := 1) h rfl rfl :)
theorem lk_9_2 (h : NdX c) : List.lookup c.BadMove [(c.BadWorld, false), (c.BadNode, false), (c.BadMove, false), (c.BadEntry, false), (c.BadState, false), (c.BadNodes, false), (c.TooMany, false), (c.BadDeed, false), (c.BadJournal, false), (c.BadText, true)] = some false := (lookup_nd (bs := [false, false, false, false, false, false, false, false, false, true]) (i := 2) h rfl rfl :)
theorem lk_9_3 (h : NdX c) : List.lookup c.BadEntry [(c.BadWorld, false), (c.BadNode, false), (c.BadMove, false), (c.BadEntry, false), (c.BadState, false), (c.BadNodes, false), (c.TooMany, false), (c.BadDeed, false), (c.BadJournal, false), (c.BadText, true)] = some false := (lookup_nd (bs := [false, false, false, false, false, false, false, false, false, true]) (i := 3) h rfl rfl :)
theorem lk_9_4 (h : NdX c) : List.lookup c.BadState [(c.BadWorld, false), (c.BadNode, false), (c.BadMove, false), (c.BadEntry, false), (c.BadState, false), (c.BadNodes, false), (c.TooMany, false), (c.BadDeed, false), (c.BadJournal, false), (c.BadText, true)] = some false := (lookup_nd (bs := [false, false, false, false, false, false, false, false, false, true]) (i := 4) h rfl rfl :)
theorem lk_9_5 (h : NdX c) : List.lookup c.BadNodes [(c.BadWorld, false), (c.BadNode, false), (c.BadMove, false), (c.BadEntry, false), (c.BadState, false), (c.BadNodes, false), (c.TooMany, false), (c.BadDeed, false), (c.BadJournal, false), (c.BadText, true)] = some false := (lookup_nd (bs := [false, false, false, false, false, false, false, false, false, true]) (i := 5) h rfl rfl :)
theorem lk_9_6 (h : NdX c) : List.lookup c.TooMany [(c.BadWorld, false), (c.BadNode, false), (c.BadMove, false), (c.BadEntry, false), (c.BadState, false), (c.BadNodes, false), (c.TooMany, false), (c.BadDeed, false), (c.BadJournal, false), (c.BadText, true)] = some false := (lookup_nd (bs := [false, false, false, false, false, false, false, false, false, true]) (i := 6) h rfl rfl :)
theorem lk_9_7 (h : NdX c) : List.lookup c.BadDeed [(c.BadWorld, false), (c.BadNode, false), (c.BadMove, false), (c.BadEntry, false), (c.BadState, false), (c.BadNodes, false), (c.TooMany, false), (c.BadDeed, false), (c.BadJournal, false), (c.BadText, true)] = some false := (lookup_nd (bs := [false, false, false, false, false, false, false, false, false, true]) (i := 7) h rfl rfl :)
theorem lk_9_8 (h : NdX c) : List.lookup c.BadJournal [(c.BadWorld, false), (c.BadNode, false), (c.BadMove, false), (c.BadEntry, false), (c.BadState, false), (c.BadNodes, false), (c.TooMany, false), (c.BadDeed, false), (c.BadJournal, false), (c.BadText, true)] = some false := (lookup_nd (bs := [false, false, false, false, false, false, false, false, false, true]) (i := 8) h rfl rfl :)
theorem lk_9_9 (h : NdX c) : List.lookup c.BadText [(c.BadWorld, false), (c.BadNode, false), (c.BadMove, false), (c.BadEntry, false), (c.BadState, false), (c.BadNodes, false), (c.TooMany, false), (c.BadDeed, false), (c.BadJournal, false), (c.BadText, true)] = some true := (lookup_nd (bs := [false, false, false, false, false, false, false, false, false, true]) (i := 9) h rfl rfl :)
theorem lk_a_0 (h : NdX c) : List.lookup c.BadWorld [(c.BadWorld, true), (c.BadNode, true), (c.BadMove, true), (c.BadEntry, true), (c.BadState, true), (c.BadNodes, true), (c.TooMany, true), (c.BadDeed, true), (c.BadJournal, true), (c.BadText, true)] = some true := (lookup_nd (bs := [true, true, true, true, true, true, true, true, true, true]) (i := 0) h rfl rfl :)
theorem lk_a_1 (h : NdX c) : List.lookup c.BadNode [(c.BadWorld, true), (c.BadNode, true), (c.BadMove, true), (c.BadEntry, true), (c.BadState, true), (c.BadNodes, true), (c.TooMany, true), (c.BadDeed, true), (c.BadJournal, true), (c.BadText, true)] = some true := (lookup_nd (bs := [true, true, true, true, true, true, true, true, true, true]) (i := 1) h rfl rfl :)
theorem lk_a_2 (h : NdX c) : List.lookup c.BadMove [(c.BadWorld, true), (c.BadNode, true), (c.BadMove, true), (c.BadEntry, true), (c.BadState, true), (c.BadNodes, true), (c.TooMany, true), (c.BadDeed, true), (c.BadJournal, true), (c.BadText, true)] = some true := (lookup_nd (bs := [true, true, true, true, true, true, true, true, true, true]) (i := 2) h rfl rfl :)
theorem lk_a_3 (h : NdX c) : List.lookup c.BadEntry [(c.BadWorld, true), (c.BadNode, true), (c.BadMove, true), (c.BadEntry, true), (c.BadState, true), (c.BadNodes, true), (c.TooMany, true), (c.BadDeed, true), (c.BadJournal, true), (c.BadText, true)] = some true := (lookup_nd (bs := [true, true, true, true, true, true, true, true, true, true]) (i := 3) h rfl rfl :)
theorem lk_a_4 (h : NdX c) : List.lookup c.BadState [(c.BadWorld, true), (c.BadNode, true), (c.BadMove, true), (c.BadEntry, true), (c.BadState, true), (c.BadNodes, true), (c.TooMany, true), (c.BadDeed, true), (c.BadJournal, true), (c.BadText, true)] = some true := (lookup_nd (bs := [true, true, true, true, true, true, true, true, true, true]) (i := 4) h rfl rfl :)
theorem lk_a_5 (h : NdX c) : List.lookup c.BadNodes [(c.BadWorld, true), (c.BadNode, true), (c.BadMove, true), (c.BadEntry, true), (c.BadState, true), (c.BadNodes, true), (c.TooMany, true), (c.BadDeed, true), (c.BadJournal, true), (c.BadText, true)] = some true := (lookup_nd (bs := [true, true, true, true, true, true, true, true, true, true]) (i := 5) h rfl rfl :)
theorem lk_a_6 (h : NdX c) : List.lookup c.TooMany [(c.BadWorld, true), (c.BadNode, true), (c.BadMove, true), (c.BadEntry, true), (c.BadState, true), (c.BadNodes, true), (c.TooMany, true), (c.BadDeed, true), (c.BadJournal, true), (c.BadText, true)] = some true := (lookup_nd (bs := [true, true, true, true, true, true, true, true, true, true]) (i := 6) h rfl rfl :)
theorem lk_a_7 (h : NdX c) : List.lookup c.BadDeed [(c.BadWorld, true), (c.BadNode, true), (c.BadMove, true), (c.BadEntry, true), (c.BadState, true), (c.BadNodes, true), (c.TooMany, true), (c.BadDeed, true), (c.BadJournal, true), (c.BadText, true)] = some true := (lookup_nd (bs := [true, true, true, true, true, true, true, true, true, true]) (i := 7) h rfl rfl :)
theorem lk_a_8 (h : NdX c) : List.lookup c.BadJournal [(c.BadWorld, true), (c.BadNode, true), (c.BadMove, true), (c.BadEntry, true), (c.BadState, true), (c.BadNodes, true), (c.TooMany, true), (c.BadDeed, true), (c.BadJournal, true), (c.BadText, true)] = some true := (lookup_nd (bs := [true, true, true, true, true, true, true, true, true, true]) (i := 8) h rfl rfl :)
theorem lk_a_9 (h : NdX c) : List.lookup c.BadText [(c.BadWorld, true), (c.BadNode, true), (c.BadMove, true), (c.BadEntry, true), (c.BadState, true), (c.BadNodes, true), (c.TooMany, true), (c.BadDeed, true), (c.BadJournal, true), (c.BadText, true)] = some true := (lookup_nd (bs := [true, true, true, true, true, true, true, true, true, true]) (i := 9) h rfl rfl :)
theorem marks_0 (h : NdX c) : m__law_marks c [.d (.exc c.BadWorld ns vs)] = .ret (.ol [.bl true, .bl false, .bl false, .bl false, .bl false, .bl false, .bl false, .bl false, .bl false, .bl false]) := by
  unfold m__law_marks b__law_marks
  walk_at "sv"
  simp only [lk_0_0 h, lk_1_0 h, lk_2_0 h, lk_3_0 h, lk_4_0 h, lk_5_0 h, lk_6_0 h, lk_7_0 h, lk_8_0 h, lk_9_0 h]
  walk_at "sv"

theorem marks_1 (h : NdX c) : m__law_marks c [.d (.exc c.BadNode ns vs)] = .ret (.ol [.bl false, .bl true, .bl false, .bl false, .bl false, .bl false, .bl false, .bl false, .bl false, .bl false]) := by
  unfold m__law_marks b__law_marks
  walk_at "sv"
  simp only [lk_0_1 h, lk_1_1 h, lk_2_1 h, lk_3_1 h, lk_4_1 h, lk_5_1 h, lk_6_1 h, lk_7_1 h, lk_8_1 h, lk_9_1 h]
  walk_at "sv"

theorem marks_2 (h : NdX c) : m__law_marks c [.d (.exc c.BadMove ns vs)] = .ret (.ol [.bl false, .bl false, .bl true, .bl false, .bl false, .bl false, .bl false, .bl false, .bl false, .bl false]) := by
  unfold m__law_marks b__law_marks
  walk_at "sv"
  simp only [lk_0_2 h, lk_1_2 h, lk_2_2 h, lk_3_2 h, lk_4_2 h, lk_5_2 h, lk_6_2 h, lk_7_2 h, lk_8_2 h, lk_9_2 h]
  walk_at "sv"

theorem marks_3 (h : NdX c) : m__law_marks c [.d (.exc c.BadEntry ns vs)] = .ret (.ol [.bl false, .bl false, .bl false, .bl true, .bl false, .bl false, .bl false, .bl false, .bl false, .bl false]) := by
  unfold m__law_marks b__law_marks
  walk_at "sv"
  simp only [lk_0_3 h, lk_1_3 h, lk_2_3 h, lk_3_3 h, lk_4_3 h, lk_5_3 h, lk_6_3 h, lk_7_3 h, lk_8_3 h, lk_9_3 h]
  walk_at "sv"

theorem marks_4 (h : NdX c) : m__law_marks c [.d (.exc c.BadState ns vs)] = .ret (.ol [.bl false, .bl false, .bl false, .bl false, .bl true, .bl false, .bl false, .bl false, .bl false, .bl false]) := by
  unfold m__law_marks b__law_marks
  walk_at "sv"
  simp only [lk_0_4 h, lk_1_4 h, lk_2_4 h, lk_3_4 h, lk_4_4 h, lk_5_4 h, lk_6_4 h, lk_7_4 h, lk_8_4 h, lk_9_4 h]
  walk_at "sv"

theorem marks_5 (h : NdX c) : m__law_marks c [.d (.exc c.BadNodes ns vs)] = .ret (.ol [.bl false, .bl false, .bl false, .bl false, .bl false, .bl true, .bl false, .bl false, .bl false, .bl false]) := by
  unfold m__law_marks b__law_marks
  walk_at "sv"
  simp only [lk_0_5 h, lk_1_5 h, lk_2_5 h, lk_3_5 h, lk_4_5 h, lk_5_5 h, lk_6_5 h, lk_7_5 h, lk_8_5 h, lk_9_5 h]
  walk_at "sv"

theorem marks_6 (h : NdX c) : m__law_marks c [.d (.exc c.TooMany ns vs)] = .ret (.ol [.bl false, .bl false, .bl false, .bl false, .bl false, .bl false, .bl true, .bl false, .bl false, .bl false]) := by
  unfold m__law_marks b__law_marks
  walk_at "sv"
  simp only [lk_0_6 h, lk_1_6 h, lk_2_6 h, lk_3_6 h, lk_4_6 h, lk_5_6 h, lk_6_6 h, lk_7_6 h, lk_8_6 h, lk_9_6 h]
  walk_at "sv"

theorem marks_7 (h : NdX c) : m__law_marks c [.d (.exc c.BadDeed ns vs)] = .ret (.ol [.bl false, .bl false, .bl false, .bl false, .bl false, .bl false, .bl false, .bl true, .bl false, .bl false]) := by
  unfold m__law_marks b__law_marks
  walk_at "sv"
  simp only [lk_0_7 h, lk_1_7 h, lk_2_7 h, lk_3_7 h, lk_4_7 h, lk_5_7 h, lk_6_7 h, lk_7_7 h, lk_8_7 h, lk_9_7 h]
  walk_at "sv"

theorem marks_8 (h : NdX c) : m__law_marks c [.d (.exc c.BadJournal ns vs)] = .ret (.ol [.bl false, .bl false, .bl false, .bl false, .bl false, .bl false, .bl false, .bl false, .bl true, .bl false]) := by
  unfold m__law_marks b__law_marks
  walk_at "sv"
  simp only [lk_0_8 h, lk_1_8 h, lk_2_8 h, lk_3_8 h, lk_4_8 h, lk_5_8 h, lk_6_8 h, lk_7_8 h, lk_8_8 h, lk_9_8 h]
  walk_at "sv"

theorem marks_9 (h : NdX c) : m__law_marks c [.d (.exc c.BadText ns vs)] = .ret (.ol [.bl false, .bl false, .bl false, .bl false, .bl false, .bl false, .bl false, .bl false, .bl false, .bl true]) := by
  unfold m__law_marks b__law_marks
  walk_at "sv"
  simp only [lk_0_9 h, lk_1_9 h, lk_2_9 h, lk_3_9 h, lk_4_9 h, lk_5_9 h, lk_6_9 h, lk_7_9 h, lk_8_9 h, lk_9_9 h]
  walk_at "sv"

theorem pairs_eq {x : D} : m__law_pairs c [.d x] = .ret (.ol [.tup [(.exc c.BadWorld ["part"] [x]), (.exc c.BadWorld ["part"] [x])], .tup [(.exc c.BadNode ["index"] [x]), (.exc c.BadNode ["index"] [x])], .tup [(.exc c.BadMove ["at"] [x]), (.exc c.BadMove ["at"] [x])], .tup [(.exc c.BadEntry [] []), (.exc c.BadEntry [] [])], .tup [(.exc c.BadState [] []), (.exc c.BadState [] [])], .tup [(.exc c.BadNodes ["index"] [x]), (.exc c.BadNodes ["index"] [x])], .tup [(.exc c.TooMany [] []), (.exc c.TooMany [] [])], .tup [(.exc c.BadDeed ["at"] [x]), (.exc c.BadDeed ["at"] [x])], .tup [(.exc c.BadJournal ["row"] [x]), (.exc c.BadJournal ["row"] [x])], .tup [(.exc c.BadText ["row"] [x]), (.exc c.BadText ["row"] [x])]]) := by
  unfold m__law_pairs b__law_pairs
  walk_at "sv"

theorem held_0 {x : D} : m__law_held c [.d (.exc c.BadWorld ["part"] [x]), .d (.int 0)] = .ret (.ol [x]) := by
  unfold m__law_held b__law_held
  walk_at "sv"
  rw [decide_eq_true (show c.BadWorld ∈ [c.BadWorld] by simp)]
  rfl
theorem held_1 {x : D} : m__law_held c [.d (.exc c.BadNode ["index"] [x]), .d (.int 1)] = .ret (.ol [x]) := by
  unfold m__law_held b__law_held
  walk_at "sv"
  rw [decide_eq_true (show c.BadNode ∈ [c.BadNode, c.BadNodes] by simp)]
  rfl
theorem held_2 {x : D} : m__law_held c [.d (.exc c.BadMove ["at"] [x]), .d (.int 2)] = .ret (.ol [x]) := by
  unfold m__law_held b__law_held
  walk_at "sv"
  rw [decide_eq_true (show c.BadMove ∈ [c.BadMove, c.BadDeed] by simp)]
  rfl
theorem held_3 {x : D} : m__law_held c [.d (.exc c.BadEntry [] []), .d (.int 3)] = .ret (.ol []) := by
  unfold m__law_held b__law_held
  walk_at "sv"
  skip
  try rfl
theorem held_4 {x : D} : m__law_held c [.d (.exc c.BadState [] []), .d (.int 4)] = .ret (.ol []) := by
  unfold m__law_held b__law_held
  walk_at "sv"
  skip
  try rfl
theorem held_5 {x : D} : m__law_held c [.d (.exc c.BadNodes ["index"] [x]), .d (.int 5)] = .ret (.ol [x]) := by
  unfold m__law_held b__law_held
  walk_at "sv"
  rw [decide_eq_true (show c.BadNodes ∈ [c.BadNode, c.BadNodes] by simp)]
  rfl
theorem held_6 {x : D} : m__law_held c [.d (.exc c.TooMany [] []), .d (.int 6)] = .ret (.ol []) := by
  unfold m__law_held b__law_held
  walk_at "sv"
  skip
  try rfl
theorem held_7 {x : D} : m__law_held c [.d (.exc c.BadDeed ["at"] [x]), .d (.int 7)] = .ret (.ol [x]) := by
  unfold m__law_held b__law_held
  walk_at "sv"
  rw [decide_eq_true (show c.BadDeed ∈ [c.BadMove, c.BadDeed] by simp)]
  rfl
theorem held_8 {x : D} : m__law_held c [.d (.exc c.BadJournal ["row"] [x]), .d (.int 8)] = .ret (.ol [x]) := by
  unfold m__law_held b__law_held
  walk_at "sv"
  rw [decide_eq_true (show c.BadJournal ∈ [c.BadJournal, c.BadText] by simp)]
  rfl
theorem held_9 {x : D} : m__law_held c [.d (.exc c.BadText ["row"] [x]), .d (.int 9)] = .ret (.ol [x]) := by
  unfold m__law_held b__law_held
  walk_at "sv"
  rw [decide_eq_true (show c.BadText ∈ [c.BadJournal, c.BadText] by simp)]
  rfl
theorem caught_eq {x : D} : m__law_caught c [.d x] = .ret (.d (.int 2)) := by
  unfold m__law_caught b__law_caught
  walk_at "sv"
end
def trIn (c : Cs) : S' := (sSeq (sIf (tTst (eOp oNe (eFn 1 (m__law_marks c) (bArg' (eVar 6) bNil')) (eLc (iR' (aCons (eC (.int 10)) aNil)) (gNm' 7) tYes' (eOp oEq (eVar 7) (eVar 4)) [7]))) (sRet (eC (.bl false))) sNext) (sSeq (sIf (tOr' (tNot' (tTst (eIsX [(c.BadWorld, true), (c.BadNode, true), (c.BadMove, true), (c.BadEntry, true), (c.BadState, true), (c.BadNodes, true), (c.TooMany, true), (c.BadDeed, true), (c.BadJournal, true), (c.BadText, true)] (eVar 6)))) (tNot' (tTst (eIsX [(c.BadWorld, true), (c.BadNode, true), (c.BadMove, true), (c.BadEntry, true), (c.BadState, true), (c.BadNodes, true), (c.TooMany, true), (c.BadDeed, true), (c.BadJournal, true), (c.BadText, true)] (eVar 6))))) (sRet (eC (.bl false))) sNext) (sIf (tTst (eOp oNe (eCall fRepr (aCons (eFn 2 (m__law_held c) (bArg' (eVar 6) (bArg' (eVar 4) bNil'))) aNil)) (eCall fRepr (aCons (eIf (tTst (eOp oNotIn (eVar 4) (eTup (aCons (eC (.int 3)) (aCons (eC (.int 4)) (aCons (eC (.int 6)) aNil)))))) (eLst (aCons (eVar 3) aNil)) (eLst aNil)) aNil)))) (sRet (eC (.bl false))) sNext)))
def trEnd (c : Cs) : S' := (sIf (tTst (eOp oNe (eFn 1 (m__law_caught c) (bArg' (eVar 3) bNil')) (eC (.int 2)))) (sRet (eC (.bl false))) sNext)
theorem turn_e {c : Cs} : b_turn c = (sSeq (sAsg (eFn 2 (m__law_pick c) (bArg' (eVar 1) (bArg' (eLst (aCons (eC (.int 0)) (aCons (eC (.int 1)) (aCons (eNeg (eC (.int 1))) (aCons (eC (.str "a")) (aCons (eC (.str "")) (aCons (eC .non) (aCons (eC (.bl true)) (aCons (eTup (aCons (eC (.int 0)) (aCons (eC (.int 1)) aNil))) (aCons (eLst (aCons (eC (.int 1)) aNil)) (aCons eDic0 (aCons (eFn 2 (m__law_draw c) (bArg' (eVar 1) (bArg' (eC (.int 100)) bNil'))) aNil)))))))))))) bNil'))) (gNm' 3)) (sSeq (sFor (iEnA' (aCons (eFn 1 (m__law_pairs c) (bArg' (eVar 3) bNil')) aNil)) (gTp' 2 (gsCons (gNm' 4) (gsCons (gNm' 5) gsNil))) (sFor (iSq' (eVar 5)) (gNm' 6) (trIn c))) (trEnd c))) := rfl
section
variable {c : Cs} {Z : Exc → Prop} {P : Sl → Prop} {s0 s2 s5 s7 : Sl} {x : D}
theorem lab_nil : shw 60 (.lst []) = true ∧ wt (.lst []) ≤ 100000 := by decide
theorem tens_0 {y : D} : lcT (gNm' 7) tYes' (eOp oEq (eVar 7) (eVar 4)) [7] (upto 10) [] [s0, .src, s2, .d x, .d (.int 0), s5, .d y, .no] = .ret (.ol [.bl true, .bl false, .bl false, .bl false, .bl false, .bl false, .bl false, .bl false, .bl false, .bl false], [s0, .src, s2, .d x, .d (.int 0), s5, .d y, .no]) := by
  have h := lc_map (g := gNm' 7) (tt := tYes') (te := eOp oEq (eVar 7) (eVar 4)) (vs := [7]) (ρ := [s0, .src, s2, .d x, .d (.int 0), s5, .d y, .no]) (fun k => .bl (eqD k (.int 0))) (upto 10) [] (by decide) (fun z hz => by
    obtain ⟨n, rfl⟩ : ∃ n : Int, z = .int n := by
      unfold upto at hz
      obtain ⟨j, _, rfl⟩ := List.mem_map.mp hz
      exact ⟨_, rfl⟩
    walk_at "sv")
  rw [h]
  rfl
theorem tens_1 {y : D} : lcT (gNm' 7) tYes' (eOp oEq (eVar 7) (eVar 4)) [7] (upto 10) [] [s0, .src, s2, .d x, .d (.int 1), s5, .d y, .no] = .ret (.ol [.bl false, .bl true, .bl false, .bl false, .bl false, .bl false, .bl false, .bl false, .bl false, .bl false], [s0, .src, s2, .d x, .d (.int 1), s5, .d y, .no]) := by
  have h := lc_map (g := gNm' 7) (tt := tYes') (te := eOp oEq (eVar 7) (eVar 4)) (vs := [7]) (ρ := [s0, .src, s2, .d x, .d (.int 1), s5, .d y, .no]) (fun k => .bl (eqD k (.int 1))) (upto 10) [] (by decide) (fun z hz => by
    obtain ⟨n, rfl⟩ : ∃ n : Int, z = .int n := by
      unfold upto at hz
      obtain ⟨j, _, rfl⟩ := List.mem_map.mp hz
      exact ⟨_, rfl⟩
    walk_at "sv")
  rw [h]
  rfl
theorem tens_2 {y : D} : lcT (gNm' 7) tYes' (eOp oEq (eVar 7) (eVar 4)) [7] (upto 10) [] [s0, .src, s2, .d x, .d (.int 2), s5, .d y, .no] = .ret (.ol [.bl false, .bl false, .bl true, .bl false, .bl false, .bl false, .bl false, .bl false, .bl false, .bl false], [s0, .src, s2, .d x, .d (.int 2), s5, .d y, .no]) := by
  have h := lc_map (g := gNm' 7) (tt := tYes') (te := eOp oEq (eVar 7) (eVar 4)) (vs := [7]) (ρ := [s0, .src, s2, .d x, .d (.int 2), s5, .d y, .no]) (fun k => .bl (eqD k (.int 2))) (upto 10) [] (by decide) (fun z hz => by
    obtain ⟨n, rfl⟩ : ∃ n : Int, z = .int n := by
      unfold upto at hz
      obtain ⟨j, _, rfl⟩ := List.mem_map.mp hz
      exact ⟨_, rfl⟩
    walk_at "sv")
  rw [h]
  rfl
theorem tens_3 {y : D} : lcT (gNm' 7) tYes' (eOp oEq (eVar 7) (eVar 4)) [7] (upto 10) [] [s0, .src, s2, .d x, .d (.int 3), s5, .d y, .no] = .ret (.ol [.bl false, .bl false, .bl false, .bl true, .bl false, .bl false, .bl false, .bl false, .bl false, .bl false], [s0, .src, s2, .d x, .d (.int 3), s5, .d y, .no]) := by
  have h := lc_map (g := gNm' 7) (tt := tYes') (te := eOp oEq (eVar 7) (eVar 4)) (vs := [7]) (ρ := [s0, .src, s2, .d x, .d (.int 3), s5, .d y, .no]) (fun k => .bl (eqD k (.int 3))) (upto 10) [] (by decide) (fun z hz => by
    obtain ⟨n, rfl⟩ : ∃ n : Int, z = .int n := by
      unfold upto at hz
      obtain ⟨j, _, rfl⟩ := List.mem_map.mp hz
      exact ⟨_, rfl⟩
    walk_at "sv")
  rw [h]
  rfl
theorem tens_4 {y : D} : lcT (gNm' 7) tYes' (eOp oEq (eVar 7) (eVar 4)) [7] (upto 10) [] [s0, .src, s2, .d x, .d (.int 4), s5, .d y, .no] = .ret (.ol [.bl false, .bl false, .bl false, .bl false, .bl true, .bl false, .bl false, .bl false, .bl false, .bl false], [s0, .src, s2, .d x, .d (.int 4), s5, .d y, .no]) := by
  have h := lc_map (g := gNm' 7) (tt := tYes') (te := eOp oEq (eVar 7) (eVar 4)) (vs := [7]) (ρ := [s0, .src, s2, .d x, .d (.int 4), s5, .d y, .no]) (fun k => .bl (eqD k (.int 4))) (upto 10) [] (by decide) (fun z hz => by
    obtain ⟨n, rfl⟩ : ∃ n : Int, z = .int n := by
      unfold upto at hz
      obtain ⟨j, _, rfl⟩ := List.mem_map.mp hz
      exact ⟨_, rfl⟩
    walk_at "sv")
  rw [h]
  rfl
theorem tens_5 {y : D} : lcT (gNm' 7) tYes' (eOp oEq (eVar 7) (eVar 4)) [7] (upto 10) [] [s0, .src, s2, .d x, .d (.int 5), s5, .d y, .no] = .ret (.ol [.bl false, .bl false, .bl false, .bl false, .bl false, .bl true, .bl false, .bl false, .bl false, .bl false], [s0, .src, s2, .d x, .d (.int 5), s5, .d y, .no]) := by
  have h := lc_map (g := gNm' 7) (tt := tYes') (te := eOp oEq (eVar 7) (eVar 4)) (vs := [7]) (ρ := [s0, .src, s2, .d x, .d (.int 5), s5, .d y, .no]) (fun k => .bl (eqD k (.int 5))) (upto 10) [] (by decide) (fun z hz => by
    obtain ⟨n, rfl⟩ : ∃ n : Int, z = .int n := by
      unfold upto at hz
      obtain ⟨j, _, rfl⟩ := List.mem_map.mp hz
      exact ⟨_, rfl⟩
    walk_at "sv")
  rw [h]
  rfl
theorem tens_6 {y : D} : lcT (gNm' 7) tYes' (eOp oEq (eVar 7) (eVar 4)) [7] (upto 10) [] [s0, .src, s2, .d x, .d (.int 6), s5, .d y, .no] = .ret (.ol [.bl false, .bl false, .bl false, .bl false, .bl false, .bl false, .bl true, .bl false, .bl false, .bl false], [s0, .src, s2, .d x, .d (.int 6), s5, .d y, .no]) := by
  have h := lc_map (g := gNm' 7) (tt := tYes') (te := eOp oEq (eVar 7) (eVar 4)) (vs := [7]) (ρ := [s0, .src, s2, .d x, .d (.int 6), s5, .d y, .no]) (fun k => .bl (eqD k (.int 6))) (upto 10) [] (by decide) (fun z hz => by
    obtain ⟨n, rfl⟩ : ∃ n : Int, z = .int n := by
      unfold upto at hz
      obtain ⟨j, _, rfl⟩ := List.mem_map.mp hz
      exact ⟨_, rfl⟩
    walk_at "sv")
  rw [h]
  rfl
theorem tens_7 {y : D} : lcT (gNm' 7) tYes' (eOp oEq (eVar 7) (eVar 4)) [7] (upto 10) [] [s0, .src, s2, .d x, .d (.int 7), s5, .d y, .no] = .ret (.ol [.bl false, .bl false, .bl false, .bl false, .bl false, .bl false, .bl false, .bl true, .bl false, .bl false], [s0, .src, s2, .d x, .d (.int 7), s5, .d y, .no]) := by
  have h := lc_map (g := gNm' 7) (tt := tYes') (te := eOp oEq (eVar 7) (eVar 4)) (vs := [7]) (ρ := [s0, .src, s2, .d x, .d (.int 7), s5, .d y, .no]) (fun k => .bl (eqD k (.int 7))) (upto 10) [] (by decide) (fun z hz => by
    obtain ⟨n, rfl⟩ : ∃ n : Int, z = .int n := by
      unfold upto at hz
      obtain ⟨j, _, rfl⟩ := List.mem_map.mp hz
      exact ⟨_, rfl⟩
    walk_at "sv")
  rw [h]
  rfl
theorem tens_8 {y : D} : lcT (gNm' 7) tYes' (eOp oEq (eVar 7) (eVar 4)) [7] (upto 10) [] [s0, .src, s2, .d x, .d (.int 8), s5, .d y, .no] = .ret (.ol [.bl false, .bl false, .bl false, .bl false, .bl false, .bl false, .bl false, .bl false, .bl true, .bl false], [s0, .src, s2, .d x, .d (.int 8), s5, .d y, .no]) := by
  have h := lc_map (g := gNm' 7) (tt := tYes') (te := eOp oEq (eVar 7) (eVar 4)) (vs := [7]) (ρ := [s0, .src, s2, .d x, .d (.int 8), s5, .d y, .no]) (fun k => .bl (eqD k (.int 8))) (upto 10) [] (by decide) (fun z hz => by
    obtain ⟨n, rfl⟩ : ∃ n : Int, z = .int n := by
      unfold upto at hz
      obtain ⟨j, _, rfl⟩ := List.mem_map.mp hz
      exact ⟨_, rfl⟩
    walk_at "sv")
  rw [h]
  rfl
theorem tens_9 {y : D} : lcT (gNm' 7) tYes' (eOp oEq (eVar 7) (eVar 4)) [7] (upto 10) [] [s0, .src, s2, .d x, .d (.int 9), s5, .d y, .no] = .ret (.ol [.bl false, .bl false, .bl false, .bl false, .bl false, .bl false, .bl false, .bl false, .bl false, .bl true], [s0, .src, s2, .d x, .d (.int 9), s5, .d y, .no]) := by
  have h := lc_map (g := gNm' 7) (tt := tYes') (te := eOp oEq (eVar 7) (eVar 4)) (vs := [7]) (ρ := [s0, .src, s2, .d x, .d (.int 9), s5, .d y, .no]) (fun k => .bl (eqD k (.int 9))) (upto 10) [] (by decide) (fun z hz => by
    obtain ⟨n, rfl⟩ : ∃ n : Int, z = .int n := by
      unfold upto at hz
      obtain ⟨j, _, rfl⟩ := List.mem_map.mp hz
      exact ⟨_, rfl⟩
    walk_at "sv")
  rw [h]
  rfl
theorem in_0 (h : NdX c) (h1 : shw 60 (.lst [x]) = true) (h2 : wt (.lst [x]) ≤ 100000) : trIn c [s0, .src, s2, .d x, .d (.int 0), s5, .d (.exc c.BadWorld ["part"] [x]), s7] = .ret (.nx [s0, .src, s2, .d x, .d (.int 0), s5, .d (.exc c.BadWorld ["part"] [x]), .no]) := by
  unfold trIn
  walk_at "sv"
  rw [marks_0 h]
  walk_at "sv"
  rw [tens_0]
  walk_at "sv"
  simp only [lk_a_0 h]
  walk_at "sv"
  rw [held_0 (x := x)]
  walk_at "sv"
  simp only [h1, decide_eq_true h2, lab_nil.1, decide_eq_true lab_nil.2, eqD_refl, Bool.and_self, Bool.not_true, need_true]
  walk_at "sv"

theorem in_1 (h : NdX c) (h1 : shw 60 (.lst [x]) = true) (h2 : wt (.lst [x]) ≤ 100000) : trIn c [s0, .src, s2, .d x, .d (.int 1), s5, .d (.exc c.BadNode ["index"] [x]), s7] = .ret (.nx [s0, .src, s2, .d x, .d (.int 1), s5, .d (.exc c.BadNode ["index"] [x]), .no]) := by
  unfold trIn
  walk_at "sv"
  rw [marks_1 h]
  walk_at "sv"
  rw [tens_1]
  walk_at "sv"
  simp only [lk_a_1 h]
  walk_at "sv"
  rw [held_1 (x := x)]
  walk_at "sv"
  simp only [h1, decide_eq_true h2, lab_nil.1, decide_eq_true lab_nil.2, eqD_refl, Bool.and_self, Bool.not_true, need_true]
  walk_at "sv"

theorem in_2 (h : NdX c) (h1 : shw 60 (.lst [x]) = true) (h2 : wt (.lst [x]) ≤ 100000) : trIn c [s0, .src, s2, .d x, .d (.int 2), s5, .d (.exc c.BadMove ["at"] [x]), s7] = .ret (.nx [s0, .src, s2, .d x, .d (.int 2), s5, .d (.exc c.BadMove ["at"] [x]), .no]) := by
  unfold trIn
  walk_at "sv"
  rw [marks_2 h]
  walk_at "sv"
  rw [tens_2]
  walk_at "sv"
  simp only [lk_a_2 h]
  walk_at "sv"
  rw [held_2 (x := x)]
  walk_at "sv"
  simp only [h1, decide_eq_true h2, lab_nil.1, decide_eq_true lab_nil.2, eqD_refl, Bool.and_self, Bool.not_true, need_true]
  walk_at "sv"

theorem in_3 (h : NdX c) (h1 : shw 60 (.lst [x]) = true) (h2 : wt (.lst [x]) ≤ 100000) : trIn c [s0, .src, s2, .d x, .d (.int 3), s5, .d (.exc c.BadEntry [] []), s7] = .ret (.nx [s0, .src, s2, .d x, .d (.int 3), s5, .d (.exc c.BadEntry [] []), .no]) := by
  unfold trIn
  walk_at "sv"
  rw [marks_3 h]
  walk_at "sv"
  rw [tens_3]
  walk_at "sv"
  simp only [lk_a_3 h]
  walk_at "sv"
  rw [held_3 (x := x)]
  walk_at "sv"
  simp only [h1, decide_eq_true h2, lab_nil.1, decide_eq_true lab_nil.2, eqD_refl, Bool.and_self, Bool.not_true, need_true]
  walk_at "sv"

theorem in_4 (h : NdX c) (h1 : shw 60 (.lst [x]) = true) (h2 : wt (.lst [x]) ≤ 100000) : trIn c [s0, .src, s2, .d x, .d (.int 4), s5, .d (.exc c.BadState [] []), s7] = .ret (.nx [s0, .src, s2, .d x, .d (.int 4), s5, .d (.exc c.BadState [] []), .no]) := by
  unfold trIn
  walk_at "sv"
  rw [marks_4 h]
  walk_at "sv"
  rw [tens_4]
  walk_at "sv"
  simp only [lk_a_4 h]
  walk_at "sv"
  rw [held_4 (x := x)]
  walk_at "sv"
  simp only [h1, decide_eq_true h2, lab_nil.1, decide_eq_true lab_nil.2, eqD_refl, Bool.and_self, Bool.not_true, need_true]
  walk_at "sv"

theorem in_5 (h : NdX c) (h1 : shw 60 (.lst [x]) = true) (h2 : wt (.lst [x]) ≤ 100000) : trIn c [s0, .src, s2, .d x, .d (.int 5), s5, .d (.exc c.BadNodes ["index"] [x]), s7] = .ret (.nx [s0, .src, s2, .d x, .d (.int 5), s5, .d (.exc c.BadNodes ["index"] [x]), .no]) := by
  unfold trIn
  walk_at "sv"
  rw [marks_5 h]
  walk_at "sv"
  rw [tens_5]
  walk_at "sv"
  simp only [lk_a_5 h]
  walk_at "sv"
  rw [held_5 (x := x)]
  walk_at "sv"
  simp only [h1, decide_eq_true h2, lab_nil.1, decide_eq_true lab_nil.2, eqD_refl, Bool.and_self, Bool.not_true, need_true]
  walk_at "sv"

theorem in_6 (h : NdX c) (h1 : shw 60 (.lst [x]) = true) (h2 : wt (.lst [x]) ≤ 100000) : trIn c [s0, .src, s2, .d x, .d (.int 6), s5, .d (.exc c.TooMany [] []), s7] = .ret (.nx [s0, .src, s2, .d x, .d (.int 6), s5, .d (.exc c.TooMany [] []), .no]) := by
  unfold trIn
  walk_at "sv"
  rw [marks_6 h]
  walk_at "sv"
  rw [tens_6]
  walk_at "sv"
  simp only [lk_a_6 h]
  walk_at "sv"
  rw [held_6 (x := x)]
  walk_at "sv"
  simp only [h1, decide_eq_true h2, lab_nil.1, decide_eq_true lab_nil.2, eqD_refl, Bool.and_self, Bool.not_true, need_true]
  walk_at "sv"

theorem in_7 (h : NdX c) (h1 : shw 60 (.lst [x]) = true) (h2 : wt (.lst [x]) ≤ 100000) : trIn c [s0, .src, s2, .d x, .d (.int 7), s5, .d (.exc c.BadDeed ["at"] [x]), s7] = .ret (.nx [s0, .src, s2, .d x, .d (.int 7), s5, .d (.exc c.BadDeed ["at"] [x]), .no]) := by
  unfold trIn
  walk_at "sv"
  rw [marks_7 h]
  walk_at "sv"
  rw [tens_7]
  walk_at "sv"
  simp only [lk_a_7 h]
  walk_at "sv"
  rw [held_7 (x := x)]
  walk_at "sv"
  simp only [h1, decide_eq_true h2, lab_nil.1, decide_eq_true lab_nil.2, eqD_refl, Bool.and_self, Bool.not_true, need_true]
  walk_at "sv"

theorem in_8 (h : NdX c) (h1 : shw 60 (.lst [x]) = true) (h2 : wt (.lst [x]) ≤ 100000) : trIn c [s0, .src, s2, .d x, .d (.int 8), s5, .d (.exc c.BadJournal ["row"] [x]), s7] = .ret (.nx [s0, .src, s2, .d x, .d (.int 8), s5, .d (.exc c.BadJournal ["row"] [x]), .no]) := by
  unfold trIn
  walk_at "sv"
  rw [marks_8 h]
  walk_at "sv"
  rw [tens_8]
  walk_at "sv"
  simp only [lk_a_8 h]
  walk_at "sv"
  rw [held_8 (x := x)]
  walk_at "sv"
  simp only [h1, decide_eq_true h2, lab_nil.1, decide_eq_true lab_nil.2, eqD_refl, Bool.and_self, Bool.not_true, need_true]
  walk_at "sv"

theorem in_9 (h : NdX c) (h1 : shw 60 (.lst [x]) = true) (h2 : wt (.lst [x]) ≤ 100000) : trIn c [s0, .src, s2, .d x, .d (.int 9), s5, .d (.exc c.BadText ["row"] [x]), s7] = .ret (.nx [s0, .src, s2, .d x, .d (.int 9), s5, .d (.exc c.BadText ["row"] [x]), .no]) := by
  unfold trIn
  walk_at "sv"
  rw [marks_9 h]
  walk_at "sv"
  rw [tens_9]
  walk_at "sv"
  simp only [lk_a_9 h]
  walk_at "sv"
  rw [held_9 (x := x)]
  walk_at "sv"
  simp only [h1, decide_eq_true h2, lab_nil.1, decide_eq_true lab_nil.2, eqD_refl, Bool.and_self, Bool.not_true, need_true]
  walk_at "sv"

end
section
variable {c : Cs} {Z : Exc → Prop} {P : Sl → Prop}
theorem pickX {y : D} {xs : List D} (hy : pickIn y xs) (h1 : xs ≠ []) (h2 : xs.length < 1000000) (hp : ∀ x ∈ xs, P (.d x)) : V Z (m__law_pick c [.src, .d y]) P := by
  have h0 := List.length_pos_iff.mpr h1
  unfold m__law_pick b__law_pick
  walk_at "sv"
  rw [pick_len hy]
  walk_at "sv"
  walk_at "wd"
  intro r r0 r1
  obtain ⟨x, e1, e2⟩ := pick_at hy r0 r1
  rw [e1]
  walk_at "sv"
  exact hp x e2
def whats (r : Int) : List D := [.int 0, .int 1, .int (-1), .str "a", .str "", .non, .bl true, .tup [.int 0, .int 1], .lst [.int 1], .dic [] [], .int r]
theorem whats_ok {r : Int} (r0 : 0 ≤ r) (r1 : r < 100) : ∀ x ∈ whats r, shw 60 (.lst [x]) = true ∧ wt (.lst [x]) ≤ 100000 := by
  intro x hx
  simp only [whats, List.mem_cons, List.not_mem_nil, or_false] at hx
  rcases hx with rfl | rfl | rfl | rfl | rfl | rfl | rfl | rfl | rfl | rfl | rfl
  all_goals first | decide | decide +kernel | exact ⟨by simp [shw, shws], by simp only [wt, wts]; omega⟩
def prs (c : Cs) (x : D) : List D := [.tup [(.exc c.BadWorld ["part"] [x]), (.exc c.BadWorld ["part"] [x])], .tup [(.exc c.BadNode ["index"] [x]), (.exc c.BadNode ["index"] [x])], .tup [(.exc c.BadMove ["at"] [x]), (.exc c.BadMove ["at"] [x])], .tup [(.exc c.BadEntry [] []), (.exc c.BadEntry [] [])], .tup [(.exc c.BadState [] []), (.exc c.BadState [] [])], .tup [(.exc c.BadNodes ["index"] [x]), (.exc c.BadNodes ["index"] [x])], .tup [(.exc c.TooMany [] []), (.exc c.TooMany [] [])], .tup [(.exc c.BadDeed ["at"] [x]), (.exc c.BadDeed ["at"] [x])], .tup [(.exc c.BadJournal ["row"] [x]), (.exc c.BadJournal ["row"] [x])], .tup [(.exc c.BadText ["row"] [x]), (.exc c.BadText ["row"] [x])]]
theorem num10 {x : D} : numbered (prs c x) = [.tup [.int 0, .tup [(.exc c.BadWorld ["part"] [x]), (.exc c.BadWorld ["part"] [x])]], .tup [.int 1, .tup [(.exc c.BadNode ["index"] [x]), (.exc c.BadNode ["index"] [x])]], .tup [.int 2, .tup [(.exc c.BadMove ["at"] [x]), (.exc c.BadMove ["at"] [x])]], .tup [.int 3, .tup [(.exc c.BadEntry [] []), (.exc c.BadEntry [] [])]], .tup [.int 4, .tup [(.exc c.BadState [] []), (.exc c.BadState [] [])]], .tup [.int 5, .tup [(.exc c.BadNodes ["index"] [x]), (.exc c.BadNodes ["index"] [x])]], .tup [.int 6, .tup [(.exc c.TooMany [] []), (.exc c.TooMany [] [])]], .tup [.int 7, .tup [(.exc c.BadDeed ["at"] [x]), (.exc c.BadDeed ["at"] [x])]], .tup [.int 8, .tup [(.exc c.BadJournal ["row"] [x]), (.exc c.BadJournal ["row"] [x])]], .tup [.int 9, .tup [(.exc c.BadText ["row"] [x]), (.exc c.BadText ["row"] [x])]]] := rfl
def TI (ρ : Env') : Prop := ∃ s0 s2 s3 s4 s5 s6 s7, ρ = [s0, .src, s2, s3, s4, s5, s6, s7]
def TP (o : Out) : Prop := ∃ ρ, o = .nx ρ ∧ TI ρ
theorem tp {s0 s2 s3 s4 s5 s6 s7 : Sl} : TP (.nx [s0, .src, s2, s3, s4, s5, s6, s7]) := ⟨_, rfl, _, _, _, _, _, _, _, rfl⟩
theorem turn_ok {ρ : Env'} {x : D} (hN : NdX c) (h : TI ρ) : V Z (b_turn c (ρ.set 2 (.d x))) TP := by
  obtain ⟨s0, s2, s3, s4, s5, s6, s7, rfl⟩ := h
  rw [turn_e]
  walk_at "sv"
  walk_at "wd"
  intro r r0 r1
  walk_at "sv"
  walk_at "wc"
  refine pickX (xs := whats r) (.inl rfl) (by simp [whats]) (by simp [whats]) fun y hy => ?_
  obtain ⟨h1, h2⟩ := whats_ok r0 r1 y hy
  walk_at "sv"
  rw [pairs_eq]
  walk_at "sv"
  rw [show numbered [.tup [(.exc c.BadWorld ["part"] [y]), (.exc c.BadWorld ["part"] [y])], .tup [(.exc c.BadNode ["index"] [y]), (.exc c.BadNode ["index"] [y])], .tup [(.exc c.BadMove ["at"] [y]), (.exc c.BadMove ["at"] [y])], .tup [(.exc c.BadEntry [] []), (.exc c.BadEntry [] [])], .tup [(.exc c.BadState [] []), (.exc c.BadState [] [])], .tup [(.exc c.BadNodes ["index"] [y]), (.exc c.BadNodes ["index"] [y])], .tup [(.exc c.TooMany [] []), (.exc c.TooMany [] [])], .tup [(.exc c.BadDeed ["at"] [y]), (.exc c.BadDeed ["at"] [y])], .tup [(.exc c.BadJournal ["row"] [y]), (.exc c.BadJournal ["row"] [y])], .tup [(.exc c.BadText ["row"] [y]), (.exc c.BadText ["row"] [y])]] = _ from num10 (c := c) (x := y)]
  walk_at "sv"
  rw [in_0 hN h1 h2]
  walk_at "sv"
  rw [in_0 hN h1 h2]
  walk_at "sv"
  rw [in_1 hN h1 h2]
  walk_at "sv"
  rw [in_1 hN h1 h2]
  walk_at "sv"
  rw [in_2 hN h1 h2]
  walk_at "sv"
  rw [in_2 hN h1 h2]
  walk_at "sv"
  rw [in_3 hN h1 h2]
  walk_at "sv"
  rw [in_3 hN h1 h2]
  walk_at "sv"
  rw [in_4 hN h1 h2]
  walk_at "sv"
  rw [in_4 hN h1 h2]
  walk_at "sv"
  rw [in_5 hN h1 h2]
  walk_at "sv"
  rw [in_5 hN h1 h2]
  walk_at "sv"
  rw [in_6 hN h1 h2]
  walk_at "sv"
  rw [in_6 hN h1 h2]
  walk_at "sv"
  rw [in_7 hN h1 h2]
  walk_at "sv"
  rw [in_7 hN h1 h2]
  walk_at "sv"
  rw [in_8 hN h1 h2]
  walk_at "sv"
  rw [in_8 hN h1 h2]
  walk_at "sv"
  rw [in_9 hN h1 h2]
  walk_at "sv"
  rw [in_9 hN h1 h2]
  walk_at "sv"
  unfold trEnd
  walk_at "sv"
  rw [caught_eq]
  walk_at "sv"
  exact tp
end
end K01
namespace K01
open PySem L2 Fl Tr
open Sv
section
variable {w : World} {K : PySem.W.Frag} {mg : Str → Option Value} {base : Heap} {a : Ad}
theorem f_law (T : Txt K mg a) : FnG PP w K mg base 4 a.law a.fd_law ["_law_script"] (spLaw K) := by
  refine fnG_of T.F_law sc_law (fun vs H Q E h => ?_) (fun cdv A outer s H vs Q E hg hr h => ?_)
  · obtain ⟨a1, ns, rfl, _⟩ := h
    rfl
  obtain ⟨a1, ns, rfl, hS, h63, nm, kq⟩ := h
  refine ⟨_, (pss_cons (ps_set sc_law.nd (i := 1) rfl (by first | exact .inl rfl | exact .inr rfl) (pe_call (f__law_state T) (hr.mono (by decide)) rfl T.g__law_state T.k__law_state T.b__law_state .nil pass0 (pa_cons (pv 0) pa_nil))) (pss_cons (ps_for PassesOwn.never rfl (pi_range1 rfl T.z_range (pa_cons (pe_op op_add pe_int (pe_callB (call_min2 rfl) rfl T.z_min (by decide +kernel) (pa_cons (pe_callB call_len_seq rfl T.z_len (by decide +kernel) (pa_cons (pv 0) pa_nil)) (pa_cons pe_int pa_nil)))) pa_nil)) (pg_name (i := 2) sc_law.nd rfl (by first | exact .inl rfl | exact .inr rfl)) (dnSs (dss_cons (dnS (ds_set sc_law.nd (i := 3) rfl (by first | exact .inl rfl | exact .inr rfl) (dnE (pd_call (f__law_pick T) (hr.mono (by decide)) rfl T.g__law_pick T.k__law_pick T.b__law_pick (dnB (dab_arg (dnE (pd_var 1) fun _ _ => w_var) (dnB (dab_arg (dnE (pd_lst (dnA (pda_cons (dnE pd_int fun _ _ => w_c) (dnA (pda_cons (dnE pd_int fun _ _ => w_c) (dnA (pda_cons (dnE (pd_neg (dnE pd_int fun _ _ => w_c)) fun _ _ => w_neg) (dnA (pda_cons (dnE pd_str fun _ _ => w_c) (dnA (pda_cons (dnE pd_str fun _ _ => w_c) (dnA (pda_cons (dnE pd_non fun _ _ => w_c) (dnA (pda_cons (dnE pd_bl fun _ _ => w_c) (dnA (pda_cons (dnE (pd_tup (dnA (pda_cons (dnE pd_int fun _ _ => w_c) (dnA (pda_cons (dnE pd_int fun _ _ => w_c) (dnA pda_nil fun _ _ => w_nil)) fun _ _ => w_cons)) fun _ _ => w_cons)) fun _ _ => w_tup) (dnA (pda_cons (dnE (pd_lst (dnA (pda_cons (dnE pd_int fun _ _ => w_c) (dnA pda_nil fun _ _ => w_nil)) fun _ _ => w_cons)) fun _ _ => w_lst) (dnA (pda_cons (dnE pd_dic0 fun _ _ => w_dic0) (dnA (pda_cons (dnE (pd_call (f__law_draw T) (hr.mono (by decide)) rfl T.g__law_draw T.k__law_draw T.b__law_draw (dnB (dab_arg (dnE (pd_var 1) fun _ _ => w_var) (dnB (dab_arg (dnE pd_int fun _ _ => w_c) (dnB dab_nil fun _ _ => w_bnil)) fun _ _ => w_barg)) fun _ _ => w_barg)) fun _ _ => w_fn) (dnA pda_nil fun _ _ => w_nil)) fun _ _ => w_cons)) fun _ _ => w_cons)) fun _ _ => w_cons)) fun _ _ => w_cons)) fun _ _ => w_cons)) fun _ _ => w_cons)) fun _ _ => w_cons)) fun _ _ => w_cons)) fun _ _ => w_cons)) fun _ _ => w_cons)) fun _ _ => w_cons)) fun _ _ => w_lst) (dnB dab_nil fun _ _ => w_bnil)) fun _ _ => w_barg)) fun _ _ => w_barg)) fun _ _ => w_fn)) fun _ _ => w_set) (dnSs (dss_cons (dnS (ds_for PassesOwn.never rfl (dnI (di_enumA rfl T.z_enumerate (dnA (pda_cons (dnE (pd_call (f__law_pairs T) (hr.mono (by decide)) rfl T.g__law_pairs T.k__law_pairs T.b__law_pairs (dnB (dab_arg (dnE (pd_var 3) fun _ _ => w_var) (dnB dab_nil fun _ _ => w_bnil)) fun _ _ => w_barg)) fun _ _ => w_fn) (dnA pda_nil fun _ _ => w_nil)) fun _ _ => w_cons)) fun _ _ => w_iEnA) (pg_tup rfl (pgs_cons (pg_name (i := 4) sc_law.nd rfl (by first | exact .inl rfl | exact .inr rfl)) (pgs_cons (pg_name (i := 5) sc_law.nd rfl (by first | exact .inl rfl | exact .inr rfl)) pgs_nil))) (dnG (tgt_tup (dnGs (tgts_cons (dnG (tgt_name 4) fun _ _ _ => w_gnm) (dnGs (tgts_cons (dnG (tgt_name 5) fun _ _ _ => w_gnm) (dnGs tgts_nil fun _ _ _ => w_gsnil)) fun _ _ _ => w_gscons)) fun _ _ _ => w_gscons)) fun _ _ _ => w_gtp) (dss_one (dnS (ds_for PassesOwn.never rfl (dnI (di_seq (dnE (pd_var 5) fun _ _ => w_var)) fun _ _ => w_iSq) (pg_name (i := 6) sc_law.nd rfl (by first | exact .inl rfl | exact .inr rfl)) (dnG (tgt_name 6) fun _ _ _ => w_gnm) (dnSs (dss_cons (dnS (ds_if (dnT (pt_cmpD (od_ne hr) (dnE (pd_call (f__law_marks T) (hr.mono (by decide)) rfl T.g__law_marks T.k__law_marks T.b__law_marks (dnB (dab_arg (dnE (pd_var 6) fun _ _ => w_var) (dnB dab_nil fun _ _ => w_bnil)) fun _ _ => w_barg)) fun _ _ => w_fn) (dnE (pd_lc (own := [("_law_k", 7)]) rfl sc_law.nd (dnI (di_range rfl T.z_range (dnA (pda_cons (dnE pd_int fun _ _ => w_c) (dnA pda_nil fun _ _ => w_nil)) fun _ _ => w_cons)) fun _ _ => w_iR) (blkOk_by (by rfl)) (fun _ _ _ _ _ => (pg_name (i := 7) sc_law.nd rfl (by first | exact .inl rfl | exact .inr rfl))) (dnG (tgt_name 7) fun _ _ _ => w_gnm) (by decide) (fun _ _ _ _ _ => (dnTs dts_nil fun _ _ => w_yes)) (fun _ _ _ _ _ => (dnE (pd_cmp (od_eq hr) (dnE (pd_var 7) fun _ _ => w_var) (dnE (pd_var 4) fun _ _ => w_var)) fun _ _ => w_op wo_eq))) fun _ _ => w_lc)) fun _ _ q => w_tst2 (w_op wo_ne) q) (dss_one (dnS (ds_ret (dnE pd_bl fun _ _ => w_c)) fun _ _ => w_ret)) (dnSs dss_nil fun _ _ => w_next)) fun _ _ => w_ifS) (dnSs (dss_cons (dnS (ds_if (PW.pt (dnW (pwd_or (dnT (pt_notD (dnT (pt_valD (dnE (pd_isX (dnE (pd_var 6) fun _ _ => w_var) rfl T.z_isinstance rfl T.g_ViewError) fun _ _ => w_isX T.xi2_ViewError)) fun _ _ => w_tst)) fun _ _ => w_not) (pwd_or1 (dnT (pt_notD (dnT (pt_valD (dnE (pd_isXb (T := "ValueError") (dnE (pd_var 6) fun _ _ => w_var) rfl T.z_isinstance rfl T.z_ValueError) fun _ _ => w_isX T.xi2_ValueError)) fun _ _ => w_tst)) fun _ _ => w_not))) fun _ _ => w_or)) (dss_one (dnS (ds_ret (dnE pd_bl fun _ _ => w_c)) fun _ _ => w_ret)) (dnSs dss_nil fun _ _ => w_next)) fun _ _ => w_ifS) (dss_one (dnS (ds_if (dnT (pt_cmpD (od_ne hr) (dnE (pd_callB (cd_repr hr hg) rfl T.z_repr (by decide +kernel) (dnA (pda_cons (dnE (pd_call (f__law_held T) (hr.mono (by decide)) rfl T.g__law_held T.k__law_held T.b__law_held (dnB (dab_arg (dnE (pd_var 6) fun _ _ => w_var) (dnB (dab_arg (dnE (pd_var 4) fun _ _ => w_var) (dnB dab_nil fun _ _ => w_bnil)) fun _ _ => w_barg)) fun _ _ => w_barg)) fun _ _ => w_fn) (dnA pda_nil fun _ _ => w_nil)) fun _ _ => w_cons)) fun _ _ => w_call wf_repr) (dnE (pd_callB (cd_repr hr hg) rfl T.z_repr (by decide +kernel) (dnA (pda_cons (dnE (pd_if (dnT (pt_cmpD od_notIn (dnE (pd_var 4) fun _ _ => w_var) (dnE (pd_tup (dnA (pda_cons (dnE pd_int fun _ _ => w_c) (dnA (pda_cons (dnE pd_int fun _ _ => w_c) (dnA (pda_cons (dnE pd_int fun _ _ => w_c) (dnA pda_nil fun _ _ => w_nil)) fun _ _ => w_cons)) fun _ _ => w_cons)) fun _ _ => w_cons)) fun _ _ => w_tup)) fun _ _ q => w_tst2 (w_op wo_notIn) q) (dnE (pd_lst (dnA (pda_cons (dnE (pd_var 3) fun _ _ => w_var) (dnA pda_nil fun _ _ => w_nil)) fun _ _ => w_cons)) fun _ _ => w_lst) (dnE (pd_lst (dnA pda_nil fun _ _ => w_nil)) fun _ _ => w_lst)) fun _ _ => w_if) (dnA pda_nil fun _ _ => w_nil)) fun _ _ => w_cons)) fun _ _ => w_call wf_repr)) fun _ _ q => w_tst2 (w_op wo_ne) q) (dss_one (dnS (ds_ret (dnE pd_bl fun _ _ => w_c)) fun _ _ => w_ret)) (dnSs dss_nil fun _ _ => w_next)) fun _ _ => w_ifS))) fun _ _ => w_seq)) fun _ _ => w_seq)) fun _ _ => w_for))) fun _ _ => w_for) (dss_one (dnS (ds_if (dnT (pt_cmpD (od_ne hr) (dnE (pd_call (f__law_caught T) (hr.mono (by decide)) rfl T.g__law_caught T.k__law_caught T.b__law_caught (dnB (dab_arg (dnE (pd_var 3) fun _ _ => w_var) (dnB dab_nil fun _ _ => w_bnil)) fun _ _ => w_barg)) fun _ _ => w_fn) (dnE pd_int fun _ _ => w_c)) fun _ _ q => w_tst2 (w_op wo_ne) q) (dss_one (dnS (ds_ret (dnE pd_bl fun _ _ => w_c)) fun _ _ => w_ret)) (dnSs dss_nil fun _ _ => w_next)) fun _ _ => w_ifS))) fun _ _ => w_seq)) fun _ _ => w_seq)) (pss_one (ps_ret pe_bl)))), ?_⟩
  refine ⟨_, rfl, a1, ns, rfl, hS, h63, fun p c H' ms hp hc hne e1 e2 e3 e4 hk => ?_⟩
  refine ⟨_, rfl, a1, ns.map V.int, rfl, .inl (sqL_keep hS hk), _, _, rfl, 3, _, rfl, rfl, _, rfl, ?_, ?_, ?_⟩
  · split <;> omega
  · split <;> omega
  have r0 := R.begin (K := K) (v := some (.ref a1)) (H := H') ⟨0, 1, ms, e1, e2, e3, e4⟩ (nm.imp fun _ e => hk _ _ e) 6
  refine loopR r0 TI ⟨_, _, _, _, _, _, _, rfl⟩ (fun x ρ hI => ⟨(by obtain ⟨s0, s1, s2, s3, s4, s5, s6, rfl⟩ := hI; exact Nat.le_of_ble_eq_true rfl), wp_mono (fun o q => ?_) (turn_ok (c := a.cs) (x := x) T.xnd hI).get⟩) fun G' H1 σ' ρ' _ _ _ => kq H1
  obtain ⟨ρ', rfl, hρ⟩ := q
  exact hρ
end
theorem all_mk {w : World} {K : PySem.W.Frag} {h : Heap} {mg : Str → Option Value} {fa f0 f1 f2 f3 f4 f5 f6 f7 C_BadWorld C_BadNode C_BadMove C_BadEntry C_BadState C_BadNodes C_TooMany C_BadDeed C_BadJournal C_BadText C_ViewError xf_BadWorld xc_BadWorld xd_BadWorld xf_BadNode xc_BadNode xd_BadNode xf_BadMove xc_BadMove xd_BadMove xf_BadNodes xc_BadNodes xd_BadNodes xf_BadDeed xc_BadDeed xd_BadDeed xf_BadJournal xc_BadJournal xd_BadJournal xf_BadText xc_BadText xd_BadText : Addr} {oc0 kV0 dc0 pm0 cd0 ct0 oc1 kV1 dc1 pm1 cd1 ct1 oc2 kV2 dc2 pm2 cd2 ct2 oc3 kV3 dc3 pm3 cd3 ct3 oc4 kV4 dc4 pm4 cd4 ct4 oc5 kV5 dc5 pm5 cd5 ct5 oc6 kV6 dc6 pm6 cd6 ct6 oc7 kV7 dc7 pm7 cd7 ct7 xocBadWorld xkVBadWorld xdcBadWorld xpmBadWorld xctBadWorld xocBadNode xkVBadNode xdcBadNode xpmBadNode xctBadNode xocBadMove xkVBadMove xdcBadMove xpmBadMove xctBadMove xocBadNodes xkVBadNodes xdcBadNodes xpmBadNodes xctBadNodes xocBadDeed xkVBadDeed xdcBadDeed xpmBadDeed xctBadDeed xocBadJournal xkVBadJournal xdcBadJournal xpmBadJournal xctBadJournal xocBadText xkVBadText xdcBadText xpmBadText xctBadText : Value} {od0 an0 od1 an1 od2 an2 od3 an3 od4 an4 od5 an5 od6 an6 od7 an7 xodBadWorld xanBadWorld xodBadNode xanBadNode xodBadMove xanBadMove xodBadNodes xanBadNodes xodBadDeed xanBadDeed xodBadJournal xanBadJournal xodBadText xanBadText : Option Addr} {sl0 sl1 sl2 sl3 sl4 sl5 sl6 sl7 xslBadWorld xslBadNode xslBadMove xslBadNodes xslBadDeed xslBadJournal xslBadText : Array (Option Value)} {xnmBadWorld xqnBadWorld xfileBadWorld : Str} {xNBadWorld : Addr} {xbsBadWorld xbmBadWorld xsubBadWorld : List Value} {xsnBadWorld : List Str} {xabBadWorld : Bool} {xcolBadWorld : Option Bool} {xddBadWorld : Option Addr} {xk0BadWorld xk1BadWorld xk2BadWorld xk3BadWorld xk5BadWorld : Option Value} {xclBadWorld xcclBadWorld : Value} {xcldBadWorld xcddBadWorld : Option Addr} {xcslBadWorld xccsBadWorld : Array (Option Value)} {xvsBadWorld : Array Value} {xtfBadWorld : Tok} {xnmBadNode xqnBadNode xfileBadNode : Str} {xNBadNode : Addr} {xbsBadNode xbmBadNode xsubBadNode : List Value} {xsnBadNode : List Str} {xabBadNode : Bool} {xcolBadNode : Option Bool} {xddBadNode : Option Addr} {xk0BadNode xk1BadNode xk2BadNode xk3BadNode xk5BadNode : Option Value} {xclBadNode xcclBadNode : Value} {xcldBadNode xcddBadNode : Option Addr} {xcslBadNode xccsBadNode : Array (Option Value)} {xvsBadNode : Array Value} {xtfBadNode : Tok} {xnmBadMove xqnBadMove xfileBadMove : Str} {xNBadMove : Addr} {xbsBadMove xbmBadMove xsubBadMove : List Value} {xsnBadMove : List Str} {xabBadMove : Bool} {xcolBadMove : Option Bool} {xddBadMove : Option Addr} {xk0BadMove xk1BadMove xk2BadMove xk3BadMove xk5BadMove : Option Value} {xclBadMove xcclBadMove : Value} {xcldBadMove xcddBadMove : Option Addr} {xcslBadMove xccsBadMove : Array (Option Value)} {xvsBadMove : Array Value} {xtfBadMove : Tok} {xnmBadNodes xqnBadNodes xfileBadNodes : Str} {xNBadNodes : Addr} {xbsBadNodes xbmBadNodes xsubBadNodes : List Value} {xsnBadNodes : List Str} {xabBadNodes : Bool} {xcolBadNodes : Option Bool} {xddBadNodes : Option Addr} {xk0BadNodes xk1BadNodes xk2BadNodes xk3BadNodes xk5BadNodes : Option Value} {xclBadNodes xcclBadNodes : Value} {xcldBadNodes xcddBadNodes : Option Addr} {xcslBadNodes xccsBadNodes : Array (Option Value)} {xvsBadNodes : Array Value} {xtfBadNodes : Tok} {xnmBadDeed xqnBadDeed xfileBadDeed : Str} {xNBadDeed : Addr} {xbsBadDeed xbmBadDeed xsubBadDeed : List Value} {xsnBadDeed : List Str} {xabBadDeed : Bool} {xcolBadDeed : Option Bool} {xddBadDeed : Option Addr} {xk0BadDeed xk1BadDeed xk2BadDeed xk3BadDeed xk5BadDeed : Option Value} {xclBadDeed xcclBadDeed : Value} {xcldBadDeed xcddBadDeed : Option Addr} {xcslBadDeed xccsBadDeed : Array (Option Value)} {xvsBadDeed : Array Value} {xtfBadDeed : Tok} {xnmBadJournal xqnBadJournal xfileBadJournal : Str} {xNBadJournal : Addr} {xbsBadJournal xbmBadJournal xsubBadJournal : List Value} {xsnBadJournal : List Str} {xabBadJournal : Bool} {xcolBadJournal : Option Bool} {xddBadJournal : Option Addr} {xk0BadJournal xk1BadJournal xk2BadJournal xk3BadJournal xk5BadJournal : Option Value} {xclBadJournal xcclBadJournal : Value} {xcldBadJournal xcddBadJournal : Option Addr} {xcslBadJournal xccsBadJournal : Array (Option Value)} {xvsBadJournal : Array Value} {xtfBadJournal : Tok} {xnmBadText xqnBadText xfileBadText : Str} {xNBadText : Addr} {xbsBadText xbmBadText xsubBadText : List Value} {xsnBadText : List Str} {xabBadText : Bool} {xcolBadText : Option Bool} {xddBadText : Option Addr} {xk0BadText xk1BadText xk2BadText xk3BadText xk5BadText : Option Value} {xclBadText xcclBadText : Value} {xcldBadText xcddBadText : Option Addr} {xcslBadText xccsBadText : Array (Option Value)} {xvsBadText : Array Value} {xtfBadText : Tok} (X : K.In h) (G : h.Ns mainGlobals mg) (hfa : mg "law" = some (.ref fa))
    (a0 : PySem.W.nsIn K mainGlobals "_law_state" = some (some (.ref f0)))
    (l0 : K.lookup f0 = some ⟨oc0, od0, .func (PySem.W.fnOf "_law_state" "_law_state" (defArgs s__law_state) (defBody s__law_state) (defScope s__law_state) .none kV0 dc0 pm0 an0 cd0 ct0), sl0⟩)
    (c0 : PySem.W.codeIn K cd0 "_law_state" = true)
    (k0 : PySem.W.keepIn K (.ref f0) = true)
    (a1 : PySem.W.nsIn K mainGlobals "_law_draw" = some (some (.ref f1)))
    (l1 : K.lookup f1 = some ⟨oc1, od1, .func (PySem.W.fnOf "_law_draw" "_law_draw" (defArgs s__law_draw) (defBody s__law_draw) (defScope s__law_draw) .none kV1 dc1 pm1 an1 cd1 ct1), sl1⟩)
    (c1 : PySem.W.codeIn K cd1 "_law_draw" = true)
    (k1 : PySem.W.keepIn K (.ref f1) = true)
    (a2 : PySem.W.nsIn K mainGlobals "_law_pick" = some (some (.ref f2)))
    (l2 : K.lookup f2 = some ⟨oc2, od2, .func (PySem.W.fnOf "_law_pick" "_law_pick" (defArgs s__law_pick) (defBody s__law_pick) (defScope s__law_pick) .none kV2 dc2 pm2 an2 cd2 ct2), sl2⟩)
    (c2 : PySem.W.codeIn K cd2 "_law_pick" = true)
    (k2 : PySem.W.keepIn K (.ref f2) = true)
    (a3 : PySem.W.nsIn K mainGlobals "_law_marks" = some (some (.ref f3)))
    (l3 : K.lookup f3 = some ⟨oc3, od3, .func (PySem.W.fnOf "_law_marks" "_law_marks" (defArgs s__law_marks) (defBody s__law_marks) (defScope s__law_marks) .none kV3 dc3 pm3 an3 cd3 ct3), sl3⟩)
    (c3 : PySem.W.codeIn K cd3 "_law_marks" = true)
    (k3 : PySem.W.keepIn K (.ref f3) = true)
    (a4 : PySem.W.nsIn K mainGlobals "_law_pairs" = some (some (.ref f4)))
    (l4 : K.lookup f4 = some ⟨oc4, od4, .func (PySem.W.fnOf "_law_pairs" "_law_pairs" (defArgs s__law_pairs) (defBody s__law_pairs) (defScope s__law_pairs) .none kV4 dc4 pm4 an4 cd4 ct4), sl4⟩)
    (c4 : PySem.W.codeIn K cd4 "_law_pairs" = true)
    (k4 : PySem.W.keepIn K (.ref f4) = true)
    (a5 : PySem.W.nsIn K mainGlobals "_law_held" = some (some (.ref f5)))
    (l5 : K.lookup f5 = some ⟨oc5, od5, .func (PySem.W.fnOf "_law_held" "_law_held" (defArgs s__law_held) (defBody s__law_held) (defScope s__law_held) .none kV5 dc5 pm5 an5 cd5 ct5), sl5⟩)
    (c5 : PySem.W.codeIn K cd5 "_law_held" = true)
    (k5 : PySem.W.keepIn K (.ref f5) = true)
    (a6 : PySem.W.nsIn K mainGlobals "_law_caught" = some (some (.ref f6)))
    (l6 : K.lookup f6 = some ⟨oc6, od6, .func (PySem.W.fnOf "_law_caught" "_law_caught" (defArgs s__law_caught) (defBody s__law_caught) (defScope s__law_caught) .none kV6 dc6 pm6 an6 cd6 ct6), sl6⟩)
    (c6 : PySem.W.codeIn K cd6 "_law_caught" = true)
    (k6 : PySem.W.keepIn K (.ref f6) = true)
    (a7 : PySem.W.nsIn K mainGlobals "law" = some (some (.ref f7)))
    (l7 : K.lookup f7 = some ⟨oc7, od7, .func (PySem.W.fnOf "law" "law" (defArgs s_law) (defBody s_law) (defScope s_law) .none kV7 dc7 pm7 an7 cd7 ct7), sl7⟩)
    (c7 : PySem.W.codeIn K cd7 "law" = true)
    (k7 : PySem.W.keepIn K (.ref f7) = true)
    (zValueError : PySem.W.nsIn K mainGlobals "ValueError" = some none)
    (zabs : PySem.W.nsIn K mainGlobals "abs" = some none)
    (zenumerate : PySem.W.nsIn K mainGlobals "enumerate" = some none)
    (zint : PySem.W.nsIn K mainGlobals "int" = some none)
    (zisinstance : PySem.W.nsIn K mainGlobals "isinstance" = some none)
    (zlen : PySem.W.nsIn K mainGlobals "len" = some none)
    (zmin : PySem.W.nsIn K mainGlobals "min" = some none)
    (zrange : PySem.W.nsIn K mainGlobals "range" = some none)
    (zrepr : PySem.W.nsIn K mainGlobals "repr" = some none)
    (aXBadWorld : PySem.W.nsIn K mainGlobals "BadWorld" = some (some (.ref C_BadWorld)))
    (aXBadNode : PySem.W.nsIn K mainGlobals "BadNode" = some (some (.ref C_BadNode)))
    (aXBadMove : PySem.W.nsIn K mainGlobals "BadMove" = some (some (.ref C_BadMove)))
    (aXBadEntry : PySem.W.nsIn K mainGlobals "BadEntry" = some (some (.ref C_BadEntry)))
    (aXBadState : PySem.W.nsIn K mainGlobals "BadState" = some (some (.ref C_BadState)))
    (aXBadNodes : PySem.W.nsIn K mainGlobals "BadNodes" = some (some (.ref C_BadNodes)))
    (aXTooMany : PySem.W.nsIn K mainGlobals "TooMany" = some (some (.ref C_TooMany)))
    (aXBadDeed : PySem.W.nsIn K mainGlobals "BadDeed" = some (some (.ref C_BadDeed)))
    (aXBadJournal : PySem.W.nsIn K mainGlobals "BadJournal" = some (some (.ref C_BadJournal)))
    (aXBadText : PySem.W.nsIn K mainGlobals "BadText" = some (some (.ref C_BadText)))
    (aXViewError : PySem.W.nsIn K mainGlobals "ViewError" = some (some (.ref C_ViewError)))
    (xhn : PySem.W.specialIn K (.builtin "object.__class__") "__get__" = some (some (.builtin "getset_descriptor.__get__")))
    (xht : PySem.W.takesIn K (.builtin "object.__class__") = some true)
    (xhgBadWorld : PySem.W.findIn K (.ref C_BadWorld) "__getattribute__" = some (some (.builtin "BaseException.__getattribute__")))
    (xhkBadWorld : PySem.W.findIn K (.ref C_BadWorld) "__getattr__" = some none)
    (xhsBadWorld : PySem.W.subIn K (.ref C_BadWorld) (.type "BaseException") = some true)
    (xhdBadWorld : PySem.W.hasDictIn K C_BadWorld = true)
    (xhaBadWorld : PySem.W.findIn K (.ref C_BadWorld) "__class__" = some (some (.builtin "object.__class__")))
    (xhmBadWorld : PySem.W.mroIn K C_BadWorld (.type "object") = some true)
    (kxBadWorldBadWorld : PySem.W.kitOne K (.ref C_BadWorld) (.ref C_BadWorld) = some true)
    (kxBadWorldBadNode : PySem.W.kitOne K (.ref C_BadWorld) (.ref C_BadNode) = some false)
    (kxBadWorldBadMove : PySem.W.kitOne K (.ref C_BadWorld) (.ref C_BadMove) = some false)
    (kxBadWorldBadEntry : PySem.W.kitOne K (.ref C_BadWorld) (.ref C_BadEntry) = some false)
    (kxBadWorldBadState : PySem.W.kitOne K (.ref C_BadWorld) (.ref C_BadState) = some false)
    (kxBadWorldBadNodes : PySem.W.kitOne K (.ref C_BadWorld) (.ref C_BadNodes) = some false)
    (kxBadWorldTooMany : PySem.W.kitOne K (.ref C_BadWorld) (.ref C_TooMany) = some false)
    (kxBadWorldBadDeed : PySem.W.kitOne K (.ref C_BadWorld) (.ref C_BadDeed) = some false)
    (kxBadWorldBadJournal : PySem.W.kitOne K (.ref C_BadWorld) (.ref C_BadJournal) = some false)
    (kxBadWorldBadText : PySem.W.kitOne K (.ref C_BadWorld) (.ref C_BadText) = some false)
    (kxBadWorldViewError : PySem.W.kitOne K (.ref C_BadWorld) (.ref C_ViewError) = some true)
    (kxBadWorldValueError : PySem.W.kitOne K (.ref C_BadWorld) (.type "ValueError") = some true)
    (xhgBadNode : PySem.W.findIn K (.ref C_BadNode) "__getattribute__" = some (some (.builtin "BaseException.__getattribute__")))
    (xhkBadNode : PySem.W.findIn K (.ref C_BadNode) "__getattr__" = some none)
    (xhsBadNode : PySem.W.subIn K (.ref C_BadNode) (.type "BaseException") = some true)
    (xhdBadNode : PySem.W.hasDictIn K C_BadNode = true)
    (xhaBadNode : PySem.W.findIn K (.ref C_BadNode) "__class__" = some (some (.builtin "object.__class__")))
    (xhmBadNode : PySem.W.mroIn K C_BadNode (.type "object") = some true)
    (kxBadNodeBadWorld : PySem.W.kitOne K (.ref C_BadNode) (.ref C_BadWorld) = some false)
    (kxBadNodeBadNode : PySem.W.kitOne K (.ref C_BadNode) (.ref C_BadNode) = some true)
    (kxBadNodeBadMove : PySem.W.kitOne K (.ref C_BadNode) (.ref C_BadMove) = some false)
    (kxBadNodeBadEntry : PySem.W.kitOne K (.ref C_BadNode) (.ref C_BadEntry) = some false)
    (kxBadNodeBadState : PySem.W.kitOne K (.ref C_BadNode) (.ref C_BadState) = some false)
    (kxBadNodeBadNodes : PySem.W.kitOne K (.ref C_BadNode) (.ref C_BadNodes) = some false)
    (kxBadNodeTooMany : PySem.W.kitOne K (.ref C_BadNode) (.ref C_TooMany) = some false)
    (kxBadNodeBadDeed : PySem.W.kitOne K (.ref C_BadNode) (.ref C_BadDeed) = some false)
    (kxBadNodeBadJournal : PySem.W.kitOne K (.ref C_BadNode) (.ref C_BadJournal) = some false)
    (kxBadNodeBadText : PySem.W.kitOne K (.ref C_BadNode) (.ref C_BadText) = some false)
    (kxBadNodeViewError : PySem.W.kitOne K (.ref C_BadNode) (.ref C_ViewError) = some true)
    (kxBadNodeValueError : PySem.W.kitOne K (.ref C_BadNode) (.type "ValueError") = some true)
    (xhgBadMove : PySem.W.findIn K (.ref C_BadMove) "__getattribute__" = some (some (.builtin "BaseException.__getattribute__")))
    (xhkBadMove : PySem.W.findIn K (.ref C_BadMove) "__getattr__" = some none)
    (xhsBadMove : PySem.W.subIn K (.ref C_BadMove) (.type "BaseException") = some true)
    (xhdBadMove : PySem.W.hasDictIn K C_BadMove = true)
    (xhaBadMove : PySem.W.findIn K (.ref C_BadMove) "__class__" = some (some (.builtin "object.__class__")))
    (xhmBadMove : PySem.W.mroIn K C_BadMove (.type "object") = some true)
    (kxBadMoveBadWorld : PySem.W.kitOne K (.ref C_BadMove) (.ref C_BadWorld) = some false)
    (kxBadMoveBadNode : PySem.W.kitOne K (.ref C_BadMove) (.ref C_BadNode) = some false)
    (kxBadMoveBadMove : PySem.W.kitOne K (.ref C_BadMove) (.ref C_BadMove) = some true)
    (kxBadMoveBadEntry : PySem.W.kitOne K (.ref C_BadMove) (.ref C_BadEntry) = some false)
    (kxBadMoveBadState : PySem.W.kitOne K (.ref C_BadMove) (.ref C_BadState) = some false)
    (kxBadMoveBadNodes : PySem.W.kitOne K (.ref C_BadMove) (.ref C_BadNodes) = some false)
    (kxBadMoveTooMany : PySem.W.kitOne K (.ref C_BadMove) (.ref C_TooMany) = some false)
    (kxBadMoveBadDeed : PySem.W.kitOne K (.ref C_BadMove) (.ref C_BadDeed) = some false)
    (kxBadMoveBadJournal : PySem.W.kitOne K (.ref C_BadMove) (.ref C_BadJournal) = some false)
    (kxBadMoveBadText : PySem.W.kitOne K (.ref C_BadMove) (.ref C_BadText) = some false)
    (kxBadMoveViewError : PySem.W.kitOne K (.ref C_BadMove) (.ref C_ViewError) = some true)
    (kxBadMoveValueError : PySem.W.kitOne K (.ref C_BadMove) (.type "ValueError") = some true)
    (xhgBadEntry : PySem.W.findIn K (.ref C_BadEntry) "__getattribute__" = some (some (.builtin "BaseException.__getattribute__")))
    (xhkBadEntry : PySem.W.findIn K (.ref C_BadEntry) "__getattr__" = some none)
    (xhsBadEntry : PySem.W.subIn K (.ref C_BadEntry) (.type "BaseException") = some true)
    (xhdBadEntry : PySem.W.hasDictIn K C_BadEntry = true)
    (xhaBadEntry : PySem.W.findIn K (.ref C_BadEntry) "__class__" = some (some (.builtin "object.__class__")))
    (xhmBadEntry : PySem.W.mroIn K C_BadEntry (.type "object") = some true)
    (kxBadEntryBadWorld : PySem.W.kitOne K (.ref C_BadEntry) (.ref C_BadWorld) = some false)
    (kxBadEntryBadNode : PySem.W.kitOne K (.ref C_BadEntry) (.ref C_BadNode) = some false)
    (kxBadEntryBadMove : PySem.W.kitOne K (.ref C_BadEntry) (.ref C_BadMove) = some false)
    (kxBadEntryBadEntry : PySem.W.kitOne K (.ref C_BadEntry) (.ref C_BadEntry) = some true)
    (kxBadEntryBadState : PySem.W.kitOne K (.ref C_BadEntry) (.ref C_BadState) = some false)
    (kxBadEntryBadNodes : PySem.W.kitOne K (.ref C_BadEntry) (.ref C_BadNodes) = some false)
    (kxBadEntryTooMany : PySem.W.kitOne K (.ref C_BadEntry) (.ref C_TooMany) = some false)
    (kxBadEntryBadDeed : PySem.W.kitOne K (.ref C_BadEntry) (.ref C_BadDeed) = some false)
    (kxBadEntryBadJournal : PySem.W.kitOne K (.ref C_BadEntry) (.ref C_BadJournal) = some false)
    (kxBadEntryBadText : PySem.W.kitOne K (.ref C_BadEntry) (.ref C_BadText) = some false)
    (kxBadEntryViewError : PySem.W.kitOne K (.ref C_BadEntry) (.ref C_ViewError) = some true)
    (kxBadEntryValueError : PySem.W.kitOne K (.ref C_BadEntry) (.type "ValueError") = some true)
    (xhgBadState : PySem.W.findIn K (.ref C_BadState) "__getattribute__" = some (some (.builtin "BaseException.__getattribute__")))
    (xhkBadState : PySem.W.findIn K (.ref C_BadState) "__getattr__" = some none)
    (xhsBadState : PySem.W.subIn K (.ref C_BadState) (.type "BaseException") = some true)
    (xhdBadState : PySem.W.hasDictIn K C_BadState = true)
    (xhaBadState : PySem.W.findIn K (.ref C_BadState) "__class__" = some (some (.builtin "object.__class__")))
    (xhmBadState : PySem.W.mroIn K C_BadState (.type "object") = some true)
    (kxBadStateBadWorld : PySem.W.kitOne K (.ref C_BadState) (.ref C_BadWorld) = some false)
    (kxBadStateBadNode : PySem.W.kitOne K (.ref C_BadState) (.ref C_BadNode) = some false)
    (kxBadStateBadMove : PySem.W.kitOne K (.ref C_BadState) (.ref C_BadMove) = some false)
    (kxBadStateBadEntry : PySem.W.kitOne K (.ref C_BadState) (.ref C_BadEntry) = some false)
    (kxBadStateBadState : PySem.W.kitOne K (.ref C_BadState) (.ref C_BadState) = some true)
    (kxBadStateBadNodes : PySem.W.kitOne K (.ref C_BadState) (.ref C_BadNodes) = some false)
    (kxBadStateTooMany : PySem.W.kitOne K (.ref C_BadState) (.ref C_TooMany) = some false)
    (kxBadStateBadDeed : PySem.W.kitOne K (.ref C_BadState) (.ref C_BadDeed) = some false)
    (kxBadStateBadJournal : PySem.W.kitOne K (.ref C_BadState) (.ref C_BadJournal) = some false)
    (kxBadStateBadText : PySem.W.kitOne K (.ref C_BadState) (.ref C_BadText) = some false)
    (kxBadStateViewError : PySem.W.kitOne K (.ref C_BadState) (.ref C_ViewError) = some true)
    (kxBadStateValueError : PySem.W.kitOne K (.ref C_BadState) (.type "ValueError") = some true)
    (xhgBadNodes : PySem.W.findIn K (.ref C_BadNodes) "__getattribute__" = some (some (.builtin "BaseException.__getattribute__")))
    (xhkBadNodes : PySem.W.findIn K (.ref C_BadNodes) "__getattr__" = some none)
    (xhsBadNodes : PySem.W.subIn K (.ref C_BadNodes) (.type "BaseException") = some true)
    (xhdBadNodes : PySem.W.hasDictIn K C_BadNodes = true)
    (xhaBadNodes : PySem.W.findIn K (.ref C_BadNodes) "__class__" = some (some (.builtin "object.__class__")))
    (xhmBadNodes : PySem.W.mroIn K C_BadNodes (.type "object") = some true)
    (kxBadNodesBadWorld : PySem.W.kitOne K (.ref C_BadNodes) (.ref C_BadWorld) = some false)
    (kxBadNodesBadNode : PySem.W.kitOne K (.ref C_BadNodes) (.ref C_BadNode) = some false)
    (kxBadNodesBadMove : PySem.W.kitOne K (.ref C_BadNodes) (.ref C_BadMove) = some false)
    (kxBadNodesBadEntry : PySem.W.kitOne K (.ref C_BadNodes) (.ref C_BadEntry) = some false)
    (kxBadNodesBadState : PySem.W.kitOne K (.ref C_BadNodes) (.ref C_BadState) = some false)
    (kxBadNodesBadNodes : PySem.W.kitOne K (.ref C_BadNodes) (.ref C_BadNodes) = some true)
    (kxBadNodesTooMany : PySem.W.kitOne K (.ref C_BadNodes) (.ref C_TooMany) = some false)
    (kxBadNodesBadDeed : PySem.W.kitOne K (.ref C_BadNodes) (.ref C_BadDeed) = some false)
    (kxBadNodesBadJournal : PySem.W.kitOne K (.ref C_BadNodes) (.ref C_BadJournal) = some false)
    (kxBadNodesBadText : PySem.W.kitOne K (.ref C_BadNodes) (.ref C_BadText) = some false)
    (kxBadNodesViewError : PySem.W.kitOne K (.ref C_BadNodes) (.ref C_ViewError) = some true)
    (kxBadNodesValueError : PySem.W.kitOne K (.ref C_BadNodes) (.type "ValueError") = some true)
    (xhgTooMany : PySem.W.findIn K (.ref C_TooMany) "__getattribute__" = some (some (.builtin "BaseException.__getattribute__")))
    (xhkTooMany : PySem.W.findIn K (.ref C_TooMany) "__getattr__" = some none)
    (xhsTooMany : PySem.W.subIn K (.ref C_TooMany) (.type "BaseException") = some true)
    (xhdTooMany : PySem.W.hasDictIn K C_TooMany = true)
    (xhaTooMany : PySem.W.findIn K (.ref C_TooMany) "__class__" = some (some (.builtin "object.__class__")))
    (xhmTooMany : PySem.W.mroIn K C_TooMany (.type "object") = some true)
    (kxTooManyBadWorld : PySem.W.kitOne K (.ref C_TooMany) (.ref C_BadWorld) = some false)
    (kxTooManyBadNode : PySem.W.kitOne K (.ref C_TooMany) (.ref C_BadNode) = some false)
    (kxTooManyBadMove : PySem.W.kitOne K (.ref C_TooMany) (.ref C_BadMove) = some false)
    (kxTooManyBadEntry : PySem.W.kitOne K (.ref C_TooMany) (.ref C_BadEntry) = some false)
    (kxTooManyBadState : PySem.W.kitOne K (.ref C_TooMany) (.ref C_BadState) = some false)
    (kxTooManyBadNodes : PySem.W.kitOne K (.ref C_TooMany) (.ref C_BadNodes) = some false)
    (kxTooManyTooMany : PySem.W.kitOne K (.ref C_TooMany) (.ref C_TooMany) = some true)
    (kxTooManyBadDeed : PySem.W.kitOne K (.ref C_TooMany) (.ref C_BadDeed) = some false)
    (kxTooManyBadJournal : PySem.W.kitOne K (.ref C_TooMany) (.ref C_BadJournal) = some false)
    (kxTooManyBadText : PySem.W.kitOne K (.ref C_TooMany) (.ref C_BadText) = some false)
    (kxTooManyViewError : PySem.W.kitOne K (.ref C_TooMany) (.ref C_ViewError) = some true)
    (kxTooManyValueError : PySem.W.kitOne K (.ref C_TooMany) (.type "ValueError") = some true)
    (xhgBadDeed : PySem.W.findIn K (.ref C_BadDeed) "__getattribute__" = some (some (.builtin "BaseException.__getattribute__")))
    (xhkBadDeed : PySem.W.findIn K (.ref C_BadDeed) "__getattr__" = some none)
    (xhsBadDeed : PySem.W.subIn K (.ref C_BadDeed) (.type "BaseException") = some true)
    (xhdBadDeed : PySem.W.hasDictIn K C_BadDeed = true)
    (xhaBadDeed : PySem.W.findIn K (.ref C_BadDeed) "__class__" = some (some (.builtin "object.__class__")))
    (xhmBadDeed : PySem.W.mroIn K C_BadDeed (.type "object") = some true)
    (kxBadDeedBadWorld : PySem.W.kitOne K (.ref C_BadDeed) (.ref C_BadWorld) = some false)
    (kxBadDeedBadNode : PySem.W.kitOne K (.ref C_BadDeed) (.ref C_BadNode) = some false)
    (kxBadDeedBadMove : PySem.W.kitOne K (.ref C_BadDeed) (.ref C_BadMove) = some false)
    (kxBadDeedBadEntry : PySem.W.kitOne K (.ref C_BadDeed) (.ref C_BadEntry) = some false)
    (kxBadDeedBadState : PySem.W.kitOne K (.ref C_BadDeed) (.ref C_BadState) = some false)
    (kxBadDeedBadNodes : PySem.W.kitOne K (.ref C_BadDeed) (.ref C_BadNodes) = some false)
    (kxBadDeedTooMany : PySem.W.kitOne K (.ref C_BadDeed) (.ref C_TooMany) = some false)
    (kxBadDeedBadDeed : PySem.W.kitOne K (.ref C_BadDeed) (.ref C_BadDeed) = some true)
    (kxBadDeedBadJournal : PySem.W.kitOne K (.ref C_BadDeed) (.ref C_BadJournal) = some false)
    (kxBadDeedBadText : PySem.W.kitOne K (.ref C_BadDeed) (.ref C_BadText) = some false)
    (kxBadDeedViewError : PySem.W.kitOne K (.ref C_BadDeed) (.ref C_ViewError) = some true)
    (kxBadDeedValueError : PySem.W.kitOne K (.ref C_BadDeed) (.type "ValueError") = some true)
    (xhgBadJournal : PySem.W.findIn K (.ref C_BadJournal) "__getattribute__" = some (some (.builtin "BaseException.__getattribute__")))
    (xhkBadJournal : PySem.W.findIn K (.ref C_BadJournal) "__getattr__" = some none)
    (xhsBadJournal : PySem.W.subIn K (.ref C_BadJournal) (.type "BaseException") = some true)
    (xhdBadJournal : PySem.W.hasDictIn K C_BadJournal = true)
    (xhaBadJournal : PySem.W.findIn K (.ref C_BadJournal) "__class__" = some (some (.builtin "object.__class__")))
    (xhmBadJournal : PySem.W.mroIn K C_BadJournal (.type "object") = some true)
    (kxBadJournalBadWorld : PySem.W.kitOne K (.ref C_BadJournal) (.ref C_BadWorld) = some false)
    (kxBadJournalBadNode : PySem.W.kitOne K (.ref C_BadJournal) (.ref C_BadNode) = some false)
    (kxBadJournalBadMove : PySem.W.kitOne K (.ref C_BadJournal) (.ref C_BadMove) = some false)
    (kxBadJournalBadEntry : PySem.W.kitOne K (.ref C_BadJournal) (.ref C_BadEntry) = some false)
    (kxBadJournalBadState : PySem.W.kitOne K (.ref C_BadJournal) (.ref C_BadState) = some false)
    (kxBadJournalBadNodes : PySem.W.kitOne K (.ref C_BadJournal) (.ref C_BadNodes) = some false)
    (kxBadJournalTooMany : PySem.W.kitOne K (.ref C_BadJournal) (.ref C_TooMany) = some false)
    (kxBadJournalBadDeed : PySem.W.kitOne K (.ref C_BadJournal) (.ref C_BadDeed) = some false)
    (kxBadJournalBadJournal : PySem.W.kitOne K (.ref C_BadJournal) (.ref C_BadJournal) = some true)
    (kxBadJournalBadText : PySem.W.kitOne K (.ref C_BadJournal) (.ref C_BadText) = some false)
    (kxBadJournalViewError : PySem.W.kitOne K (.ref C_BadJournal) (.ref C_ViewError) = some true)
    (kxBadJournalValueError : PySem.W.kitOne K (.ref C_BadJournal) (.type "ValueError") = some true)
    (xhgBadText : PySem.W.findIn K (.ref C_BadText) "__getattribute__" = some (some (.builtin "BaseException.__getattribute__")))
    (xhkBadText : PySem.W.findIn K (.ref C_BadText) "__getattr__" = some none)
    (xhsBadText : PySem.W.subIn K (.ref C_BadText) (.type "BaseException") = some true)
    (xhdBadText : PySem.W.hasDictIn K C_BadText = true)
    (xhaBadText : PySem.W.findIn K (.ref C_BadText) "__class__" = some (some (.builtin "object.__class__")))
    (xhmBadText : PySem.W.mroIn K C_BadText (.type "object") = some true)
    (kxBadTextBadWorld : PySem.W.kitOne K (.ref C_BadText) (.ref C_BadWorld) = some false)
    (kxBadTextBadNode : PySem.W.kitOne K (.ref C_BadText) (.ref C_BadNode) = some false)
    (kxBadTextBadMove : PySem.W.kitOne K (.ref C_BadText) (.ref C_BadMove) = some false)
    (kxBadTextBadEntry : PySem.W.kitOne K (.ref C_BadText) (.ref C_BadEntry) = some false)
    (kxBadTextBadState : PySem.W.kitOne K (.ref C_BadText) (.ref C_BadState) = some false)
    (kxBadTextBadNodes : PySem.W.kitOne K (.ref C_BadText) (.ref C_BadNodes) = some false)
    (kxBadTextTooMany : PySem.W.kitOne K (.ref C_BadText) (.ref C_TooMany) = some false)
    (kxBadTextBadDeed : PySem.W.kitOne K (.ref C_BadText) (.ref C_BadDeed) = some false)
    (kxBadTextBadJournal : PySem.W.kitOne K (.ref C_BadText) (.ref C_BadJournal) = some false)
    (kxBadTextBadText : PySem.W.kitOne K (.ref C_BadText) (.ref C_BadText) = some true)
    (kxBadTextViewError : PySem.W.kitOne K (.ref C_BadText) (.ref C_ViewError) = some true)
    (kxBadTextValueError : PySem.W.kitOne K (.ref C_BadText) (.type "ValueError") = some true)
    (xeMM : PySem.W.exmOne K (.ref C_BadMove) (.ref C_BadMove) = some true)
    (xeTV : PySem.W.exmOne K (.ref C_TooMany) (.ref C_ViewError) = some true)
    (xnoBadWorld : PySem.W.findIn K (.ref C_BadWorld) "part" = some none)
    (xlBadWorld : K.lookup C_BadWorld = some (PySem.excClassObj xnmBadWorld xqnBadWorld C_BadWorld xNBadWorld xbsBadWorld xbmBadWorld true xsnBadWorld xsubBadWorld xabBadWorld xcolBadWorld xddBadWorld xk0BadWorld xk1BadWorld xk2BadWorld xk3BadWorld xk5BadWorld "ValueError.__new__"))
    (xrBadWorld : PySem.HandSPX.refsVE xbmBadWorld = true)
    (xsaBadWorld : PySem.W.findIn K (.ref C_BadWorld) "__setattr__" = some (some (.builtin "object.__setattr__")))
    (xtyBadWorld : PySem.W.typeIn K (.ref C_BadWorld) = some (.type "type"))
    (xkBadWorld : PySem.W.keepIn K (.ref C_BadWorld) = true)
    (xiBadWorld : PySem.W.findIn K (.ref C_BadWorld) "__init__" = some (some (.ref xf_BadWorld)))
    (xitBadWorld : PySem.W.typeIn K (.ref xf_BadWorld) = some (.type "function"))
    (xlfBadWorld : K.lookup xf_BadWorld = some ⟨xocBadWorld, xodBadWorld, .func (PySem.W.ksFn "__init__" "BadWorld.__init__" (defArgs s_BadWorld_init) (defBody s_BadWorld_init) (defScope s_BadWorld_init) .none xkVBadWorld xdcBadWorld xpmBadWorld xanBadWorld (.ref xd_BadWorld) xctBadWorld xc_BadWorld), xslBadWorld⟩)
    (xcdBadWorld : PySem.W.codeIn K (.ref xd_BadWorld) "BadWorld.__init__" = true)
    (xcellBadWorld : K.lookup xc_BadWorld = some ⟨xclBadWorld, xcldBadWorld, .cell (some (.ref C_BadWorld)), xcslBadWorld⟩)
    (xcodeBadWorld : K.lookup xd_BadWorld = some ⟨xcclBadWorld, xcddBadWorld, .fields xvsBadWorld, xccsBadWorld⟩)
    (xcovBadWorld : (xvsBadWorld[2]? : Option Value) = some (.str xfileBadWorld xtfBadWorld))
    (xcofBadWorld : ((PP.main.file : Str) == xfileBadWorld) = true)
    (xsuBadWorld : PySem.W.ks_superIn K C_BadWorld C_BadWorld "__init__" = some (some (.builtin "ValueError.__init__")))
    (xmrBadWorld : PySem.W.mroIn K C_BadWorld (.ref C_BadWorld) = some true)
    (xsvBadWorld : PySem.W.subIn K (.ref C_BadWorld) (.type "ValueError") = some true)
    (xopBadWorld : PySem.W.nsIn K cStatics "thirdparty.any" = some none)
    (xnwBadWorld : PySem.W.excInitIn K C_BadWorld [.type "ValueError", .type "Exception", .type "BaseException", .type "object"] "ValueError.__new__" = true)
    (xspBadWorld : PySem.W.nsIn K mainGlobals "super" = some none)
    (xnoBadNode : PySem.W.findIn K (.ref C_BadNode) "index" = some none)
    (xlBadNode : K.lookup C_BadNode = some (PySem.excClassObj xnmBadNode xqnBadNode C_BadNode xNBadNode xbsBadNode xbmBadNode true xsnBadNode xsubBadNode xabBadNode xcolBadNode xddBadNode xk0BadNode xk1BadNode xk2BadNode xk3BadNode xk5BadNode "ValueError.__new__"))
    (xrBadNode : PySem.HandSPX.refsVE xbmBadNode = true)
    (xsaBadNode : PySem.W.findIn K (.ref C_BadNode) "__setattr__" = some (some (.builtin "object.__setattr__")))
    (xtyBadNode : PySem.W.typeIn K (.ref C_BadNode) = some (.type "type"))
    (xkBadNode : PySem.W.keepIn K (.ref C_BadNode) = true)
    (xiBadNode : PySem.W.findIn K (.ref C_BadNode) "__init__" = some (some (.ref xf_BadNode)))
    (xitBadNode : PySem.W.typeIn K (.ref xf_BadNode) = some (.type "function"))
    (xlfBadNode : K.lookup xf_BadNode = some ⟨xocBadNode, xodBadNode, .func (PySem.W.ksFn "__init__" "BadNode.__init__" (defArgs s_BadNode_init) (defBody s_BadNode_init) (defScope s_BadNode_init) .none xkVBadNode xdcBadNode xpmBadNode xanBadNode (.ref xd_BadNode) xctBadNode xc_BadNode), xslBadNode⟩)
    (xcdBadNode : PySem.W.codeIn K (.ref xd_BadNode) "BadNode.__init__" = true)
    (xcellBadNode : K.lookup xc_BadNode = some ⟨xclBadNode, xcldBadNode, .cell (some (.ref C_BadNode)), xcslBadNode⟩)
    (xcodeBadNode : K.lookup xd_BadNode = some ⟨xcclBadNode, xcddBadNode, .fields xvsBadNode, xccsBadNode⟩)
    (xcovBadNode : (xvsBadNode[2]? : Option Value) = some (.str xfileBadNode xtfBadNode))
    (xcofBadNode : ((PP.main.file : Str) == xfileBadNode) = true)
    (xsuBadNode : PySem.W.ks_superIn K C_BadNode C_BadNode "__init__" = some (some (.builtin "ValueError.__init__")))
    (xmrBadNode : PySem.W.mroIn K C_BadNode (.ref C_BadNode) = some true)
    (xsvBadNode : PySem.W.subIn K (.ref C_BadNode) (.type "ValueError") = some true)
    (xopBadNode : PySem.W.nsIn K cStatics "thirdparty.any" = some none)
    (xnwBadNode : PySem.W.excInitIn K C_BadNode [.type "ValueError", .type "Exception", .type "BaseException", .type "object"] "ValueError.__new__" = true)
    (xspBadNode : PySem.W.nsIn K mainGlobals "super" = some none)
    (xnoBadMove : PySem.W.findIn K (.ref C_BadMove) "at" = some none)
    (xlBadMove : K.lookup C_BadMove = some (PySem.excClassObj xnmBadMove xqnBadMove C_BadMove xNBadMove xbsBadMove xbmBadMove true xsnBadMove xsubBadMove xabBadMove xcolBadMove xddBadMove xk0BadMove xk1BadMove xk2BadMove xk3BadMove xk5BadMove "ValueError.__new__"))
    (xrBadMove : PySem.HandSPX.refsVE xbmBadMove = true)
    (xsaBadMove : PySem.W.findIn K (.ref C_BadMove) "__setattr__" = some (some (.builtin "object.__setattr__")))
    (xtyBadMove : PySem.W.typeIn K (.ref C_BadMove) = some (.type "type"))
    (xkBadMove : PySem.W.keepIn K (.ref C_BadMove) = true)
    (xiBadMove : PySem.W.findIn K (.ref C_BadMove) "__init__" = some (some (.ref xf_BadMove)))
    (xitBadMove : PySem.W.typeIn K (.ref xf_BadMove) = some (.type "function"))
    (xlfBadMove : K.lookup xf_BadMove = some ⟨xocBadMove, xodBadMove, .func (PySem.W.ksFn "__init__" "BadMove.__init__" (defArgs s_BadMove_init) (defBody s_BadMove_init) (defScope s_BadMove_init) .none xkVBadMove xdcBadMove xpmBadMove xanBadMove (.ref xd_BadMove) xctBadMove xc_BadMove), xslBadMove⟩)
    (xcdBadMove : PySem.W.codeIn K (.ref xd_BadMove) "BadMove.__init__" = true)
    (xcellBadMove : K.lookup xc_BadMove = some ⟨xclBadMove, xcldBadMove, .cell (some (.ref C_BadMove)), xcslBadMove⟩)
    (xcodeBadMove : K.lookup xd_BadMove = some ⟨xcclBadMove, xcddBadMove, .fields xvsBadMove, xccsBadMove⟩)
    (xcovBadMove : (xvsBadMove[2]? : Option Value) = some (.str xfileBadMove xtfBadMove))
    (xcofBadMove : ((PP.main.file : Str) == xfileBadMove) = true)
    (xsuBadMove : PySem.W.ks_superIn K C_BadMove C_BadMove "__init__" = some (some (.builtin "ValueError.__init__")))
    (xmrBadMove : PySem.W.mroIn K C_BadMove (.ref C_BadMove) = some true)
    (xsvBadMove : PySem.W.subIn K (.ref C_BadMove) (.type "ValueError") = some true)
    (xopBadMove : PySem.W.nsIn K cStatics "thirdparty.any" = some none)
    (xnwBadMove : PySem.W.excInitIn K C_BadMove [.type "ValueError", .type "Exception", .type "BaseException", .type "object"] "ValueError.__new__" = true)
    (xspBadMove : PySem.W.nsIn K mainGlobals "super" = some none)
    (xpBadEntry : PySem.W.excIn K C_BadEntry [.type "ValueError", .type "Exception", .type "BaseException", .type "object"] "ValueError.__new__" = true)
    (xkBadEntry : PySem.W.keepIn K (.ref C_BadEntry) = true)
    (xtyBadEntry : PySem.W.typeIn K (.ref C_BadEntry) = some (.type "type"))
    (xpBadState : PySem.W.excIn K C_BadState [.type "ValueError", .type "Exception", .type "BaseException", .type "object"] "ValueError.__new__" = true)
    (xkBadState : PySem.W.keepIn K (.ref C_BadState) = true)
    (xtyBadState : PySem.W.typeIn K (.ref C_BadState) = some (.type "type"))
    (xnoBadNodes : PySem.W.findIn K (.ref C_BadNodes) "index" = some none)
    (xlBadNodes : K.lookup C_BadNodes = some (PySem.excClassObj xnmBadNodes xqnBadNodes C_BadNodes xNBadNodes xbsBadNodes xbmBadNodes true xsnBadNodes xsubBadNodes xabBadNodes xcolBadNodes xddBadNodes xk0BadNodes xk1BadNodes xk2BadNodes xk3BadNodes xk5BadNodes "ValueError.__new__"))
    (xrBadNodes : PySem.HandSPX.refsVE xbmBadNodes = true)
    (xsaBadNodes : PySem.W.findIn K (.ref C_BadNodes) "__setattr__" = some (some (.builtin "object.__setattr__")))
    (xtyBadNodes : PySem.W.typeIn K (.ref C_BadNodes) = some (.type "type"))
    (xkBadNodes : PySem.W.keepIn K (.ref C_BadNodes) = true)
    (xiBadNodes : PySem.W.findIn K (.ref C_BadNodes) "__init__" = some (some (.ref xf_BadNodes)))
    (xitBadNodes : PySem.W.typeIn K (.ref xf_BadNodes) = some (.type "function"))
    (xlfBadNodes : K.lookup xf_BadNodes = some ⟨xocBadNodes, xodBadNodes, .func (PySem.W.ksFn "__init__" "BadNodes.__init__" (defArgs s_BadNodes_init) (defBody s_BadNodes_init) (defScope s_BadNodes_init) .none xkVBadNodes xdcBadNodes xpmBadNodes xanBadNodes (.ref xd_BadNodes) xctBadNodes xc_BadNodes), xslBadNodes⟩)
    (xcdBadNodes : PySem.W.codeIn K (.ref xd_BadNodes) "BadNodes.__init__" = true)
    (xcellBadNodes : K.lookup xc_BadNodes = some ⟨xclBadNodes, xcldBadNodes, .cell (some (.ref C_BadNodes)), xcslBadNodes⟩)
    (xcodeBadNodes : K.lookup xd_BadNodes = some ⟨xcclBadNodes, xcddBadNodes, .fields xvsBadNodes, xccsBadNodes⟩)
    (xcovBadNodes : (xvsBadNodes[2]? : Option Value) = some (.str xfileBadNodes xtfBadNodes))
    (xcofBadNodes : ((PP.main.file : Str) == xfileBadNodes) = true)
    (xsuBadNodes : PySem.W.ks_superIn K C_BadNodes C_BadNodes "__init__" = some (some (.builtin "ValueError.__init__")))
    (xmrBadNodes : PySem.W.mroIn K C_BadNodes (.ref C_BadNodes) = some true)
    (xsvBadNodes : PySem.W.subIn K (.ref C_BadNodes) (.type "ValueError") = some true)
    (xopBadNodes : PySem.W.nsIn K cStatics "thirdparty.any" = some none)
    (xnwBadNodes : PySem.W.excInitIn K C_BadNodes [.type "ValueError", .type "Exception", .type "BaseException", .type "object"] "ValueError.__new__" = true)
    (xspBadNodes : PySem.W.nsIn K mainGlobals "super" = some none)
    (xpTooMany : PySem.W.excIn K C_TooMany [.type "ValueError", .type "Exception", .type "BaseException", .type "object"] "ValueError.__new__" = true)
    (xkTooMany : PySem.W.keepIn K (.ref C_TooMany) = true)
    (xtyTooMany : PySem.W.typeIn K (.ref C_TooMany) = some (.type "type"))
    (xnoBadDeed : PySem.W.findIn K (.ref C_BadDeed) "at" = some none)
    (xlBadDeed : K.lookup C_BadDeed = some (PySem.excClassObj xnmBadDeed xqnBadDeed C_BadDeed xNBadDeed xbsBadDeed xbmBadDeed true xsnBadDeed xsubBadDeed xabBadDeed xcolBadDeed xddBadDeed xk0BadDeed xk1BadDeed xk2BadDeed xk3BadDeed xk5BadDeed "ValueError.__new__"))
    (xrBadDeed : PySem.HandSPX.refsVE xbmBadDeed = true)
    (xsaBadDeed : PySem.W.findIn K (.ref C_BadDeed) "__setattr__" = some (some (.builtin "object.__setattr__")))
    (xtyBadDeed : PySem.W.typeIn K (.ref C_BadDeed) = some (.type "type"))
    (xkBadDeed : PySem.W.keepIn K (.ref C_BadDeed) = true)
    (xiBadDeed : PySem.W.findIn K (.ref C_BadDeed) "__init__" = some (some (.ref xf_BadDeed)))
    (xitBadDeed : PySem.W.typeIn K (.ref xf_BadDeed) = some (.type "function"))
    (xlfBadDeed : K.lookup xf_BadDeed = some ⟨xocBadDeed, xodBadDeed, .func (PySem.W.ksFn "__init__" "BadDeed.__init__" (defArgs s_BadDeed_init) (defBody s_BadDeed_init) (defScope s_BadDeed_init) .none xkVBadDeed xdcBadDeed xpmBadDeed xanBadDeed (.ref xd_BadDeed) xctBadDeed xc_BadDeed), xslBadDeed⟩)
    (xcdBadDeed : PySem.W.codeIn K (.ref xd_BadDeed) "BadDeed.__init__" = true)
    (xcellBadDeed : K.lookup xc_BadDeed = some ⟨xclBadDeed, xcldBadDeed, .cell (some (.ref C_BadDeed)), xcslBadDeed⟩)
    (xcodeBadDeed : K.lookup xd_BadDeed = some ⟨xcclBadDeed, xcddBadDeed, .fields xvsBadDeed, xccsBadDeed⟩)
    (xcovBadDeed : (xvsBadDeed[2]? : Option Value) = some (.str xfileBadDeed xtfBadDeed))
    (xcofBadDeed : ((PP.main.file : Str) == xfileBadDeed) = true)
    (xsuBadDeed : PySem.W.ks_superIn K C_BadDeed C_BadDeed "__init__" = some (some (.builtin "ValueError.__init__")))
    (xmrBadDeed : PySem.W.mroIn K C_BadDeed (.ref C_BadDeed) = some true)
    (xsvBadDeed : PySem.W.subIn K (.ref C_BadDeed) (.type "ValueError") = some true)
    (xopBadDeed : PySem.W.nsIn K cStatics "thirdparty.any" = some none)
    (xnwBadDeed : PySem.W.excInitIn K C_BadDeed [.type "ValueError", .type "Exception", .type "BaseException", .type "object"] "ValueError.__new__" = true)
    (xspBadDeed : PySem.W.nsIn K mainGlobals "super" = some none)
    (xnoBadJournal : PySem.W.findIn K (.ref C_BadJournal) "row" = some none)
    (xlBadJournal : K.lookup C_BadJournal = some (PySem.excClassObj xnmBadJournal xqnBadJournal C_BadJournal xNBadJournal xbsBadJournal xbmBadJournal true xsnBadJournal xsubBadJournal xabBadJournal xcolBadJournal xddBadJournal xk0BadJournal xk1BadJournal xk2BadJournal xk3BadJournal xk5BadJournal "ValueError.__new__"))
    (xrBadJournal : PySem.HandSPX.refsVE xbmBadJournal = true)
    (xsaBadJournal : PySem.W.findIn K (.ref C_BadJournal) "__setattr__" = some (some (.builtin "object.__setattr__")))
    (xtyBadJournal : PySem.W.typeIn K (.ref C_BadJournal) = some (.type "type"))
    (xkBadJournal : PySem.W.keepIn K (.ref C_BadJournal) = true)
    (xiBadJournal : PySem.W.findIn K (.ref C_BadJournal) "__init__" = some (some (.ref xf_BadJournal)))
    (xitBadJournal : PySem.W.typeIn K (.ref xf_BadJournal) = some (.type "function"))
    (xlfBadJournal : K.lookup xf_BadJournal = some ⟨xocBadJournal, xodBadJournal, .func (PySem.W.ksFn "__init__" "BadJournal.__init__" (defArgs s_BadJournal_init) (defBody s_BadJournal_init) (defScope s_BadJournal_init) .none xkVBadJournal xdcBadJournal xpmBadJournal xanBadJournal (.ref xd_BadJournal) xctBadJournal xc_BadJournal), xslBadJournal⟩)
    (xcdBadJournal : PySem.W.codeIn K (.ref xd_BadJournal) "BadJournal.__init__" = true)
    (xcellBadJournal : K.lookup xc_BadJournal = some ⟨xclBadJournal, xcldBadJournal, .cell (some (.ref C_BadJournal)), xcslBadJournal⟩)
    (xcodeBadJournal : K.lookup xd_BadJournal = some ⟨xcclBadJournal, xcddBadJournal, .fields xvsBadJournal, xccsBadJournal⟩)
    (xcovBadJournal : (xvsBadJournal[2]? : Option Value) = some (.str xfileBadJournal xtfBadJournal))
    (xcofBadJournal : ((PP.main.file : Str) == xfileBadJournal) = true)
    (xsuBadJournal : PySem.W.ks_superIn K C_BadJournal C_BadJournal "__init__" = some (some (.builtin "ValueError.__init__")))
    (xmrBadJournal : PySem.W.mroIn K C_BadJournal (.ref C_BadJournal) = some true)
    (xsvBadJournal : PySem.W.subIn K (.ref C_BadJournal) (.type "ValueError") = some true)
    (xopBadJournal : PySem.W.nsIn K cStatics "thirdparty.any" = some none)
    (xnwBadJournal : PySem.W.excInitIn K C_BadJournal [.type "ValueError", .type "Exception", .type "BaseException", .type "object"] "ValueError.__new__" = true)
    (xspBadJournal : PySem.W.nsIn K mainGlobals "super" = some none)
    (xnoBadText : PySem.W.findIn K (.ref C_BadText) "row" = some none)
    (xlBadText : K.lookup C_BadText = some (PySem.excClassObj xnmBadText xqnBadText C_BadText xNBadText xbsBadText xbmBadText true xsnBadText xsubBadText xabBadText xcolBadText xddBadText xk0BadText xk1BadText xk2BadText xk3BadText xk5BadText "ValueError.__new__"))
    (xrBadText : PySem.HandSPX.refsVE xbmBadText = true)
    (xsaBadText : PySem.W.findIn K (.ref C_BadText) "__setattr__" = some (some (.builtin "object.__setattr__")))
    (xtyBadText : PySem.W.typeIn K (.ref C_BadText) = some (.type "type"))
    (xkBadText : PySem.W.keepIn K (.ref C_BadText) = true)
    (xiBadText : PySem.W.findIn K (.ref C_BadText) "__init__" = some (some (.ref xf_BadText)))
    (xitBadText : PySem.W.typeIn K (.ref xf_BadText) = some (.type "function"))
    (xlfBadText : K.lookup xf_BadText = some ⟨xocBadText, xodBadText, .func (PySem.W.ksFn "__init__" "BadText.__init__" (defArgs s_BadText_init) (defBody s_BadText_init) (defScope s_BadText_init) .none xkVBadText xdcBadText xpmBadText xanBadText (.ref xd_BadText) xctBadText xc_BadText), xslBadText⟩)
    (xcdBadText : PySem.W.codeIn K (.ref xd_BadText) "BadText.__init__" = true)
    (xcellBadText : K.lookup xc_BadText = some ⟨xclBadText, xcldBadText, .cell (some (.ref C_BadText)), xcslBadText⟩)
    (xcodeBadText : K.lookup xd_BadText = some ⟨xcclBadText, xcddBadText, .fields xvsBadText, xccsBadText⟩)
    (xcovBadText : (xvsBadText[2]? : Option Value) = some (.str xfileBadText xtfBadText))
    (xcofBadText : ((PP.main.file : Str) == xfileBadText) = true)
    (xsuBadText : PySem.W.ks_superIn K C_BadText C_BadText "__init__" = some (some (.builtin "ValueError.__init__")))
    (xmrBadText : PySem.W.mroIn K C_BadText (.ref C_BadText) = some true)
    (xsvBadText : PySem.W.subIn K (.ref C_BadText) (.type "ValueError") = some true)
    (xopBadText : PySem.W.nsIn K cStatics "thirdparty.any" = some none)
    (xnwBadText : PySem.W.excInitIn K C_BadText [.type "ValueError", .type "Exception", .type "BaseException", .type "object"] "ValueError.__new__" = true)
    (xspBadText : PySem.W.nsIn K mainGlobals "super" = some none) :
    ∃ fd : FuncData, (∀ (s : Shared) (v : Value), BindsTo s fd ⟨[v], []⟩ [("_law_script", v)]) ∧ ∀ base : Heap, K.In base → base.Ns mainGlobals mg → FnG PP w K mg base 4 fa fd ["_law_script"] (spLaw K) := by
  have e := hfa.symm.trans (PySem.W.mg_of X G a7)
  obtain rfl : f7 = fa := (Value.ref.inj (Option.some.inj e)).symm
  have F0 := fun_mk (st := s__law_state) l0 c0 k0
  have F1 := fun_mk (st := s__law_draw) l1 c1 k1
  have F2 := fun_mk (st := s__law_pick) l2 c2 k2
  have F3 := fun_mk (st := s__law_marks) l3 c3 k3
  have F4 := fun_mk (st := s__law_pairs) l4 c4 k4
  have F5 := fun_mk (st := s__law_held) l5 c5 k5
  have F6 := fun_mk (st := s__law_caught) l6 c6 k6
  have F7 := fun_mk (st := s_law) l7 c7 k7
  have XCBadWorld : ExcC K C_BadWorld := ⟨xhgBadWorld, xhkBadWorld, xhsBadWorld, xhdBadWorld, xhaBadWorld, xhn, xht, xhmBadWorld⟩
  have XCBadNode : ExcC K C_BadNode := ⟨xhgBadNode, xhkBadNode, xhsBadNode, xhdBadNode, xhaBadNode, xhn, xht, xhmBadNode⟩
  have XCBadMove : ExcC K C_BadMove := ⟨xhgBadMove, xhkBadMove, xhsBadMove, xhdBadMove, xhaBadMove, xhn, xht, xhmBadMove⟩
  have XCBadEntry : ExcC K C_BadEntry := ⟨xhgBadEntry, xhkBadEntry, xhsBadEntry, xhdBadEntry, xhaBadEntry, xhn, xht, xhmBadEntry⟩
  have XCBadState : ExcC K C_BadState := ⟨xhgBadState, xhkBadState, xhsBadState, xhdBadState, xhaBadState, xhn, xht, xhmBadState⟩
  have XCBadNodes : ExcC K C_BadNodes := ⟨xhgBadNodes, xhkBadNodes, xhsBadNodes, xhdBadNodes, xhaBadNodes, xhn, xht, xhmBadNodes⟩
  have XCTooMany : ExcC K C_TooMany := ⟨xhgTooMany, xhkTooMany, xhsTooMany, xhdTooMany, xhaTooMany, xhn, xht, xhmTooMany⟩
  have XCBadDeed : ExcC K C_BadDeed := ⟨xhgBadDeed, xhkBadDeed, xhsBadDeed, xhdBadDeed, xhaBadDeed, xhn, xht, xhmBadDeed⟩
  have XCBadJournal : ExcC K C_BadJournal := ⟨xhgBadJournal, xhkBadJournal, xhsBadJournal, xhdBadJournal, xhaBadJournal, xhn, xht, xhmBadJournal⟩
  have XCBadText : ExcC K C_BadText := ⟨xhgBadText, xhkBadText, xhsBadText, xhdBadText, xhaBadText, xhn, xht, xhmBadText⟩
  have nex : ∀ {C D : Addr}, PySem.W.kitOne K (.ref C) (.ref D) = some false → PySem.W.kitOne K (.ref D) (.ref D) = some true → C ≠ D := fun h1 h2 e => by rw [e, h2] at h1; cases h1
  have XND : [C_BadWorld, C_BadNode, C_BadMove, C_BadEntry, C_BadState, C_BadNodes, C_TooMany, C_BadDeed, C_BadJournal, C_BadText].Nodup := (List.nodup_cons.mpr ⟨(by simp only [List.mem_cons, List.not_mem_nil, or_false, not_or]; exact ⟨nex kxBadWorldBadNode kxBadNodeBadNode, nex kxBadWorldBadMove kxBadMoveBadMove, nex kxBadWorldBadEntry kxBadEntryBadEntry, nex kxBadWorldBadState kxBadStateBadState, nex kxBadWorldBadNodes kxBadNodesBadNodes, nex kxBadWorldTooMany kxTooManyTooMany, nex kxBadWorldBadDeed kxBadDeedBadDeed, nex kxBadWorldBadJournal kxBadJournalBadJournal, nex kxBadWorldBadText kxBadTextBadText⟩), (List.nodup_cons.mpr ⟨(by simp only [List.mem_cons, List.not_mem_nil, or_false, not_or]; exact ⟨nex kxBadNodeBadMove kxBadMoveBadMove, nex kxBadNodeBadEntry kxBadEntryBadEntry, nex kxBadNodeBadState kxBadStateBadState, nex kxBadNodeBadNodes kxBadNodesBadNodes, nex kxBadNodeTooMany kxTooManyTooMany, nex kxBadNodeBadDeed kxBadDeedBadDeed, nex kxBadNodeBadJournal kxBadJournalBadJournal, nex kxBadNodeBadText kxBadTextBadText⟩), (List.nodup_cons.mpr ⟨(by simp only [List.mem_cons, List.not_mem_nil, or_false, not_or]; exact ⟨nex kxBadMoveBadEntry kxBadEntryBadEntry, nex kxBadMoveBadState kxBadStateBadState, nex kxBadMoveBadNodes kxBadNodesBadNodes, nex kxBadMoveTooMany kxTooManyTooMany, nex kxBadMoveBadDeed kxBadDeedBadDeed, nex kxBadMoveBadJournal kxBadJournalBadJournal, nex kxBadMoveBadText kxBadTextBadText⟩), (List.nodup_cons.mpr ⟨(by simp only [List.mem_cons, List.not_mem_nil, or_false, not_or]; exact ⟨nex kxBadEntryBadState kxBadStateBadState, nex kxBadEntryBadNodes kxBadNodesBadNodes, nex kxBadEntryTooMany kxTooManyTooMany, nex kxBadEntryBadDeed kxBadDeedBadDeed, nex kxBadEntryBadJournal kxBadJournalBadJournal, nex kxBadEntryBadText kxBadTextBadText⟩), (List.nodup_cons.mpr ⟨(by simp only [List.mem_cons, List.not_mem_nil, or_false, not_or]; exact ⟨nex kxBadStateBadNodes kxBadNodesBadNodes, nex kxBadStateTooMany kxTooManyTooMany, nex kxBadStateBadDeed kxBadDeedBadDeed, nex kxBadStateBadJournal kxBadJournalBadJournal, nex kxBadStateBadText kxBadTextBadText⟩), (List.nodup_cons.mpr ⟨(by simp only [List.mem_cons, List.not_mem_nil, or_false, not_or]; exact ⟨nex kxBadNodesTooMany kxTooManyTooMany, nex kxBadNodesBadDeed kxBadDeedBadDeed, nex kxBadNodesBadJournal kxBadJournalBadJournal, nex kxBadNodesBadText kxBadTextBadText⟩), (List.nodup_cons.mpr ⟨(by simp only [List.mem_cons, List.not_mem_nil, or_false, not_or]; exact ⟨nex kxTooManyBadDeed kxBadDeedBadDeed, nex kxTooManyBadJournal kxBadJournalBadJournal, nex kxTooManyBadText kxBadTextBadText⟩), (List.nodup_cons.mpr ⟨(by simp only [List.mem_cons, List.not_mem_nil, or_false, not_or]; exact ⟨nex kxBadDeedBadJournal kxBadJournalBadJournal, nex kxBadDeedBadText kxBadTextBadText⟩), (List.nodup_cons.mpr ⟨(by simp only [List.mem_cons, List.not_mem_nil, or_false]; exact nex kxBadJournalBadText kxBadTextBadText), (List.nodup_cons.mpr ⟨(by simp), List.nodup_nil⟩)⟩)⟩)⟩)⟩)⟩)⟩)⟩)⟩)⟩)
  have XOBadWorld : OexC K C_BadWorld := ⟨⟨_, _, _, _, _, _, _, _, _, _, _, _, _, _, _, xlBadWorld, xrBadWorld⟩, xsaBadWorld, xhsBadWorld, xtyBadWorld, xkBadWorld⟩
  have XFBadWorld : ∀ (w : World) (base : Heap), FnOk PP w K mg base CX0 1 xf_BadWorld (PySem.W.ksFn "__init__" "BadWorld.__init__" (defArgs s_BadWorld_init) (defBody s_BadWorld_init) (defScope s_BadWorld_init) .none xkVBadWorld xdcBadWorld xpmBadWorld xanBadWorld (.ref xd_BadWorld) xctBadWorld xc_BadWorld) ["self", "part"] (spOx C_BadWorld "part") := fun w base =>
    ox_init (k := 0) (par := "part") ⟨XOBadWorld, ⟨_, _, _, xcellBadWorld⟩, ⟨_, _, _, _, _, _, xcodeBadWorld, xcovBadWorld, xcofBadWorld⟩, fun l₀ h => (by have z := xsuBadWorld; unfold PySem.W.ks_superIn at z; rw [h] at z; exact z), xmrBadWorld, xsvBadWorld, xopBadWorld, xnoBadWorld, xnwBadWorld⟩ xlfBadWorld xcdBadWorld rfl rfl rfl rfl rfl rfl rfl rfl rfl (by decide +kernel) rfl rfl rfl (PySem.W.mg_none_of X G xspBadWorld) rfl rfl (fun env => rfl) rfl trivial
  have XOBadNode : OexC K C_BadNode := ⟨⟨_, _, _, _, _, _, _, _, _, _, _, _, _, _, _, xlBadNode, xrBadNode⟩, xsaBadNode, xhsBadNode, xtyBadNode, xkBadNode⟩
  have XFBadNode : ∀ (w : World) (base : Heap), FnOk PP w K mg base CX0 1 xf_BadNode (PySem.W.ksFn "__init__" "BadNode.__init__" (defArgs s_BadNode_init) (defBody s_BadNode_init) (defScope s_BadNode_init) .none xkVBadNode xdcBadNode xpmBadNode xanBadNode (.ref xd_BadNode) xctBadNode xc_BadNode) ["self", "index"] (spOx C_BadNode "index") := fun w base =>
    ox_init (k := 0) (par := "index") ⟨XOBadNode, ⟨_, _, _, xcellBadNode⟩, ⟨_, _, _, _, _, _, xcodeBadNode, xcovBadNode, xcofBadNode⟩, fun l₀ h => (by have z := xsuBadNode; unfold PySem.W.ks_superIn at z; rw [h] at z; exact z), xmrBadNode, xsvBadNode, xopBadNode, xnoBadNode, xnwBadNode⟩ xlfBadNode xcdBadNode rfl rfl rfl rfl rfl rfl rfl rfl rfl (by decide +kernel) rfl rfl rfl (PySem.W.mg_none_of X G xspBadNode) rfl rfl (fun env => rfl) rfl trivial
  have XOBadMove : OexC K C_BadMove := ⟨⟨_, _, _, _, _, _, _, _, _, _, _, _, _, _, _, xlBadMove, xrBadMove⟩, xsaBadMove, xhsBadMove, xtyBadMove, xkBadMove⟩
  have XFBadMove : ∀ (w : World) (base : Heap), FnOk PP w K mg base CX0 1 xf_BadMove (PySem.W.ksFn "__init__" "BadMove.__init__" (defArgs s_BadMove_init) (defBody s_BadMove_init) (defScope s_BadMove_init) .none xkVBadMove xdcBadMove xpmBadMove xanBadMove (.ref xd_BadMove) xctBadMove xc_BadMove) ["self", "at"] (spOx C_BadMove "at") := fun w base =>
    ox_init (k := 0) (par := "at") ⟨XOBadMove, ⟨_, _, _, xcellBadMove⟩, ⟨_, _, _, _, _, _, xcodeBadMove, xcovBadMove, xcofBadMove⟩, fun l₀ h => (by have z := xsuBadMove; unfold PySem.W.ks_superIn at z; rw [h] at z; exact z), xmrBadMove, xsvBadMove, xopBadMove, xnoBadMove, xnwBadMove⟩ xlfBadMove xcdBadMove rfl rfl rfl rfl rfl rfl rfl rfl rfl (by decide +kernel) rfl rfl rfl (PySem.W.mg_none_of X G xspBadMove) rfl rfl (fun env => rfl) rfl trivial
  have XOBadNodes : OexC K C_BadNodes := ⟨⟨_, _, _, _, _, _, _, _, _, _, _, _, _, _, _, xlBadNodes, xrBadNodes⟩, xsaBadNodes, xhsBadNodes, xtyBadNodes, xkBadNodes⟩
  have XFBadNodes : ∀ (w : World) (base : Heap), FnOk PP w K mg base CX0 1 xf_BadNodes (PySem.W.ksFn "__init__" "BadNodes.__init__" (defArgs s_BadNodes_init) (defBody s_BadNodes_init) (defScope s_BadNodes_init) .none xkVBadNodes xdcBadNodes xpmBadNodes xanBadNodes (.ref xd_BadNodes) xctBadNodes xc_BadNodes) ["self", "index"] (spOx C_BadNodes "index") := fun w base =>
    ox_init (k := 0) (par := "index") ⟨XOBadNodes, ⟨_, _, _, xcellBadNodes⟩, ⟨_, _, _, _, _, _, xcodeBadNodes, xcovBadNodes, xcofBadNodes⟩, fun l₀ h => (by have z := xsuBadNodes; unfold PySem.W.ks_superIn at z; rw [h] at z; exact z), xmrBadNodes, xsvBadNodes, xopBadNodes, xnoBadNodes, xnwBadNodes⟩ xlfBadNodes xcdBadNodes rfl rfl rfl rfl rfl rfl rfl rfl rfl (by decide +kernel) rfl rfl rfl (PySem.W.mg_none_of X G xspBadNodes) rfl rfl (fun env => rfl) rfl trivial
  have XOBadDeed : OexC K C_BadDeed := ⟨⟨_, _, _, _, _, _, _, _, _, _, _, _, _, _, _, xlBadDeed, xrBadDeed⟩, xsaBadDeed, xhsBadDeed, xtyBadDeed, xkBadDeed⟩
  have XFBadDeed : ∀ (w : World) (base : Heap), FnOk PP w K mg base CX0 1 xf_BadDeed (PySem.W.ksFn "__init__" "BadDeed.__init__" (defArgs s_BadDeed_init) (defBody s_BadDeed_init) (defScope s_BadDeed_init) .none xkVBadDeed xdcBadDeed xpmBadDeed xanBadDeed (.ref xd_BadDeed) xctBadDeed xc_BadDeed) ["self", "at"] (spOx C_BadDeed "at") := fun w base =>
    ox_init (k := 0) (par := "at") ⟨XOBadDeed, ⟨_, _, _, xcellBadDeed⟩, ⟨_, _, _, _, _, _, xcodeBadDeed, xcovBadDeed, xcofBadDeed⟩, fun l₀ h => (by have z := xsuBadDeed; unfold PySem.W.ks_superIn at z; rw [h] at z; exact z), xmrBadDeed, xsvBadDeed, xopBadDeed, xnoBadDeed, xnwBadDeed⟩ xlfBadDeed xcdBadDeed rfl rfl rfl rfl rfl rfl rfl rfl rfl (by decide +kernel) rfl rfl rfl (PySem.W.mg_none_of X G xspBadDeed) rfl rfl (fun env => rfl) rfl trivial
  have XOBadJournal : OexC K C_BadJournal := ⟨⟨_, _, _, _, _, _, _, _, _, _, _, _, _, _, _, xlBadJournal, xrBadJournal⟩, xsaBadJournal, xhsBadJournal, xtyBadJournal, xkBadJournal⟩
  have XFBadJournal : ∀ (w : World) (base : Heap), FnOk PP w K mg base CX0 1 xf_BadJournal (PySem.W.ksFn "__init__" "BadJournal.__init__" (defArgs s_BadJournal_init) (defBody s_BadJournal_init) (defScope s_BadJournal_init) .none xkVBadJournal xdcBadJournal xpmBadJournal xanBadJournal (.ref xd_BadJournal) xctBadJournal xc_BadJournal) ["self", "row"] (spOx C_BadJournal "row") := fun w base =>
    ox_init (k := 0) (par := "row") ⟨XOBadJournal, ⟨_, _, _, xcellBadJournal⟩, ⟨_, _, _, _, _, _, xcodeBadJournal, xcovBadJournal, xcofBadJournal⟩, fun l₀ h => (by have z := xsuBadJournal; unfold PySem.W.ks_superIn at z; rw [h] at z; exact z), xmrBadJournal, xsvBadJournal, xopBadJournal, xnoBadJournal, xnwBadJournal⟩ xlfBadJournal xcdBadJournal rfl rfl rfl rfl rfl rfl rfl rfl rfl (by decide +kernel) rfl rfl rfl (PySem.W.mg_none_of X G xspBadJournal) rfl rfl (fun env => rfl) rfl trivial
  have XOBadText : OexC K C_BadText := ⟨⟨_, _, _, _, _, _, _, _, _, _, _, _, _, _, _, xlBadText, xrBadText⟩, xsaBadText, xhsBadText, xtyBadText, xkBadText⟩
  have XFBadText : ∀ (w : World) (base : Heap), FnOk PP w K mg base CX0 1 xf_BadText (PySem.W.ksFn "__init__" "BadText.__init__" (defArgs s_BadText_init) (defBody s_BadText_init) (defScope s_BadText_init) .none xkVBadText xdcBadText xpmBadText xanBadText (.ref xd_BadText) xctBadText xc_BadText) ["self", "row"] (spOx C_BadText "row") := fun w base =>
    ox_init (k := 0) (par := "row") ⟨XOBadText, ⟨_, _, _, xcellBadText⟩, ⟨_, _, _, _, _, _, xcodeBadText, xcovBadText, xcofBadText⟩, fun l₀ h => (by have z := xsuBadText; unfold PySem.W.ks_superIn at z; rw [h] at z; exact z), xmrBadText, xsvBadText, xopBadText, xnoBadText, xnwBadText⟩ xlfBadText xcdBadText rfl rfl rfl rfl rfl rfl rfl rfl rfl (by decide +kernel) rfl rfl rfl (PySem.W.mg_none_of X G xspBadText) rfl rfl (fun env => rfl) rfl trivial
  let a : Ad := {
    cs := ⟨C_BadWorld, C_BadNode, C_BadMove, C_BadEntry, C_BadState, C_BadNodes, C_TooMany, C_BadDeed, C_BadJournal, C_BadText, C_ViewError⟩,
    _law_state := f0,
    fd__law_state := PySem.W.fnOf "_law_state" "_law_state" (defArgs s__law_state) (defBody s__law_state) (defScope s__law_state) .none kV0 dc0 pm0 an0 cd0 ct0,
    _law_draw := f1,
    fd__law_draw := PySem.W.fnOf "_law_draw" "_law_draw" (defArgs s__law_draw) (defBody s__law_draw) (defScope s__law_draw) .none kV1 dc1 pm1 an1 cd1 ct1,
    _law_pick := f2,
    fd__law_pick := PySem.W.fnOf "_law_pick" "_law_pick" (defArgs s__law_pick) (defBody s__law_pick) (defScope s__law_pick) .none kV2 dc2 pm2 an2 cd2 ct2,
    _law_marks := f3,
    fd__law_marks := PySem.W.fnOf "_law_marks" "_law_marks" (defArgs s__law_marks) (defBody s__law_marks) (defScope s__law_marks) .none kV3 dc3 pm3 an3 cd3 ct3,
    _law_pairs := f4,
    fd__law_pairs := PySem.W.fnOf "_law_pairs" "_law_pairs" (defArgs s__law_pairs) (defBody s__law_pairs) (defScope s__law_pairs) .none kV4 dc4 pm4 an4 cd4 ct4,
    _law_held := f5,
    fd__law_held := PySem.W.fnOf "_law_held" "_law_held" (defArgs s__law_held) (defBody s__law_held) (defScope s__law_held) .none kV5 dc5 pm5 an5 cd5 ct5,
    _law_caught := f6,
    fd__law_caught := PySem.W.fnOf "_law_caught" "_law_caught" (defArgs s__law_caught) (defBody s__law_caught) (defScope s__law_caught) .none kV6 dc6 pm6 an6 cd6 ct6,
    law := f7,
    fd_law := PySem.W.fnOf "law" "law" (defArgs s_law) (defBody s_law) (defScope s_law) .none kV7 dc7 pm7 an7 cd7 ct7,
    x_BadWorld := xf_BadWorld,
    fdx_BadWorld := PySem.W.ksFn "__init__" "BadWorld.__init__" (defArgs s_BadWorld_init) (defBody s_BadWorld_init) (defScope s_BadWorld_init) .none xkVBadWorld xdcBadWorld xpmBadWorld xanBadWorld (.ref xd_BadWorld) xctBadWorld xc_BadWorld,
    x_BadNode := xf_BadNode,
    fdx_BadNode := PySem.W.ksFn "__init__" "BadNode.__init__" (defArgs s_BadNode_init) (defBody s_BadNode_init) (defScope s_BadNode_init) .none xkVBadNode xdcBadNode xpmBadNode xanBadNode (.ref xd_BadNode) xctBadNode xc_BadNode,
    x_BadMove := xf_BadMove,
    fdx_BadMove := PySem.W.ksFn "__init__" "BadMove.__init__" (defArgs s_BadMove_init) (defBody s_BadMove_init) (defScope s_BadMove_init) .none xkVBadMove xdcBadMove xpmBadMove xanBadMove (.ref xd_BadMove) xctBadMove xc_BadMove,
    x_BadNodes := xf_BadNodes,
    fdx_BadNodes := PySem.W.ksFn "__init__" "BadNodes.__init__" (defArgs s_BadNodes_init) (defBody s_BadNodes_init) (defScope s_BadNodes_init) .none xkVBadNodes xdcBadNodes xpmBadNodes xanBadNodes (.ref xd_BadNodes) xctBadNodes xc_BadNodes,
    x_BadDeed := xf_BadDeed,
    fdx_BadDeed := PySem.W.ksFn "__init__" "BadDeed.__init__" (defArgs s_BadDeed_init) (defBody s_BadDeed_init) (defScope s_BadDeed_init) .none xkVBadDeed xdcBadDeed xpmBadDeed xanBadDeed (.ref xd_BadDeed) xctBadDeed xc_BadDeed,
    x_BadJournal := xf_BadJournal,
    fdx_BadJournal := PySem.W.ksFn "__init__" "BadJournal.__init__" (defArgs s_BadJournal_init) (defBody s_BadJournal_init) (defScope s_BadJournal_init) .none xkVBadJournal xdcBadJournal xpmBadJournal xanBadJournal (.ref xd_BadJournal) xctBadJournal xc_BadJournal,
    x_BadText := xf_BadText,
    fdx_BadText := PySem.W.ksFn "__init__" "BadText.__init__" (defArgs s_BadText_init) (defBody s_BadText_init) (defScope s_BadText_init) .none xkVBadText xdcBadText xpmBadText xanBadText (.ref xd_BadText) xctBadText xc_BadText }
  have T : Txt K mg a := {
    F__law_state := F0,
    g__law_state := PySem.W.mg_of X G a0,
    k__law_state := k0,
    b__law_state := (F0.binds (ps := ["_law_script"]) fun _ _ _ _ _ _ us hl => match us, hl with | [_], _ => rfl),
    F__law_draw := F1,
    g__law_draw := PySem.W.mg_of X G a1,
    k__law_draw := k1,
    b__law_draw := (F1.binds (ps := ["_law_draws", "_law_many"]) fun _ _ _ _ _ _ us hl => match us, hl with | [_, _], _ => rfl),
    F__law_pick := F2,
    g__law_pick := PySem.W.mg_of X G a2,
    k__law_pick := k2,
    b__law_pick := (F2.binds (ps := ["_law_draws", "_law_some"]) fun _ _ _ _ _ _ us hl => match us, hl with | [_, _], _ => rfl),
    F__law_marks := F3,
    g__law_marks := PySem.W.mg_of X G a3,
    k__law_marks := k3,
    b__law_marks := (F3.binds (ps := ["_law_error"]) fun _ _ _ _ _ _ us hl => match us, hl with | [_], _ => rfl),
    F__law_pairs := F4,
    g__law_pairs := PySem.W.mg_of X G a4,
    k__law_pairs := k4,
    b__law_pairs := (F4.binds (ps := ["_law_what"]) fun _ _ _ _ _ _ us hl => match us, hl with | [_], _ => rfl),
    F__law_held := F5,
    g__law_held := PySem.W.mg_of X G a5,
    k__law_held := k5,
    b__law_held := (F5.binds (ps := ["_law_error", "_law_spot"]) fun _ _ _ _ _ _ us hl => match us, hl with | [_, _], _ => rfl),
    F__law_caught := F6,
    g__law_caught := PySem.W.mg_of X G a6,
    k__law_caught := k6,
    b__law_caught := (F6.binds (ps := ["_law_what"]) fun _ _ _ _ _ _ us hl => match us, hl with | [_], _ => rfl),
    F_law := F7,
    g_law := PySem.W.mg_of X G a7,
    k_law := k7,
    z_ValueError := PySem.W.mg_none_of X G zValueError,
    z_abs := PySem.W.mg_none_of X G zabs,
    z_enumerate := PySem.W.mg_none_of X G zenumerate,
    z_int := PySem.W.mg_none_of X G zint,
    z_isinstance := PySem.W.mg_none_of X G zisinstance,
    z_len := PySem.W.mg_none_of X G zlen,
    z_min := PySem.W.mg_none_of X G zmin,
    z_range := PySem.W.mg_none_of X G zrange,
    z_repr := PySem.W.mg_none_of X G zrepr,
    g_BadWorld := PySem.W.mg_of X G aXBadWorld,
    g_BadNode := PySem.W.mg_of X G aXBadNode,
    g_BadMove := PySem.W.mg_of X G aXBadMove,
    g_BadEntry := PySem.W.mg_of X G aXBadEntry,
    g_BadState := PySem.W.mg_of X G aXBadState,
    g_BadNodes := PySem.W.mg_of X G aXBadNodes,
    g_TooMany := PySem.W.mg_of X G aXTooMany,
    g_BadDeed := PySem.W.mg_of X G aXBadDeed,
    g_BadJournal := PySem.W.mg_of X G aXBadJournal,
    g_BadText := PySem.W.mg_of X G aXBadText,
    g_ViewError := PySem.W.mg_of X G aXViewError,
    xi2_BadWorld := fun p hp => by
      simp only [List.mem_cons, List.not_mem_nil, or_false] at hp
      rcases hp with rfl | rfl | rfl | rfl | rfl | rfl | rfl | rfl | rfl | rfl
      · exact ⟨XCBadWorld, kxBadWorldBadWorld⟩
      · exact ⟨XCBadNode, kxBadNodeBadWorld⟩
      · exact ⟨XCBadMove, kxBadMoveBadWorld⟩
      · exact ⟨XCBadEntry, kxBadEntryBadWorld⟩
      · exact ⟨XCBadState, kxBadStateBadWorld⟩
      · exact ⟨XCBadNodes, kxBadNodesBadWorld⟩
      · exact ⟨XCTooMany, kxTooManyBadWorld⟩
      · exact ⟨XCBadDeed, kxBadDeedBadWorld⟩
      · exact ⟨XCBadJournal, kxBadJournalBadWorld⟩
      · exact ⟨XCBadText, kxBadTextBadWorld⟩,
    xi2_BadNode := fun p hp => by
      simp only [List.mem_cons, List.not_mem_nil, or_false] at hp
      rcases hp with rfl | rfl | rfl | rfl | rfl | rfl | rfl | rfl | rfl | rfl
      · exact ⟨XCBadWorld, kxBadWorldBadNode⟩
      · exact ⟨XCBadNode, kxBadNodeBadNode⟩
      · exact ⟨XCBadMove, kxBadMoveBadNode⟩
      · exact ⟨XCBadEntry, kxBadEntryBadNode⟩
      · exact ⟨XCBadState, kxBadStateBadNode⟩
      · exact ⟨XCBadNodes, kxBadNodesBadNode⟩
      · exact ⟨XCTooMany, kxTooManyBadNode⟩
      · exact ⟨XCBadDeed, kxBadDeedBadNode⟩
      · exact ⟨XCBadJournal, kxBadJournalBadNode⟩
      · exact ⟨XCBadText, kxBadTextBadNode⟩,
    xi2_BadMove := fun p hp => by
      simp only [List.mem_cons, List.not_mem_nil, or_false] at hp
      rcases hp with rfl | rfl | rfl | rfl | rfl | rfl | rfl | rfl | rfl | rfl
      · exact ⟨XCBadWorld, kxBadWorldBadMove⟩
      · exact ⟨XCBadNode, kxBadNodeBadMove⟩
      · exact ⟨XCBadMove, kxBadMoveBadMove⟩
      · exact ⟨XCBadEntry, kxBadEntryBadMove⟩
      · exact ⟨XCBadState, kxBadStateBadMove⟩
      · exact ⟨XCBadNodes, kxBadNodesBadMove⟩
      · exact ⟨XCTooMany, kxTooManyBadMove⟩
      · exact ⟨XCBadDeed, kxBadDeedBadMove⟩
      · exact ⟨XCBadJournal, kxBadJournalBadMove⟩
      · exact ⟨XCBadText, kxBadTextBadMove⟩,
    xi2_BadEntry := fun p hp => by
      simp only [List.mem_cons, List.not_mem_nil, or_false] at hp
      rcases hp with rfl | rfl | rfl | rfl | rfl | rfl | rfl | rfl | rfl | rfl
      · exact ⟨XCBadWorld, kxBadWorldBadEntry⟩
      · exact ⟨XCBadNode, kxBadNodeBadEntry⟩
      · exact ⟨XCBadMove, kxBadMoveBadEntry⟩
      · exact ⟨XCBadEntry, kxBadEntryBadEntry⟩
      · exact ⟨XCBadState, kxBadStateBadEntry⟩
      · exact ⟨XCBadNodes, kxBadNodesBadEntry⟩
      · exact ⟨XCTooMany, kxTooManyBadEntry⟩
      · exact ⟨XCBadDeed, kxBadDeedBadEntry⟩
      · exact ⟨XCBadJournal, kxBadJournalBadEntry⟩
      · exact ⟨XCBadText, kxBadTextBadEntry⟩,
    xi2_BadState := fun p hp => by
      simp only [List.mem_cons, List.not_mem_nil, or_false] at hp
      rcases hp with rfl | rfl | rfl | rfl | rfl | rfl | rfl | rfl | rfl | rfl
      · exact ⟨XCBadWorld, kxBadWorldBadState⟩
      · exact ⟨XCBadNode, kxBadNodeBadState⟩
      · exact ⟨XCBadMove, kxBadMoveBadState⟩
      · exact ⟨XCBadEntry, kxBadEntryBadState⟩
      · exact ⟨XCBadState, kxBadStateBadState⟩
      · exact ⟨XCBadNodes, kxBadNodesBadState⟩
      · exact ⟨XCTooMany, kxTooManyBadState⟩
      · exact ⟨XCBadDeed, kxBadDeedBadState⟩
      · exact ⟨XCBadJournal, kxBadJournalBadState⟩
      · exact ⟨XCBadText, kxBadTextBadState⟩,
    xi2_BadNodes := fun p hp => by
      simp only [List.mem_cons, List.not_mem_nil, or_false] at hp
      rcases hp with rfl | rfl | rfl | rfl | rfl | rfl | rfl | rfl | rfl | rfl
      · exact ⟨XCBadWorld, kxBadWorldBadNodes⟩
      · exact ⟨XCBadNode, kxBadNodeBadNodes⟩
      · exact ⟨XCBadMove, kxBadMoveBadNodes⟩
      · exact ⟨XCBadEntry, kxBadEntryBadNodes⟩
      · exact ⟨XCBadState, kxBadStateBadNodes⟩
      · exact ⟨XCBadNodes, kxBadNodesBadNodes⟩
      · exact ⟨XCTooMany, kxTooManyBadNodes⟩
      · exact ⟨XCBadDeed, kxBadDeedBadNodes⟩
      · exact ⟨XCBadJournal, kxBadJournalBadNodes⟩
      · exact ⟨XCBadText, kxBadTextBadNodes⟩,
    xi2_TooMany := fun p hp => by
      simp only [List.mem_cons, List.not_mem_nil, or_false] at hp
      rcases hp with rfl | rfl | rfl | rfl | rfl | rfl | rfl | rfl | rfl | rfl
      · exact ⟨XCBadWorld, kxBadWorldTooMany⟩
      · exact ⟨XCBadNode, kxBadNodeTooMany⟩
      · exact ⟨XCBadMove, kxBadMoveTooMany⟩
      · exact ⟨XCBadEntry, kxBadEntryTooMany⟩
      · exact ⟨XCBadState, kxBadStateTooMany⟩
      · exact ⟨XCBadNodes, kxBadNodesTooMany⟩
      · exact ⟨XCTooMany, kxTooManyTooMany⟩
      · exact ⟨XCBadDeed, kxBadDeedTooMany⟩
      · exact ⟨XCBadJournal, kxBadJournalTooMany⟩
      · exact ⟨XCBadText, kxBadTextTooMany⟩,
    xi2_BadDeed := fun p hp => by
      simp only [List.mem_cons, List.not_mem_nil, or_false] at hp
      rcases hp with rfl | rfl | rfl | rfl | rfl | rfl | rfl | rfl | rfl | rfl
      · exact ⟨XCBadWorld, kxBadWorldBadDeed⟩
      · exact ⟨XCBadNode, kxBadNodeBadDeed⟩
      · exact ⟨XCBadMove, kxBadMoveBadDeed⟩
      · exact ⟨XCBadEntry, kxBadEntryBadDeed⟩
      · exact ⟨XCBadState, kxBadStateBadDeed⟩
      · exact ⟨XCBadNodes, kxBadNodesBadDeed⟩
      · exact ⟨XCTooMany, kxTooManyBadDeed⟩
      · exact ⟨XCBadDeed, kxBadDeedBadDeed⟩
      · exact ⟨XCBadJournal, kxBadJournalBadDeed⟩
      · exact ⟨XCBadText, kxBadTextBadDeed⟩,
    xi2_BadJournal := fun p hp => by
      simp only [List.mem_cons, List.not_mem_nil, or_false] at hp
      rcases hp with rfl | rfl | rfl | rfl | rfl | rfl | rfl | rfl | rfl | rfl
      · exact ⟨XCBadWorld, kxBadWorldBadJournal⟩
      · exact ⟨XCBadNode, kxBadNodeBadJournal⟩
      · exact ⟨XCBadMove, kxBadMoveBadJournal⟩
      · exact ⟨XCBadEntry, kxBadEntryBadJournal⟩
      · exact ⟨XCBadState, kxBadStateBadJournal⟩
      · exact ⟨XCBadNodes, kxBadNodesBadJournal⟩
      · exact ⟨XCTooMany, kxTooManyBadJournal⟩
      · exact ⟨XCBadDeed, kxBadDeedBadJournal⟩
      · exact ⟨XCBadJournal, kxBadJournalBadJournal⟩
      · exact ⟨XCBadText, kxBadTextBadJournal⟩,
    xi2_BadText := fun p hp => by
      simp only [List.mem_cons, List.not_mem_nil, or_false] at hp
      rcases hp with rfl | rfl | rfl | rfl | rfl | rfl | rfl | rfl | rfl | rfl
      · exact ⟨XCBadWorld, kxBadWorldBadText⟩
      · exact ⟨XCBadNode, kxBadNodeBadText⟩
      · exact ⟨XCBadMove, kxBadMoveBadText⟩
      · exact ⟨XCBadEntry, kxBadEntryBadText⟩
      · exact ⟨XCBadState, kxBadStateBadText⟩
      · exact ⟨XCBadNodes, kxBadNodesBadText⟩
      · exact ⟨XCTooMany, kxTooManyBadText⟩
      · exact ⟨XCBadDeed, kxBadDeedBadText⟩
      · exact ⟨XCBadJournal, kxBadJournalBadText⟩
      · exact ⟨XCBadText, kxBadTextBadText⟩,
    xi2_ViewError := fun p hp => by
      simp only [List.mem_cons, List.not_mem_nil, or_false] at hp
      rcases hp with rfl | rfl | rfl | rfl | rfl | rfl | rfl | rfl | rfl | rfl
      · exact ⟨XCBadWorld, kxBadWorldViewError⟩
      · exact ⟨XCBadNode, kxBadNodeViewError⟩
      · exact ⟨XCBadMove, kxBadMoveViewError⟩
      · exact ⟨XCBadEntry, kxBadEntryViewError⟩
      · exact ⟨XCBadState, kxBadStateViewError⟩
      · exact ⟨XCBadNodes, kxBadNodesViewError⟩
      · exact ⟨XCTooMany, kxTooManyViewError⟩
      · exact ⟨XCBadDeed, kxBadDeedViewError⟩
      · exact ⟨XCBadJournal, kxBadJournalViewError⟩
      · exact ⟨XCBadText, kxBadTextViewError⟩,
    xi2_ValueError := fun p hp => by
      simp only [List.mem_cons, List.not_mem_nil, or_false] at hp
      rcases hp with rfl | rfl | rfl | rfl | rfl | rfl | rfl | rfl | rfl | rfl
      · exact ⟨XCBadWorld, kxBadWorldValueError⟩
      · exact ⟨XCBadNode, kxBadNodeValueError⟩
      · exact ⟨XCBadMove, kxBadMoveValueError⟩
      · exact ⟨XCBadEntry, kxBadEntryValueError⟩
      · exact ⟨XCBadState, kxBadStateValueError⟩
      · exact ⟨XCBadNodes, kxBadNodesValueError⟩
      · exact ⟨XCTooMany, kxTooManyValueError⟩
      · exact ⟨XCBadDeed, kxBadDeedValueError⟩
      · exact ⟨XCBadJournal, kxBadJournalValueError⟩
      · exact ⟨XCBadText, kxBadTextValueError⟩,
    xl_part := fun p hp => by
      simp only [List.mem_cons, List.not_mem_nil, or_false] at hp
      rcases hp with rfl
      · exact ⟨⟨xhgBadWorld, xhkBadWorld, xhsBadWorld, xhdBadWorld⟩, xnoBadWorld⟩,
    xl_index := fun p hp => by
      simp only [List.mem_cons, List.not_mem_nil, or_false] at hp
      rcases hp with rfl | rfl
      · exact ⟨⟨xhgBadNode, xhkBadNode, xhsBadNode, xhdBadNode⟩, xnoBadNode⟩
      · exact ⟨⟨xhgBadNodes, xhkBadNodes, xhsBadNodes, xhdBadNodes⟩, xnoBadNodes⟩,
    xl_at := fun p hp => by
      simp only [List.mem_cons, List.not_mem_nil, or_false] at hp
      rcases hp with rfl | rfl
      · exact ⟨⟨xhgBadMove, xhkBadMove, xhsBadMove, xhdBadMove⟩, xnoBadMove⟩
      · exact ⟨⟨xhgBadDeed, xhkBadDeed, xhsBadDeed, xhdBadDeed⟩, xnoBadDeed⟩,
    xl_row := fun p hp => by
      simp only [List.mem_cons, List.not_mem_nil, or_false] at hp
      rcases hp with rfl | rfl
      · exact ⟨⟨xhgBadJournal, xhkBadJournal, xhsBadJournal, xhdBadJournal⟩, xnoBadJournal⟩
      · exact ⟨⟨xhgBadText, xhkBadText, xhsBadText, xhdBadText⟩, xnoBadText⟩,
    xe_BadMove_BadMove := xeMM,
    xe_TooMany_ViewError := xeTV,
    xnd := XND,
    xo_BadWorld := XOBadWorld,
    xi_BadWorld := xiBadWorld,
    xt_BadWorld := xitBadWorld,
    xf_BadWorld := XFBadWorld,
    xb_BadWorld := .all fun us hl => match us, hl with | [_, _], _ => rfl,
    xk_BadWorld := ⟨fun s us ws _ h1 h2 => (match us, h1, ws, h2 with | [_], _, [_], _ => .of_eq rfl), fun r1 r2 => r1.append r2⟩,
    xo_BadNode := XOBadNode,
    xi_BadNode := xiBadNode,
    xt_BadNode := xitBadNode,
    xf_BadNode := XFBadNode,
    xb_BadNode := .all fun us hl => match us, hl with | [_, _], _ => rfl,
    xk_BadNode := ⟨fun s us ws _ h1 h2 => (match us, h1, ws, h2 with | [_], _, [_], _ => .of_eq rfl), fun r1 r2 => r1.append r2⟩,
    xo_BadMove := XOBadMove,
    xi_BadMove := xiBadMove,
    xt_BadMove := xitBadMove,
    xf_BadMove := XFBadMove,
    xb_BadMove := .all fun us hl => match us, hl with | [_, _], _ => rfl,
    xk_BadMove := ⟨fun s us ws _ h1 h2 => (match us, h1, ws, h2 with | [_], _, [_], _ => .of_eq rfl), fun r1 r2 => r1.append r2⟩,
    xp_BadEntry := xpBadEntry,
    xkp_BadEntry := xkBadEntry,
    xs_BadEntry := xhsBadEntry,
    xy_BadEntry := xtyBadEntry,
    xp_BadState := xpBadState,
    xkp_BadState := xkBadState,
    xs_BadState := xhsBadState,
    xy_BadState := xtyBadState,
    xo_BadNodes := XOBadNodes,
    xi_BadNodes := xiBadNodes,
    xt_BadNodes := xitBadNodes,
    xf_BadNodes := XFBadNodes,
    xb_BadNodes := .all fun us hl => match us, hl with | [_, _], _ => rfl,
    xk_BadNodes := ⟨fun s us ws _ h1 h2 => (match us, h1, ws, h2 with | [_], _, [_], _ => .of_eq rfl), fun r1 r2 => r1.append r2⟩,
    xp_TooMany := xpTooMany,
    xkp_TooMany := xkTooMany,
    xs_TooMany := xhsTooMany,
    xy_TooMany := xtyTooMany,
    xo_BadDeed := XOBadDeed,
    xi_BadDeed := xiBadDeed,
    xt_BadDeed := xitBadDeed,
    xf_BadDeed := XFBadDeed,
    xb_BadDeed := .all fun us hl => match us, hl with | [_, _], _ => rfl,
    xk_BadDeed := ⟨fun s us ws _ h1 h2 => (match us, h1, ws, h2 with | [_], _, [_], _ => .of_eq rfl), fun r1 r2 => r1.append r2⟩,
    xo_BadJournal := XOBadJournal,
    xi_BadJournal := xiBadJournal,
    xt_BadJournal := xitBadJournal,
    xf_BadJournal := XFBadJournal,
    xb_BadJournal := .all fun us hl => match us, hl with | [_, _], _ => rfl,
    xk_BadJournal := ⟨fun s us ws _ h1 h2 => (match us, h1, ws, h2 with | [_], _, [_], _ => .of_eq rfl), fun r1 r2 => r1.append r2⟩,
    xo_BadText := XOBadText,
    xi_BadText := xiBadText,
    xt_BadText := xitBadText,
    xf_BadText := XFBadText,
    xb_BadText := .all fun us hl => match us, hl with | [_, _], _ => rfl,
    xk_BadText := ⟨fun s us ws _ h1 h2 => (match us, h1, ws, h2 with | [_], _, [_], _ => .of_eq rfl), fun r1 r2 => r1.append r2⟩ }
  exact ⟨a.fd_law, fun s v => .of_eq rfl, fun base _ _ => f_law T⟩
theorem walk {l : PySem.W.OpenLaw} {q : Program} {loose : List Str} {XP : (Str → Option Value) → Heap → Prop} {YP : World → Heap → Prop} {d : PySem.DefRec} {K : PySem.Params → PySem.W.Frag} (hp : l.prog = PP) (hn : l.most = some 63) (hdf : d.params.defaults = []) (hq : PyProof.Rows.importsNone q = true)
    (hY : ∀ (w : World) (h : Heap), YP w h → (K w.params).In h) (hs : ∀ w : World, (K w.params).lookup sysModules = none)
    (F : ∀ (w : World) (mg : Str → Option Value) (fa : Addr) (h : Heap), (K w.params).In h → h.Ns mainGlobals mg → mg d.name = some (.ref fa) →
      ∃ fd : FuncData, (∀ (s : Shared) (u : Value), BindsTo s fd ⟨[u], []⟩ [("_law_script", u)]) ∧ ∀ base : Heap, (K w.params).In base → base.Ns mainGlobals mg → FnG PP w (K w.params) mg base 4 fa fd ["_law_script"] (spLaw (K w.params))) :
    PySem.W.WalkO q loose XP YP l.row.toRowW d [] (fun f vs => PySem.call f vs) := by
  refine Att.attach_call hn hdf fun w s₀ s₁ mg mb fa o pm cd doc a vs ns G Y ho hd hcd hmg hobj hints hlen hg => ?_
  have KX := hY w _ Y
  obtain ⟨fd, hb, hF⟩ := F w mg fa _ KX G.T.g hmg
  obtain ⟨mm, h1, _⟩ := (G.T.seer hq).mods
  rw [hp]
  exact law_entry KX G.T.g G.T.b G.T.builtins G.T.nolimit hg hobj hints hlen ⟨rfl, by decide, by decide⟩ (hs w) ⟨mm, h1⟩ hF hb
end K01
open PySem PySem.W PyProof.Rows
set_option maxRecDepth 100000 in
set_option maxHeartbeats 0 in
theorem PySem.Challenge.cw_staleview_k01_errors_by_class_holds : PySem.Challenge.rw_staleview_k01_errors_by_class.Holds := by
  w_on; o_law; k_head; (case hw => w_witness2)
  k_fill
  refine K01.walk (l := PySem.Challenge.rw_staleview_k01_errors_by_class) rfl rfl rfl ?hq (fun w h Y => PySem.W.kIn_of Y) ?hs ?F
  case hq => first | rfl | decide +kernel
  case hs => intro w; rfl
  case F =>
    intro w mg fa h KX G hmg
    refine' K01.all_mk KX G hmg ?a0 ?l0 ?c0 ?k0 ?a1 ?l1 ?c1 ?k1 ?a2 ?l2 ?c2 ?k2 ?a3 ?l3 ?c3 ?k3 ?a4 ?l4 ?c4 ?k4 ?a5 ?l5 ?c5 ?k5 ?a6 ?l6 ?c6 ?k6 ?a7 ?l7 ?c7 ?k7 ?zValueError ?zabs ?zenumerate ?zint ?zisinstance ?zlen ?zmin ?zrange ?zrepr ?aXBadWorld ?aXBadNode ?aXBadMove ?aXBadEntry ?aXBadState ?aXBadNodes ?aXTooMany ?aXBadDeed ?aXBadJournal ?aXBadText ?aXViewError ?xhn ?xht ?xhgBadWorld ?xhkBadWorld ?xhsBadWorld ?xhdBadWorld ?xhaBadWorld ?xhmBadWorld ?kxBadWorldBadWorld ?kxBadWorldBadNode ?kxBadWorldBadMove ?kxBadWorldBadEntry ?kxBadWorldBadState ?kxBadWorldBadNodes ?kxBadWorldTooMany ?kxBadWorldBadDeed ?kxBadWorldBadJournal ?kxBadWorldBadText ?kxBadWorldViewError ?kxBadWorldValueError ?xhgBadNode ?xhkBadNode ?xhsBadNode ?xhdBadNode ?xhaBadNode ?xhmBadNode ?kxBadNodeBadWorld ?kxBadNodeBadNode ?kxBadNodeBadMove ?kxBadNodeBadEntry ?kxBadNodeBadState ?kxBadNodeBadNodes ?kxBadNodeTooMany ?kxBadNodeBadDeed ?kxBadNodeBadJournal ?kxBadNodeBadText ?kxBadNodeViewError ?kxBadNodeValueError ?xhgBadMove ?xhkBadMove ?xhsBadMove ?xhdBadMove ?xhaBadMove ?xhmBadMove ?kxBadMoveBadWorld ?kxBadMoveBadNode ?kxBadMoveBadMove ?kxBadMoveBadEntry ?kxBadMoveBadState ?kxBadMoveBadNodes ?kxBadMoveTooMany ?kxBadMoveBadDeed ?kxBadMoveBadJournal ?kxBadMoveBadText ?kxBadMoveViewError ?kxBadMoveValueError ?xhgBadEntry ?xhkBadEntry ?xhsBadEntry ?xhdBadEntry ?xhaBadEntry ?xhmBadEntry ?kxBadEntryBadWorld ?kxBadEntryBadNode ?kxBadEntryBadMove ?kxBadEntryBadEntry ?kxBadEntryBadState ?kxBadEntryBadNodes ?kxBadEntryTooMany ?kxBadEntryBadDeed ?kxBadEntryBadJournal ?kxBadEntryBadText ?kxBadEntryViewError ?kxBadEntryValueError ?xhgBadState ?xhkBadState ?xhsBadState ?xhdBadState ?xhaBadState ?xhmBadState ?kxBadStateBadWorld ?kxBadStateBadNode ?kxBadStateBadMove ?kxBadStateBadEntry ?kxBadStateBadState ?kxBadStateBadNodes ?kxBadStateTooMany ?kxBadStateBadDeed ?kxBadStateBadJournal ?kxBadStateBadText ?kxBadStateViewError ?kxBadStateValueError ?xhgBadNodes ?xhkBadNodes ?xhsBadNodes ?xhdBadNodes ?xhaBadNodes ?xhmBadNodes ?kxBadNodesBadWorld ?kxBadNodesBadNode ?kxBadNodesBadMove ?kxBadNodesBadEntry ?kxBadNodesBadState ?kxBadNodesBadNodes ?kxBadNodesTooMany ?kxBadNodesBadDeed ?kxBadNodesBadJournal ?kxBadNodesBadText ?kxBadNodesViewError ?kxBadNodesValueError ?xhgTooMany ?xhkTooMany ?xhsTooMany ?xhdTooMany ?xhaTooMany ?xhmTooMany ?kxTooManyBadWorld ?kxTooManyBadNode ?kxTooManyBadMove ?kxTooManyBadEntry ?kxTooManyBadState ?kxTooManyBadNodes ?kxTooManyTooMany ?kxTooManyBadDeed ?kxTooManyBadJournal ?kxTooManyBadText ?kxTooManyViewError ?kxTooManyValueError ?xhgBadDeed ?xhkBadDeed ?xhsBadDeed ?xhdBadDeed ?xhaBadDeed ?xhmBadDeed ?kxBadDeedBadWorld ?kxBadDeedBadNode ?kxBadDeedBadMove ?kxBadDeedBadEntry ?kxBadDeedBadState ?kxBadDeedBadNodes ?kxBadDeedTooMany ?kxBadDeedBadDeed ?kxBadDeedBadJournal ?kxBadDeedBadText ?kxBadDeedViewError ?kxBadDeedValueError ?xhgBadJournal ?xhkBadJournal ?xhsBadJournal ?xhdBadJournal ?xhaBadJournal ?xhmBadJournal ?kxBadJournalBadWorld ?kxBadJournalBadNode ?kxBadJournalBadMove ?kxBadJournalBadEntry ?kxBadJournalBadState ?kxBadJournalBadNodes ?kxBadJournalTooMany ?kxBadJournalBadDeed ?kxBadJournalBadJournal ?kxBadJournalBadText ?kxBadJournalViewError ?kxBadJournalValueError ?xhgBadText ?xhkBadText ?xhsBadText ?xhdBadText ?xhaBadText ?xhmBadText ?kxBadTextBadWorld ?kxBadTextBadNode ?kxBadTextBadMove ?kxBadTextBadEntry ?kxBadTextBadState ?kxBadTextBadNodes ?kxBadTextTooMany ?kxBadTextBadDeed ?kxBadTextBadJournal ?kxBadTextBadText ?kxBadTextViewError ?kxBadTextValueError ?xeMM ?xeTV ?xnoBadWorld ?xlBadWorld ?xrBadWorld ?xsaBadWorld ?xtyBadWorld ?xkBadWorld ?xiBadWorld ?xitBadWorld ?xlfBadWorld ?xcdBadWorld ?xcellBadWorld ?xcodeBadWorld ?xcovBadWorld ?xcofBadWorld ?xsuBadWorld ?xmrBadWorld ?xsvBadWorld ?xopBadWorld ?xnwBadWorld ?xspBadWorld ?xnoBadNode ?xlBadNode ?xrBadNode ?xsaBadNode ?xtyBadNode ?xkBadNode ?xiBadNode ?xitBadNode ?xlfBadNode ?xcdBadNode ?xcellBadNode ?xcodeBadNode ?xcovBadNode ?xcofBadNode ?xsuBadNode ?xmrBadNode ?xsvBadNode ?xopBadNode ?xnwBadNode ?xspBadNode ?xnoBadMove ?xlBadMove ?xrBadMove ?xsaBadMove ?xtyBadMove ?xkBadMove ?xiBadMove ?xitBadMove ?xlfBadMove ?xcdBadMove ?xcellBadMove ?xcodeBadMove ?xcovBadMove ?xcofBadMove ?xsuBadMove ?xmrBadMove ?xsvBadMove ?xopBadMove ?xnwBadMove ?xspBadMove ?xpBadEntry ?xkBadEntry ?xtyBadEntry ?xpBadState ?xkBadState ?xtyBadState ?xnoBadNodes ?xlBadNodes ?xrBadNodes ?xsaBadNodes ?xtyBadNodes ?xkBadNodes ?xiBadNodes ?xitBadNodes ?xlfBadNodes ?xcdBadNodes ?xcellBadNodes ?xcodeBadNodes ?xcovBadNodes ?xcofBadNodes ?xsuBadNodes ?xmrBadNodes ?xsvBadNodes ?xopBadNodes ?xnwBadNodes ?xspBadNodes ?xpTooMany ?xkTooMany ?xtyTooMany ?xnoBadDeed ?xlBadDeed ?xrBadDeed ?xsaBadDeed ?xtyBadDeed ?xkBadDeed ?xiBadDeed ?xitBadDeed ?xlfBadDeed ?xcdBadDeed ?xcellBadDeed ?xcodeBadDeed ?xcovBadDeed ?xcofBadDeed ?xsuBadDeed ?xmrBadDeed ?xsvBadDeed ?xopBadDeed ?xnwBadDeed ?xspBadDeed ?xnoBadJournal ?xlBadJournal ?xrBadJournal ?xsaBadJournal ?xtyBadJournal ?xkBadJournal ?xiBadJournal ?xitBadJournal ?xlfBadJournal ?xcdBadJournal ?xcellBadJournal ?xcodeBadJournal ?xcovBadJournal ?xcofBadJournal ?xsuBadJournal ?xmrBadJournal ?xsvBadJournal ?xopBadJournal ?xnwBadJournal ?xspBadJournal ?xnoBadText ?xlBadText ?xrBadText ?xsaBadText ?xtyBadText ?xkBadText ?xiBadText ?xitBadText ?xlfBadText ?xcdBadText ?xcellBadText ?xcodeBadText ?xcovBadText ?xcofBadText ?xsuBadText ?xmrBadText ?xsvBadText ?xopBadText ?xnwBadText ?xspBadText
    (case a0 => k_is); (case l0 => k_is); (case c0 => k_is); (case k0 => k_is); (case a1 => k_is); (case l1 => k_is)
    (case c1 => k_is); (case k1 => k_is); (case a2 => k_is); (case l2 => k_is); (case c2 => k_is); (case k2 => k_is)
    (case a3 => k_is); (case l3 => k_is); (case c3 => k_is); (case k3 => k_is); (case a4 => k_is); (case l4 => k_is)
    (case c4 => k_is); (case k4 => k_is); (case a5 => k_is); (case l5 => k_is); (case c5 => k_is); (case k5 => k_is)
    (case a6 => k_is); (case l6 => k_is); (case c6 => k_is); (case k6 => k_is); (case a7 => k_is); (case l7 => k_is)
    (case c7 => k_is); (case k7 => k_is); (case zValueError => k_is); (case zabs => k_is); (case zenumerate => k_is); (case zint => k_is)
    (case zisinstance => k_is); (case zlen => k_is); (case zmin => k_is); (case zrange => k_is); (case zrepr => k_is); (case aXBadWorld => k_is)
    (case aXBadNode => k_is); (case aXBadMove => k_is); (case aXBadEntry => k_is); (case aXBadState => k_is); (case aXBadNodes => k_is); (case aXTooMany => k_is)
    (case aXBadDeed => k_is); (case aXBadJournal => k_is); (case aXBadText => k_is); (case aXViewError => k_is); (case xhn => k_is); (case xht => k_is)
    (case xhgBadWorld => k_is); (case xhkBadWorld => k_is); (case xhsBadWorld => k_is); (case xhdBadWorld => k_is); (case xhaBadWorld => k_is); (case xhmBadWorld => k_is)
    (case kxBadWorldBadWorld => kit_is); (case kxBadWorldBadNode => kit_is); (case kxBadWorldBadMove => kit_is); (case kxBadWorldBadEntry => kit_is); (case kxBadWorldBadState => kit_is); (case kxBadWorldBadNodes => kit_is)
    (case kxBadWorldTooMany => kit_is); (case kxBadWorldBadDeed => kit_is); (case kxBadWorldBadJournal => kit_is); (case kxBadWorldBadText => kit_is); (case kxBadWorldViewError => kit_is); (case kxBadWorldValueError => kit_is)
    (case xhgBadNode => k_is); (case xhkBadNode => k_is); (case xhsBadNode => k_is); (case xhdBadNode => k_is); (case xhaBadNode => k_is); (case xhmBadNode => k_is)
    (case kxBadNodeBadWorld => kit_is); (case kxBadNodeBadNode => kit_is); (case kxBadNodeBadMove => kit_is); (case kxBadNodeBadEntry => kit_is); (case kxBadNodeBadState => kit_is); (case kxBadNodeBadNodes => kit_is)
    (case kxBadNodeTooMany => kit_is); (case kxBadNodeBadDeed => kit_is); (case kxBadNodeBadJournal => kit_is); (case kxBadNodeBadText => kit_is); (case kxBadNodeViewError => kit_is); (case kxBadNodeValueError => kit_is)
    (case xhgBadMove => k_is); (case xhkBadMove => k_is); (case xhsBadMove => k_is); (case xhdBadMove => k_is); (case xhaBadMove => k_is); (case xhmBadMove => k_is)
    (case kxBadMoveBadWorld => kit_is); (case kxBadMoveBadNode => kit_is); (case kxBadMoveBadMove => kit_is); (case kxBadMoveBadEntry => kit_is); (case kxBadMoveBadState => kit_is); (case kxBadMoveBadNodes => kit_is)
    (case kxBadMoveTooMany => kit_is); (case kxBadMoveBadDeed => kit_is); (case kxBadMoveBadJournal => kit_is); (case kxBadMoveBadText => kit_is); (case kxBadMoveViewError => kit_is); (case kxBadMoveValueError => kit_is)
    (case xhgBadEntry => k_is); (case xhkBadEntry => k_is); (case xhsBadEntry => k_is); (case xhdBadEntry => k_is); (case xhaBadEntry => k_is); (case xhmBadEntry => k_is)
    (case kxBadEntryBadWorld => kit_is); (case kxBadEntryBadNode => kit_is); (case kxBadEntryBadMove => kit_is); (case kxBadEntryBadEntry => kit_is); (case kxBadEntryBadState => kit_is); (case kxBadEntryBadNodes => kit_is)
    (case kxBadEntryTooMany => kit_is); (case kxBadEntryBadDeed => kit_is); (case kxBadEntryBadJournal => kit_is); (case kxBadEntryBadText => kit_is); (case kxBadEntryViewError => kit_is); (case kxBadEntryValueError => kit_is)
    (case xhgBadState => k_is); (case xhkBadState => k_is); (case xhsBadState => k_is); (case xhdBadState => k_is); (case xhaBadState => k_is); (case xhmBadState => k_is)
    (case kxBadStateBadWorld => kit_is); (case kxBadStateBadNode => kit_is); (case kxBadStateBadMove => kit_is); (case kxBadStateBadEntry => kit_is); (case kxBadStateBadState => kit_is); (case kxBadStateBadNodes => kit_is)
    (case kxBadStateTooMany => kit_is); (case kxBadStateBadDeed => kit_is); (case kxBadStateBadJournal => kit_is); (case kxBadStateBadText => kit_is); (case kxBadStateViewError => kit_is); (case kxBadStateValueError => kit_is)
    (case xhgBadNodes => k_is); (case xhkBadNodes => k_is); (case xhsBadNodes => k_is); (case xhdBadNodes => k_is); (case xhaBadNodes => k_is); (case xhmBadNodes => k_is)
    (case kxBadNodesBadWorld => kit_is); (case kxBadNodesBadNode => kit_is); (case kxBadNodesBadMove => kit_is); (case kxBadNodesBadEntry => kit_is); (case kxBadNodesBadState => kit_is); (case kxBadNodesBadNodes => kit_is)
    (case kxBadNodesTooMany => kit_is); (case kxBadNodesBadDeed => kit_is); (case kxBadNodesBadJournal => kit_is); (case kxBadNodesBadText => kit_is); (case kxBadNodesViewError => kit_is); (case kxBadNodesValueError => kit_is)
    (case xhgTooMany => k_is); (case xhkTooMany => k_is); (case xhsTooMany => k_is); (case xhdTooMany => k_is); (case xhaTooMany => k_is); (case xhmTooMany => k_is)
    (case kxTooManyBadWorld => kit_is); (case kxTooManyBadNode => kit_is); (case kxTooManyBadMove => kit_is); (case kxTooManyBadEntry => kit_is); (case kxTooManyBadState => kit_is); (case kxTooManyBadNodes => kit_is)
    (case kxTooManyTooMany => kit_is); (case kxTooManyBadDeed => kit_is); (case kxTooManyBadJournal => kit_is); (case kxTooManyBadText => kit_is); (case kxTooManyViewError => kit_is); (case kxTooManyValueError => kit_is)
    (case xhgBadDeed => k_is); (case xhkBadDeed => k_is); (case xhsBadDeed => k_is); (case xhdBadDeed => k_is); (case xhaBadDeed => k_is); (case xhmBadDeed => k_is)
    (case kxBadDeedBadWorld => kit_is); (case kxBadDeedBadNode => kit_is); (case kxBadDeedBadMove => kit_is); (case kxBadDeedBadEntry => kit_is); (case kxBadDeedBadState => kit_is); (case kxBadDeedBadNodes => kit_is)
    (case kxBadDeedTooMany => kit_is); (case kxBadDeedBadDeed => kit_is); (case kxBadDeedBadJournal => kit_is); (case kxBadDeedBadText => kit_is); (case kxBadDeedViewError => kit_is); (case kxBadDeedValueError => kit_is)
    (case xhgBadJournal => k_is); (case xhkBadJournal => k_is); (case xhsBadJournal => k_is); (case xhdBadJournal => k_is); (case xhaBadJournal => k_is); (case xhmBadJournal => k_is)
    (case kxBadJournalBadWorld => kit_is); (case kxBadJournalBadNode => kit_is); (case kxBadJournalBadMove => kit_is); (case kxBadJournalBadEntry => kit_is); (case kxBadJournalBadState => kit_is); (case kxBadJournalBadNodes => kit_is)
    (case kxBadJournalTooMany => kit_is); (case kxBadJournalBadDeed => kit_is); (case kxBadJournalBadJournal => kit_is); (case kxBadJournalBadText => kit_is); (case kxBadJournalViewError => kit_is); (case kxBadJournalValueError => kit_is)
    (case xhgBadText => k_is); (case xhkBadText => k_is); (case xhsBadText => k_is); (case xhdBadText => k_is); (case xhaBadText => k_is); (case xhmBadText => k_is)
    (case kxBadTextBadWorld => kit_is); (case kxBadTextBadNode => kit_is); (case kxBadTextBadMove => kit_is); (case kxBadTextBadEntry => kit_is); (case kxBadTextBadState => kit_is); (case kxBadTextBadNodes => kit_is)
    (case kxBadTextTooMany => kit_is); (case kxBadTextBadDeed => kit_is); (case kxBadTextBadJournal => kit_is); (case kxBadTextBadText => kit_is); (case kxBadTextViewError => kit_is); (case kxBadTextValueError => kit_is)
    (case xeMM => kts_exm); (case xeTV => kts_exm); (case xnoBadWorld => k_is); (case xlBadWorld => k_is); (case xrBadWorld => decide +kernel); (case xsaBadWorld => k_is)
    (case xtyBadWorld => k_is); (case xkBadWorld => k_is); (case xiBadWorld => k_is); (case xitBadWorld => k_is); (case xlfBadWorld => k_is); (case xcdBadWorld => k_is)
    (case xcellBadWorld => k_is); (case xcodeBadWorld => k_is); (case xcovBadWorld => rfl); (case xcofBadWorld => decide +kernel); (case xsuBadWorld => ks_is); (case xmrBadWorld => k_is)
    (case xsvBadWorld => k_is); (case xopBadWorld => k_is); (case xnwBadWorld => kx_is); (case xspBadWorld => k_is); (case xnoBadNode => k_is); (case xlBadNode => k_is)
    (case xrBadNode => decide +kernel); (case xsaBadNode => k_is); (case xtyBadNode => k_is); (case xkBadNode => k_is); (case xiBadNode => k_is); (case xitBadNode => k_is)
    (case xlfBadNode => k_is); (case xcdBadNode => k_is); (case xcellBadNode => k_is); (case xcodeBadNode => k_is); (case xcovBadNode => rfl); (case xcofBadNode => decide +kernel)
    (case xsuBadNode => ks_is); (case xmrBadNode => k_is); (case xsvBadNode => k_is); (case xopBadNode => k_is); (case xnwBadNode => kx_is); (case xspBadNode => k_is)
    (case xnoBadMove => k_is); (case xlBadMove => k_is); (case xrBadMove => decide +kernel); (case xsaBadMove => k_is); (case xtyBadMove => k_is); (case xkBadMove => k_is)
    (case xiBadMove => k_is); (case xitBadMove => k_is); (case xlfBadMove => k_is); (case xcdBadMove => k_is); (case xcellBadMove => k_is); (case xcodeBadMove => k_is)
    (case xcovBadMove => rfl); (case xcofBadMove => decide +kernel); (case xsuBadMove => ks_is); (case xmrBadMove => k_is); (case xsvBadMove => k_is); (case xopBadMove => k_is)
    (case xnwBadMove => kx_is); (case xspBadMove => k_is); (case xpBadEntry => k_exc); (case xkBadEntry => k_is); (case xtyBadEntry => k_is); (case xpBadState => k_exc)
    (case xkBadState => k_is); (case xtyBadState => k_is); (case xnoBadNodes => k_is); (case xlBadNodes => k_is); (case xrBadNodes => decide +kernel); (case xsaBadNodes => k_is)
    (case xtyBadNodes => k_is); (case xkBadNodes => k_is); (case xiBadNodes => k_is); (case xitBadNodes => k_is); (case xlfBadNodes => k_is); (case xcdBadNodes => k_is)
    (case xcellBadNodes => k_is); (case xcodeBadNodes => k_is); (case xcovBadNodes => rfl); (case xcofBadNodes => decide +kernel); (case xsuBadNodes => ks_is); (case xmrBadNodes => k_is)
    (case xsvBadNodes => k_is); (case xopBadNodes => k_is); (case xnwBadNodes => kx_is); (case xspBadNodes => k_is); (case xpTooMany => k_exc); (case xkTooMany => k_is)
    (case xtyTooMany => k_is); (case xnoBadDeed => k_is); (case xlBadDeed => k_is); (case xrBadDeed => decide +kernel); (case xsaBadDeed => k_is); (case xtyBadDeed => k_is)
    (case xkBadDeed => k_is); (case xiBadDeed => k_is); (case xitBadDeed => k_is); (case xlfBadDeed => k_is); (case xcdBadDeed => k_is); (case xcellBadDeed => k_is)
    (case xcodeBadDeed => k_is); (case xcovBadDeed => rfl); (case xcofBadDeed => decide +kernel); (case xsuBadDeed => ks_is); (case xmrBadDeed => k_is); (case xsvBadDeed => k_is)
    (case xopBadDeed => k_is); (case xnwBadDeed => kx_is); (case xspBadDeed => k_is); (case xnoBadJournal => k_is); (case xlBadJournal => k_is); (case xrBadJournal => decide +kernel)
    (case xsaBadJournal => k_is); (case xtyBadJournal => k_is); (case xkBadJournal => k_is); (case xiBadJournal => k_is); (case xitBadJournal => k_is); (case xlfBadJournal => k_is)
    (case xcdBadJournal => k_is); (case xcellBadJournal => k_is); (case xcodeBadJournal => k_is); (case xcovBadJournal => rfl); (case xcofBadJournal => decide +kernel); (case xsuBadJournal => ks_is)
    (case xmrBadJournal => k_is); (case xsvBadJournal => k_is); (case xopBadJournal => k_is); (case xnwBadJournal => kx_is); (case xspBadJournal => k_is); (case xnoBadText => k_is)
    (case xlBadText => k_is); (case xrBadText => decide +kernel); (case xsaBadText => k_is); (case xtyBadText => k_is); (case xkBadText => k_is); (case xiBadText => k_is)
    (case xitBadText => k_is); (case xlfBadText => k_is); (case xcdBadText => k_is); (case xcellBadText => k_is); (case xcodeBadText => k_is); (case xcovBadText => rfl)
    (case xcofBadText => decide +kernel); (case xsuBadText => ks_is); (case xmrBadText => k_is); (case xsvBadText => k_is); (case xopBadText => k_is); (case xnwBadText => kx_is)
    (case xspBadText => k_is)
