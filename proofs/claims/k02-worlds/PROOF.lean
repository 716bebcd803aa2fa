import PyProof.Rows.All
import Wide.All
import OpenK.AllK
import Wide.FinOn
import HandS.ForMost
import HandS.ForExc
import HandS.TupAny
import HandS.Deep
import HandS.Flow
import HandS.Walk
import HandS.Style
import HandS.DictComp
import HandS.Property
import HandS.MakeKwOnly
import HandS.IsInst
import HandS.Defaults
import PyProof.ReprRoads
import PyProof.StrLawsRepr
import PyProof.Rows.StrDigits
import PyProof.Rows.StrMeet
import HandS.ListItems
import HandS.Finally
import HandS.SlotsOwn
import PyProof.InstEq
import PyProof.RulesMatch
import KE.GoesMore
import KE.GoesEnum
import HandS.SetFor
import HandS.Strs
import HandS.ClsMeth
import HandS.Conv
import HandS.More
import KE.GoesZip
import HandS.Zip
import HandS.Star
import HandS.RaiseMore
import KE.KEqNest
import HandS.Sort
import PyProof.Rows.StrFin3
import PySem.Challenge.RW_staleview_k02_worlds_as_made
set_option Elab.async false
set_option linter.all false
set_option maxRecDepth 100000
set_option maxHeartbeats 2000000
namespace Fl
open PySem L2

/-- a value as a tree, no addresses but a class's -/
inductive D where
  | non | bl (b : Bool) | int (i : Int) | str (s : Str)
  | lst (xs : List D) | tup (xs : List D)
  | dic (ks : List Key) (vs : List D)
  | ins (C : Addr) (ns : List Str) (vs : List D)

/-- a text of signs, not too long -/
def sOk (x : Str) : Bool := PyData.strOk x && decide (x.length ≤ 1000000)
/-- H extends G -/
def Ex (G H : Hp) : Prop := ∀ a o, G a = some o → H a = some o
theorem Ex.rfl {G : Hp} : Ex G G := fun _ _ h => h
theorem Ex.tr {A B C : Hp} (x : Ex A B) (y : Ex B C) : Ex A C := fun a o h => y a o (x a o h)
theorem Ex.put {G : Hp} {p : Addr} {o : HO} (h : G p = none) : Ex G (upd G p o) := fun a u e => by
  rw [upd_ne (ne_of_none e h)]; exact e
theorem Ex.fresh {G H : Hp} {p : Addr} (x : Ex G H) (h : H p = none) : G p = none := by
  cases e : G p with
  | none => rfl
  | some o => rw [x p o e] at h; cases h
theorem Ex.both {G H : Hp} {p : Addr} {o : HO} (x : Ex G H) : Ex (upd G p o) (upd H p o) := fun a u e => by
  by_cases q : a = p
  · subst q; rw [upd_same] at e ⊢; exact e
  · rw [upd_ne q] at e ⊢; exact x a u e
theorem Ex.under {G H : Hp} {p : Addr} {o : HO} (x : Ex G H) (h : G p = none) : Ex G (upd H p o) := fun a u e => by
  rw [upd_ne (ne_of_none e h)]; exact x a u e

mutual
/-- v stands in G for the tree -/
inductive Dd (K : PySem.W.Frag) (G : Hp) : V → D → Prop
  | non : Dd K G .non .non
  | bl (b : Bool) : Dd K G (.bl b) (.bl b)
  | int (i : Int) : Dd K G (.int i) (.int i)
  | str (x : Str) (h : sOk x = true) : Dd K G (.str x) (.str x)
  | lst {a : Addr} {us : List V} {xs : List D} : G a = some (.lst us) → DdL K G us xs → Dd K G (.ref a) (.lst xs)
  | tup {a : Addr} {us : List V} {xs : List D} : SqT K G a us → DdL K G us xs → Dd K G (.ref a) (.tup xs)
  | dic {a : Addr} {ks : List Key} {us : List V} {vs : List D} : G a = some (.dK (ks.zip us)) → ks.length = us.length → ks.Nodup → DdL K G us vs → Dd K G (.ref a) (.dic ks vs)
  | ins {a C dx : Addr} {ns : List Str} {us : List V} {vs : List D} : G a = some (.ins C dx (ns.zip us)) → ns.length = us.length → G dx = some (.own a) → DdL K G us vs → Dd K G (.ref a) (.ins C ns vs)
inductive DdL (K : PySem.W.Frag) (G : Hp) : List V → List D → Prop
  | nil : DdL K G [] []
  | cons {v : V} {us : List V} {x : D} {xs : List D} : Dd K G v x → DdL K G us xs → DdL K G (v :: us) (x :: xs)
end

section
variable {K : PySem.W.Frag} {G H : Hp}
theorem sqT_ex {a : Addr} {xs : List V} (e : Ex G H) (h : SqT K G a xs) : SqT K H a xs := by
  rcases h with (h | ⟨o, h⟩) | h
  · exact .inl (.inl (e _ _ h))
  · exact .inl (.inr ⟨o, e _ _ h⟩)
  · exact .inr h
theorem sqL_ex {a : Addr} {xs : List V} (e : Ex G H) (h : SqL K G a xs) : SqL K H a xs := by
  rcases h with (h | ⟨o, h⟩) | h
  · exact .inl (.inl (e _ _ h))
  · exact .inl (.inr ⟨o, e _ _ h⟩)
  · exact .inr h
mutual
theorem Dd.ex (e : Ex G H) : ∀ {v : V} {x : D}, Dd K G v x → Dd K H v x
  | _, _, .non => .non
  | _, _, .bl b => .bl b
  | _, _, .int i => .int i
  | _, _, .str x h => .str x h
  | _, _, .lst h t => .lst (e _ _ h) (DdL.ex e t)
  | _, _, .tup h t => .tup (sqT_ex e h) (DdL.ex e t)
  | _, _, .dic h l n t => .dic (e _ _ h) l n (DdL.ex e t)
  | _, _, .ins h l o t => .ins (e _ _ h) l (e _ _ o) (DdL.ex e t)
theorem DdL.ex (e : Ex G H) : ∀ {us : List V} {xs : List D}, DdL K G us xs → DdL K H us xs
  | _, _, .nil => .nil
  | _, _, .cons a t => .cons (Dd.ex e a) (DdL.ex e t)
end
theorem DdL.len : ∀ {us : List V} {xs : List D}, DdL K G us xs → us.length = xs.length
  | _, _, .nil => rfl
  | _, _, .cons _ t => by rw [List.length_cons, List.length_cons, DdL.len t]
theorem DdL.app : ∀ {us : List V} {xs : List D} {vs : List V} {ys : List D}, DdL K G us xs → DdL K G vs ys → DdL K G (us ++ vs) (xs ++ ys)
  | _, _, _, _, .nil, q => q
  | _, _, _, _, .cons a t, q => .cons a (DdL.app t q)
theorem DdL.get : ∀ {us : List V} {xs : List D} {i : Nat} {x : D}, DdL K G us xs → xs[i]? = some x → ∃ v, us[i]? = some v ∧ Dd K G v x
  | _, _, 0, _, .cons a _, h => ⟨_, rfl, by cases h; exact a⟩
  | _, _, i + 1, _, .cons _ t, h => by
    obtain ⟨v, e, r⟩ := DdL.get (i := i) t (by simpa using h)
    exact ⟨v, by simpa using e, r⟩
theorem DdL.get' : ∀ {us : List V} {xs : List D} {i : Nat} {v : V}, DdL K G us xs → us[i]? = some v → ∃ x, xs[i]? = some x ∧ Dd K G v x
  | _, _, 0, _, .cons a _, h => ⟨_, rfl, by cases h; exact a⟩
  | _, _, i + 1, _, .cons _ t, h => by
    obtain ⟨v, e, r⟩ := DdL.get' (i := i) t (by simpa using h)
    exact ⟨v, by simpa using e, r⟩
theorem DdL.take : ∀ {us : List V} {xs : List D} (n : Nat), DdL K G us xs → DdL K G (us.take n) (xs.take n)
  | _, _, 0, _ => .nil
  | _, _, _ + 1, .nil => .nil
  | _, _, n + 1, .cons a t => .cons a (DdL.take n t)
theorem DdL.drop : ∀ {us : List V} {xs : List D} (n : Nat), DdL K G us xs → DdL K G (us.drop n) (xs.drop n)
  | _, _, 0, h => h
  | _, _, _ + 1, .nil => .nil
  | _, _, n + 1, .cons _ t => DdL.drop n t
theorem DdL.set {v : V} {x : D} (h : Dd K G v x) : ∀ {us : List V} {xs : List D} (i : Nat), DdL K G us xs → DdL K G (us.set i v) (xs.set i x)
  | _, _, _, .nil => .nil
  | _, _, 0, .cons _ t => .cons h t
  | _, _, i + 1, .cons a t => .cons a (DdL.set h i t)
theorem DdL.erase : ∀ {us : List V} {xs : List D} (i : Nat), DdL K G us xs → DdL K G (us.eraseIdx i) (xs.eraseIdx i)
  | _, _, _, .nil => .nil
  | _, _, 0, .cons _ t => t
  | _, _, i + 1, .cons a t => .cons a (DdL.erase i t)
theorem DdL.rev {us : List V} {xs : List D} (h : DdL K G us xs) : DdL K G us.reverse xs.reverse := by
  induction us generalizing xs with
  | nil => cases h; exact .nil
  | cons u us ih =>
    cases h with
    | cons a t => rw [List.reverse_cons, List.reverse_cons]; exact DdL.app (ih t) (.cons a .nil)
theorem DdL.strs {ws : List Str} : ∀ {us : List V}, DdL K G us (ws.map D.str) → us = ws.map V.str := by
  induction ws with
  | nil => intro us h; cases h; rfl
  | cons w ws ih =>
    intro us h
    cases h with
    | cons a t => cases a; rw [ih t]; rfl
theorem DdL.ofStrs (ws : List Str) (h : ∀ w ∈ ws, sOk w = true) : DdL K G (ws.map V.str) (ws.map D.str) := by
  induction ws with
  | nil => exact .nil
  | cons w ws ih => exact .cons (.str w (h w (by simp))) (ih fun x hx => h x (by simp [hx]))
theorem DdL.strsOk {ws : List Str} : ∀ {us : List V}, DdL K G us (ws.map D.str) → ∀ w ∈ ws, sOk w = true := by
  induction ws with
  | nil => intro us h w hw; simp at hw
  | cons w ws ih =>
    intro us h x hx
    cases h with
    | cons a t =>
      cases a with
      | str _ q =>
        rcases List.mem_cons.mp hx with e | e
        · rw [e]; exact q
        · exact ih t x e
theorem DdL.ints {ws : List Int} : ∀ {us : List V}, DdL K G us (ws.map D.int) → us = ws.map V.int := by
  induction ws with
  | nil => intro us h; cases h; rfl
  | cons w ws ih =>
    intro us h
    cases h with
    | cons a t => cases a; rw [ih t]; rfl
theorem DdL.ofInts (ws : List Int) : DdL K G (ws.map V.int) (ws.map D.int) := by
  induction ws with
  | nil => exact .nil
  | cons w ws ih => exact .cons (.int w) ih
end

/-- where a def was entered: the data then, the heap then; what is lent to it: the source of draws, an instance -/
structure Fr where
  G0 : Hp
  H0 : Hp
  src : Option (Addr × Addr)
  self : Option (Addr × Addr)
  /-- own things set aside for a while -/
  ks : List (Addr × HO) := []
def InSrc (F : Fr) (p : Addr) : Prop := (∃ a c, F.src = some (a, c) ∧ (p = a ∨ p = c)) ∨ ∃ o, (p, o) ∈ F.ks
def InSelf (F : Fr) (p : Addr) : Prop := ∃ a c, F.self = some (a, c) ∧ (p = a ∨ p = c)

/-- what a slot holds: nothing known, data, a list | dict | instance of this frame's own, the lent instance, the source of draws -/
inductive Sl where
  | no | d (x : D) | ol (xs : List D) | od (ks : List Key) (vs : List D) | oi (C : Addr) (ns : List Str) (vs : List D) | bi (C : Addr) (ns : List Str) (vs : List D) | src | ld (x : D)
def Sl.dat : Sl → Option D
  | .d x => some x
  | .ol xs => some (.lst xs)
  | .od ks vs => some (.dic ks vs)
  | .oi C ns vs => some (.ins C ns vs)
  | _ => none

/-- the source: a list of the cells' list and two ints -/
def SrcAt (H : Hp) (a c : Addr) : Prop := ∃ (i m : Int) (ns : List Int), H a = some (.lst [.ref c, .int i, .int m]) ∧ H c = some (.lst (ns.map V.int)) ∧ ns ≠ [] ∧ ns.length ≤ 63

/-- an own thing of another frame, lent: what stands there, and what it tells -/
inductive LdOk (K : PySem.W.Frag) (G : Hp) : HO → D → Prop
  | lst {us xs} : DdL K G us xs → LdOk K G (.lst us) (.lst xs)
  | dic {ks us vs} : ks.length = us.length → ks.Nodup → DdL K G us vs → LdOk K G (.dK (ks.zip us)) (.dic ks vs)
theorem LdOk.ex {K : PySem.W.Frag} {G G' : Hp} {o : HO} {x : D} (e : Ex G G') (h : LdOk K G o x) : LdOk K G' o x := by
  cases h with
  | lst t => exact .lst (t.ex e)
  | dic a b t => exact .dic a b (t.ex e)
inductive SlOk (K : PySem.W.Frag) (F : Fr) (G H : Hp) : Option V → Sl → List Addr → Prop
  | no (v) : SlOk K F G H v .no []
  | d {v x} : Dd K G v x → SlOk K F G H (some v) (.d x) []
  | ol {p us xs} : H p = some (.lst us) → DdL K G us xs → F.H0 p = none → SlOk K F G H (some (.ref p)) (.ol xs) [p]
  | od {p ks us vs} : H p = some (.dK (ks.zip us)) → ks.length = us.length → ks.Nodup → DdL K G us vs → F.H0 p = none → SlOk K F G H (some (.ref p)) (.od ks vs) [p]
  | oi {p C dx ns us vs} : H p = some (.ins C dx (ns.zip us)) → ns.length = us.length → H dx = some (.own p) → DdL K G us vs → F.H0 p = none → F.H0 dx = none → SlOk K F G H (some (.ref p)) (.oi C ns vs) [p, dx]
  | bi {p C dx ns us vs} : H p = some (.ins C dx (ns.zip us)) → ns.length = us.length → H dx = some (.own p) → DdL K G us vs → F.self = some (p, dx) → SlOk K F G H (some (.ref p)) (.bi C ns vs) [p, dx]
  | src {a c} : F.src = some (a, c) → SlOk K F G H (some (.ref a)) .src []
  | ld {p o x} : LdOk K G o x → F.H0 p = some o → ¬ InSrc F p → ¬ InSelf F p → SlOk K F G H (some (.ref p)) (.ld x) []
inductive Sls (K : PySem.W.Frag) (F : Fr) (G H : Hp) : List (Option V) → List Sl → List Addr → Prop
  | nil : Sls K F G H [] [] []
  | cons {v s σ ρ os ps} : SlOk K F G H v s os → Sls K F G H σ ρ ps → Sls K F G H (v :: σ) (s :: ρ) (os ++ ps)

/-- what stands at sys.modules' place: some object, never looked at -/
def sysO : HO := .ext fun h => ∃ o, h.get? sysModules = some o
structure R (K : PySem.W.Frag) (F : Fr) (G H : Hp) (σ : List (Option V)) (ρ : List Sl) : Prop where
  gg : Ex F.G0 G
  gh : Ex G H
  fr : ∀ b o, F.H0 b = some o → ¬ InSrc F b → ¬ InSelf F b → H b = some o
  nw : ∀ b o, G b = some o → F.G0 b = some o ∨ F.H0 b = none
  th : ∀ b, InSrc F b ∨ InSelf F b → ∃ o, H b = some o
  sr : ∀ a c, F.src = some (a, c) → SrcAt H a c ∧ G a = none ∧ G c = none
  kp : ∀ q ∈ F.ks, H q.1 = some q.2 ∧ G q.1 = none ∧ ∀ a c, F.src = some (a, c) → q.1 ≠ a ∧ q.1 ≠ c
  nm : ∃ so, H sysModules = some (.frz so sysO)
  sl : ∃ os, Sls K F G H σ ρ os ∧ os.Nodup ∧ ∀ p ∈ os, G p = none ∧ ¬ InSrc F p

section
variable {K : PySem.W.Frag} {G G' H H' : Hp} {F : Fr} {σ : List (Option V)} {ρ : List Sl} {os ps : List Addr} {v : Option V} {s : Sl}
theorem SrcAt.keep {a c : Addr} (ka : H' a = H a) (kc : H' c = H c) (h : SrcAt H a c) : SrcAt H' a c := by
  obtain ⟨i, m, ns, h1, h2, h3⟩ := h
  exact ⟨i, m, ns, by rw [ka]; exact h1, by rw [kc]; exact h2, h3⟩
/-- the owned stand as they stood, the data have grown -/
theorem SlOk.keep (e : Ex G G') (k : ∀ p ∈ os, H' p = H p) (h : SlOk K F G H v s os) : SlOk K F G' H' v s os := by
  cases h with
  | no => exact .no _
  | d h => exact .d (h.ex e)
  | ol h1 h2 h3 => exact .ol (by rw [k _ (by simp)]; exact h1) (h2.ex e) h3
  | od h1 h2 h4 h3 h5 => exact .od (by rw [k _ (by simp)]; exact h1) h2 h4 (h3.ex e) h5
  | oi h1 h2 h3 h4 h5 h6 => exact .oi (by rw [k _ (by simp)]; exact h1) h2 (by rw [k _ (by simp)]; exact h3) (h4.ex e) h5 h6
  | bi h1 h2 h3 h4 h5 => exact .bi (by rw [k _ (by simp)]; exact h1) h2 (by rw [k _ (by simp)]; exact h3) (h4.ex e) h5
  | src h => exact .src h
  | ld h h0 h1 h2 => exact .ld (h.ex e) h0 h1 h2
theorem Sls.keep (e : Ex G G') (h : Sls K F G H σ ρ os) : (∀ p ∈ os, H' p = H p) → Sls K F G' H' σ ρ os := by
  induction h with
  | nil => exact fun _ => .nil
  | cons a t ih => exact fun k => .cons (a.keep e fun p hp => k p (List.mem_append_left _ hp)) (ih fun p hp => k p (List.mem_append_right _ hp))
theorem SlOk.inH (h : SlOk K F G H v s os) : ∀ p ∈ os, ∃ o, H p = some o := by
  cases h with
  | no => simp
  | d h => simp
  | ol h1 h2 => simp [h1]
  | od h1 h2 h4 h3 => simp [h1]
  | oi h1 h2 h3 h4 => simp [h1, h3]
  | bi h1 h2 h3 h4 => simp [h1, h3]
  | src h => simp
  | ld h h0 h1 h2 => simp
theorem Sls.inH (h : Sls K F G H σ ρ os) : ∀ p ∈ os, ∃ o, H p = some o := by
  induction h with
  | nil => simp
  | cons a t ih =>
    intro p hp
    rcases List.mem_append.mp hp with hp | hp
    · exact a.inH p hp
    · exact ih p hp
theorem Sls.len (h : Sls K F G H σ ρ os) : σ.length = ρ.length := by
  induction h with
  | nil => rfl
  | cons _ _ ih => rw [List.length_cons, List.length_cons, ih]
/-- slot i taken out of the list: what it owns, what the others own -/
theorem Sls.at (h : Sls K F G H σ ρ os) : ∀ {i : Nat} {s : Sl}, ρ[i]? = some s → ∃ v os1 os2, σ[i]? = some v ∧ SlOk K F G H v s os1 ∧ os.Perm (os1 ++ os2) ∧
    (∀ {G' H' v' s' os'}, Ex G G' → (∀ p ∈ os2, H' p = H p) → SlOk K F G' H' v' s' os' → ∃ os3, Sls K F G' H' (σ.set i v') (ρ.set i s') os3 ∧ os3.Perm (os' ++ os2)) := by
  induction h with
  | nil => intro i s hi; simp at hi
  | @cons v0 s0 σ ρ os0 ps a t ih =>
    intro i s hi
    cases i with
    | zero =>
      cases hi
      refine ⟨v0, os0, ps, rfl, a, .refl _, fun {G' H' v' s' os'} e k b => ⟨os' ++ ps, .cons b (t.keep e k), .refl _⟩⟩
    | succ i =>
      obtain ⟨v, o1, o2, e1, e2, e3, f⟩ := ih (i := i) (s := s) (by simpa using hi)
      refine ⟨v, o1, os0 ++ o2, by simpa using e1, e2, ?_, fun {G' H' v' s' os'} e k b => ?_⟩
      · refine (List.Perm.append_left os0 e3).trans ?_
        rw [← List.append_assoc, ← List.append_assoc]
        exact List.Perm.append_right _ List.perm_append_comm
      · obtain ⟨o3, g1, g2⟩ := f e (fun p hp => k p (List.mem_append_right _ hp)) b
        refine ⟨os0 ++ o3, .cons (a.keep e fun p hp => k p (List.mem_append_left _ hp)) g1, ?_⟩
        refine (List.Perm.append_left os0 g2).trans ?_
        rw [← List.append_assoc, ← List.append_assoc]
        exact List.Perm.append_right _ List.perm_append_comm

theorem R.len (r : R K F G H σ ρ) : σ.length = ρ.length := by
  obtain ⟨os, h, _⟩ := r.sl
  exact h.len
/-- a new address -/
theorem R.new (r : R K F G H σ ρ) {p : Addr} (h : H p = none) : G p = none ∧ F.H0 p = none ∧ ¬ InSrc F p ∧ ¬ InSelf F p := by
  have n1 : ¬ InSrc F p := fun m => by obtain ⟨o, e⟩ := r.th p (.inl m); rw [h] at e; cases e
  have n2 : ¬ InSelf F p := fun m => by obtain ⟨o, e⟩ := r.th p (.inr m); rw [h] at e; cases e
  refine ⟨r.gh.fresh h, ?_, n1, n2⟩
  cases e : F.H0 p with
  | none => rfl
  | some o => rw [r.fr p o e n1 n2] at h; cases h
theorem R.pop {v : Option V} {s : Sl} (r : R K F G H (v :: σ) (s :: ρ)) : R K F G H σ ρ := by
  obtain ⟨os, h, nd, f⟩ := r.sl
  cases h with
  | cons a t => exact ⟨r.gg, r.gh, r.fr, r.nw, r.th, r.sr, r.kp, r.nm, _, t, (List.nodup_append.mp nd).2.1, fun p hp => f p (List.mem_append_right _ hp)⟩
theorem R.push {v : V} {x : D} (r : R K F G H σ ρ) (h : Dd K G v x) : R K F G H (some v :: σ) (.d x :: ρ) := by
  obtain ⟨os, hs, nd, f⟩ := r.sl
  exact ⟨r.gg, r.gh, r.fr, r.nw, r.th, r.sr, r.kp, r.nm, _, .cons (.d h) hs, nd, f⟩
theorem R.nil (r : R K F G H σ ρ) : R K F G H [] [] := ⟨r.gg, r.gh, r.fr, r.nw, r.th, r.sr, r.kp, r.nm, _, .nil, List.nodup_nil, by simp⟩
/-- more is new than what was known: the heap has new objects, the data too -/
theorem R.grow (r : R K F G H σ ρ) (e : Ex G G') (x : Ex G' H') (hh : Ex H H') (n : ∀ b o, G' b = some o → G b = some o ∨ H b = none) : R K F G' H' σ ρ := by
  obtain ⟨os, hs, nd, f⟩ := r.sl
  have e1 : ∀ y, InSrc F y → ∃ o, H y = some o := fun y h => r.th y (.inl h)
  have g : ∀ y, InSrc F y → G y = none → G' y = none := fun y hy n0 => by
      cases q : G' y with
      | none => rfl
      | some o =>
        obtain ⟨u, hu⟩ := e1 y hy
        rcases n y o q with q | q
        · rw [n0] at q; cases q
        · rw [hu] at q; cases q
  refine ⟨r.gg.tr e, x, fun b o h n1 n2 => hh _ _ (r.fr b o h n1 n2), fun b o h => ?_, fun b h => ?_, fun a c h => ?_, fun q hq => ⟨hh _ _ (r.kp q hq).1, g _ (.inr ⟨_, hq⟩) (r.kp q hq).2.1, (r.kp q hq).2.2⟩, r.nm.imp fun _ => hh _ _, os, hs.keep e fun p hp => ?_, nd, fun p hp => ⟨?_, (f p hp).2⟩⟩
  · rcases n b o h with h | h
    · exact r.nw b o h
    · exact .inr (r.new h).2.1
  · obtain ⟨o, q⟩ := r.th b h
    exact ⟨o, hh _ _ q⟩
  · obtain ⟨s, ha, hc⟩ := r.sr a c h
    have i1 : InSrc F a := .inl ⟨a, c, h, .inl rfl⟩
    have i2 : InSrc F c := .inl ⟨a, c, h, .inr rfl⟩
    obtain ⟨o1, q1⟩ := e1 a i1
    obtain ⟨o2, q2⟩ := e1 c i2
    exact ⟨s.keep (by rw [q1]; exact hh _ _ q1) (by rw [q2]; exact hh _ _ q2), g a i1 ha, g c i2 hc⟩
  · obtain ⟨o, q⟩ := hs.inH p hp
    rw [q]; exact hh _ _ q
  · cases q : G' p with
    | none => rfl
    | some o =>
      obtain ⟨u, hu⟩ := hs.inH p hp
      rcases n p o q with q | q
      · rw [(f p hp).1] at q; cases q
      · rw [hu] at q; cases q
theorem R.both (r : R K F G H σ ρ) {p : Addr} {o : HO} (h : H p = none) : R K F (upd G p o) (upd H p o) σ ρ :=
  r.grow (.put (r.new h).1) r.gh.both (.put h) fun b u e => by
    by_cases q : b = p
    · subst q; exact .inr h
    · rw [upd_ne q] at e; exact .inl e
/-- a new tuple -/
theorem R.tup (r : R K F G H σ ρ) {p : Addr} {us : List V} {xs : List D} (h : H p = none) (t : DdL K G us xs) :
    Ex G (upd G p (.tup us)) ∧ R K F (upd G p (.tup us)) (upd H p (.tup us)) σ ρ ∧ Dd K (upd G p (.tup us)) (.ref p) (.tup xs) :=
  have e : Ex G (upd G p (.tup us)) := .put (r.new h).1
  ⟨e, r.both h, .tup (.of upd_same) (t.ex e)⟩
/-- an owned address is not new -/
theorem Sls.notIn (hs : Sls K F G H σ ρ os) {p : Addr} (h : H p = none) : ∀ q ∈ os, q ≠ p := fun q hq e => by
  obtain ⟨o, hu⟩ := hs.inH q hq
  rw [e, h] at hu; cases hu
/-- objects are written that are new or in qs, which nobody but the things set aside owns: the rest of the state stands -/
theorem R.write (r : R K F G H σ ρ) (hs : Sls K F G H σ ρ os) (nd : os.Nodup) (f : ∀ p ∈ os, G p = none ∧ ¬ InSrc F p) {qs : List Addr} (k : ∀ b, b ∉ qs → H' b = H b)
    (hq : ∀ b ∈ qs, G b = none ∧ ¬ InSrc F b ∧ (F.H0 b = none ∨ InSelf F b) ∧ (∃ o, H' b = some o) ∧ b ≠ sysModules) {σ' : List (Option V)} {ρ' : List Sl} {os' : List Addr}
    (h' : Sls K F G H' σ' ρ' os') (nd' : os'.Nodup) (f' : ∀ p ∈ os', p ∈ os ∨ p ∈ qs) : R K F G H' σ' ρ' := by
  refine ⟨r.gg, fun b o e => ?_, fun b o e n1 n2 => ?_, r.nw, fun b hb => ?_, fun a c h => ?_, fun q hq' => ⟨by rw [k _ fun m => (hq _ m).2.1 (.inr ⟨_, hq'⟩)]; exact (r.kp q hq').1, (r.kp q hq').2.1, (r.kp q hq').2.2⟩, by rw [k _ fun m => (hq _ m).2.2.2.2 rfl]; exact r.nm, os', h', nd', fun p hp => ?_⟩
  · by_cases m : b ∈ qs
    · rw [(hq b m).1] at e; cases e
    · rw [k b m]; exact r.gh b o e
  · by_cases m : b ∈ qs
    · rcases (hq b m).2.2.1 with z | z
      · rw [z] at e; cases e
      · exact absurd z n2
    · rw [k b m]; exact r.fr b o e n1 n2
  · by_cases m : b ∈ qs
    · exact (hq b m).2.2.2.1
    · rw [k b m]; exact r.th b hb
  · obtain ⟨s, ha, hc⟩ := r.sr a c h
    refine ⟨s.keep (k a fun m => (hq a m).2.1 (.inl ⟨a, c, h, .inl rfl⟩)) (k c fun m => (hq c m).2.1 (.inl ⟨a, c, h, .inr rfl⟩)), ha, hc⟩
  · rcases f' p hp with m | m
    · exact f p m
    · exact ⟨(hq p m).1, (hq p m).2.1⟩
/-- one new own object on top -/
theorem R.own (r : R K F G H σ ρ) {p : Addr} {o : HO} {s : Sl} (h : H p = none) (t : SlOk K F G (upd H p o) (some (.ref p)) s [p]) :
    R K F G (upd H p o) (some (.ref p) :: σ) (s :: ρ) := by
  obtain ⟨os, hs, nd, f⟩ := r.sl
  have ne := hs.notIn h
  have nw := r.new h
  refine r.write hs nd f (qs := [p]) (fun b hb => upd_ne (by simpa using hb)) (fun b hb => ?_) (.cons t (hs.keep .rfl fun q hq => upd_ne (ne q hq))) ?_ fun q hq => ?_
  · obtain rfl : b = p := by simpa using hb
    exact ⟨nw.1, nw.2.2.1, .inl nw.2.1, ⟨o, upd_same⟩, fun e => by obtain ⟨so, z⟩ := r.nm; rw [e, z] at h; cases h⟩
  · exact List.nodup_cons.mpr ⟨fun m => ne p m rfl, nd⟩
  · rcases List.mem_cons.mp hq with hq | hq
    · exact .inr (by simp [hq])
    · exact .inl hq
theorem R.lst (r : R K F G H σ ρ) {p : Addr} {us : List V} {xs : List D} (h : H p = none) (t : DdL K G us xs) : R K F G (upd H p (.lst us)) (some (.ref p) :: σ) (.ol xs :: ρ) :=
  r.own h (.ol upd_same t (r.new h).2.1)
theorem R.dic (r : R K F G H σ ρ) {p : Addr} {ks : List Key} {us : List V} {vs : List D} (h : H p = none) (hl : ks.length = us.length) (hn : ks.Nodup) (t : DdL K G us vs) :
    R K F G (upd H p (.dK (ks.zip us))) (some (.ref p) :: σ) (.od ks vs :: ρ) := r.own h (.od upd_same hl hn t (r.new h).2.1)

/-- what is owned becomes data -/
theorem SlOk.frz {u : V} {x : D} (h : SlOk K F G H (some u) s os) (hs : s.dat = some x) (hf : ∀ p ∈ os, G p = none) :
    ∃ G', Ex G G' ∧ Dd K G' u x ∧ (∀ b, b ∉ os → G' b = G b) ∧ (∀ b ∈ os, G' b = H b ∧ F.H0 b = none) := by
  cases h with
  | no => cases hs
  | d h => cases hs; exact ⟨G, .rfl, h, fun _ _ => rfl, by simp⟩
  | @ol p us xs h1 h2 h3 =>
    cases hs
    have e : Ex G (upd G p (.lst us)) := .put (hf p (by simp))
    exact ⟨_, e, .lst upd_same (h2.ex e), fun b hb => upd_ne (by simpa using hb), by simp [upd_same, h1, h3]⟩
  | @od p ks us vs h1 h2 h4 h3 h5 =>
    cases hs
    have e : Ex G (upd G p (.dK (ks.zip us))) := .put (hf p (by simp))
    exact ⟨_, e, .dic upd_same h2 h4 (h3.ex e), fun b hb => upd_ne (by simpa using hb), by simp [upd_same, h1, h5]⟩
  | @oi p C dx ns us vs h1 h2 h3 h4 h5 h6 =>
    cases hs
    have np : dx ≠ p := fun e => by rw [e, h1] at h3; cases h3
    have e1 : Ex G (upd G dx (.own p)) := .put (hf dx (by simp))
    have e2 : Ex (upd G dx (.own p)) (upd (upd G dx (.own p)) p (.ins C dx (ns.zip us))) := .put (by rw [upd_ne np.symm]; exact hf p (by simp))
    refine ⟨_, e1.tr e2, .ins upd_same h2 (by rw [upd_ne np, upd_same]) (h4.ex (e1.tr e2)), fun b hb => ?_, fun b hb => ?_⟩
    · have : b ≠ p ∧ b ≠ dx := by simpa using hb
      rw [upd_ne this.1, upd_ne this.2]
    · rcases (by simpa using hb : b = p ∨ b = dx) with rfl | rfl
      · rw [upd_same]; exact ⟨h1.symm, h5⟩
      · rw [upd_ne np, upd_same]; exact ⟨h3.symm, h6⟩
  | bi => cases hs
  | src => cases hs
  | ld => cases hs
theorem R.frzCore {u : V} {x : D} (r : R K F G H σ ρ) {os1 os2 : List Addr} (h : SlOk K F G H (some u) s os1) (hs : s.dat = some x) {σ' : List (Option V)} {ρ' : List Sl}
    (nd : (os1 ++ os2).Nodup) (f : ∀ p ∈ os1 ++ os2, G p = none ∧ ¬ InSrc F p) (k : ∀ {G'}, Ex G G' → Dd K G' u x → ∃ os3, Sls K F G' H σ' ρ' os3 ∧ os3.Perm os2) :
    ∃ G', Ex G G' ∧ Dd K G' u x ∧ R K F G' H σ' ρ' := by
  obtain ⟨G', e, d, h1, h2⟩ := h.frz hs fun p hp => (f p (List.mem_append_left _ hp)).1
  obtain ⟨os3, t, pm⟩ := k e d
  have dj := (List.nodup_append.mp nd).2.2
  refine ⟨G', e, d, r.gg.tr e, fun b o q => ?_, r.fr, fun b o q => ?_, r.th, fun a c q => ?_, fun q hq => ⟨(r.kp q hq).1, by rw [h1 _ fun m => (f _ (List.mem_append_left _ m)).2 (.inr ⟨_, hq⟩)]; exact (r.kp q hq).2.1, (r.kp q hq).2.2⟩, r.nm, os3, t, pm.nodup_iff.mpr (List.nodup_append.mp nd).2.1, fun p hp => ?_⟩
  · by_cases m : b ∈ os1
    · rw [← (h2 b m).1]; exact q
    · rw [h1 b m] at q; exact r.gh b o q
  · by_cases m : b ∈ os1
    · exact .inr (h2 b m).2
    · rw [h1 b m] at q; exact r.nw b o q
  · obtain ⟨z, ha, hc⟩ := r.sr a c q
    have na : a ∉ os1 := fun m => (f a (List.mem_append_left _ m)).2 (.inl ⟨a, c, q, .inl rfl⟩)
    have nc : c ∉ os1 := fun m => (f c (List.mem_append_left _ m)).2 (.inl ⟨a, c, q, .inr rfl⟩)
    exact ⟨z, by rw [h1 a na]; exact ha, by rw [h1 c nc]; exact hc⟩
  · have hp2 : p ∈ os2 := pm.mem_iff.mp hp
    have np : p ∉ os1 := fun m => dj p m p hp2 rfl
    have z := f p (List.mem_append_right _ hp2)
    exact ⟨by rw [h1 p np]; exact z.1, z.2⟩
/-- the thing on top becomes data -/
theorem R.frz {u : V} {x : D} (r : R K F G H (some u :: σ) (s :: ρ)) (hs : s.dat = some x) : ∃ G', Ex G G' ∧ Dd K G' u x ∧ R K F G' H σ ρ := by
  obtain ⟨os, h, nd, f⟩ := r.sl
  cases h with
  | cons a t => exact r.pop.frzCore a hs nd f fun {G'} e d => ⟨_, t.keep e fun _ _ => rfl, .refl _⟩
/-- slot i becomes data -/
theorem R.frzAt {x : D} (r : R K F G H σ ρ) {i : Nat} (hi : ρ[i]? = some s) (hs : s.dat = some x) : ∃ v G', σ[i]? = some (some v) ∧ Ex G G' ∧ Dd K G' v x ∧ R K F G' H σ (ρ.set i (.d x)) := by
  obtain ⟨os, h, nd, f⟩ := r.sl
  obtain ⟨v, os1, os2, e1, e2, e3, g⟩ := h.at hi
  have : ∃ u, v = some u := by cases e2 <;> first | exact ⟨_, rfl⟩ | cases hs
  obtain ⟨u, rfl⟩ := this
  have e4 : σ.set i (some u) = σ := by
    obtain ⟨hl, e5⟩ := List.getElem?_eq_some_iff.mp e1
    rw [← e5]; exact List.set_getElem_self hl
  obtain ⟨G', a, b, c⟩ := r.frzCore e2 hs (e3.nodup_iff.mp nd) (fun p hp => f p (e3.mem_iff.mpr hp)) (σ' := σ) (ρ' := ρ.set i (.d x)) fun {G'} e d => by
    obtain ⟨os3, t, pm⟩ := g e (fun _ _ => rfl) (.d d)
    rw [e4] at t
    exact ⟨os3, t, pm⟩
  exact ⟨u, G', e1, a, b, c⟩
/-- the thing on top goes into slot i -/
theorem R.put {v : Option V} (r : R K F G H (v :: σ) (s :: ρ)) (i : Nat) (hi : i < ρ.length) : R K F G H (σ.set i v) (ρ.set i s) := by
  obtain ⟨os, h, nd, f⟩ := r.sl
  cases h with
  | @cons _ _ _ _ o1 o2 a t =>
    obtain ⟨w, os1, os2, e1, e2, e3, g⟩ := t.at (i := i) (s := ρ[i]) (List.getElem?_eq_some_iff.mpr ⟨hi, rfl⟩)
    obtain ⟨os3, t', pm⟩ := g .rfl (fun _ _ => rfl) a
    have nd2 : (o1 ++ os2).Nodup := by
      have n1 := List.nodup_append.mp nd
      have n2 := List.nodup_append.mp (e3.nodup_iff.mp n1.2.1)
      exact List.nodup_append.mpr ⟨n1.1, n2.2.1, fun a ha b hb => n1.2.2 a ha b (e3.mem_iff.mpr (List.mem_append_right _ hb))⟩
    refine ⟨r.gg, r.gh, r.fr, r.nw, r.th, r.sr, r.kp, r.nm, os3, t', pm.nodup_iff.mpr nd2, fun p hp => f p ?_⟩
    rcases List.mem_append.mp (pm.mem_iff.mp hp) with m | m
    · exact List.mem_append_left _ m
    · exact List.mem_append_right _ (e3.mem_iff.mpr (List.mem_append_right _ m))
/-- the own list in slot i: where it stands, and that it may be written -/
theorem R.wrL {xs : List D} (r : R K F G H σ ρ) {i : Nat} (hi : ρ[i]? = some (.ol xs)) : ∃ p us, σ[i]? = some (some (.ref p)) ∧ H p = some (.lst us) ∧ DdL K G us xs ∧
    ∀ us' xs', DdL K G us' xs' → R K F G (upd H p (.lst us')) σ (ρ.set i (.ol xs')) := by
  obtain ⟨os, h, nd, f⟩ := r.sl
  obtain ⟨v, os1, os2, e1, e2, e3, g⟩ := h.at hi
  cases e2 with
  | @ol p us _ h1 h2 h3 =>
    refine ⟨p, us, e1, h1, h2, fun us' xs' t => ?_⟩
    have e4 : σ.set i (some (.ref p)) = σ := by
      obtain ⟨hl, e5⟩ := List.getElem?_eq_some_iff.mp e1
      rw [← e5]; exact List.set_getElem_self hl
    have nd2 := List.nodup_append.mp (e3.nodup_iff.mp nd)
    obtain ⟨os3, t', pm⟩ := g (G' := G) (H' := upd H p (.lst us')) .rfl (fun q hq => upd_ne fun e => nd2.2.2 p (by simp) q hq e.symm) (.ol upd_same t h3)
    rw [e4] at t'
    have fp := f p (e3.mem_iff.mpr (by simp))
    refine r.write h nd f (qs := [p]) (fun b hb => upd_ne (by simpa using hb)) (fun b hb => ?_) t' (pm.nodup_iff.mpr (e3.nodup_iff.mp nd)) fun q hq => .inl (e3.mem_iff.mpr (pm.mem_iff.mp hq))
    obtain rfl : b = p := by simpa using hb
    exact ⟨fp.1, fp.2, .inl h3, ⟨_, upd_same⟩, fun e => by obtain ⟨so, z⟩ := r.nm; rw [e, z] at h1; cases h1⟩
theorem R.wrD {ks : List Key} {vs : List D} (r : R K F G H σ ρ) {i : Nat} (hi : ρ[i]? = some (.od ks vs)) : ∃ p us, σ[i]? = some (some (.ref p)) ∧ H p = some (.dK (ks.zip us)) ∧ ks.length = us.length ∧ ks.Nodup ∧ DdL K G us vs ∧
    ∀ ks' us' vs', ks'.length = us'.length → ks'.Nodup → DdL K G us' vs' → R K F G (upd H p (.dK (ks'.zip us'))) σ (ρ.set i (.od ks' vs')) := by
  obtain ⟨os, h, nd, f⟩ := r.sl
  obtain ⟨v, os1, os2, e1, e2, e3, g⟩ := h.at hi
  cases e2 with
  | @od p _ us _ h1 h2 h4 h5 h3 =>
    refine ⟨p, us, e1, h1, h2, h4, h5, fun ks' us' vs' hl hn t => ?_⟩
    have e4 : σ.set i (some (.ref p)) = σ := by
      obtain ⟨hl, e5⟩ := List.getElem?_eq_some_iff.mp e1
      rw [← e5]; exact List.set_getElem_self hl
    have nd2 := List.nodup_append.mp (e3.nodup_iff.mp nd)
    obtain ⟨os3, t', pm⟩ := g (G' := G) (H' := upd H p (.dK (ks'.zip us'))) .rfl (fun q hq => upd_ne fun e => nd2.2.2 p (by simp) q hq e.symm) (.od upd_same hl hn t h3)
    rw [e4] at t'
    have fp := f p (e3.mem_iff.mpr (by simp))
    refine r.write h nd f (qs := [p]) (fun b hb => upd_ne (by simpa using hb)) (fun b hb => ?_) t' (pm.nodup_iff.mpr (e3.nodup_iff.mp nd)) fun q hq => .inl (e3.mem_iff.mpr (pm.mem_iff.mp hq))
    obtain rfl : b = p := by simpa using hb
    exact ⟨fp.1, fp.2, .inl h3, ⟨_, upd_same⟩, fun e => by obtain ⟨so, z⟩ := r.nm; rw [e, z] at h1; cases h1⟩
/-- an instance, own or lent, in slot i: where it stands, and that it may be written -/
def Sl.inst : Sl → Option (Addr × List Str × List D)
  | .oi C ns vs => some (C, ns, vs)
  | .bi C ns vs => some (C, ns, vs)
  | _ => none
def Sl.withF : Sl → List Str → List D → Sl
  | .oi C _ _, ns, vs => .oi C ns vs
  | .bi C _ _, ns, vs => .bi C ns vs
  | s, _, _ => s
theorem R.wrI {C : Addr} {ns : List Str} {vs : List D} (r : R K F G H σ ρ) {i : Nat} (hi : ρ[i]? = some s) (hn : s.inst = some (C, ns, vs)) :
    ∃ p dx us, σ[i]? = some (some (.ref p)) ∧ H p = some (.ins C dx (ns.zip us)) ∧ ns.length = us.length ∧ DdL K G us vs ∧
    ∀ ns' us' vs', ns'.length = us'.length → DdL K G us' vs' → R K F G (upd H p (.ins C dx (ns'.zip us'))) σ (ρ.set i (s.withF ns' vs')) := by
  obtain ⟨os, h, nd, f⟩ := r.sl
  obtain ⟨v, os1, os2, e1, e2, e3, g⟩ := h.at hi
  have nd2 := List.nodup_append.mp (e3.nodup_iff.mp nd)
  cases e2 with
  | @oi p _ dx _ us _ h1 h2 h3 h4 h5 h6 =>
    cases hn
    refine ⟨p, dx, us, e1, h1, h2, h4, fun ns' us' vs' hl t => ?_⟩
    have np : dx ≠ p := fun e => by rw [e, h1] at h3; cases h3
    have e4 : σ.set i (some (.ref p)) = σ := by
      obtain ⟨hl, e5⟩ := List.getElem?_eq_some_iff.mp e1
      rw [← e5]; exact List.set_getElem_self hl
    obtain ⟨os3, t', pm⟩ := g (G' := G) (H' := upd H p (.ins C dx (ns'.zip us'))) .rfl (fun q hq => upd_ne fun e => nd2.2.2 p (by simp) q hq e.symm) (.oi upd_same hl (by rw [upd_ne np]; exact h3) t h5 h6)
    rw [e4] at t'
    have fp := f p (e3.mem_iff.mpr (by simp))
    refine r.write h nd f (qs := [p]) (fun b hb => upd_ne (by simpa using hb)) (fun b hb => ?_) t' (pm.nodup_iff.mpr (e3.nodup_iff.mp nd)) fun q hq => .inl (e3.mem_iff.mpr (pm.mem_iff.mp hq))
    obtain rfl : b = p := by simpa using hb
    exact ⟨fp.1, fp.2, .inl h5, ⟨_, upd_same⟩, fun e => by obtain ⟨so, z⟩ := r.nm; rw [e, z] at h1; cases h1⟩
  | @bi p _ dx _ us _ h1 h2 h3 h4 h5 =>
    cases hn
    refine ⟨p, dx, us, e1, h1, h2, h4, fun ns' us' vs' hl t => ?_⟩
    have np : dx ≠ p := fun e => by rw [e, h1] at h3; cases h3
    have e4 : σ.set i (some (.ref p)) = σ := by
      obtain ⟨hl, e5⟩ := List.getElem?_eq_some_iff.mp e1
      rw [← e5]; exact List.set_getElem_self hl
    obtain ⟨os3, t', pm⟩ := g (G' := G) (H' := upd H p (.ins C dx (ns'.zip us'))) .rfl (fun q hq => upd_ne fun e => nd2.2.2 p (by simp) q hq e.symm) (.bi upd_same hl (by rw [upd_ne np]; exact h3) t h5)
    rw [e4] at t'
    have fp := f p (e3.mem_iff.mpr (by simp))
    refine r.write h nd f (qs := [p]) (fun b hb => upd_ne (by simpa using hb)) (fun b hb => ?_) t' (pm.nodup_iff.mpr (e3.nodup_iff.mp nd)) fun q hq => .inl (e3.mem_iff.mpr (pm.mem_iff.mp hq))
    obtain rfl : b = p := by simpa using hb
    exact ⟨fp.1, fp.2, .inr ⟨_, _, h5, .inl rfl⟩, ⟨_, upd_same⟩, fun e => by obtain ⟨so, z⟩ := r.nm; rw [e, z] at h1; cases h1⟩
  | no => cases hn
  | d => cases hn
  | ol => cases hn
  | od => cases hn
  | src => cases hn
  | ld => cases hn
/-- the own list on top is set aside; and taken back -/
def Fr.aside (F : Fr) (p : Addr) (o : HO) : Fr := { F with ks := (p, o) :: F.ks }
theorem Sls.fr {F F' : Fr} (h : Sls K F G H σ ρ os) (e1 : F'.H0 = F.H0) (e2 : F'.src = F.src) (e3 : F'.self = F.self) (e4 : ∀ p o, F.H0 p = some o → ¬ InSrc F p → ¬ InSrc F' p) : Sls K F' G H σ ρ os := by
  induction h with
  | nil => exact .nil
  | cons a t ih =>
    refine .cons ?_ ih
    cases a with
    | no => exact .no _
    | d h => exact .d h
    | ol h1 h2 h3 => exact .ol h1 h2 (by rw [e1]; exact h3)
    | od h1 h2 h4 h3 h5 => exact .od h1 h2 h4 h3 (by rw [e1]; exact h5)
    | oi h1 h2 h3 h4 h5 h6 => exact .oi h1 h2 h3 h4 (by rw [e1]; exact h5) (by rw [e1]; exact h6)
    | bi h1 h2 h3 h4 h5 => exact .bi h1 h2 h3 h4 (by rw [e3]; exact h5)
    | src h => exact .src (by rw [e2]; exact h)
    | ld h h0 h1 h2 => exact .ld h (by rw [e1]; exact h0) (e4 _ _ h0 h1) (fun ⟨a, c, m, n⟩ => h2 ⟨a, c, by rw [← e3]; exact m, n⟩)
theorem R.set {p : Addr} {o : HO} {os2 : List Addr} {u : Option V} (r : R K F G H (u :: σ) (s :: ρ)) (t : Sls K F G H σ ρ os2) (h1 : H p = some o) (fp : G p = none ∧ ¬ InSrc F p) (nd : os2.Nodup) (np : p ∉ os2) (f : ∀ q ∈ os2, G q = none ∧ ¬ InSrc F q) (n0 : F.H0 p = none) :
    R K (F.aside p o) G H σ ρ := by
  refine ⟨r.gg, r.gh, fun b o e n1 n2 => r.fr b o e (fun m => n1 ?_) n2, r.nw, fun b hb => ?_, r.sr, fun q hq => ?_, r.nm, os2, t.fr rfl rfl rfl (fun q u hq n m => by
      rcases m with m | ⟨u', m⟩
      · exact n (.inl m)
      · rcases List.mem_cons.mp m with m | m
        · cases m; rw [n0] at hq; cases hq
        · exact n (.inr ⟨_, m⟩)), nd, fun q hq => ⟨(f q hq).1, fun m => ?_⟩⟩
  · rcases m with m | ⟨o, m⟩
    · exact .inl m
    · exact .inr ⟨o, List.mem_cons_of_mem _ m⟩
  · rcases hb with hb | hb
    · rcases hb with hb | ⟨o, hb⟩
      · exact r.th b (.inl (.inl hb))
      · rcases List.mem_cons.mp hb with hb | hb
        · cases hb; exact ⟨_, h1⟩
        · exact r.th b (.inl (.inr ⟨o, hb⟩))
    · exact r.th b (.inr hb)
  · rcases List.mem_cons.mp hq with hq | hq
    · subst hq; exact ⟨h1, fp.1, fun a c z => ⟨fun e => fp.2 (.inl ⟨a, c, z, .inl e⟩), fun e => fp.2 (.inl ⟨a, c, z, .inr e⟩)⟩⟩
    · exact r.kp q hq
  · rcases m with m | ⟨o, m⟩
    · exact (f q hq).2 (.inl m)
    · rcases List.mem_cons.mp m with m | m
      · cases m; exact np hq
      · exact (f q hq).2 (.inr ⟨o, m⟩)
theorem R.aside {xs : List D} {u : V} (r : R K F G H (some u :: σ) (.ol xs :: ρ)) : ∃ p us, u = .ref p ∧ H p = some (.lst us) ∧ DdL K G us xs ∧ R K (F.aside p (.lst us)) G H σ ρ ∧ F.H0 p = none ∧ ¬ InSrc F p := by
  obtain ⟨os, h, nd, f⟩ := r.sl
  cases h with
  | @cons _ _ _ _ o1 o2 a t =>
    cases a with
    | @ol p us _ h1 h2 h3 =>
      have nd := List.nodup_cons.mp nd
      exact ⟨p, us, rfl, h1, h2, r.set t h1 (f p (by simp)) nd.2 nd.1 (fun q hq => f q (List.mem_cons_of_mem _ hq)) h3, h3, (f p (by simp)).2⟩
theorem R.asideD {ks : List Key} {vs : List D} {u : V} (r : R K F G H (some u :: σ) (.od ks vs :: ρ)) : ∃ p us, u = .ref p ∧ H p = some (.dK (ks.zip us)) ∧ ks.length = us.length ∧ ks.Nodup ∧ DdL K G us vs ∧ R K (F.aside p (.dK (ks.zip us))) G H σ ρ ∧ F.H0 p = none ∧ ¬ InSrc F p := by
  obtain ⟨os, h, nd, f⟩ := r.sl
  cases h with
  | @cons _ _ _ _ o1 o2 a t =>
    cases a with
    | @od p _ us _ h1 h2 h4 h5 h3 =>
      have nd := List.nodup_cons.mp nd
      exact ⟨p, us, rfl, h1, h2, h4, h5, r.set t h1 (f p (by simp)) nd.2 nd.1 (fun q hq => f q (List.mem_cons_of_mem _ hq)) h3, h3, (f p (by simp)).2⟩
theorem R.unset {p : Addr} {o : HO} (r : R K (F.aside p o) G H σ ρ) (h3 : F.H0 p = none) (ns : ¬ InSrc F p) (nq : ∀ so, o ≠ .frz so sysO) {o' : HO} (ho : SlOk K F G (upd H p o') (some (.ref p)) s [p]) : R K F G (upd H p o') (some (.ref p) :: σ) (s :: ρ) := by
  obtain ⟨os, h, nd, f⟩ := r.sl
  have kp := r.kp (p, o) (by simp [Fr.aside])
  have np : p ∉ os := fun m => (f p m).2 (.inr ⟨o, by simp [Fr.aside]⟩)
  have sub : ∀ q, InSrc F q → InSrc (F.aside p o) q := fun q m => by
    rcases m with m | ⟨o, m⟩
    · exact .inl m
    · exact .inr ⟨o, List.mem_cons_of_mem _ m⟩
  have r0 : R K F G H σ ρ := by
    refine ⟨r.gg, r.gh, fun b u e n1 n2 => r.fr b u e (fun m => ?_) n2, r.nw, fun b hb => r.th b ?_, r.sr, fun q hq => r.kp q (List.mem_cons_of_mem _ hq), r.nm, os, h.fr rfl rfl rfl (fun q u _ n m => n (sub q m)), nd, fun q hq => ⟨(f q hq).1, fun m => (f q hq).2 (sub q m)⟩⟩
    · rcases m with m | ⟨o, m⟩
      · exact n1 (.inl m)
      · rcases List.mem_cons.mp m with m | m
        · cases m
          rw [h3] at e; cases e
        · exact n1 (.inr ⟨o, m⟩)
    · rcases hb with hb | hb
      · exact .inl (sub b hb)
      · exact .inr hb
  have h0 : Sls K F G H σ ρ os := h.fr rfl rfl rfl (fun q u _ n m => n (sub q m))
  refine r0.write h0 nd (fun q hq => ⟨(f q hq).1, fun m => (f q hq).2 (sub q m)⟩) (qs := [p]) (fun b hb => upd_ne (by simpa using hb)) (fun b hb => ?_) (.cons ho (h0.keep .rfl fun q hq => upd_ne fun e => np (e ▸ hq))) (List.nodup_cons.mpr ⟨np, nd⟩) fun q hq => ?_
  · obtain rfl : b = p := by simpa using hb
    exact ⟨kp.2.1, ns, .inl h3, ⟨_, upd_same⟩, fun e => by have z := kp.1; rw [e] at z; obtain ⟨so, y⟩ := r.nm; exact nq so (Option.some.inj (z.symm.trans y))⟩
  · rcases List.mem_cons.mp hq with hq | hq
    · exact .inr (by simp [hq])
    · exact .inl hq
/-- a slot forgotten; slots that are not known may hold anything -/
theorem R.forget (r : R K F G H σ ρ) (i : Nat) : R K F G H σ (ρ.set i .no) := by
  by_cases hi : i < ρ.length
  · obtain ⟨os, h, nd, f⟩ := r.sl
    obtain ⟨v, os1, os2, e1, e2, e3, g⟩ := h.at (i := i) (s := ρ[i]) (List.getElem?_eq_some_iff.mpr ⟨hi, rfl⟩)
    obtain ⟨os3, t', pm⟩ := g .rfl (fun _ _ => rfl) (.no v)
    have e4 : σ.set i v = σ := by
      obtain ⟨hl, e5⟩ := List.getElem?_eq_some_iff.mp e1
      rw [← e5]; exact List.set_getElem_self hl
    rw [e4] at t'
    have nd2 := List.nodup_append.mp (e3.nodup_iff.mp nd)
    exact ⟨r.gg, r.gh, r.fr, r.nw, r.th, r.sr, r.kp, r.nm, os3, t', pm.nodup_iff.mpr nd2.2.1, fun p hp => f p (e3.mem_iff.mpr (List.mem_append_right _ (pm.mem_iff.mp hp)))⟩
  · rw [List.set_eq_of_length_le (by omega)]; exact r
theorem Sls.any (h : Sls K F G H σ ρ os) : ∀ {i : Nat} {v : Option V}, ρ[i]? = some .no → Sls K F G H (σ.set i v) ρ os := by
  induction h with
  | nil => intro i v e; simp at e
  | @cons v0 s0 σ ρ os0 ps a t ih =>
    intro i v e
    cases i with
    | zero =>
      cases e
      cases a
      exact .cons (.no v) t
    | succ i => exact .cons a (ih (by simpa using e))
theorem R.any (r : R K F G H σ ρ) {i : Nat} {v : Option V} (e : ρ[i]? = some .no) : R K F G H (σ.set i v) ρ := by
  obtain ⟨os, h, nd, f⟩ := r.sl
  exact ⟨r.gg, r.gh, r.fr, r.nw, r.th, r.sr, r.kp, r.nm, os, h.any e, nd, f⟩
end
end Fl
namespace Fl
open PySem L2

abbrev Env' := List Sl
abbrev ET := Env' → (Sl → Env' → Prop) → Prop
abbrev TTd := Env' → (Bool → Env' → Prop) → Prop
abbrev AT := Env' → (List D → Env' → Prop) → Prop

def lift (K : PySem.W.Frag) (t : ET) : TE := fun σ H Q => ∃ F G ρ P, R K F G H σ ρ ∧ t ρ P ∧
  ∀ r ρ' v G' H', P r ρ' → Ex G G' → R K F G' H' (some v :: σ) (r :: ρ') → Q v H'
def liftT (K : PySem.W.Frag) (t : TTd) : TT := fun σ H Q => ∃ F G ρ P, R K F G H σ ρ ∧ t ρ P ∧
  ∀ b ρ' G' H', P b ρ' → Ex G G' → R K F G' H' σ ρ' → Q b H'
def liftA (K : PySem.W.Frag) (t : AT) : TA := fun σ H Q => ∃ F G ρ P, R K F G H σ ρ ∧ t ρ P ∧
  ∀ xs ρ' vs G' H', P xs ρ' → Ex G G' → R K F G' H' σ ρ' → DdL K G' vs xs → Q vs H'

section
variable {X : Cx} {e a b : Expr} {t : ET} {te ta tb : ET} {K : PySem.W.Frag} {F : Fr} {G G' H H' : Hp} {σ : St} {ρ : Env'} {pos : Pos}
theorem peImp {t t' : TE} (h : PE X e t) (i : ∀ σ H Q, t' σ H Q → t σ H Q) : PE X e t' := ⟨fun pins s σ H Q I q => h.run pins s σ H Q I (i _ _ _ q)⟩
theorem ptImp {t t' : TT} (h : PT X e t) (i : ∀ σ H Q, t' σ H Q → t σ H Q) : PT X e t' := ⟨fun pins s σ H Q I q => h.run pins s σ H Q I (i _ _ _ q)⟩
theorem pwImp {t t' : TT} (h : PW X e t) (i : ∀ σ H Q, t' σ H Q → t σ H Q) : PW X e t' := ⟨fun w pins s σ H Q I q => h.run w pins s σ H Q I (i _ _ _ q)⟩
theorem paImp {es : List Expr} {t t' : TA} (h : PA X es t) (i : ∀ σ H Q, t' σ H Q → t σ H Q) : PA X es t' := ⟨fun p pins s σ H Q I q => h.run p pins s σ H Q I (i _ _ _ q)⟩
/-- a part that gives data, run -/
theorem goD {P : D → Env' → Prop} {Q : VK} (r : R K F G H σ ρ) (h : t ρ fun x ρ1 => ∃ d, x.dat = some d ∧ P d ρ1)
    (k : ∀ d ρ' v G' H', P d ρ' → Ex G G' → R K F G' H' σ ρ' → Dd K G' v d → Q v H') : lift K t σ H Q :=
  ⟨F, G, ρ, _, r, h, fun x ρ' v G' H' ⟨d, hd, p⟩ e r' => by
    obtain ⟨G2, e2, dd, r2⟩ := r'.frz hd
    exact k d ρ' v G2 H' p (e.tr e2) r2 dd⟩
theorem goA {t : AT} {P : List D → Env' → Prop} {Q : List V → Hp → Prop} (r : R K F G H σ ρ) (h : t ρ P)
    (k : ∀ xs ρ' vs G' H', P xs ρ' → Ex G G' → R K F G' H' σ ρ' → DdL K G' vs xs → Q vs H') : liftA K t σ H Q := ⟨F, G, ρ, P, r, h, k⟩
theorem goT {t : TTd} {P : Bool → Env' → Prop} {Q : Bool → Hp → Prop} (r : R K F G H σ ρ) (h : t ρ P)
    (k : ∀ b ρ' G' H', P b ρ' → Ex G G' → R K F G' H' σ ρ' → Q b H') : liftT K t σ H Q := ⟨F, G, ρ, P, r, h, k⟩

def dC (x : D) : ET := fun ρ P => P (.d x) ρ
def dVar (i : Nat) : ET := fun ρ P => match ρ[i]? with
  | some .src => P .src ρ
  | some s => match s.dat with
    | some x => P (.d x) (ρ.set i (.d x))
    | none => False
  | none => False
theorem pd_int {i j} : PE X (.Constant (.int i) j pos) (lift X.K (dC (.int i))) := peImp pe_int fun σ H Q ⟨F, G, ρ, P, r, h, k⟩ => k _ _ _ _ _ h .rfl (r.push (.int i))
theorem pd_bl {b j} : PE X (.Constant (.bool b) j pos) (lift X.K (dC (.bl b))) := peImp pe_bl fun σ H Q ⟨F, G, ρ, P, r, h, k⟩ => k _ _ _ _ _ h .rfl (r.push (.bl b))
theorem pd_non {j} : PE X (.Constant .none j pos) (lift X.K (dC .non)) := peImp pe_non fun σ H Q ⟨F, G, ρ, P, r, h, k⟩ => k _ _ _ _ _ h .rfl (r.push .non)
theorem pd_str {x j} (ho : sOk x = true := by decide +kernel) : PE X (.Constant (.str x) j pos) (lift X.K (dC (.str x))) := peImp pe_str fun σ H Q ⟨F, G, ρ, P, r, h, k⟩ => k _ _ _ _ _ h .rfl (r.push (.str x ho))
/-- a name of the module that holds a constant -/
theorem pd_glob {x : Str} {d : D} {v : V} {u : Value} (hg : Gl X x) (hm : X.mg x = some u) (r0 : RelV v u) (hd : ∀ G, Dd X.K G v d) (hdb : (x == ("__debug__" : Str)) = false := by decide) : PE X (.Name x pos) (lift X.K (dC d)) :=
  peImp (pe_glob hg hm r0 hdb) fun σ H Q ⟨F, G, ρ, P, r, h, k⟩ => k _ _ _ _ _ h .rfl (r.push (hd G))
theorem R.src (r : R K F G H σ ρ) {i : Nat} (hi : ρ[i]? = some .src) : ∃ a c, σ[i]? = some (some (.ref a)) ∧ F.src = some (a, c) := by
  obtain ⟨os, h, nd, f⟩ := r.sl
  obtain ⟨v, os1, os2, e1, e2, _⟩ := h.at hi
  cases e2 with
  | src h => exact ⟨_, _, e1, h⟩
theorem R.pushSrc (r : R K F G H σ ρ) {a c : Addr} (h : F.src = some (a, c)) : R K F G H (some (.ref a) :: σ) (.src :: ρ) := by
  obtain ⟨os, hs, nd, f⟩ := r.sl
  exact ⟨r.gg, r.gh, r.fr, r.nw, r.th, r.sr, r.kp, r.nm, _, .cons (.src h) hs, nd, f⟩
theorem pd_var (i : Nat) {x : Str} (hN : X.N[i]? = some x := by rfl) (hv : Vis X.env.scope x := by first | exact Or.inl rfl | exact Or.inr (Or.inl rfl) | exact Or.inr (Or.inr rfl)) (hd : (x == ("__debug__" : Str)) = false := by decide)
    (hcd : (x == ("__classdict__" : Str)) = false := by decide) : PE X (.Name x pos) (lift X.K (dVar i)) := by
  refine peImp (pe_var hN hv hd hcd) fun σ H Q ⟨F, G, ρ, P, r, h, k⟩ => ?_
  have gen : ∀ {s : Sl} {x : D}, ρ[i]? = some s → s.dat = some x → P (.d x) (ρ.set i (.d x)) → tVar i σ H Q := fun {s x} hi hx p => by
    obtain ⟨v, G', e1, e2, dd, r'⟩ := r.frzAt hi hx
    exact ⟨v, e1, k _ _ _ _ _ p e2 (r'.push dd)⟩
  unfold dVar at h
  cases e : ρ[i]? with
  | none => rw [e] at h; exact h.elim
  | some s =>
    rw [e] at h
    cases s with
    | src =>
      obtain ⟨a, c, e1, e2⟩ := r.src e
      exact ⟨_, e1, k _ _ _ _ _ h .rfl (r.pushSrc e2)⟩
    | no => exact h.elim
    | ld => exact h.elim
    | bi => exact h.elim
    | d x => exact gen e rfl h
    | ol x => exact gen e rfl h
    | od _ _ => exact gen e rfl h
    | oi _ _ _ => exact gen e rfl h

def dNil : AT := fun ρ P => P [] ρ
def dCons (te : ET) (ta : AT) : AT := fun ρ P => te ρ fun x ρ1 => ∃ d, x.dat = some d ∧ ta ρ1 fun xs ρ2 => P (d :: xs) ρ2
theorem pda_nil : PA X [] (liftA X.K dNil) := paImp pa_nil fun σ H Q ⟨F, G, ρ, P, r, h, k⟩ => k _ _ _ _ _ h .rfl r .nil
theorem pda_cons {es : List Expr} {ta : AT} (he : PE X e (lift X.K te)) (hr : PA X es (liftA X.K ta)) (hs : starEach (e :: es) X.env = (false, eval e X.env) :: starEach es X.env := by rfl) : PA X (e :: es) (liftA X.K (dCons te ta)) :=
  paImp (pa_cons he hr hs) fun σ H Q ⟨F, G, ρ, P, r, h, k⟩ => goD r h fun d ρ1 v G1 H1 h1 e1 r1 d1 => goA r1 h1 fun xs ρ2 vs G2 H2 h2 e2 r2 d2 => k _ _ _ _ _ h2 (e1.tr e2) r2 (.cons (d1.ex e2) d2)

def dTup (ta : AT) : ET := fun ρ P => ta ρ fun xs ρ1 => xs.length ≤ 1000 ∧ P (.d (.tup xs)) ρ1
def dLst (ta : AT) : ET := fun ρ P => ta ρ fun xs ρ1 => xs.length ≤ 1000 ∧ P (.ol xs) ρ1
theorem sz1000 {n : Nat} (h : n ≤ 1000) : n ≤ sizeLine := Nat.le_trans h (by decide)
theorem pd_tup {es : List Expr} {x1} {ta : AT} (h : PA X es (liftA X.K ta)) : PE X (.Tuple es x1 pos) (lift X.K (dTup ta)) :=
  peImp (pe_tup h) fun σ H Q ⟨F, G, ρ, P, r, h, k⟩ => goA r h fun xs ρ1 vs G1 H1 ⟨hl, h1⟩ e1 r1 d1 => ⟨by rw [d1.len]; exact sz1000 hl, fun p hp => by
    obtain ⟨e2, r2, d2⟩ := r1.tup hp d1
    exact k _ _ _ _ _ h1 (e1.tr e2) (r2.push d2)⟩
theorem pd_lst {es : List Expr} {ta : AT} (h : PA X es (liftA X.K ta)) : PE X (.List es pos) (lift X.K (dLst ta)) :=
  peImp (pe_lst h) fun σ H Q ⟨F, G, ρ, P, r, h, k⟩ => goA r h fun xs ρ1 vs G1 H1 ⟨hl, h1⟩ e1 r1 d1 => ⟨by rw [d1.len]; exact sz1000 hl, fun p hp => k _ _ _ _ _ h1 e1 (r1.lst hp d1)⟩
def dDic0 : ET := fun ρ P => P (.od [] []) ρ
theorem pd_dic0 : PE X (.Dict [] [] pos) (lift X.K dDic0) :=
  peImp pe_dnewK fun σ H Q ⟨F, G, ρ, P, r, h, k⟩ => fun p hp => k _ _ _ _ _ h .rfl (r.dic (ks := []) (us := []) hp rfl List.nodup_nil .nil)

abbrev RO := D → D → (Sl → Prop) → Prop
/-- an operation on data: what it gives -/
def OpD (X : Cx) (f : Value → Value → Sem Value) (ro : RO) : Prop := ∃ r : R2, OpR X f r ∧ ∀ {F : Fr} {G H : Hp} {σ : St} {ρ : Env'} {vx vy : V} {x y : D} {P : Sl → Prop} {Q : VK},
  R X.K F G H σ ρ → Dd X.K G vx x → Dd X.K G vy y → ro x y P → (∀ s v G' H', P s → Ex G G' → R X.K F G' H' (some v :: σ) (s :: ρ) → Q v H') → r vx vy H Q
def dOp (ro : RO) (ta tb : ET) : ET := fun ρ P => ta ρ fun x ρ1 => ∃ dx, x.dat = some dx ∧ tb ρ1 fun y ρ2 => ∃ dy, y.dat = some dy ∧ ro dx dy fun z => P z ρ2
theorem opGo {f : Value → Value → Sem Value} {ro : RO} {r : R2} (ho : ∀ {F : Fr} {G H : Hp} {σ : St} {ρ : Env'} {vx vy : V} {x y : D} {P : Sl → Prop} {Q : VK},
    R X.K F G H σ ρ → Dd X.K G vx x → Dd X.K G vy y → ro x y P → (∀ s v G' H', P s → Ex G G' → R X.K F G' H' (some v :: σ) (s :: ρ) → Q v H') → r vx vy H Q)
    {σ : St} {H : Hp} {Q : VK} (h : lift X.K (dOp ro ta tb) σ H Q) : tOp r (lift X.K ta) (lift X.K tb) σ H Q := by
  obtain ⟨F, G, ρ, P, r0, h, k⟩ := h
  exact goD r0 h fun x ρ1 v G1 H1 h1 e1 r1 d1 => goD r1 h1 fun y ρ2 u G2 H2 h2 e2 r2 d2 => ho r2 (d1.ex e2) d2 h2 fun s w G' H' p e3 r3 => k _ _ _ _ _ p ((e1.tr e2).tr e3) r3
theorem pd_op {op : Operator} {ro : RO} (ho : OpD X (binaryOp op) ro) (ha : PE X a (lift X.K ta)) (hb : PE X b (lift X.K tb)) : PE X (.BinOp a op b pos) (lift X.K (dOp ro ta tb)) := by
  obtain ⟨r, h1, h2⟩ := ho
  exact peImp (pe_op h1 ha hb) fun σ H Q h => opGo (f := binaryOp op) h2 h
theorem pd_cmp {op : CmpOp} {ro : RO} (ho : OpD X (compareOp op) ro) (ha : PE X a (lift X.K ta)) (hb : PE X b (lift X.K tb)) (hm : behindInMarks op b = false := by first | rfl | exact nomark _) : PE X (.Compare a [op] [b] pos) (lift X.K (dOp ro ta tb)) := by
  obtain ⟨r, h1, h2⟩ := ho
  exact peImp (pe_cmpR h1 ha hb hm) fun σ H Q h => opGo (f := compareOp op) h2 h

/-- a value's truth -/
def tru : D → Option Bool
  | .non => some false
  | .bl b => some b
  | .int i => some (i != 0)
  | .lst xs => some (!xs.isEmpty)
  | .tup xs => some (!xs.isEmpty)
  | _ => none
def dTru (te : ET) : TTd := fun ρ P => te ρ fun x ρ1 => ∃ d, x.dat = some d ∧ ∃ b, tru d = some b ∧ P b ρ1
theorem DdL.isE {us : List V} {xs : List D} (h : DdL K G us xs) : us.isEmpty = xs.isEmpty := by cases h <;> rfl
theorem truV_of {v : V} {d : D} {b : Bool} (gh : Ex G H) (h : Dd K G v d) (hb : tru d = some b) : TruV K v H b := by
  cases h with
  | non => cases hb; rfl
  | bl _ => cases hb; rfl
  | int _ => cases hb; rfl
  | str _ _ => cases hb
  | lst h t => cases hb; exact .inl ⟨_, .of (gh _ _ h), by rw [t.isE]⟩
  | tup h t => cases hb; exact .inr (.inl ⟨_, sqT_ex gh h, by rw [t.isE]⟩)
  | dic _ _ _ _ => cases hb
  | ins _ _ _ _ => cases hb
theorem pt_tru (he : PE X e (lift X.K te)) (hw : ∀ whole, isTrue e X.env whole = (do let v ← whole; standAt e.pos; holding [v] (truthy v)) := by intro _; rfl) : PT X e (liftT X.K (dTru te)) :=
  ptImp (pt_truth he hw) fun σ H Q ⟨F, G, ρ, P, r, h, k⟩ => goD r h fun d ρ1 v G1 H1 ⟨b, hb, h1⟩ e1 r1 d1 => ⟨b, truV_of r1.gh d1 hb, k _ _ _ _ h1 e1 r1⟩
/-- a comparison as a test -/
def dTst (te : ET) : TTd := fun ρ P => te ρ fun x ρ1 => ∃ b, x = .d (.bl b) ∧ P b ρ1
theorem R.topBl {b : Bool} {v : V} (r : R K F G H (some v :: σ) (.d (.bl b) :: ρ)) : v = .bl b := by
  obtain ⟨G', _, d, _⟩ := r.frz (x := .bl b) rfl
  cases d; rfl
theorem goB {P : Bool → Env' → Prop} {Q : VK} (r : R K F G H σ ρ) (h : t ρ fun x ρ1 => ∃ b, x = .d (.bl b) ∧ P b ρ1)
    (k : ∀ b ρ' G' H', P b ρ' → Ex G G' → R K F G' H' σ ρ' → Q (.bl b) H') : lift K t σ H Q :=
  ⟨F, G, ρ, _, r, h, fun x ρ' v G' H' ⟨b, hd, p⟩ e r' => by
    subst hd
    rw [r'.topBl]
    exact k b ρ' G' H' p e r'.pop⟩
theorem pt_cmpD {op : CmpOp} {ro : RO} (ho : OpD X (compareOp op) ro) (ha : PE X a (lift X.K ta)) (hb : PE X b (lift X.K tb)) (hm : behindInMarks op b = false := by first | rfl | exact nomark _) : PT X (.Compare a [op] [b] pos) (liftT X.K (dTst (dOp ro ta tb))) := by
  obtain ⟨r, h1, h2⟩ := ho
  refine ptImp (pt_cmpR h1 ha hb hm) fun σ H Q ⟨F, G, ρ, P, r0, h, k⟩ => ?_
  exact opGo (f := compareOp op) h2 (goB r0 h fun b ρ1 G1 H1 h1 e1 r1 => ⟨b, rfl, k _ _ _ _ h1 e1 r1⟩)
theorem pt_valD (he : PE X e (lift X.K te)) (hw : ∀ whole, isTrue e X.env whole = (do let v ← whole; standAt e.pos; holding [v] (truthy v)) := by intro _; rfl) : PT X e (liftT X.K (dTst te)) :=
  ptImp (pt_val he hw) fun σ H Q ⟨F, G, ρ, P, r, h, k⟩ => goB r h fun b ρ1 G1 H1 h1 e1 r1 => ⟨b, rfl, k _ _ _ _ h1 e1 r1⟩
def dNotT (t : TTd) : TTd := fun ρ P => t ρ fun b ρ1 => P (!b) ρ1
def dAndT (t u : TTd) : TTd := fun ρ P => t ρ fun b ρ1 => if b = true then u ρ1 P else P false ρ1
def dOrT (t u : TTd) : TTd := fun ρ P => t ρ fun b ρ1 => if b = true then P true ρ1 else u ρ1 P
theorem pt_notD {t : TTd} (h : PT X a (liftT X.K t)) : PT X (.UnaryOp .Not a pos) (liftT X.K (dNotT t)) :=
  ptImp (pt_not h) fun σ H Q ⟨F, G, ρ, P, r, h, k⟩ => goT r h fun b ρ1 G1 H1 h1 e1 r1 => k _ _ _ _ h1 e1 r1
theorem pwd_and1 {t : TTd} (h : PT X a (liftT X.K t)) : PW X (.BoolOp .And [a] pos) (liftT X.K t) := pw_and1 h
theorem pwd_or1 {t : TTd} (h : PT X a (liftT X.K t)) : PW X (.BoolOp .Or [a] pos) (liftT X.K t) := pw_or1 h
theorem pwd_and {t u : TTd} {rest : List Expr} (h : PT X a (liftT X.K t)) (h2 : PW X (.BoolOp .And (b :: rest) pos) (liftT X.K u)) : PW X (.BoolOp .And (a :: b :: rest) pos) (liftT X.K (dAndT t u)) :=
  pwImp (pw_and h h2) fun σ H Q ⟨F, G, ρ, P, r, h, k⟩ => goT r h fun b ρ1 G1 H1 h1 e1 r1 => by
    cases b with
    | true => exact goT r1 h1 fun b ρ2 G2 H2 h2 e2 r2 => k _ _ _ _ h2 (e1.tr e2) r2
    | false => exact k _ _ _ _ h1 e1 r1
theorem pwd_or {t u : TTd} {rest : List Expr} (h : PT X a (liftT X.K t)) (h2 : PW X (.BoolOp .Or (b :: rest) pos) (liftT X.K u)) : PW X (.BoolOp .Or (a :: b :: rest) pos) (liftT X.K (dOrT t u)) :=
  pwImp (pw_or h h2) fun σ H Q ⟨F, G, ρ, P, r, h, k⟩ => goT r h fun b ρ1 G1 H1 h1 e1 r1 => by
    cases b with
    | true => exact k _ _ _ _ h1 e1 r1
    | false => exact goT r1 h1 fun b ρ2 G2 H2 h2 e2 r2 => k _ _ _ _ h2 (e1.tr e2) r2
/-- .. as values -/
def dAndV (ta tb : ET) : ET := fun ρ P => ta ρ fun x ρ1 => ∃ c, x = .d (.bl c) ∧ if c = true then tb ρ1 P else P (.d (.bl false)) ρ1
def dOrV (ta tb : ET) : ET := fun ρ P => ta ρ fun x ρ1 => ∃ c, x = .d (.bl c) ∧ if c = true then P (.d (.bl true)) ρ1 else tb ρ1 P
def dNotV (ta : ET) : ET := fun ρ P => ta ρ fun x ρ1 => ∃ c, x = .d (.bl c) ∧ P (.d (.bl (!c))) ρ1
theorem pd_one {op} (h : PE X a (lift X.K te)) : PE X (.BoolOp op [a] pos) (lift X.K te) := pe_one h
theorem lift.mono {Q Q' : VK} (h : lift K t σ H Q) (k : ∀ v H', Q v H' → Q' v H') : lift K t σ H Q' := by
  obtain ⟨F, G, ρ, P, r, h, q⟩ := h
  exact ⟨F, G, ρ, P, r, h, fun x ρ' v G' H' p e r' => k _ _ (q x ρ' v G' H' p e r')⟩
theorem goE {P : Sl → Env' → Prop} {Q : VK} (r : R K F G H σ ρ) (h : t ρ P) (k : ∀ x ρ' v G' H', P x ρ' → Ex G G' → R K F G' H' (some v :: σ) (x :: ρ') → Q v H') : lift K t σ H Q := ⟨F, G, ρ, P, r, h, k⟩
theorem pd_and {rest : List Expr} (ha : PE X a (lift X.K ta)) (hb : PE X (.BoolOp .And (b :: rest) pos) (lift X.K tb)) : PE X (.BoolOp .And (a :: b :: rest) pos) (lift X.K (dAndV ta tb)) :=
  peImp (pe_and ha hb) fun σ H Q ⟨F, G, ρ, P, r, h, k⟩ => goB r h fun b ρ1 G1 H1 h1 e1 r1 => ⟨b, rfl, by
    cases b with
    | true => exact goE r1 h1 fun x ρ2 v G2 H2 h2 e2 r2 => k _ _ _ _ _ h2 (e1.tr e2) r2
    | false => exact k _ _ _ _ _ h1 e1 (r1.push (.bl false))⟩
theorem pd_or {rest : List Expr} (ha : PE X a (lift X.K ta)) (hb : PE X (.BoolOp .Or (b :: rest) pos) (lift X.K tb)) : PE X (.BoolOp .Or (a :: b :: rest) pos) (lift X.K (dOrV ta tb)) :=
  peImp (pe_or ha hb) fun σ H Q ⟨F, G, ρ, P, r, h, k⟩ => goB r h fun b ρ1 G1 H1 h1 e1 r1 => ⟨b, rfl, by
    cases b with
    | true => exact k _ _ _ _ _ h1 e1 (r1.push (.bl true))
    | false => exact goE r1 h1 fun x ρ2 v G2 H2 h2 e2 r2 => k _ _ _ _ _ h2 (e1.tr e2) r2⟩
theorem pd_not (ha : PE X a (lift X.K ta)) : PE X (.UnaryOp .Not a pos) (lift X.K (dNotV ta)) :=
  peImp (pe_not ha) fun σ H Q ⟨F, G, ρ, P, r, h, k⟩ => goB r h fun b ρ1 G1 H1 h1 e1 r1 => ⟨b, rfl, k _ _ _ _ _ h1 e1 (r1.push (.bl _))⟩
def dIf (t : TTd) (ta tb : ET) : ET := fun ρ P => t ρ fun c ρ1 => if c = true then ta ρ1 P else tb ρ1 P
theorem pd_if {c : Expr} {t : TTd} (hc : PT X c (liftT X.K t)) (ha : PE X a (lift X.K ta)) (hb : PE X b (lift X.K tb)) : PE X (.IfExp c a b pos) (lift X.K (dIf t ta tb)) :=
  peImp (pe_ifExp hc ha hb) fun σ H Q ⟨F, G, ρ, P, r, h, k⟩ => goT r h fun b ρ1 G1 H1 h1 e1 r1 => by
    cases b with
    | true => exact goE r1 h1 fun x ρ2 v G2 H2 h2 e2 r2 => k _ _ _ _ _ h2 (e1.tr e2) r2
    | false => exact goE r1 h1 fun x ρ2 v G2 H2 h2 e2 r2 => k _ _ _ _ _ h2 (e1.tr e2) r2

abbrev RCd := List D → (Sl → Prop) → Prop
def CallD (X : Cx) (f : Value) (rc : RCd) : Prop := ∃ r : List V → Hp → VK → Prop, CallR X f r ∧ ∀ {F : Fr} {G H : Hp} {σ : St} {ρ : Env'} {vs : List V} {xs : List D} {P : Sl → Prop} {Q : VK},
  R X.K F G H σ ρ → DdL X.K G vs xs → rc xs P → (∀ s v G' H', P s → Ex G G' → R X.K F G' H' (some v :: σ) (s :: ρ) → Q v H') → r vs H Q
def dCall (rc : RCd) (ta : AT) : ET := fun ρ P => ta ρ fun xs ρ1 => rc xs fun z => P z ρ1
theorem pd_callB {x : Str} {es : List Expr} {p : Pos} {id : String} {rc : RCd} {ta : AT} (hc : CallD X (.builtin id) rc) (hg : Gl X x) (hm : X.mg x = none) (hv : bootBuiltins x = some (.builtin id)) (ha : PA X (e :: es) (liftA X.K ta)) (hn : x ≠ "__name__" := by decide) (hdb : (x == ("__debug__" : Str)) = false := by decide)
    (he : starEach (e :: es) X.env = (false, eval e X.env) :: starEach es X.env := by rfl) (hpl : (backTo pos (starEach es X.env)).any (·.1) = false := by rfl) : PE X (.Call (.Name x p) (e :: es) [] pos) (lift X.K (dCall rc ta)) := by
  obtain ⟨r, h1, h2⟩ := hc
  exact peImp (pe_callB h1 hg hm hv ha hn hdb he hpl) fun σ H Q ⟨F, G, ρ, P, r, h, k⟩ => goA r h fun xs ρ1 vs G1 H1 q e1 r1 d1 => h2 r1 d1 q fun s v G' H' p e2 r2 => k _ _ _ _ _ p (e1.tr e2) r2
theorem pd_callTy {x : Str} {es : List Expr} {p : Pos} {T : String} {rc : RCd} {ta : AT} (hc : CallD X (.type T) rc) (hg : Gl X x) (hm : X.mg x = none) (hv : bootBuiltins x = some (.type T)) (ha : PA X (e :: es) (liftA X.K ta)) (hn : x ≠ "__name__" := by decide) (hdb : (x == ("__debug__" : Str)) = false := by decide)
    (he : starEach (e :: es) X.env = (false, eval e X.env) :: starEach es X.env := by rfl) (hpl : (backTo pos (starEach es X.env)).any (·.1) = false := by rfl) : PE X (.Call (.Name x p) (e :: es) [] pos) (lift X.K (dCall rc ta)) := by
  obtain ⟨r, h1, h2⟩ := hc
  exact peImp (pe_callTy h1 hg hm hv ha hn hdb he hpl) fun σ H Q ⟨F, G, ρ, P, r, h, k⟩ => goA r h fun xs ρ1 vs G1 H1 q e1 r1 d1 => h2 r1 d1 q fun s v G' H' p e2 r2 => k _ _ _ _ _ p (e1.tr e2) r2
end
end Fl
namespace Fl
open PySem L2

/-- None, bools, ints, texts, and lists and tuples of such, at most n deep -/
def ok : Nat → D → Bool
  | _, .non => true
  | _, .bl _ => true
  | _, .int _ => true
  | _, .str _ => true
  | 0, _ => false
  | n + 1, .lst xs => xs.all (ok n)
  | n + 1, .tup xs => xs.all (ok n)
  | _ + 1, _ => false
mutual
def toPy : D → PyData
  | .non => .none
  | .bl b => .bool b
  | .int i => .int i
  | .str s => .str s
  | .lst xs => .list (toPys xs)
  | .tup xs => .tuple (toPys xs)
  | .dic _ _ => .none
  | .ins _ _ _ => .none
def toPys : List D → List PyData
  | [] => []
  | x :: xs => toPy x :: toPys xs
end
theorem ok_mono : ∀ {n m : Nat} {x : D}, n ≤ m → ok n x = true → ok m x = true
  | n, m, .non, _, _ => by cases m <;> rfl
  | n, m, .bl _, _, _ => by cases m <;> rfl
  | n, m, .int _, _, _ => by cases m <;> rfl
  | n, m, .str _, _, _ => by cases m <;> rfl
  | 0, _, .lst _, _, h => by cases h
  | 0, _, .tup _, _, h => by cases h
  | n + 1, 0, .lst _, q, _ => by omega
  | n + 1, 0, .tup _, q, _ => by omega
  | n + 1, m + 1, .lst xs, q, h => List.all_eq_true.mpr fun y hy => ok_mono (by omega) (List.all_eq_true.mp (show xs.all (ok n) = true from h) y hy)
  | n + 1, m + 1, .tup xs, q, h => List.all_eq_true.mpr fun y hy => ok_mono (by omega) (List.all_eq_true.mp (show xs.all (ok n) = true from h) y hy)
  | 0, _, .dic _ _, _, h => by cases h
  | _ + 1, _, .dic _ _, _, h => by cases h
  | 0, _, .ins _ _ _, _, h => by cases h
  | _ + 1, _, .ins _ _ _, _, h => by cases h
section
variable {K : PySem.W.Frag} {G H : Hp}
mutual
theorem Dd.py (e : Ex G H) : ∀ {n : Nat} {v : V} {x : D}, Dd K G v x → ok n x = true → Dp K H v (toPy x) ∧ PyData.canLay0 (toPy x) = true ∧ (toPy x).depth ≤ n
  | n, _, _, .non, h => ⟨.non, rfl, Nat.zero_le _⟩
  | n, _, _, .bl b, h => ⟨.bl b, rfl, Nat.zero_le _⟩
  | n, _, _, .int i, h => ⟨.int i, rfl, Nat.zero_le _⟩
  | n, _, _, .str x q, h => ⟨.str x, (Bool.and_eq_true _ _ ▸ (show (PyData.strOk x && decide (x.length ≤ 1000000)) = true from q)).1, Nat.zero_le _⟩
  | 0, _, _, .lst _ _, h => by cases h
  | 0, _, _, .tup _ _, h => by cases h
  | n + 1, _, .lst xs, .lst g t, h => by
    obtain ⟨a, b, c⟩ := DdL.py e t (show xs.all (ok n) = true from h)
    exact ⟨.lst (.of (e _ _ g)) a, b, Nat.succ_le_succ c⟩
  | n + 1, _, .tup xs, .tup g t, h => by
    obtain ⟨a, b, c⟩ := DdL.py e t (show xs.all (ok n) = true from h)
    exact ⟨.tup (sqT_ex e g) a, b, Nat.succ_le_succ c⟩
  | 0, _, _, .dic _ _ _ _, h => by cases h
  | _ + 1, _, _, .dic _ _ _ _, h => by cases h
  | 0, _, _, .ins _ _ _ _, h => by cases h
  | _ + 1, _, _, .ins _ _ _ _, h => by cases h
theorem DdL.py (e : Ex G H) : ∀ {n : Nat} {us : List V} {xs : List D}, DdL K G us xs → xs.all (ok n) = true → DpAll K H us (toPys xs) ∧ PyData.canLayAll0 (toPys xs) = true ∧ PyData.depthAll (toPys xs) ≤ n
  | n, _, _, .nil, _ => ⟨.nil, rfl, Nat.zero_le _⟩
  | n, _, _, .cons a t, h => by
    rw [List.all_cons, Bool.and_eq_true] at h
    obtain ⟨p1, p2, p3⟩ := Dd.py e a h.1
    obtain ⟨q1, q2, q3⟩ := DdL.py e t h.2
    refine ⟨.cons p1 q1, ?_, ?_⟩
    · show (PyData.canLay0 _ && PyData.canLayAll0 _) = true
      rw [p2, q2]; rfl
    · show max _ _ ≤ n
      omega
end
end
theorem shaped_of {x : D} {n : Nat} (h1 : PyData.canLay0 (toPy x) = true) (h2 : (toPy x).depth ≤ n) (h : n ≤ 64) : SeqAt.shaped (toPy x) = true := by
  unfold SeqAt.shaped
  rw [h1, Bool.true_and]
  exact decide_eq_true (Nat.le_trans h2 h)
/-- == of data -/
def eqD (x y : D) : Bool := PyData.eqv (toPy x) (toPy y)

section
variable {X : Cx} {k : Nat}
theorem OpR.ofD {f : Value → Value → Sem Value} {r : R2} {ro : RO} (h : OpR X f r) (g : ∀ {F : Fr} {G H : Hp} {σ : St} {ρ : Env'} {vx vy : V} {x y : D} {P : Sl → Prop} {Q : VK},
    R X.K F G H σ ρ → Dd X.K G vx x → Dd X.K G vy y → ro x y P → (∀ s v G' H', P s → Ex G G' → R X.K F G' H' (some v :: σ) (s :: ρ) → Q v H') → r vx vy H Q) : OpD X f ro := ⟨r, h, g⟩

def dAdd : RO := fun x y P => match x, y with
  | .int i, .int j => P (.d (.int (i + j)))
  | .str a, .str b => a.length + b.length ≤ 100000 ∧ P (.d (.str (a ++ b)))
  | .lst a, .lst b => a.length + b.length ≤ 100000 ∧ P (.ol (a ++ b))
  | .tup a, .tup b => a.length + b.length ≤ 100000 ∧ P (.d (.tup (a ++ b)))
  | _, _ => False
theorem sOk_of {x : Str} (h1 : PyData.strOk x = true) (h2 : x.length ≤ 1000000) : sOk x = true := by
  unfold sOk; rw [h1, decide_eq_true h2]; rfl
theorem sOk_1 {x : Str} (h : sOk x = true) : PyData.strOk x = true := by
  unfold sOk at h; rw [Bool.and_eq_true] at h; exact h.1
theorem sOk_2 {x : Str} (h : sOk x = true) : x.length ≤ 1000000 := by
  unfold sOk at h; rw [Bool.and_eq_true] at h; exact of_decide_eq_true h.2
theorem app_len (a b : Str) : (a ++ b).length = a.length + b.length := by
  show (a.cps ++ b.cps).size = _
  rw [Array.size_append]; rfl
theorem sOk_app {a b : Str} (h1 : sOk a = true) (h2 : sOk b = true) (hl : a.length + b.length ≤ 100000) : sOk (a ++ b) = true := by
  refine sOk_of ?_ (by rw [app_len]; omega)
  show (a.cps ++ b.cps).all _ = true
  rw [Array.all_append]
  exact Bool.and_eq_true _ _ ▸ ⟨sOk_1 h1, sOk_1 h2⟩
theorem od_add : OpD X (binaryOp .Add) dAdd := by
  refine OpR.ofD (OpR.or (OpR.or op_add op_add_str) (OpR.or op_cat op_catA)) ?_
  intro F G H σ ρ vx vy x y P Q r hx hy h k
  cases hx with
  | int i =>
    cases hy with
    | int j => exact .inl (.inl ⟨i, j, rfl, rfl, k _ _ _ _ h .rfl (r.push (.int _))⟩)
    | _ => exact h.elim
  | str a oa =>
    cases hy with
    | str b ob => exact .inl (.inr ⟨a, b, rfl, rfl, Nat.le_trans h.1 (by decide), k _ _ _ _ h.2 .rfl (r.push (.str _ (sOk_app oa ob h.1)))⟩)
    | _ => exact h.elim
  | lst g t =>
    cases hy with
    | lst g2 t2 => exact .inr (.inl ⟨_, _, _, _, rfl, rfl, r.gh _ _ g, r.gh _ _ g2, by rw [t.len, t2.len]; exact Nat.le_trans h.1 (by decide), fun p hp => k _ _ _ _ h.2 .rfl (r.lst hp (t.app t2))⟩)
    | _ => exact h.elim
  | @tup a us xs g t =>
    cases hy with
    | @tup b ws ys g2 t2 =>
      refine .inr (.inr ⟨_, _, _, _, rfl, rfl, sqT_ex r.gh g, sqT_ex r.gh g2, by rw [t.len, t2.len]; exact Nat.le_trans h.1 (by decide), fun e => ?_, fun _ e => ?_, fun _ _ p hp => ?_⟩)
      · subst e; cases t
        exact k _ _ _ _ h.2 .rfl (r.push (.tup g2 t2))
      · subst e; cases t2
        exact k _ _ _ _ h.2 .rfl (r.push (.tup g (by rw [List.append_nil]; exact t)))
      · obtain ⟨e2, r2, d2⟩ := r.tup hp (t.app t2)
        exact k _ _ _ _ h.2 e2 (r2.push d2)
    | _ => exact h.elim
  | non => exact h.elim
  | bl => exact h.elim
  | dic => exact h.elim
  | ins => exact h.elim
def dSub : RO := fun x y P => match x, y with
  | .int i, .int j => P (.d (.int (i - j)))
  | _, _ => False
theorem od_sub : OpD X (binaryOp .Sub) dSub := by
  refine OpR.ofD op_sub ?_
  intro F G H σ ρ vx vy x y P Q r hx hy h k
  cases hx with
  | int i =>
    cases hy with
    | int j => exact ⟨i, j, rfl, rfl, k _ _ _ _ h .rfl (r.push (.int _))⟩
    | _ => exact h.elim
  | _ => exact h.elim
/-- a list so many times -/
def reps (xs : List D) (k : Int) : List D := (List.replicate k.toNat xs).flatten
def dMul : RO := fun x y P => match x, y with
  | .int i, .int j => (-1000000000000 < i ∧ i < 1000000000000) ∧ P (.d (.int (i * j)))
  | .lst a, .int j => (0 ≤ j ∧ j ≤ 1000 ∧ a.length ≤ 1000) ∧ P (.ol (reps a j))
  | _, _ => False
theorem DdL.reps {K : PySem.W.Frag} {G : Hp} {us : List V} {xs : List D} (t : DdL K G us xs) (n : Nat) : DdL K G (List.replicate n us).flatten (List.replicate n xs).flatten := by
  induction n with
  | zero => exact .nil
  | succ n ih => rw [List.replicate_succ, List.replicate_succ, List.flatten_cons, List.flatten_cons]; exact t.app ih
theorem od_mul : OpD X (binaryOp .Mult) dMul := by
  refine OpR.ofD (OpR.or op_mul op_rep) ?_
  intro F G H σ ρ vx vy x y P Q r hx hy h k
  cases hx with
  | int i =>
    cases hy with
    | int j => exact .inl ⟨i, j, rfl, rfl, .inl ⟨by have := h.1.1; omega, by have := h.1.2; omega⟩, k _ _ _ _ h.2 .rfl (r.push (.int _))⟩
    | _ => exact h.elim
  | lst g t =>
    cases hy with
    | int j =>
      obtain ⟨⟨h0, h1, h2⟩, h⟩ := h
      refine .inr ⟨_, j, _, rfl, rfl, r.gh _ _ g, by omega, by omega, ?_, fun p hp => k _ _ _ _ h .rfl (r.lst hp (t.reps _))⟩
      rw [t.len]
      exact Nat.le_trans (Nat.mul_le_mul h2 (show j.toNat ≤ 1000 by omega)) (by decide)
    | _ => exact h.elim
  | _ => exact h.elim
def dMod : RO := fun x y P => match x, y with
  | .int i, .int j => 0 < j ∧ P (.d (.int (i % j)))
  | _, _ => False
theorem od_mod : OpD X (binaryOp .Mod) dMod := by
  refine OpR.ofD op_mod ?_
  intro F G H σ ρ vx vy x y P Q r hx hy h k
  cases hx with
  | int i =>
    cases hy with
    | int j => exact ⟨i, j, rfl, rfl, h.1, k _ _ _ _ h.2 .rfl (r.push (.int _))⟩
    | _ => exact h.elim
  | _ => exact h.elim
def dFdv : RO := fun x y P => match x, y with
  | .int i, .int j => (0 < j ∧ j < 1000000000) ∧ P (.d (.int (i.fdiv j)))
  | _, _ => False
theorem od_fdv : OpD X (binaryOp .FloorDiv) dFdv := by
  refine OpR.ofD op_fdivN ?_
  intro F G H σ ρ vx vy x y P Q r hx hy h k
  cases hx with
  | int i =>
    cases hy with
    | int j => exact ⟨i, j, rfl, rfl, ⟨by have := h.1.1; omega, by have := h.1.1; have := h.1.2; omega⟩, k _ _ _ _ h.2 .rfl (r.push (.int _))⟩
    | _ => exact h.elim
  | _ => exact h.elim

def dRel (c : Int → Int → Bool) : RO := fun x y P => match x, y with
  | .int i, .int j => P (.d (.bl (c i j)))
  | _, _ => False
theorem od_rel {op : CmpOp} {c : Int → Int → Bool} (h0 : OpR X (compareOp op) (rI0 fun i j => .bl (c i j))) : OpD X (compareOp op) (dRel c) := by
  refine OpR.ofD h0 ?_
  intro F G H σ ρ vx vy x y P Q r hx hy h k
  cases hx with
  | int i =>
    cases hy with
    | int j => exact ⟨i, j, rfl, rfl, k _ _ _ _ h .rfl (r.push (.bl _))⟩
    | _ => exact h.elim
  | _ => exact h.elim
abbrev dLt : RO := dRel fun i j => decide (i < j)
abbrev dLe : RO := dRel fun i j => decide (i ≤ j)
abbrev dGt : RO := dRel fun i j => decide (j < i)
abbrev dGe : RO := dRel fun i j => decide (j ≤ i)
theorem od_lt : OpD X (compareOp .Lt) dLt := od_rel op_lt
theorem od_le : OpD X (compareOp .LtE) dLe := od_rel op_le
theorem od_gt : OpD X (compareOp .Gt) dGt := od_rel op_gt
theorem od_ge : OpD X (compareOp .GtE) dGe := od_rel op_ge
def dEq : RO := fun x y P => ok 60 x = true ∧ ok 60 y = true ∧ P (.d (.bl (eqD x y)))
def dNe : RO := fun x y P => ok 60 x = true ∧ ok 60 y = true ∧ P (.d (.bl (!eqD x y)))
theorem od_eq (hr : Room k X.A) : OpD X (compareOp .Eq) dEq := by
  refine OpR.ofD (op_eqD hr.units) ?_
  intro F G H σ ρ vx vy x y P Q r hx hy ⟨h1, h2, h⟩ k
  obtain ⟨p1, p2, p3⟩ := hx.py r.gh h1
  obtain ⟨q1, q2, q3⟩ := hy.py r.gh h2
  exact ⟨_, _, p1, q1, shaped_of p2 p3 (by decide), shaped_of q2 q3 (by decide), k _ _ _ _ h .rfl (r.push (.bl _))⟩
theorem od_ne (hr : Room k X.A) : OpD X (compareOp .NotEq) dNe := by
  refine OpR.ofD (op_neD hr.units) ?_
  intro F G H σ ρ vx vy x y P Q r hx hy ⟨h1, h2, h⟩ k
  obtain ⟨p1, p2, p3⟩ := hx.py r.gh h1
  obtain ⟨q1, q2, q3⟩ := hy.py r.gh h2
  exact ⟨_, _, p1, q1, shaped_of p2 p3 (by decide), shaped_of q2 q3 (by decide), k _ _ _ _ h .rfl (r.push (.bl _))⟩
def isNon : D → Bool
  | .non => true
  | _ => false
theorem Dd.isNon {K : PySem.W.Frag} {G : Hp} {v : V} {x : D} (h : Dd K G v x) : decide (v = .non) = isNon x := by cases h <;> rfl
def dIsN : RO := fun x y P => y = .non ∧ P (.d (.bl (isNon x)))
def dNotN : RO := fun x y P => y = .non ∧ P (.d (.bl (!isNon x)))
theorem od_isN : OpD X (compareOp .Is) dIsN := by
  refine OpR.ofD op_isN ?_
  intro F G H σ ρ vx vy x y P Q r hx hy ⟨h1, h⟩ k
  subst h1; cases hy
  exact ⟨rfl, by rw [hx.isNon]; exact k _ _ _ _ h .rfl (r.push (.bl _))⟩
theorem od_notN : OpD X (compareOp .IsNot) dNotN := by
  refine OpR.ofD op_notN ?_
  intro F G H σ ρ vx vy x y P Q r hx hy ⟨h1, h⟩ k
  subst h1; cases hy
  exact ⟨rfl, by rw [hx.isNon]; exact k _ _ _ _ h .rfl (r.push (.bl _))⟩
/-- x in a list or tuple of flat items; a text of one sign in a text -/
def flat : D → Bool
  | .non => true
  | .bl _ => true
  | .int _ => true
  | .str _ => true
  | _ => false
def inD (x : D) (ys : List D) : Bool := ys.any fun y => eqD y x
theorem Dd.flatV {K : PySem.W.Frag} {G : Hp} {v : V} {x : D} (h : Dd K G v x) (f : flat x = true) : flatV v = true := by cases h <;> first | rfl | cases f
theorem DdL.flatV {K : PySem.W.Frag} {G : Hp} : ∀ {us : List V} {xs : List D}, DdL K G us xs → xs.all flat = true → us.all L2.flatV = true
  | _, _, .nil, _ => rfl
  | _, _, .cons a t, h => by
    rw [List.all_cons, Bool.and_eq_true] at h
    rw [List.all_cons, a.flatV h.1, DdL.flatV t h.2]; rfl
theorem Dd.eqV {K : PySem.W.Frag} {G : Hp} {v u : V} {x y : D} (hv : Dd K G v x) (hu : Dd K G u y) (f1 : flat x = true) (f2 : flat y = true) : eqV v u = eqD x y := by
  cases hv <;> first | exact Bool.noConfusion (show (false = true) from f1) | (cases hu <;> first | exact Bool.noConfusion (show (false = true) from f2) | rfl)
theorem DdL.inV {K : PySem.W.Frag} {G : Hp} {v : V} {x : D} (hv : Dd K G v x) (f : flat x = true) : ∀ {us : List V} {xs : List D}, DdL K G us xs → xs.all flat = true → inV v us = inD x xs
  | _, _, .nil, _ => rfl
  | _, _, .cons a t, h => by
    rw [List.all_cons, Bool.and_eq_true] at h
    have ih := DdL.inV hv f t h.2
    unfold L2.inV inD at ih ⊢
    rw [List.any_cons, List.any_cons, a.eqV hv h.1 f, ih]
def sign1 (x : Str) : Option Nat := match x.cps.toList with
  | [c] => some c
  | _ => none
theorem sign1_of {x : Str} {c : Nat} (h : sign1 x = some c) : x = ⟨#[c]⟩ := by
  obtain ⟨⟨l⟩⟩ := x
  unfold sign1 at h
  match l, h with
  | [c'], h => cases h; rfl
def inSeq (x : D) : D → Option Bool
  | .lst ys => if flat x && ys.all flat then some (inD x ys) else none
  | .tup ys => if flat x && ys.all flat then some (inD x ys) else none
  | .str z => match x with
    | .str y => (sign1 y).map fun c => decide (c ∈ z.cps.toList)
    | _ => none
  | _ => none
def dIn : RO := fun x y P => ∃ b, inSeq x y = some b ∧ P (.d (.bl b))
def dNotIn : RO := fun x y P => ∃ b, inSeq x y = some b ∧ P (.d (.bl (!b)))
theorem inGo {F : Fr} {G H : Hp} {σ : St} {ρ : Env'} {vx vy : V} {x y : D} {Q : VK} {b neg : Bool} (r : R X.K F G H σ ρ) (hx : Dd X.K G vx x) (hy : Dd X.K G vy y) (h : inSeq x y = some b) (k : Q (.bl (if neg then !b else b)) H) :
    rIn X.K neg vx vy H Q ∨ ∃ (c : Nat) (z : Str), vx = .str ⟨#[c]⟩ ∧ vy = .str z ∧ Q (.bl (if neg then !decide (c ∈ z.cps.toList) else decide (c ∈ z.cps.toList))) H := by
  cases hy with
  | @lst _ _ ys g t =>
    have h : (if flat x && ys.all flat then some (inD x ys) else none) = some b := h
    split at h
    · rename_i c
      rw [Bool.and_eq_true] at c
      cases h
      exact .inl ⟨_, _, rfl, .inl (.of (r.gh _ _ g)), hx.flatV c.1, t.flatV c.2, by rw [t.inV hx c.1 c.2]; exact k⟩
    · cases h
  | @tup _ _ ys g t =>
    have h : (if flat x && ys.all flat then some (inD x ys) else none) = some b := h
    split at h
    · rename_i c
      rw [Bool.and_eq_true] at c
      cases h
      exact .inl ⟨_, _, rfl, .inr (sqT_ex r.gh g), hx.flatV c.1, t.flatV c.2, by rw [t.inV hx c.1 c.2]; exact k⟩
    · cases h
  | str z oz =>
    cases hx with
    | str y oy =>
      have h : (sign1 y).map (fun c => decide (c ∈ z.cps.toList)) = some b := h
      cases e : sign1 y with
      | none => rw [e] at h; cases h
      | some c =>
        rw [e] at h
        cases h
        rw [sign1_of e]
        exact .inr ⟨c, z, rfl, rfl, k⟩
    | _ => cases h
  | non => cases h
  | bl => cases h
  | int => cases h
  | dic => cases h
  | ins => cases h
theorem od_in : OpD X (compareOp .In) dIn := by
  refine OpR.ofD (OpR.or op_in_seq op_in_sign) ?_
  intro F G H σ ρ vx vy x y P Q r hx hy ⟨b, h1, h⟩ k
  exact inGo (neg := false) r hx hy h1 (k _ _ _ _ h .rfl (r.push (.bl _)))
theorem od_notIn : OpD X (compareOp .NotIn) dNotIn := by
  refine OpR.ofD (OpR.or op_notIn_seq op_notIn_sign) ?_
  intro F G H σ ρ vx vy x y P Q r hx hy ⟨b, h1, h⟩ k
  exact inGo (neg := true) r hx hy h1 (k _ _ _ _ h .rfl (r.push (.bl _)))
end
end Fl
namespace Fl
open PySem L2

/-- what is wanted behind a statement -/
structure DE where
  nx : Env' → Prop
  rt : Sl → Prop
  bk : Env' → Prop := fun _ => False
  ct : Env' → Prop := fun _ => False
abbrev ST := DE → Env' → Prop
abbrev GT := Sl → Env' → (Env' → Prop) → Prop

structure Wants (K : PySem.W.Frag) (F : Fr) (G : Hp) (D : Ends) (E : DE) : Prop where
  nx : ∀ σ ρ G' H', E.nx ρ → Ex G G' → R K F G' H' σ ρ → D.nx σ H'
  bk : ∀ σ ρ G' H', E.bk ρ → Ex G G' → R K F G' H' σ ρ → D.bk σ H'
  ct : ∀ σ ρ G' H', E.ct ρ → Ex G G' → R K F G' H' σ ρ → D.ct σ H'
  rt : ∀ r v σ ρ G' H', E.rt r → Ex G G' → R K F G' H' (some v :: σ) (r :: ρ) → D.rt v H'
def liftS (K : PySem.W.Frag) (t : ST) : TS := fun D σ H => ∃ F G ρ E, R K F G H σ ρ ∧ t E ρ ∧ Wants K F G D E
theorem Wants.up {K : PySem.W.Frag} {F : Fr} {G G' : Hp} {D : Ends} {E : DE} (w : Wants K F G D E) (e : Ex G G') : Wants K F G' D E :=
  ⟨fun σ ρ G2 H2 h x r => w.nx σ ρ G2 H2 h (e.tr x) r, fun σ ρ G2 H2 h x r => w.bk σ ρ G2 H2 h (e.tr x) r, fun σ ρ G2 H2 h x r => w.ct σ ρ G2 H2 h (e.tr x) r, fun s v σ ρ G2 H2 h x r => w.rt s v σ ρ G2 H2 h (e.tr x) r⟩

section
variable {X : Cx} {K : PySem.W.Frag} {F : Fr} {G G' H H' : Hp} {σ : St} {ρ : Env'} {pos : Pos} {e : Expr} {st : Stmt} {rest : List Stmt} {t u : ST} {te : ET} {tc : TTd}
theorem psImp {t t' : TS} (h : PS X st t) (i : ∀ D σ H, t' D σ H → t D σ H) : PS X st t' := ⟨fun pins s σ H D I q => h.run pins s σ H D I (i _ _ _ q)⟩
theorem pssImp {t t' : TS} {st : List Stmt} (h : PSs X st t) (i : ∀ D σ H, t' D σ H → t D σ H) : PSs X st t' := ⟨fun pins s σ H D I q => h.run pins s σ H D I (i _ _ _ q)⟩
theorem pgImp {tg : Expr} {t t' : TG} (h : PG X tg t) (i : ∀ v σ H Q, t' v σ H Q → t v σ H Q) : PG X tg t' := ⟨fun pins s σ H v u Q I r q => h.run pins s σ H v u Q I r (i _ _ _ _ q)⟩
theorem piImp {tg : Expr} {t t' : TI} (h : PI X tg e t) (i : ∀ σ H Q, t' σ H Q → t σ H Q) : PI X tg e t' := ⟨fun pins s σ H Q I q => h.run pins s σ H Q I (i _ _ _ q)⟩

def dNext : ST := fun E ρ => E.nx ρ
def dSeq (t u : ST) : ST := fun E ρ => t { E with nx := u E } ρ
theorem liftS_seq {D : Ends} {E : DE} (w : Wants K F G D E) : Wants K F G { D with nx := liftS K u D } { E with nx := u E } :=
  ⟨fun σ ρ G' H' h e r => ⟨F, G', ρ, E, r, h, w.up e⟩, w.bk, w.ct, w.rt⟩
theorem dss_nil : PSs X [] (liftS X.K dNext) := pssImp pss_nil fun D σ H ⟨F, G, ρ, E, r, h, w⟩ => w.nx _ _ _ _ h .rfl r
theorem dss_cons (h1 : PS X st (liftS X.K t)) (h2 : PSs X rest (liftS X.K u)) : PSs X (st :: rest) (liftS X.K (dSeq t u)) :=
  pssImp (pss_cons h1 h2) fun D σ H ⟨F, G, ρ, E, r, h, w⟩ => ⟨F, G, ρ, _, r, h, liftS_seq w⟩
theorem dss_one (h1 : PS X st (liftS X.K t)) : PSs X [st] (liftS X.K t) := pss_one h1
def dNever : ST := fun _ _ => False
theorem ds_never : PS X st (liftS X.K dNever) := psImp ps_never fun D σ H ⟨F, G, ρ, E, r, h, w⟩ => h
theorem dss_never {sts : List Stmt} : PSs X sts (liftS X.K dNever) := pssImp pss_never fun D σ H ⟨F, G, ρ, E, r, h, w⟩ => h
theorem ds_pass : PS X (.Pass pos) (liftS X.K dNext) := psImp ps_pass fun D σ H ⟨F, G, ρ, E, r, h, w⟩ => w.nx _ _ _ _ h .rfl r
def dBreak : ST := fun E ρ => E.bk ρ
def dCont : ST := fun E ρ => E.ct ρ
theorem ds_break : PS X (.Break pos) (liftS X.K dBreak) := psImp ps_break fun D σ H ⟨F, G, ρ, E, r, h, w⟩ => w.bk _ _ _ _ h .rfl r
theorem ds_continue : PS X (.Continue pos) (liftS X.K dCont) := psImp ps_continue fun D σ H ⟨F, G, ρ, E, r, h, w⟩ => w.ct _ _ _ _ h .rfl r
def dExpr (te : ET) : ST := fun E ρ => te ρ fun _ ρ1 => E.nx ρ1
theorem ds_expr (he : PE X e (lift X.K te)) (hs : swapsWith e none pos.line X.env = pure false := by rfl) : PS X (.Expr e pos) (liftS X.K (dExpr te)) :=
  psImp (ps_expr he hs) fun D σ H ⟨F, G, ρ, E, r, h, w⟩ => goE r h fun x ρ1 v G1 H1 h1 e1 r1 => w.nx _ _ _ _ h1 e1 r1.pop
def dRet (te : ET) : ST := fun E ρ => te ρ fun s _ => E.rt s
theorem ds_ret (he : PE X e (lift X.K te)) : PS X (.Return (some e) pos) (liftS X.K (dRet te)) :=
  psImp (ps_ret he) fun D σ H ⟨F, G, ρ, E, r, h, w⟩ => goE r h fun x ρ1 v G1 H1 h1 e1 r1 => w.rt _ _ _ _ _ _ h1 e1 r1
def dIfS (c : TTd) (t u : ST) : ST := fun E ρ => c ρ fun b ρ1 => if b = true then t E ρ1 else u E ρ1
theorem ds_if {a b : List Stmt} {c : Expr} (hc : PT X c (liftT X.K tc)) (ha : PSs X a (liftS X.K t)) (hb : PSs X b (liftS X.K u)) : PS X (.If c a b pos) (liftS X.K (dIfS tc t u)) :=
  psImp (ps_if hc ha hb) fun D σ H ⟨F, G, ρ, E, r, h, w⟩ => goT r h fun b ρ1 G1 H1 h1 e1 r1 => by
    cases b with
    | true => exact ⟨F, G1, ρ1, E, r1, h1, w.up e1⟩
    | false => exact ⟨F, G1, ρ1, E, r1, h1, w.up e1⟩

/-- g0, the target's reading below, does what gd says of the data; it stores at the slots is alone -/
structure Tgt (K : PySem.W.Frag) (g0 : TG) (gd : GT) (is : List Nat) : Prop where
  up : ∀ {F : Fr} {G H : Hp} {σ : St} {ρ : Env'} {v : V} {s : Sl} {P : Env' → Prop} {Q : St → Hp → Prop}, R K F G H (some v :: σ) (s :: ρ) → gd s ρ P →
    (∀ σ' ρ' G' H', P ρ' → Ex G G' → R K F G' H' σ' ρ' → (∀ vs, (∀ i ∈ is, i ∈ vs) → wipe σ' vs = wipe σ vs) → Q σ' H') → g0 v σ H Q
def gNm (i : Nat) : GT := fun s ρ P => i < ρ.length ∧ P (ρ.set i s)
theorem wipe_set {σ : St} {i : Nat} {x : Option V} : ∀ {vs : List Nat}, i ∈ vs → wipe (σ.set i x) vs = wipe σ vs
  | v :: vs, h => by
    show (wipe (σ.set i x) vs).set v none = (wipe σ vs).set v none
    by_cases q : i ∈ vs
    · rw [wipe_set q]
    · have e : v = i := by
        rcases List.mem_cons.mp h with h | h
        · exact h.symm
        · exact absurd h q
      subst e
      have key : ∀ {ws : List Nat}, v ∉ ws → wipe (σ.set v x) ws = (wipe σ ws).set v x := by
        intro ws
        induction ws with
        | nil => intro _; rfl
        | cons w ws ih =>
          intro hn
          show (wipe (σ.set v x) ws).set w none = ((wipe σ ws).set w none).set v x
          rw [ih (fun m => hn (List.mem_cons_of_mem _ m)), List.set_comm _ _ (fun e => hn (by rw [e]; exact List.mem_cons_self ..))]
      rw [key q, List.set_set]
theorem tgt_name (i : Nat) : Tgt K (gName i) (gNm i) [i] :=
  ⟨fun {F G H σ ρ v s P Q} r ⟨hi, p⟩ k => k _ _ _ _ p .rfl (r.put i hi) fun vs h => wipe_set (h i (by simp))⟩
/-- several targets -/
structure Tgts (K : PySem.W.Frag) (g0 : TGs) (n : Nat) (gd : List D → Env' → (Env' → Prop) → Prop) (is : List Nat) : Prop where
  up : ∀ {F : Fr} {G H : Hp} {σ : St} {ρ : Env'} {us : List V} {xs : List D} {P : Env' → Prop} {Q : St → Hp → Prop}, R K F G H σ ρ → DdL K G us xs → xs.length = n → gd xs ρ P →
    (∀ σ' ρ' G' H', P ρ' → Ex G G' → R K F G' H' σ' ρ' → (∀ vs, (∀ i ∈ is, i ∈ vs) → wipe σ' vs = wipe σ vs) → Q σ' H') → g0 us σ H Q
def gNil' : List D → Env' → (Env' → Prop) → Prop := fun _ ρ P => P ρ
def gCons' (g : GT) (gs : List D → Env' → (Env' → Prop) → Prop) : List D → Env' → (Env' → Prop) → Prop := fun xs ρ P => match xs with
  | x :: r => g (.d x) ρ fun ρ1 => gs r ρ1 P
  | [] => False
theorem tgts_nil : Tgts K gNil 0 gNil' [] :=
  ⟨fun {F G H σ ρ us xs P Q} r d hl h k => by
    cases d with
    | nil => exact ⟨rfl, k _ _ _ _ h .rfl r fun _ _ => rfl⟩
    | cons _ _ => cases hl⟩
theorem tgts_cons {g0 : TG} {gd : GT} {is js : List Nat} {gs0 : TGs} {n : Nat} {gs : List D → Env' → (Env' → Prop) → Prop} (h1 : Tgt K g0 gd is) (h2 : Tgts K gs0 n gs js) : Tgts K (gCons g0 gs0) (n + 1) (gCons' gd gs) (is ++ js) :=
  ⟨fun {F G H σ ρ us xs P Q} r d hl h k => by
    cases d with
    | nil => cases hl
    | cons a t =>
      refine ⟨_, _, rfl, h1.up (r.push a) h fun σ1 ρ1 G1 H1 p1 e1 r1 w1 => ?_⟩
      exact h2.up r1 (t.ex e1) (by simpa using hl) p1 fun σ2 ρ2 G2 H2 p2 e2 r2 w2 => k _ _ _ _ p2 (e1.tr e2) r2 fun vs hv => (w2 vs fun i hi => hv i (List.mem_append_right _ hi)).trans (w1 vs fun i hi => hv i (List.mem_append_left _ hi))⟩
def gTp (n : Nat) (gs : List D → Env' → (Env' → Prop) → Prop) : GT := fun s ρ P => ∃ xs, s.dat = some (.tup xs) ∧ xs.length = n ∧ gs xs ρ P
theorem tgt_tup {gs0 : TGs} {n : Nat} {gs : List D → Env' → (Env' → Prop) → Prop} {is : List Nat} (h : Tgts K gs0 n gs is) : Tgt K (gTup K n gs0) (gTp n gs) is :=
  ⟨fun {F G H σ ρ v s P Q} r ⟨xs, hs, hl, p⟩ k => by
    obtain ⟨G1, e1, d1, r1⟩ := r.frz hs
    cases d1 with
    | tup g t => exact ⟨_, _, rfl, sqT_ex r1.gh g, by rw [t.len]; exact hl, h.up r1 t hl p fun σ' ρ' G' H' a b c d => k σ' ρ' G' H' a (e1.tr b) c d⟩⟩
def dAsg (te : ET) (gd : GT) : ST := fun E ρ => te ρ fun s ρ1 => gd s ρ1 E.nx
theorem ds_asg {tg : Expr} {g0 : TG} {gd : GT} {is : List Nat} (he : PE X e (lift X.K te)) (hg : PG X tg g0) (h : Tgt X.K g0 gd is) (hs : swapsWithSole [tg] e pos.line X.env = pure false := by rfl) (hw : swappedStores [tg] e X.env = pure none := by rfl)
    (h1 : (assignEach [tg] X.env).map (·.2) = [assign tg X.env] := by rfl) : PS X (.Assign [tg] e pos) (liftS X.K (dAsg te gd)) :=
  psImp (ps_asg he hg hs hw h1) fun D σ H ⟨F, G, ρ, E, r, q, w⟩ => goE r q fun x ρ1 v G1 H1 q1 e1 r1 => h.up r1 q1 fun σ' ρ' G' H' p e2 r2 _ => w.nx _ _ _ _ p (e1.tr e2) r2
theorem ds_set {i : Nat} {x : Str} {pos' : Pos} (hN : X.N.Nodup) (hi : X.N[i]? = some x) (hx : Loc X.env.scope x) (he : PE X e (lift X.K te)) (hs : swapsWith e (some (.Name x pos')) pos.line X.env = pure false := by rfl)
    (hf : X.fn x = true ∨ X.env.scope.names.lookup x = some .local := by first | exact .inl rfl | exact .inr rfl | assumption) : PS X (.Assign [.Name x pos'] e pos) (liftS X.K (dAsg te (gNm i))) :=
  psImp (ps_set hN hi hx he hs hf) fun D σ H ⟨F, G, ρ, E, r, q, w⟩ => goE r q fun x ρ1 v G1 H1 q1 e1 r1 => (tgt_name i).up r1 q1 fun σ' ρ' G' H' p e2 r2 _ => w.nx _ _ _ _ p (e1.tr e2) r2

def pend : Sl → Bool
  | .d _ => true
  | .ld _ => true
  | .ol _ => true
  | .od _ _ => true
  | .src => true
  | _ => false
theorem upd_self {H : Hp} {p : Addr} {o : HO} (h : H p = some o) : upd H p o = H := by
  funext b
  by_cases e : b = p
  · subst e; rw [upd_same, h]
  · rw [upd_ne e]
theorem R.pushLd {p : Addr} {o : HO} {x : D} (r : R K F G H σ ρ) (a : LdOk K G o x) (h0 : F.H0 p = some o) (h1 : ¬ InSrc F p) (h2 : ¬ InSelf F p) : R K F G H (some (.ref p) :: σ) (.ld x :: ρ) := by
  obtain ⟨os, hs, nd, f⟩ := r.sl
  exact ⟨r.gg, r.gh, r.fr, r.nw, r.th, r.sr, r.kp, r.nm, _, .cons (.ld a h0 h1 h2) hs, nd, f⟩
theorem R.pend {v : V} {s : Sl} (r : R K F G H (some v :: σ) (s :: ρ)) (hs : pend s = true) : ∃ F', R K F' G H σ ρ ∧ ∀ {G' H' σ' ρ'}, Ex G G' → R K F' G' H' σ' ρ' → R K F G' H' (some v :: σ') (s :: ρ') := by
  cases s with
  | d x =>
    obtain ⟨G1, e1, d1, _⟩ := r.frz (x := x) rfl
    obtain ⟨os, h, nd, f⟩ := r.sl
    cases h with
    | cons a t =>
      cases a with
      | d a => exact ⟨F, r.pop, fun e r' => r'.push (a.ex e)⟩
  | src =>
    obtain ⟨os, h, nd, f⟩ := r.sl
    cases h with
    | cons a t =>
      cases a with
      | src a => exact ⟨F, r.pop, fun e r' => r'.pushSrc a⟩
  | ld x =>
    obtain ⟨os, h, nd, f⟩ := r.sl
    cases h with
    | cons a t =>
      cases a with
      | ld a h0 h1 h2 => exact ⟨F, r.pop, fun e r' => r'.pushLd (a.ex e) h0 h1 h2⟩
  | ol xs =>
    obtain ⟨p, us, rfl, h1, h2, r', h3, h4⟩ := r.aside
    refine ⟨_, r', fun {G' H' σ' ρ'} e q => ?_⟩
    have hp : H' p = some (.lst us) := (q.kp (p, .lst us) (by simp [Fr.aside])).1
    have z := q.unset h3 h4 (fun _ z => nomatch z) (s := .ol xs) (o' := .lst us) (.ol upd_same (h2.ex e) h3)
    rwa [upd_self hp] at z
  | od ks vs =>
    obtain ⟨p, us, rfl, h1, h2, h5, h6, r', h3, h4⟩ := r.asideD
    refine ⟨_, r', fun {G' H' σ' ρ'} e q => ?_⟩
    have hp : H' p = some (.dK (ks.zip us)) := (q.kp (p, .dK (ks.zip us)) (by simp [Fr.aside])).1
    have z := q.unset h3 h4 (fun _ z => nomatch z) (s := .od ks vs) (o' := .dK (ks.zip us)) (.od upd_same h2 h5 (h6.ex e) h3)
    rwa [upd_self hp] at z
  | no => cases hs
  | oi _ _ _ => cases hs
  | bi _ _ _ => cases hs
abbrev BT := Env' → (List Sl → Env' → Prop) → Prop
def liftB (K : PySem.W.Frag) (t : BT) : TA := fun σ H Q => ∃ F G ρ P, R K F G H σ ρ ∧ t ρ P ∧
  ∀ ss ρ' vs G' H', P ss ρ' → Ex G G' → R K F G' H' (vs.map some ++ σ) (ss ++ ρ') → vs.length = ss.length → Q vs H'
def bNil : BT := fun ρ P => P [] ρ
/-- the value as it is (own things stay own) -/
def bCons (te : ET) (ta : BT) : BT := fun ρ P => te ρ fun s ρ1 => pend s = true ∧ ta ρ1 fun ss ρ2 => P (s :: ss) ρ2
theorem dab_nil : PA X [] (liftB X.K bNil) := paImp pa_nil fun σ H Q ⟨F, G, ρ, P, r, h, k⟩ => k [] ρ [] G H h .rfl r rfl
theorem dab_cons {es : List Expr} {ta : BT} (he : PE X e (lift X.K te)) (hr : PA X es (liftB X.K ta)) (hs : starEach (e :: es) X.env = (false, eval e X.env) :: starEach es X.env := by rfl) : PA X (e :: es) (liftB X.K (bCons te ta)) :=
  paImp (pa_cons he hr hs) fun σ H Q ⟨F, G, ρ, P, r, h, k⟩ => goE r h fun s ρ1 v G1 H1 ⟨h0, h1⟩ e1 r1 => by
    obtain ⟨F', r2, f⟩ := r1.pend h0
    exact ⟨F', G1, ρ1, _, r2, h1, fun ss ρ2 vs G2 H2 h2 e2 r3 hl => k (s :: ss) ρ2 (v :: vs) G2 H2 h2 (e1.tr e2) (f e2 r3) (by simp [hl])⟩
/-- a value as data (what is owned is given away), the source as it is -/
def Sl.arg : Sl → Option Sl
  | .src => some .src
  | .ld x => some (.ld x)
  | s => s.dat.map Sl.d
def bArg (te : ET) (ta : BT) : BT := fun ρ P => te ρ fun s ρ1 => ∃ s', s.arg = some s' ∧ ta ρ1 fun ss ρ2 => P (s' :: ss) ρ2
theorem dab_arg {es : List Expr} {ta : BT} (he : PE X e (lift X.K te)) (hr : PA X es (liftB X.K ta)) (hs : starEach (e :: es) X.env = (false, eval e X.env) :: starEach es X.env := by rfl) : PA X (e :: es) (liftB X.K (bArg te ta)) :=
  paImp (pa_cons he hr hs) fun σ H Q ⟨F, G, ρ, P, r, h, k⟩ => goE r h fun s ρ1 v G1 H1 ⟨s', h0, h1⟩ e1 r1 => by
    have dat : ∀ {x : D}, s.dat = some x → s' = .d x → liftB X.K ta σ H1 fun vs H2 => Q (v :: vs) H2 := fun {x} hx hs' => by
      subst hs'
      obtain ⟨G2, e2, d2, r2⟩ := r1.frz hx
      exact ⟨F, G2, ρ1, _, r2, h1, fun ss ρ2 vs G3 H3 h3 e3 r3 hl => k (.d x :: ss) ρ2 (v :: vs) G3 H3 h3 ((e1.tr e2).tr e3) (r3.push (d2.ex e3)) (by simp [hl])⟩
    cases s with
    | src =>
      cases h0
      obtain ⟨F', r2, f⟩ := r1.pend rfl
      exact ⟨F', G1, ρ1, _, r2, h1, fun ss ρ2 vs G2 H2 h2 e2 r3 hl => k (.src :: ss) ρ2 (v :: vs) G2 H2 h2 (e1.tr e2) (f e2 r3) (by simp [hl])⟩
    | ld x =>
      cases h0
      obtain ⟨F', r2, f⟩ := r1.pend rfl
      exact ⟨F', G1, ρ1, _, r2, h1, fun ss ρ2 vs G2 H2 h2 e2 r3 hl => k (.ld x :: ss) ρ2 (v :: vs) G2 H2 h2 (e1.tr e2) (f e2 r3) (by simp [hl])⟩
    | d x => cases h0; exact dat rfl rfl
    | ol x => cases h0; exact dat rfl rfl
    | od x y => cases h0; exact dat rfl rfl
    | oi x y z => cases h0; exact dat rfl rfl
    | no => cases h0
    | bi x y z => cases h0
/-- a, b = e, f (local names) -/
def dPar (i j : Nat) (ta : BT) : ST := fun E ρ => ta ρ fun ss ρ1 => ∃ a b, ss = [a, b] ∧ (i < ρ1.length ∧ j < ρ1.length) ∧ E.nx ((ρ1.set i a).set j b)
theorem ds_par {i j : Nat} {x y : Str} {a b : Expr} {ta : BT} {px py pt : Pos} {kt k2 pt2} (hc : X.calm = true) (hN : X.N.Nodup) (hi : X.N[i]? = some x) (hj : X.N[j]? = some y) (hij : i ≠ j)
    (hx : X.env.scope.names.lookup x = some .local) (hy : X.env.scope.names.lookup y = some .local) (ha : PA X [a, b] (liftB X.K ta)) (hw : swappedStores [.Tuple [.Name x px, .Name y py] kt pt] (.Tuple [a, b] k2 pt2) X.env = pure (some [x, y]) := by rfl) :
    PS X (.Assign [.Tuple [.Name x px, .Name y py] kt pt] (.Tuple [a, b] k2 pt2) pos) (liftS X.K (dPar i j ta)) :=
  psImp (ps_par hc hN hi hj hij hx hy ha hw) fun D σ H ⟨F, G, ρ, E, r, h, w⟩ => ⟨F, G, ρ, _, r, h, fun ss ρ1 vs G1 H1 ⟨a, b, es, ⟨h1, h2⟩, q⟩ e1 r1 hl => by
    subst es
    match vs, hl with
    | [va, vb], _ =>
      have r2 : R X.K F G1 H1 ((some vb :: σ).set (i + 1) (some va)) ((b :: ρ1).set (i + 1) a) := R.put (σ := some vb :: σ) (ρ := b :: ρ1) r1 (i + 1) (by simp; exact h1)
      have r3 := R.put (σ := σ.set i (some va)) (ρ := ρ1.set i a) r2 j (by simp; exact h2)
      exact ⟨va, vb, rfl, w.nx _ _ _ _ q e1 r3⟩⟩
def dPar3 (i j l : Nat) (ta : BT) : ST := fun E ρ => ta ρ fun ss ρ1 => ∃ a b c, ss = [a, b, c] ∧ (i < ρ1.length ∧ j < ρ1.length ∧ l < ρ1.length) ∧ E.nx (((ρ1.set i a).set j b).set l c)
theorem ds_par3 {i j l : Nat} {x y z : Str} {a b c : Expr} {ta : BT} {px py pz pt : Pos} {kt k2 pt2} (hc : X.calm = true) (hN : X.N.Nodup) (hi : X.N[i]? = some x) (hj : X.N[j]? = some y) (hl : X.N[l]? = some z) (hij : i ≠ j) (hil : i ≠ l) (hjl : j ≠ l)
    (hx : X.env.scope.names.lookup x = some .local) (hy : X.env.scope.names.lookup y = some .local) (hz : X.env.scope.names.lookup z = some .local) (ha : PA X [a, b, c] (liftB X.K ta))
    (hw : swappedStores [.Tuple [.Name x px, .Name y py, .Name z pz] kt pt] (.Tuple [a, b, c] k2 pt2) X.env = pure (some [x, y, z]) := by rfl) :
    PS X (.Assign [.Tuple [.Name x px, .Name y py, .Name z pz] kt pt] (.Tuple [a, b, c] k2 pt2) pos) (liftS X.K (dPar3 i j l ta)) :=
  psImp (ps_par3 hc hN hi hj hl hij hil hjl hx hy hz ha hw) fun D σ H ⟨F, G, ρ, E, r, h, w⟩ => ⟨F, G, ρ, _, r, h, fun ss ρ1 vs G1 H1 ⟨a, b, c, es, ⟨h1, h2, h3⟩, q⟩ e1 r1 hl => by
    subst es
    match vs, hl with
    | [va, vb, vc], _ =>
      have r2 := R.put (σ := some vb :: some vc :: σ) (ρ := b :: c :: ρ1) r1 (i + 2) (by simp; exact h1)
      have r3 := R.put (σ := some vc :: σ.set i (some va)) (ρ := c :: ρ1.set i a) r2 (j + 1) (by simp; exact h2)
      have r4 := R.put (σ := (σ.set i (some va)).set j (some vb)) (ρ := (ρ1.set i a).set j b) r3 l (by simp; exact h3)
      exact ⟨va, vb, vc, rfl, w.nx _ _ _ _ q e1 r4⟩⟩

/-- what is walked gives xs, one by one -/
def WalkD (K : PySem.W.Frag) (J : It) (G : Hp) (xs : List D) : Prop := ∃ (Gp : Hp → Prop) (Y : Nat → Hp → V → Hp → Prop), Walk J xs.length Gp Y ∧ (∀ {F G' H σ ρ}, Ex G G' → R K F G' H σ ρ → Gp H) ∧
  ∀ {F G' H H' σ ρ i x}, Ex G G' → R K F G' H σ ρ → Y i H x H' → i < xs.length → ∃ d G'', xs[i]? = some d ∧ Ex G' G'' ∧ R K F G'' H' (some x :: σ) (.d d :: ρ)
def liftI (K : PySem.W.Frag) (t : AT) : TI := fun σ H Q => ∃ F G ρ P, R K F G H σ ρ ∧ t ρ P ∧ ∀ xs ρ' G' H' J, P xs ρ' → Ex G G' → R K F G' H' σ ρ' → WalkD K J G' xs → Q J H'
theorem walkD_list {a : Addr} {us : List V} {xs : List D} (h : G a = some (.lst us)) (d : DdL K G us xs) : WalkD K (Itl K a) G xs :=
  ⟨fun H => SqL K H a us, YAt us, by rw [← d.len]; exact walk_list, fun e r => SqL.of (r.gh _ _ (e _ _ h)), fun {F G' H H' σ ρ i x} e r ⟨y1, y2⟩ hi => by
    subst y1
    obtain ⟨z, e1, e2⟩ := d.get' y2
    exact ⟨z, G', e1, .rfl, r.push (e2.ex e)⟩⟩
theorem walkD_tup {a : Addr} {us : List V} {xs : List D} (h : SqT K G a us) (d : DdL K G us xs) : WalkD K (Itt K a) G xs :=
  ⟨fun H => SqT K H a us, YAt us, by rw [← d.len]; exact walk_tup, fun e r => sqT_ex r.gh (sqT_ex e h), fun {F G' H H' σ ρ i x} e r ⟨y1, y2⟩ hi => by
    subst y1
    obtain ⟨z, e1, e2⟩ := d.get' y2
    exact ⟨z, G', e1, .rfl, r.push (e2.ex e)⟩⟩
/-- the ints 0 to n - 1 -/
def upto (n : Int) : List D := (List.range n.toNat).map fun i => .int (i : Nat)
theorem walkD_range (n : Int) : WalkD K (Itr 0 n.toNat) G (upto n) :=
  ⟨fun _ => True, YFn fun i => .int (0 + i), by unfold upto; rw [List.length_map, List.length_range]; exact walk_range, fun _ _ => trivial, fun {F G' H H' σ ρ i x} e r ⟨y1, y2⟩ hi => by
    subst y1 y2
    have hi : i < n.toNat := by unfold upto at hi; simpa using hi
    refine ⟨.int (i : Nat), G', by simp [upto, hi], .rfl, ?_⟩
    show R K F G' H' (some (V.int (0 + (i : Int))) :: σ) (.d (.int (i : Nat)) :: ρ)
    rw [show (0 : Int) + (i : Int) = ((i : Nat) : Int) by omega]
    exact r.push (.int _)⟩
/-- a text's signs -/
def signs (z : Str) : List D := z.cps.toList.map fun c => .str ⟨#[c]⟩
theorem strOk_sign {z : Str} {c i : Nat} (h : sOk z = true) (e : z.cps[i]? = some c) : sOk ⟨#[c]⟩ = true := by
  refine sOk_of ?_ (by show (1 : Nat) ≤ 1000000; decide)
  have h := sOk_1 h
  unfold PyData.strOk at h ⊢
  have := Array.all_eq_true'.mp h c (Array.mem_of_getElem? e)
  simpa using this
theorem walkD_str {z : Str} (ho : sOk z = true) : WalkD K (Its z) G (signs z) :=
  ⟨fun _ => True, fun i H v H' => H' = H ∧ ∃ c, z.cps[i]? = some c ∧ v = .str ⟨#[c]⟩, by unfold signs; rw [List.length_map, Array.length_toList]; exact walk_str, fun _ _ => trivial, fun {F G' H H' σ ρ i x} e r ⟨y1, c, y2, y3⟩ hi => by
    subst y1 y3
    exact ⟨.str ⟨#[c]⟩, G', by simp [signs, y2], .rfl, r.push (.str _ (strOk_sign ho y2))⟩⟩
/-- numbered -/
def numbered (xs : List D) : List D := xs.mapIdx fun i x => .tup [.int (i : Nat), x]
theorem walkD_enum {a : Addr} {us : List V} {xs : List D} (h : SqL K G a us) (d : DdL K G us xs) : WalkD K (Ite K a) G (numbered xs) :=
  ⟨fun H => SqL K H a us, YPair (fun i => some (.int (i : Nat))) (fun i => us[i]?), by unfold numbered; rw [List.length_mapIdx, ← d.len]; exact walk_enum, fun e r => sqL_ex r.gh (sqL_ex e h), fun {F G' H H' σ ρ i x} e r ⟨T, y, z, y1, y2, y3, y4, y5⟩ hi => by
    subst y1 y3
    cases y4
    obtain ⟨w, e1, e2⟩ := d.get' y5
    obtain ⟨e3, r3, d3⟩ := r.tup (us := [.int (i : Nat), z]) (xs := [.int (i : Nat), w]) y2 (.cons (.int _) (.cons (e2.ex e) .nil))
    exact ⟨.tup [.int (i : Nat), w], _, by simp [numbered, e1], e3, r3.push d3⟩⟩
def iL (te : ET) : AT := fun ρ P => te ρ fun s ρ1 => ∃ xs, s.dat = some (.lst xs) ∧ P xs ρ1
def iT (te : ET) : AT := fun ρ P => te ρ fun s ρ1 => ∃ xs, s.dat = some (.tup xs) ∧ P xs ρ1
def iS (te : ET) : AT := fun ρ P => te ρ fun s ρ1 => ∃ z, s.dat = some (.str z) ∧ P (signs z) ρ1
def iR (ta : AT) : AT := fun ρ P => ta ρ fun ys ρ1 => ∃ n : Int, ys = [.int n] ∧ (-1000000 < n ∧ n < 1000000) ∧ P (upto n) ρ1
def iEn (ta : AT) : AT := fun ρ P => ta ρ fun ys ρ1 => ∃ xs, ys = [.lst xs] ∧ P (numbered xs) ρ1
variable {tg : Expr}
theorem di_list (he : PE X e (lift X.K te)) : PI X tg e (liftI X.K (iL te)) :=
  piImp (pi_list he) fun σ H Q ⟨F, G, ρ, P, r, h, k⟩ => goE r h fun s ρ1 v G1 H1 ⟨xs, hs, h1⟩ e1 r1 => by
    obtain ⟨G2, e2, d2, r2⟩ := r1.frz hs
    cases d2 with
    | lst g t => exact ⟨_, rfl, ⟨_, .of (r2.gh _ _ g)⟩, k _ _ _ _ _ h1 (e1.tr e2) r2 (walkD_list g t)⟩
theorem di_tup (he : PE X e (lift X.K te)) : PI X tg e (liftI X.K (iT te)) :=
  piImp (pi_tup he) fun σ H Q ⟨F, G, ρ, P, r, h, k⟩ => goE r h fun s ρ1 v G1 H1 ⟨xs, hs, h1⟩ e1 r1 => by
    obtain ⟨G2, e2, d2, r2⟩ := r1.frz hs
    cases d2 with
    | tup g t => exact ⟨_, rfl, ⟨_, sqT_ex r2.gh g⟩, k _ _ _ _ _ h1 (e1.tr e2) r2 (walkD_tup g t)⟩
theorem di_str (he : PE X e (lift X.K te)) : PI X tg e (liftI X.K (iS te)) :=
  piImp (pi_str he) fun σ H Q ⟨F, G, ρ, P, r, h, k⟩ => goE r h fun s ρ1 v G1 H1 ⟨z, hs, h1⟩ e1 r1 => by
    obtain ⟨G2, e2, d2, r2⟩ := r1.frz hs
    cases d2 with
    | str _ ho => exact ⟨_, rfl, k _ _ _ _ _ h1 (e1.tr e2) r2 (walkD_str ho)⟩
theorem di_range {a : Expr} {ta : AT} {p : Pos} (hg : Gl X "range") (hm : X.mg "range" = none) (ha : PA X [a] (liftA X.K ta)) (hs : starEach [a] X.env = [(false, eval a X.env)] := by rfl) : PI X tg (.Call (.Name "range" p) [a] [] pos) (liftI X.K (iR ta)) :=
  piImp (pi_range1 hg hm ha hs) fun σ H Q ⟨F, G, ρ, P, r, h, k⟩ => goA r h fun ys ρ1 vs G1 H1 ⟨n, hy, hn, h1⟩ e1 r1 d1 => by
    subst hy
    cases d1 with
    | cons a t =>
      cases t
      cases a
      exact ⟨n, rfl, by omega, by omega, k _ _ _ _ _ h1 e1 r1 (walkD_range n)⟩
theorem di_enum {a : Expr} {ta : AT} {p tpos : Pos} {elts : List Expr} {kk : Nat} (hg : Gl X "enumerate") (hm : X.mg "enumerate" = none) (ha : PA X [a] (liftA X.K ta)) (hs : starEach [a] X.env = [(false, eval a X.env)] := by rfl) :
    PI X (.Tuple elts kk tpos) (.Call (.Name "enumerate" p) [a] [] pos) (liftI X.K (iEn ta)) :=
  piImp (pi_enum hg hm ha hs) fun σ H Q ⟨F, G, ρ, P, r, h, k⟩ => goA r h fun ys ρ1 vs G1 H1 ⟨xs, hy, h1⟩ e1 r1 d1 => by
    subst hy
    cases d1 with
    | cons a t =>
      cases t
      cases a with
      | lst g t => exact ⟨_, _, rfl, .of (r1.gh _ _ g), k _ _ _ _ _ h1 e1 r1 (walkD_enum (.of g) t)⟩

def loopS (gd : GT) (tb : ST) (E : DE) : List D → Env' → Prop
  | [], ρ => E.nx ρ
  | x :: xs, ρ => gd (.d x) ρ fun ρ' => tb { E with nx := loopS gd tb E xs, ct := loopS gd tb E xs, bk := E.nx } ρ'
def dFor (ti : AT) (gd : GT) (tb : ST) : ST := fun E ρ => ti ρ fun xs ρ1 => loopS gd tb E xs ρ1
theorem drop_cons {α : Type} {xs : List α} {i : Nat} {x : α} (h : xs[i]? = some x) : xs.drop i = x :: xs.drop (i + 1) := by
  obtain ⟨hl, e⟩ := List.getElem?_eq_some_iff.mp h
  rw [List.drop_eq_getElem_cons hl, e]
theorem ds_for {iter : Expr} {body : List Stmt} {ti : AT} {g0 : TG} {gd : GT} {is : List Nat} {tb : ST} (hp : PassesOwn (model X.prog X.w) X.A X.env X.xe) (hc : X.calm = true) (hi : PI X tg iter (liftI X.K ti)) (hg : PG X tg g0) (ht : Tgt X.K g0 gd is) (hb : PSs X body (liftS X.K tb)) (hs : ∀ x, foldedSetIterable iter X.env x = pure x := by intro _; rfl) :
    PS X (.For tg iter body [] pos) (liftS X.K (dFor ti gd tb)) :=
  psImp (ps_for hp hc hi hg hb hs) fun D σ H ⟨F, G, ρ, E, r, h, w⟩ => ⟨F, G, ρ, _, r, h, fun xs ρ1 G1 H1 J h1 e1 r1 ⟨Gp, Y, wk, wg, wy⟩ => by
    refine for_it wk (fun i σ' H' => ∃ G' ρ', Ex G1 G' ∧ R X.K F G' H' σ' ρ' ∧ loopS gd tb E (xs.drop i) ρ') ⟨G1, ρ1, .rfl, r1, h1⟩ (fun i σ' H' _ ⟨G', ρ', e, r', _⟩ => wg e r') (fun i x σ' H' H2 hi ⟨G', ρ', e, r', l⟩ y => ?_) fun σ' H' ⟨G', ρ', e, r', l⟩ => ?_
    · obtain ⟨d, G2, ed, e2, r2⟩ := wy e r' y hi
      rw [drop_cons ed] at l
      refine ht.up r2 l fun σ3 ρ3 G3 H3 p3 e3 r3 _ => ⟨F, G3, ρ3, _, r3, p3, ⟨fun σ4 ρ4 G4 H4 q e4 r4 => ⟨G4, ρ4, ((e.tr e2).tr e3).tr e4, r4, q⟩, fun σ4 ρ4 G4 H4 q e4 r4 => w.nx _ _ _ _ q (e1.tr (((e.tr e2).tr e3).tr e4)) r4, fun σ4 ρ4 G4 H4 q e4 r4 => ⟨G4, ρ4, ((e.tr e2).tr e3).tr e4, r4, q⟩, fun s v σ4 ρ4 G4 H4 q e4 r4 => w.rt _ _ _ _ _ _ q (e1.tr (((e.tr e2).tr e3).tr e4)) r4⟩⟩
    · rw [List.drop_length] at l
      exact w.nx _ _ _ _ l (e1.tr e) r'⟩
def dWhile (c : TTd) (tb : ST) : ST := fun E ρ => ∃ I : Nat → Env' → Prop, (∃ m, I m ρ) ∧ ∀ m ρ, I m ρ → c ρ fun b ρ1 => if b = true then
  tb { E with nx := fun ρ' => ∃ m', m' < m ∧ I m' ρ', ct := fun ρ' => ∃ m', m' < m ∧ I m' ρ', bk := E.nx } ρ1 else E.nx ρ1
theorem ds_while {c : Expr} {body : List Stmt} {tb : ST} (hp : PassesOwn (model X.prog X.w) X.A X.env X.xe) (hc : PT X c (liftT X.K tc)) (hb : PSs X body (liftS X.K tb)) : PS X (.While c body [] pos) (liftS X.K (dWhile tc tb)) :=
  psImp (ps_while hp hc hb) fun D σ H ⟨F, G, ρ, E, r, ⟨I, h0, h⟩, w⟩ => ⟨fun m σ' H' => ∃ G' ρ', Ex G G' ∧ R X.K F G' H' σ' ρ' ∧ I m ρ', h0.imp fun m hm => ⟨G, ρ, .rfl, r, hm⟩, fun m σ' H' ⟨G', ρ', e, r', hI⟩ => goT r' (h m ρ' hI) fun b ρ1 G1 H1 h1 e1 r1 => by
    cases b with
    | true =>
      refine ⟨fun σ2 H2 => ∃ m', m' < m ∧ ∃ G2 ρ2, Ex G G2 ∧ R X.K F G2 H2 σ2 ρ2 ∧ I m' ρ2, fun σ2 H2 ⟨m', hm, q⟩ => ⟨m', hm, q⟩, ⟨F, G1, ρ1, _, r1, h1, ?_⟩⟩
      exact ⟨fun σ4 ρ4 G4 H4 ⟨m', hm, q⟩ e4 r4 => ⟨m', hm, G4, ρ4, (e.tr e1).tr e4, r4, q⟩, fun σ4 ρ4 G4 H4 q e4 r4 => w.nx _ _ _ _ q ((e.tr e1).tr e4) r4, fun σ4 ρ4 G4 H4 ⟨m', hm, q⟩ e4 r4 => ⟨m', hm, G4, ρ4, (e.tr e1).tr e4, r4, q⟩, fun s v σ4 ρ4 G4 H4 q e4 r4 => w.rt _ _ _ _ _ _ q ((e.tr e1).tr e4) r4⟩
    | false => exact w.nx _ _ _ _ h1 (e.tr e1) r1⟩

def wipeD (ρ : Env') : List Nat → Env'
  | [] => ρ
  | v :: vs => (wipeD ρ vs).set v .no
theorem R.wipe (r : R K F G H σ ρ) : ∀ vs : List Nat, R K F G H (wipe σ vs) (wipeD ρ vs)
  | [] => r
  | v :: vs => by
    have q := (R.wipe r vs).forget v
    by_cases hv : v < (wipeD ρ vs).length
    · exact q.any (by rw [List.getElem?_set_self hv])
    · show R K F G H ((L2.wipe σ vs).set v none) _
      rw [List.set_eq_of_length_le (by have := (R.wipe r vs).len; omega)]
      exact q
theorem wipeD_len (ρ : Env') : ∀ vs : List Nat, (wipeD ρ vs).length = ρ.length
  | [] => rfl
  | v :: vs => by show ((wipeD ρ vs).set v .no).length = _; rw [List.length_set, wipeD_len ρ vs]
theorem wipeD_no {ρ : Env'} : ∀ {vs : List Nat} {i : Nat}, i ∈ vs → i < ρ.length → (wipeD ρ vs)[i]? = some .no
  | v :: vs, i, h, hl => by
    show ((wipeD ρ vs).set v .no)[i]? = _
    by_cases e : v = i
    · subst e; rw [List.getElem?_set_self (by rw [wipeD_len]; exact hl)]
    · rw [List.getElem?_set_ne e]
      exact wipeD_no (by rcases List.mem_cons.mp h with h | h; exact absurd h.symm e; exact h) hl
/-- back: slots that were wiped may hold what they held -/
theorem R.unwipe : ∀ {vs : List Nat} {σ : St}, R K F G H (L2.wipe σ vs) ρ → (∀ i ∈ vs, i < ρ.length → ρ[i]? = some .no) → R K F G H σ ρ
  | [], σ, r, _ => r
  | v :: vs, σ, r, h => by
    have hl : (L2.wipe σ (v :: vs)).length = σ.length := wipe_length σ _
    by_cases hv : v < ρ.length
    · have q := r.any (v := (L2.wipe σ vs)[v]?.join) (h v (by simp) hv)
      have e : (L2.wipe σ (v :: vs)).set v ((L2.wipe σ vs)[v]?.join) = L2.wipe σ vs := by
        show ((L2.wipe σ vs).set v none).set v _ = _
        rw [List.set_set]
        have hv2 : v < (L2.wipe σ vs).length := by rw [wipe_length]; have := r.len; rw [hl] at this; omega
        rw [List.getElem?_eq_getElem hv2]
        exact List.set_getElem_self hv2
      rw [e] at q
      exact R.unwipe q fun i hi => h i (by simp [hi])
    · have e : L2.wipe σ (v :: vs) = L2.wipe σ vs := by
        show (L2.wipe σ vs).set v none = _
        exact List.set_eq_of_length_le (by rw [wipe_length]; have := r.len; rw [hl] at this; omega)
      rw [e] at r
      exact R.unwipe r fun i hi => h i (by simp [hi])
abbrev dYes : TTd := fun ρ P => P true ρ
def liftYes (K : PySem.W.Frag) : TT := liftT K dYes
theorem dts_nil : PTs X [] (liftT X.K dYes) := ⟨fun pins s σ H Q I ⟨F, G, ρ, P, r, h, k⟩ => (pts_nil (X := X)).run pins s σ H Q I (k _ _ _ _ h .rfl r)⟩
theorem dts_one {c : Expr} (h : PT X c (liftT X.K tc)) : PTs X [c] (liftT X.K tc) := pts_one h
theorem wipe_comm (v : Nat) : ∀ (ws : List Nat) (τ : St), L2.wipe (τ.set v none) ws = (L2.wipe τ ws).set v none
  | [], _ => rfl
  | w :: ws, τ => by
    show (L2.wipe (τ.set v none) ws).set w none = ((L2.wipe τ ws).set w none).set v none
    rw [wipe_comm v ws]
    by_cases q : w = v
    · subst q; rfl
    · rw [List.set_comm _ _ (Ne.symm q)]
theorem wipe_wipe : ∀ (vs : List Nat) (σ : St), L2.wipe (L2.wipe σ vs) vs = L2.wipe σ vs
  | [], _ => rfl
  | v :: vs, σ => by
    show (L2.wipe ((L2.wipe σ vs).set v none) vs).set v none = (L2.wipe σ vs).set v none
    rw [wipe_comm, wipe_wipe vs, List.set_set]
def loopC (gd : GT) (tt : TTd) (te : ET) (vs : List Nat) (P : Sl → Env' → Prop) : List D → List D → Env' → Prop
  | [], acc, ρ => P (.ol acc) ρ
  | x :: xs, acc, ρ => gd (.d x) ρ fun ρ1 => tt ρ1 fun b ρ2 => if b = true then te ρ2 fun s ρ3 => ∃ y, s.dat = some y ∧ acc.length < 1000000 ∧ loopC gd tt te vs P xs (acc ++ [y]) (wipeD ρ3 vs) else loopC gd tt te vs P xs acc (wipeD ρ2 vs)
def dLc (ti : AT) (gd : GT) (tt : TTd) (te : ET) (vs : List Nat) : ET := fun ρ P => ti ρ fun xs ρ1 => loopC gd tt te vs P xs [] (wipeD ρ1 vs)
theorem lcGo {ti : AT} {g0 : TG} {gd : GT} {is vs : List Nat} {tt : TTd} {Q : VK} (ht : Tgt K g0 gd is) (hv : ∀ i ∈ is, i ∈ vs) {P : Sl → Env' → Prop} (r : R K F G H σ ρ) (h : dLc ti gd tt te vs ρ P)
    (k : ∀ s ρ' v G' H', P s ρ' → Ex G G' → R K F G' H' (some v :: σ) (s :: ρ') → Q v H') : tLc (liftI K ti) g0 (liftT K tt) (lift K te) vs σ H Q :=
  ⟨F, G, ρ, _, r, h, fun xs ρ1 G1 H1 J h1 e1 r1 ⟨Gp, Y, wk, wg, wy⟩ => fun Dl hD => by
    refine lc_it wk (fun i H' => ∃ G' ρ' us acc, Ex G1 G' ∧ H' Dl = some (.lst us) ∧ DdL K G' us acc ∧ R K (F.aside Dl (.lst us)) G' H' (L2.wipe σ vs) ρ' ∧ F.H0 Dl = none ∧ ¬ InSrc F Dl ∧ (∀ i ∈ vs, i < ρ'.length → ρ'[i]? = some .no) ∧ loopC gd tt te vs P (xs.drop i) acc ρ') ?_ (fun i H' _ ⟨G', ρ', us, acc, e, _, _, r', _⟩ => wg e r') (fun i x H' H2 hi ⟨G', ρ', us, acc, e, hd, da, r', n1, n2, nv, l⟩ y => ?_) fun H' ⟨G', ρ', us, acc, e, hd, da, r', n1, n2, nv, l⟩ => ?_
    · have r2 := (r1.wipe vs).lst (us := []) hD .nil
      obtain ⟨p, us, ep, h3, h4, r3, n1, n2⟩ := r2.aside
      cases ep
      rw [upd_same] at h3
      cases h3
      exact ⟨G1, _, [], [], .rfl, upd_same, .nil, r3, n1, n2, fun i hi hl => wipeD_no hi (by rw [wipeD_len] at hl; exact hl), h1⟩
    · obtain ⟨d, G2, ed, e2, r2⟩ := wy e r' y hi
      rw [drop_cons ed] at l
      refine ht.up r2 l fun σ3 ρ3 G3 H3 p3 e3 r3 w3 => ⟨?_, ?_⟩
      · rw [w3 vs hv]
        exact wipe_wipe vs σ
      · have w4 : L2.wipe σ3 vs = L2.wipe σ vs := by
          rw [w3 vs hv]
          exact wipe_wipe vs σ
        refine goT r3 p3 fun b ρ4 G4 H4 q4 e4 r4 => ?_
        have back : ∀ {G5 H5 us5} {ρ5 : Env'}, R K (F.aside Dl (.lst us5)) G5 H5 σ3 ρ5 → R K (F.aside Dl (.lst us5)) G5 H5 (L2.wipe σ vs) (wipeD ρ5 vs) := fun {G5 H5 us5 ρ5} z => by
          have := z.wipe vs
          rwa [w4] at this
        cases b with
        | true =>
          refine goD r4 q4 fun z ρ5 v G5 H5 ⟨hz, q5⟩ e5 r5 d5 => ?_
          have kp := r5.kp (Dl, .lst us) (by simp [Fr.aside])
          refine ⟨us, kp.1, by rw [da.len]; exact Nat.lt_of_lt_of_le hz (by decide), G5, wipeD ρ5 vs, us ++ [v], acc ++ [z], (((e.tr e2).tr e3).tr e4).tr e5, upd_same, ((da.ex (((e2.tr e3).tr e4).tr e5))).app (.cons d5 .nil), ?_, n1, n2, fun i hi hl => wipeD_no hi (by rw [wipeD_len] at hl; exact hl), q5⟩
          have r6 := back r5
          have r7 := r6.unset (o' := .lst (us ++ [v])) (s := .ol (acc ++ [z])) n1 n2 (fun _ z => nomatch z) (.ol upd_same ((da.ex (((e2.tr e3).tr e4).tr e5)).app (.cons d5 .nil)) n1)
          obtain ⟨p, us', ep, h3, h4, r8, _, _⟩ := r7.aside
          cases ep
          rw [upd_same] at h3
          cases h3
          exact r8
        | false =>
          have kp := r4.kp (Dl, .lst us) (by simp [Fr.aside])
          exact ⟨G4, wipeD ρ4 vs, us, acc, ((e.tr e2).tr e3).tr e4, kp.1, da.ex ((e2.tr e3).tr e4), back r4, n1, n2, fun i hi hl => wipeD_no hi (by rw [wipeD_len] at hl; exact hl), q4⟩
    · rw [List.drop_length] at l
      have r7 := r'.unset (o' := .lst us) (s := .ol acc) n1 n2 (fun _ z => nomatch z) (.ol upd_same da n1)
      rw [upd_self hd] at r7
      refine k _ _ _ _ _ l (e1.tr e) ?_
      obtain ⟨F', r8, f⟩ := r7.pend rfl
      exact f .rfl (R.unwipe r8 nv)⟩
end
end Fl
namespace Fl
open PySem L2

/-- what a def does: of its arguments (data, the source) what it may give -/
abbrev FT := List Sl → (Sl → Prop) → Prop
def argOk : Sl → Bool
  | .d _ => true
  | .src => true
  | .ld _ => true
  | _ => false
/-- the promise: the data stay, new ones come, the source is drawn from, nothing else changes -/
def spD (K : PySem.W.Frag) (n : Nat) (f : FT) : Sp := fun vs H Q _ => ∃ G src ss P, R K ⟨G, H, src, none, []⟩ G H (vs.map some) ss ∧ ss.all argOk = true ∧ ss.length = n ∧ f ss P ∧
  ∀ r v G' H', P r → Ex G G' → R K ⟨G, H, src, none, []⟩ G' H' [some v] [r] → Q v H'

section
variable {K : PySem.W.Frag} {F : Fr} {G G' H H' : Hp} {σ τ : St} {ρ ss : Env'} {os : List Addr}
theorem Sls.args (h : Sls K F G H σ ρ os) (a : ρ.all argOk = true) : os = [] := by
  induction h with
  | nil => rfl
  | @cons v s σ ρ os ps x t ih =>
    rw [List.all_cons, Bool.and_eq_true] at a
    rw [ih a.2]
    cases x <;> first | rfl | cases a.1
theorem Sls.split {ss : Env'} : ∀ {τ : St} {os : List Addr}, Sls K F G H (τ ++ σ) (ss ++ ρ) os → τ.length = ss.length → ∃ o1 o2, os = o1 ++ o2 ∧ Sls K F G H τ ss o1 ∧ Sls K F G H σ ρ o2 := by
  induction ss with
  | nil =>
    intro τ os h hl
    obtain rfl : τ = [] := List.length_eq_zero_iff.mp hl
    exact ⟨[], os, rfl, .nil, h⟩
  | cons s ss ih =>
    intro τ os h hl
    match τ, hl with
    | v :: τ, hl =>
      cases h with
      | cons a t =>
        obtain ⟨o1, o2, e, h1, h2⟩ := ih t (by simpa using hl)
        subst e
        exact ⟨_, o2, (List.append_assoc ..).symm, .cons a h1, h2⟩
/-- a call: what the callee wants to see -/
theorem R.enter (r : R K F G H (τ ++ σ) (ss ++ ρ)) (hl : τ.length = ss.length) (ha : ss.all argOk = true) : R K ⟨G, H, F.src, none, []⟩ G H τ ss := by
  have fr0 := r.fr
  obtain ⟨os, h, nd, f⟩ := r.sl
  obtain ⟨o1, o2, rfl, h1, h2⟩ := h.split hl
  have e := h1.args ha
  subst e
  have is : ∀ b, InSrc ⟨G, H, F.src, none, []⟩ b → InSrc F b := fun b m => by
    rcases m with m | ⟨o, m⟩
    · exact .inl m
    · cases m
  have h3 : Sls K ⟨G, H, F.src, none, []⟩ G H τ ss [] := by
    clear h h2 f nd hl r
    generalize ho : ([] : List Addr) = os at h1
    induction h1 with
    | nil => exact .nil
    | @cons v s σ ρ os ps x t ih =>
      rw [List.all_cons, Bool.and_eq_true] at ha
      have hp : os = [] ∧ ps = [] := by simpa using ho.symm
      obtain ⟨rfl, rfl⟩ := hp
      refine .cons (os := []) (ps := []) ?_ (ih ha.2 rfl)
      cases x with
      | no => exact .no _
      | d h => exact .d h
      | src h => exact .src h
      | ld h h0 h1 h2 => exact .ld h (fr0 _ _ h0 h1 h2) (fun m => h1 (is _ m)) (fun ⟨_, _, z, _⟩ => by cases z)
  refine ⟨.rfl, r.gh, fun b o e _ _ => e, fun b o e => .inl e, fun b hb => ?_, fun a c e => r.sr a c e, fun q hq => (by cases hq), r.nm, [], h3, List.nodup_nil, by simp⟩
  rcases hb with hb | ⟨a, c, e, _⟩
  · exact r.th b (.inl (is b hb))
  · cases e
/-- a call: what the caller has behind it -/
theorem R.leave {v : V} {s : Sl} (r : R K F G H σ ρ) (c : R K ⟨G, H, F.src, none, []⟩ G' H' [some v] [s]) (hn : s ≠ .no) (hl : ∀ x, s ≠ .ld x) : R K F G' H' (some v :: σ) (s :: ρ) := by
  obtain ⟨os, h, nd, f⟩ := r.sl
  obtain ⟨ps, hp, ndp, fp⟩ := c.sl
  have is : ∀ b, InSrc ⟨G, H, F.src, none, []⟩ b → InSrc F b := fun b m => by
    rcases m with m | ⟨o, m⟩
    · exact .inl m
    · cases m
  have keep : ∀ b o, H b = some o → ¬ InSrc ⟨G, H, F.src, none, []⟩ b → H' b = some o := fun b o e n => c.fr b o e n fun ⟨a, c, z, _⟩ => by cases z
  have gnone : ∀ b o, H b = some o → G b = none → G' b = none := fun b o e g => by
    cases q : G' b with
    | none => rfl
    | some u =>
      rcases c.nw b u q with z | z
      · have z : G b = some u := z
        rw [g] at z; cases z
      · exact absurd (show H b = none from z) (by rw [e]; simp)
  have eH : ∀ p ∈ os, H' p = H p := fun p hp => by
    obtain ⟨o, e⟩ := h.inH p hp
    rw [e]; exact keep p o e fun m => (f p hp).2 (is p m)
  cases hp with
  | @cons _ _ _ _ o1 o2 a t =>
    cases t
    rw [List.append_nil] at ndp fp
    have pn : ∀ p ∈ o1, H p = none := by
      cases a with
      | no => exact absurd rfl hn
      | d _ => simp
      | ol _ _ z => simpa using z
      | od _ _ _ _ z => simpa using z
      | oi _ _ _ _ z1 z2 => intro p hp; rcases (by simpa using hp : p = _ ∨ p = _) with rfl | rfl; exact z1; exact z2
      | bi _ _ _ _ z => cases z
      | src _ => simp
      | ld _ _ _ _ => exact absurd rfl (hl _)
    have a2 : SlOk K F G' H' (some v) s o1 := by
      cases a with
      | no => exact .no _
      | d h => exact .d h
      | ol h1 h2 z => exact .ol h1 h2 (r.new z).2.1
      | od h1 h2 h3 h4 z => exact .od h1 h2 h3 h4 (r.new z).2.1
      | oi h1 h2 h3 h4 z1 z2 => exact .oi h1 h2 h3 h4 (r.new z1).2.1 (r.new z2).2.1
      | bi _ _ _ _ z => cases z
      | src h => exact .src h
      | ld _ _ _ _ => exact absurd rfl (hl _)
    refine ⟨r.gg.tr c.gg, c.gh, fun b o e n1 n2 => keep b o (r.fr b o e n1 n2) fun m => n1 (is b m), fun b o e => ?_, fun b hb => ?_, fun a c' e => c.sr a c' e, fun q hq => ?_, c.nm, _, .cons a2 (h.keep c.gg eH), ?_, fun p hp => ?_⟩
    · rcases c.nw b o e with z | z
      · exact r.nw b o z
      · exact .inr (r.new z).2.1
    · obtain ⟨o, e⟩ := r.th b hb
      by_cases m : InSrc ⟨G, H, F.src, none, []⟩ b
      · exact c.th b (.inl m)
      · exact ⟨o, keep b o e m⟩
    · obtain ⟨k1, k2, k3⟩ := r.kp q hq
      refine ⟨keep _ _ k1 fun m => ?_, gnone _ _ k1 k2, k3⟩
      rcases m with ⟨a, c', e, m⟩ | ⟨o, m⟩
      · rcases m with m | m
        · exact (k3 a c' e).1 m
        · exact (k3 a c' e).2 m
      · cases m
    · refine List.nodup_append.mpr ⟨ndp, nd, fun x hx y hy e => ?_⟩
      subst e
      obtain ⟨o, q⟩ := h.inH x hy
      rw [pn x hx] at q; cases q
    · rcases List.mem_append.mp hp with m | m
      · exact ⟨(fp p m).1, (r.new (pn p m)).2.2.1⟩
      · obtain ⟨o, e⟩ := h.inH p m
        exact ⟨gnone p o e (f p m).1, (f p m).2⟩
theorem R.top {v : Option V} {s : Sl} (r : R K F G H (v :: σ) (s :: ρ)) : R K F G H [v] [s] := by
  obtain ⟨os, h, nd, f⟩ := r.sl
  cases h with
  | cons a t => exact ⟨r.gg, r.gh, r.fr, r.nw, r.th, r.sr, r.kp, r.nm, _, .cons a .nil, by rw [List.append_nil]; exact (List.nodup_append.mp nd).1, fun p hp => f p (List.mem_append_left _ (by simpa using hp))⟩
/-- slots that are not yet known -/
theorem R.more (r : R K F G H σ ρ) (n : Nat) : R K F G H (σ ++ List.replicate n none) (ρ ++ List.replicate n .no) := by
  obtain ⟨os, h, nd, f⟩ := r.sl
  have key : ∀ {σ : St} {ρ : Env'} {os : List Addr}, Sls K F G H σ ρ os → Sls K F G H (σ ++ List.replicate n none) (ρ ++ List.replicate n .no) os := fun {σ ρ os} h => by
    induction h with
    | nil =>
      show Sls K F G H (List.replicate n none) (List.replicate n .no) []
      clear nd f h r
      induction n with
      | zero => exact .nil
      | succ n ih => exact .cons (os := []) (.no _) ih
    | cons a t ih => exact .cons a ih
  exact ⟨r.gg, r.gh, r.fr, r.nw, r.th, r.sr, r.kp, r.nm, os, key h, nd, f⟩
end

def noNo : Sl → Bool
  | .no => false
  | .bi _ _ _ => false
  | .src => false
  | .ld _ => false
  | _ => true
section
variable {P : Program} {w : World} {K : PySem.W.Frag} {mg : Str → Option Value} {base : Heap}
/-- the body's data reading, from the arguments -/
def Body (N : List Str) (n : Nat) (t : ST) (f : FT) : Prop := ∀ ss P, ss.all argOk = true → ss.length = n → f ss P →
  t { nx := fun _ => P (.d .non), rt := fun r => noNo r = true ∧ P r } (ss ++ List.replicate (N.length - n) .no)
theorem liftS_start {N : List Str} {n : Nat} {t : ST} {f : FT} (hb : Body N n t f) {vs : List V} {H : Hp} {Q : VK} {E : XK} (h : spD K n f vs H Q E) : liftS K t { nx := fun _ H' => Q .non H', rt := Q } (start N vs) H := by
  obtain ⟨G, src, ss, P, r, ha, hl, hf, k⟩ := h
  have e : vs.length = n := by have := r.len; rw [List.length_map] at this; omega
  refine ⟨_, G, _, _, ?_, hb ss _ ha hl hf, ⟨fun σ ρ G' H' hP e r' => k _ _ _ _ hP e (r'.push .non).top, fun σ ρ G' H' z => z.elim, fun σ ρ G' H' z => z.elim, fun s v σ ρ G' H' hP e r' => k _ _ _ _ hP.2 e r'.top⟩⟩
  unfold L2.start
  rw [e]
  exact r.more _
end
section
variable {X : Cx} {k n : Nat} {f : Addr} {fd : FuncData} {ps : List Str} {ft : FT} {x : Str} {p pos : Pos} {e : Expr} {es : List Expr} {tb : BT}
/-- f(e, ..) of an own def -/
def dFn (ft : FT) (tb : BT) : ET := fun ρ P => tb ρ fun ss ρ1 => ss.all argOk = true ∧ ft ss fun r => noNo r = true ∧ P r ρ1
theorem pd_call (F : FnOk X.prog X.w X.K X.mg X.base CX0 k f fd ps (spD X.K n ft)) (hr : Room k X.A) (hg : Gl X x) (hm : X.mg x = some (.ref f)) (hk : PySem.W.keepIn X.K (.ref f) = true) (hb : Binds X.K fd ps []) (ha : PA X (e :: es) (liftB X.K tb))
    (hn : (e :: es).length = n := by rfl) (hdb : (x == ("__debug__" : Str)) = false := by decide) (he : starEach (e :: es) X.env = (false, eval e X.env) :: starEach es X.env := by rfl) (hpl : (backTo pos (starEach es X.env)).any (·.1) = false := by rfl) :
    PE X (.Call (.Name x p) (e :: es) [] pos) (lift X.K (dFn ft fun ρ P => tb ρ fun ss ρ1 => ss.length = n ∧ P ss ρ1)) :=
  peImp (pe_call F hr hg hm hk hb .nil pass0 ha hdb he hpl) fun σ H Q ⟨F, G, ρ, P, r, h, q⟩ => ⟨F, G, ρ, _, r, h, fun ss ρ1 vs G1 H1 ⟨hl, h0, h1⟩ e1 r1 l1 => by
    show spD X.K n ft (vs ++ []) H1 Q E0
    rw [List.append_nil]
    refine ⟨G1, F.src, ss, _, r1.enter (by rw [List.length_map]; exact l1) h0, h0, hl, h1, fun s v G2 H2 ⟨hs, hp⟩ e2 r2 => q _ _ _ _ _ hp (e1.tr e2) ?_⟩
    have r0 : R X.K F G1 H1 σ ρ1 := by
      clear h1 r2
      obtain ⟨os, h, nd, f⟩ := r1.sl
      obtain ⟨o1, o2, rfl, h3, h4⟩ := h.split (by rw [List.length_map]; exact l1)
      exact ⟨r1.gg, r1.gh, r1.fr, r1.nw, r1.th, r1.sr, r1.kp, r1.nm, _, h4, (List.nodup_append.mp nd).2.1, fun p hp => f p (List.mem_append_right _ hp)⟩
    exact r0.leave r2 (fun z => by rw [z] at hs; cases hs) (fun x z => by rw [z] at hs; cases hs)⟩
end
end Fl
namespace Fl
open PySem L2
section
variable {X : Cx} {K : PySem.W.Frag} {F : Fr} {G G' H H' : Hp} {σ : St} {ρ : Env'} {pos : Pos} {e a b c : Expr} {te ta tb tcc : ET} {k : Nat}

theorem pd_lc {elt tg iter : Expr} {ifs : List Expr} {scope : Scope} {own : List (Str × Nat)} {ti : AT} {g0 : TG} {gd : GT} {is : List Nat} {tt : TTd} (hc : X.calm = true) (hN : X.N.Nodup) (hi : PI X tg iter (liftI X.K ti)) (ok : BlkOk X.N X.env.scope scope own)
    (hg : ∀ (s : Shared) (H : Hp) (C : Addr) (cl : List (Str × Addr)) (fp : List Addr), PG (X.blk s H scope (compEnvC scope cl C X.env) fp) tg g0) (ht : Tgt X.K g0 gd is) (hv : ∀ i ∈ is, i ∈ own.map (·.2))
    (hts : ∀ (s : Shared) (H : Hp) (C : Addr) (cl : List (Str × Addr)) (fp : List Addr), PTs (X.blk s H scope (compEnvC scope cl C X.env) fp) ifs (liftT X.K tt))
    (he : ∀ (s : Shared) (H : Hp) (C : Addr) (cl : List (Str × Addr)) (fp : List Addr), PE (X.blk s H scope (compEnvC scope cl C X.env) fp) elt (lift X.K te)) (hs : ∀ x, foldedSetIterable iter X.env x = pure x := by intro _; rfl) :
    PE X (.ListComp elt [⟨tg, iter, ifs, 0⟩] scope pos) (lift X.K (dLc ti gd tt te (own.map (·.2)))) :=
  peImp (pe_lc hc hN hi ok hg hts he hs) fun σ H Q ⟨F, G, ρ, P, r, h, k⟩ => lcGo ht hv r h k
theorem ds_setLc {i : Nat} {y : Str} {py spos : Pos} {elt tg iter : Expr} {ifs : List Expr} {scope : Scope} {own : List (Str × Nat)} {ti : AT} {g0 : TG} {gd : GT} {is : List Nat} {tt : TTd} (hc : X.calm = true) (hN : X.N.Nodup) (hy : X.N[i]? = some y) (hyl : X.env.scope.names.lookup y = some .local)
    (hsw : swapsWith (.ListComp elt [⟨tg, iter, ifs, 0⟩] scope pos) (some (.Name y py)) spos.line X.env = pure true) (hi : PI X tg iter (liftI X.K ti)) (ok : BlkOk X.N X.env.scope scope own)
    (hg : ∀ (s : Shared) (H : Hp) (C : Addr) (cl : List (Str × Addr)) (fp : List Addr), PG (X.blk s H scope (compEnvC scope cl C X.env) fp) tg g0) (ht : Tgt X.K g0 gd is) (hv : ∀ i ∈ is, i ∈ own.map (·.2))
    (hts : ∀ (s : Shared) (H : Hp) (C : Addr) (cl : List (Str × Addr)) (fp : List Addr), PTs (X.blk s H scope (compEnvC scope cl C X.env) fp) ifs (liftT X.K tt))
    (he : ∀ (s : Shared) (H : Hp) (C : Addr) (cl : List (Str × Addr)) (fp : List Addr), PE (X.blk s H scope (compEnvC scope cl C X.env) fp) elt (lift X.K te)) (hs : ∀ x, foldedSetIterable iter X.env x = pure x := by intro _; rfl) :
    PS X (.Assign [.Name y py] (.ListComp elt [⟨tg, iter, ifs, 0⟩] scope pos) spos) (liftS X.K (dAsg (dLc ti gd tt te (own.map (·.2))) (gNm i))) :=
  psImp (ps_setLc hc hN hy hyl hsw hi ok hg hts he hs) fun D σ H ⟨F, G, ρ, E, r, h, w⟩ => lcGo ht hv r h fun x ρ1 v G1 H1 q1 e1 r1 => (tgt_name i).up r1 q1 fun σ' ρ' G' H' p e2 r2 _ => w.nx _ _ _ _ p (e1.tr e2) r2

def atD : D → Int → Option D
  | .lst xs, i => atI xs i
  | .tup xs, i => atI xs i
  | .str z, i => (atI z.cps.toList i).map fun c => .str ⟨#[c]⟩
  | _, _ => none
theorem DdL.atI {us : List V} {xs : List D} (d : DdL K G us xs) {i : Int} {x : D} (h : L2.atI xs i = some x) : ∃ v, L2.atI us i = some v ∧ Dd K G v x := by
  unfold L2.atI at h ⊢
  rw [d.len]
  cases e : ixN xs.length i with
  | none => rw [e] at h; cases h
  | some j =>
    rw [e] at h
    exact d.get h
def ixD (x : D) : D → Option D
  | .int i => atD x i
  | _ => none
def dIx (te ti : ET) : ET := fun ρ P => te ρ fun s ρ1 => ∃ x, s.dat = some x ∧ ti ρ1 fun s2 ρ2 => ∃ j, s2.dat = some j ∧ ∃ y, ixD x j = some y ∧ P (.d y) ρ2
theorem atI_str {z : Str} {i : Int} {c : Nat} (ho : sOk z = true) (h : atI z.cps.toList i = some c) : sOk ⟨#[c]⟩ = true := by
  unfold atI at h
  cases e : ixN z.cps.toList.length i with
  | none => rw [e] at h; cases h
  | some j => rw [e] at h; exact strOk_sign ho (i := j) (by simpa using h)
theorem pd_ix (ha : PE X a (lift X.K ta)) (hb : PE X b (lift X.K tb)) (hs : PlainIx b := by exact fun _ _ => rfl) : PE X (.Subscript a b pos) (lift X.K (dIx ta tb)) :=
  peImp (pe_ix ix_seq ha hb hs) fun σ H Q ⟨F, G, ρ, P, r, h, k⟩ => goD r h fun x ρ1 v G1 H1 h1 e1 r1 d1 => goD r1 h1 fun y ρ2 u G2 H2 h2 e2 r2 d2 => by
    obtain ⟨z, hz, p⟩ := h2
    have : ∃ i, y = .int i := by cases y <;> first | exact ⟨_, rfl⟩ | cases hz
    obtain ⟨i, rfl⟩ := this
    have hz : atD x i = some z := hz
    cases d2
    cases d1.ex e2 with
    | lst g t =>
      obtain ⟨w, w1, w2⟩ := t.atI hz
      exact .inl ⟨_, _, i, w, rfl, rfl, .of (r2.gh _ _ g), w1, k _ _ _ _ _ p (e1.tr e2) (r2.push w2)⟩
    | tup g t =>
      obtain ⟨w, w1, w2⟩ := t.atI hz
      exact .inr (.inl ⟨_, _, i, w, rfl, rfl, sqT_ex r2.gh g, w1, k _ _ _ _ _ p (e1.tr e2) (r2.push w2)⟩)
    | str s ho =>
      have hz : (atI s.cps.toList i).map (fun c => D.str ⟨#[c]⟩) = some z := hz
      cases e : atI s.cps.toList i with
      | none => rw [e] at hz; cases hz
      | some c =>
        rw [e] at hz
        cases hz
        exact .inr (.inr ⟨s, i, c, rfl, rfl, Nat.le_trans (sOk_2 ho) (by decide), e, k _ _ _ _ _ p (e1.tr e2) (r2.push (.str _ (atI_str ho e)))⟩)
    | non => cases hz
    | bl _ => cases hz
    | int _ => cases hz
    | dic _ _ _ _ => cases hz
    | ins _ _ _ _ => cases hz
abbrev OT := Env' → (Option Int → Env' → Prop) → Prop
def liftO (K : PySem.W.Frag) (t : OT) : TO := fun σ H Q => ∃ F G ρ P, R K F G H σ ρ ∧ t ρ P ∧ ∀ o ρ' G' H', P o ρ' → Ex G G' → R K F G' H' σ ρ' → Q o H'
def oNo : OT := fun ρ P => P none ρ
def oSome (te : ET) : OT := fun ρ P => te ρ fun s ρ1 => ∃ i, s = .d (.int i) ∧ P (some i) ρ1
theorem poImp {e : Option Expr} {t t' : TO} (h : PO X e t) (i : ∀ σ H Q, t' σ H Q → t σ H Q) : PO X e t' := ⟨fun pins s σ H Q I q => h.run pins s σ H Q I (i _ _ _ q)⟩
theorem do_none : PO X none (liftO X.K oNo) := poImp po_none fun σ H Q ⟨F, G, ρ, P, r, h, k⟩ => k _ _ _ _ h .rfl r
theorem R.topInt {i : Int} {v : V} (r : R K F G H (some v :: σ) (.d (.int i) :: ρ)) : v = .int i := by
  obtain ⟨G', _, d, _⟩ := r.frz (x := .int i) rfl
  cases d; rfl
theorem do_some (he : PE X e (lift X.K te)) : PO X (some e) (liftO X.K (oSome te)) :=
  poImp (po_some he) fun σ H Q ⟨F, G, ρ, P, r, h, k⟩ => goE r h fun s ρ1 v G1 H1 ⟨i, hs, h1⟩ e1 r1 => by
    subst hs
    exact ⟨i, r1.topInt, k _ _ _ _ h1 e1 r1.pop⟩
def cutD (xs : List D) (lo hi : Option Int) : List D := (xs.drop (HT.sIx xs.length 0 lo)).take (HT.sIx xs.length xs.length hi - HT.sIx xs.length 0 lo)
theorem DdL.cut {us : List V} {xs : List D} (d : DdL K G us xs) (lo hi : Option Int) : DdL K G (cutV us lo hi) (cutD xs lo hi) := by
  unfold cutV cutD
  rw [d.len]
  exact (d.drop _).take _
theorem cut_all {us : List V} {lo hi : Option Int} (h : HT.sIx us.length 0 lo = 0 ∧ HT.sIx us.length us.length hi = us.length) : cutV us lo hi = us := by
  unfold cutV
  rw [h.1, h.2]; simp
def slD (x : D) (lo hi : Option Int) : Option Sl := match x with
  | .lst xs => some (.ol (cutD xs lo hi))
  | .tup xs => some (.d (.tup (cutD xs lo hi)))
  | .str z => some (.d (.str (cutS z lo hi)))
  | _ => none
def dSl (te : ET) (tl th : OT) : ET := fun ρ P => te ρ fun s ρ1 => ∃ x, s.dat = some x ∧ tl ρ1 fun lo ρ2 => th ρ2 fun hi ρ3 => ∃ y, slD x lo hi = some y ∧ P y ρ3
theorem strOk_cut {z : Str} (ho : sOk z = true) (lo hi : Option Int) : sOk (cutS z lo hi) = true := by
  refine sOk_of ?_ (Nat.le_trans ?_ (sOk_2 ho))
  rotate_left
  · unfold cutS
    show (List.toArray _).size ≤ z.cps.size
    rw [List.size_toArray, List.length_take, List.length_drop, Array.length_toList]
    omega
  have ho := sOk_1 ho
  unfold PyData.strOk at ho ⊢
  rw [Array.all_eq_true'] at ho ⊢
  intro x hx
  refine ho x ?_
  unfold cutS at hx
  have : x ∈ z.cps.toList := List.mem_of_mem_drop (List.mem_of_mem_take (by simpa using hx))
  simpa using this
theorem pd_sl {lo hi : Option Expr} {tl th : OT} {p2 : Pos} (he : PE X e (lift X.K te)) (hl : PO X lo (liftO X.K tl)) (hu : PO X hi (liftO X.K th)) : PE X (.Subscript e (.Slice lo hi none p2) pos) (lift X.K (dSl te tl th)) :=
  peImp (pe_slice (SlR.or sl_list (SlR.or sl_tupA sl_str)) he hl hu) fun σ H Q ⟨F, G, ρ, P, r, h, k⟩ => goD r h fun x ρ1 v G1 H1 h1 e1 r1 d1 => ⟨F, G1, ρ1, _, r1, h1, fun l ρ2 G2 H2 h2 e2 r2 => ⟨F, G2, ρ2, _, r2, h2, fun u ρ3 G3 H3 ⟨y, hy, p⟩ e3 r3 => by
    cases d1.ex (e2.tr e3) with
    | lst g t => cases hy; exact .inl ⟨_, _, rfl, .of (r3.gh _ _ g), fun q hq => k _ _ _ _ _ p ((e1.tr e2).tr e3) (r3.lst hq (t.cut l u))⟩
    | tup g t =>
      cases hy
      refine .inr (.inl ⟨_, _, rfl, sqT_ex r3.gh g, fun hz => ?_, fun _ q hq => ?_⟩)
      · have z := t.cut l u
        rw [cut_all hz] at z
        exact k _ _ _ _ _ p ((e1.tr e2).tr e3) (r3.push (.tup g z))
      · obtain ⟨e4, r4, d4⟩ := r3.tup hq (t.cut l u)
        exact k _ _ _ _ _ p (((e1.tr e2).tr e3).tr e4) (r4.push d4)
    | str s ho => cases hy; exact .inr (.inr ⟨s, rfl, Nat.le_trans (sOk_2 ho) (by decide), k _ _ _ _ _ p ((e1.tr e2).tr e3) (r3.push (.str _ (strOk_cut ho l u)))⟩)
    | non => cases hy
    | bl _ => cases hy
    | int _ => cases hy
    | dic _ _ _ _ => cases hy
    | ins _ _ _ _ => cases hy⟩⟩

def dChain (r1 r2 : RO) (ta tb tc : ET) : ET := fun ρ P => ta ρ fun x ρ1 => ∃ dx, x.dat = some dx ∧ tb ρ1 fun y ρ2 => ∃ dy, y.dat = some dy ∧ r1 dx dy fun z => ∃ b, z = .d (.bl b) ∧ if b = true then tc ρ2 fun w ρ3 => ∃ dw, w.dat = some dw ∧ r2 dy dw fun z => P z ρ3 else P (.d (.bl false)) ρ2
theorem chainGo {o1 o2 : CmpOp} {q1 q2 : RO} {r1 r2 : R2} (h1 : ∀ {F : Fr} {G H : Hp} {σ : St} {ρ : Env'} {vx vy : V} {x y : D} {P : Sl → Prop} {Q : VK},
    R X.K F G H σ ρ → Dd X.K G vx x → Dd X.K G vy y → q1 x y P → (∀ s v G' H', P s → Ex G G' → R X.K F G' H' (some v :: σ) (s :: ρ) → Q v H') → r1 vx vy H Q)
    (h2 : ∀ {F : Fr} {G H : Hp} {σ : St} {ρ : Env'} {vx vy : V} {x y : D} {P : Sl → Prop} {Q : VK},
    R X.K F G H σ ρ → Dd X.K G vx x → Dd X.K G vy y → q2 x y P → (∀ s v G' H', P s → Ex G G' → R X.K F G' H' (some v :: σ) (s :: ρ) → Q v H') → r2 vx vy H Q)
    {σ : St} {H : Hp} {Q : VK} (h : lift X.K (dChain q1 q2 ta tb tcc) σ H Q) : tChain r1 r2 (lift X.K ta) (lift X.K tb) (lift X.K tcc) σ H Q := by
  obtain ⟨F, G, ρ, P, r, h, k⟩ := h
  exact goD r h fun x ρ1 v G1 H1 p1 e1 r1 d1 => goD r1 p1 fun y ρ2 u G2 H2 p2 e2 r2 d2 => h1 r2 (d1.ex e2) d2 p2 fun s w G3 H3 ⟨b, hs, p3⟩ e3 r3 => by
    subst hs
    refine ⟨b, r3.topBl, ?_⟩
    cases b with
    | true => exact goD r3.pop p3 fun z ρ4 w2 G4 H4 p4 e4 r4 d4 => h2 r4 ((d2.ex e3).ex e4) d4 p4 fun s w G5 H5 p5 e5 r5 => k _ _ _ _ _ p5 ((((e1.tr e2).tr e3).tr e4).tr e5) r5
    | false => exact k _ _ _ _ _ p3 ((e1.tr e2).tr e3) (r3.pop.push (.bl false))
theorem pd_chain {o1 o2 : CmpOp} {q1 q2 : RO} (h1 : OpD X (compareOp o1) q1) (h2 : OpD X (compareOp o2) q2) (ha : PE X a (lift X.K ta)) (hb : PE X b (lift X.K tb)) (hc : PE X c (lift X.K tcc)) (hm : lastMarks [o1, o2] [b, c] = false := by with_unfolding_all rfl) :
    PE X (.Compare a [o1, o2] [b, c] pos) (lift X.K (dChain q1 q2 ta tb tcc)) := by
  obtain ⟨r1, a1, b1⟩ := h1
  obtain ⟨r2, a2, b2⟩ := h2
  exact peImp (pe_chain a1 a2 ha hb hc hm) fun σ H Q h => chainGo (o1 := o1) (o2 := o2) b1 b2 h
theorem pt_chainD {o1 o2 : CmpOp} {q1 q2 : RO} (h1 : OpD X (compareOp o1) q1) (h2 : OpD X (compareOp o2) q2) (ha : PE X a (lift X.K ta)) (hb : PE X b (lift X.K tb)) (hc : PE X c (lift X.K tcc)) (hm : lastMarks [o1, o2] [b, c] = false := by with_unfolding_all rfl) :
    PT X (.Compare a [o1, o2] [b, c] pos) (liftT X.K (dTst (dChain q1 q2 ta tb tcc))) := by
  obtain ⟨r1, a1, b1⟩ := h1
  obtain ⟨r2, a2, b2⟩ := h2
  exact ptImp (pt_chain a1 a2 ha hb hc hm) fun σ H Q ⟨F, G, ρ, P, r, h, k⟩ => chainGo (o1 := o1) (o2 := o2) b1 b2 (goB r h fun b ρ1 G1 H1 h1 e1 r1 => ⟨b, rfl, k _ _ _ _ h1 e1 r1⟩)

theorem CallR.ofD {f : Value} {r : List V → Hp → VK → Prop} {rc : RCd} (h : CallR X f r) (g : ∀ {F : Fr} {G H : Hp} {σ : St} {ρ : Env'} {vs : List V} {xs : List D} {P : Sl → Prop} {Q : VK},
    R X.K F G H σ ρ → DdL X.K G vs xs → rc xs P → (∀ s v G' H', P s → Ex G G' → R X.K F G' H' (some v :: σ) (s :: ρ) → Q v H') → r vs H Q) : CallD X f rc := ⟨r, h, g⟩
theorem DdL.one {vs : List V} {x : D} (d : DdL K G vs [x]) : ∃ v, vs = [v] ∧ Dd K G v x := by
  cases d with
  | cons a t => cases t; exact ⟨_, rfl, a⟩
theorem DdL.two {vs : List V} {x y : D} (d : DdL K G vs [x, y]) : ∃ v u, vs = [v, u] ∧ Dd K G v x ∧ Dd K G u y := by
  cases d with
  | cons a t => cases t with | cons b t => cases t; exact ⟨_, _, rfl, a, b⟩
def lenD : D → Option Nat
  | .lst xs => some xs.length
  | .tup xs => some xs.length
  | .str z => some z.length
  | .dic ks _ => some ks.length
  | _ => none
def cLen : RCd := fun xs P => ∃ x n, xs = [x] ∧ lenD x = some n ∧ P (.d (.int (n : Nat)))
theorem cd_len : CallD X (.builtin "len") cLen := by
  refine CallR.ofD (CallR.or call_len call_lenD) ?_
  intro F G H σ ρ vs xs P Q r d ⟨x, n, hx, hn, p⟩ k
  subst hx
  obtain ⟨v, rfl, dv⟩ := d.one
  have fin := k _ _ _ _ p .rfl (r.push (.int (n : Nat)))
  cases dv with
  | lst g t => cases hn; exact .inl ⟨_, _, rfl, .inl ⟨_, .of (r.gh _ _ g), t.len.symm⟩, fin⟩
  | tup g t => cases hn; exact .inl ⟨_, _, rfl, .inr ⟨_, sqT_ex r.gh g, t.len.symm⟩, fin⟩
  | str z ho => cases hn; exact .inl ⟨_, _, rfl, ⟨Nat.le_trans (sOk_2 ho) (by decide), rfl⟩, fin⟩
  | @dic _ ks us vs g hl _ t =>
    cases hn
    refine .inr ⟨_, _, rfl, r.gh _ _ g, ?_⟩
    rw [show ((ks.zip us).length : Int) = (ks.length : Nat) by rw [List.length_zip]; omega]
    exact fin
  | non => cases hn
  | bl _ => cases hn
  | int _ => cases hn
  | ins _ _ _ _ => cases hn
def seqD : D → Option (List D)
  | .lst xs => some xs
  | .tup xs => some xs
  | _ => none
theorem Dd.seq {v : V} {x : D} {xs : List D} (d : Dd K G v x) (h : seqD x = some xs) : ∃ a us, v = .ref a ∧ (SqL K G a us ∨ SqT K G a us) ∧ DdL K G us xs := by
  cases d with
  | lst g t => cases h; exact ⟨_, _, rfl, .inl (.of g), t⟩
  | tup g t => cases h; exact ⟨_, _, rfl, .inr g, t⟩
  | non => cases h
  | bl _ => cases h
  | int _ => cases h
  | str _ _ => cases h
  | dic _ _ _ _ => cases h
  | ins _ _ _ _ => cases h
def cList : RCd := fun xs P => ∃ x ys, xs = [x] ∧ seqD x = some ys ∧ P (.ol ys)
theorem cd_list : CallD X (.type "list") cList := by
  refine CallR.ofD call_list_of ?_
  intro F G H σ ρ vs xs P Q r d ⟨x, ys, hx, hn, p⟩ k
  subst hx
  obtain ⟨v, rfl, dv⟩ := d.one
  obtain ⟨a, us, rfl, hs, t⟩ := dv.seq hn
  exact ⟨_, _, rfl, hs.imp (sqL_ex r.gh) (sqT_ex r.gh), fun l hl => k _ _ _ _ p .rfl (r.lst hl t)⟩
def cTuple : RCd := fun xs P => ∃ x ys, xs = [x] ∧ seqD x = some ys ∧ P (.d (.tup ys))
theorem cd_tuple : CallD X (.type "tuple") cTuple := by
  refine CallR.ofD call_tuple_of ?_
  intro F G H σ ρ vs xs P Q r d ⟨x, ys, hx, hn, p⟩ k
  subst hx
  obtain ⟨v, rfl, dv⟩ := d.one
  obtain ⟨a, us, rfl, hs, t⟩ := dv.seq hn
  refine ⟨a, us, rfl, ?_⟩
  rcases hs with hs | hs
  · refine .inl ⟨sqL_ex r.gh hs, fun l hl => ?_⟩
    obtain ⟨e2, r2, d2⟩ := r.tup hl t
    exact k _ _ _ _ p e2 (r2.push d2)
  · exact .inr ⟨sqT_ex r.gh hs, k _ _ _ _ p .rfl (r.push (.tup hs t))⟩
def cInt : RCd := fun xs P => (∃ i, xs = [.int i] ∧ P (.d (.int i))) ∨ ∃ b, xs = [.bl b] ∧ P (.d (.int (if b then 1 else 0)))
theorem cd_int : CallD X (.type "int") cInt := by
  refine CallR.ofD call_int1 ?_
  intro F G H σ ρ vs xs P Q r d h k
  rcases h with ⟨i, rfl, p⟩ | ⟨b, rfl, p⟩
  · obtain ⟨v, rfl, dv⟩ := d.one
    cases dv
    exact .inl ⟨i, rfl, k _ _ _ _ p .rfl (r.push (.int _))⟩
  · obtain ⟨v, rfl, dv⟩ := d.one
    cases dv
    exact .inr ⟨b, rfl, k _ _ _ _ p .rfl (r.push (.int _))⟩
theorem DdL.bls : ∀ {bs : List Bool} {us : List V}, DdL K G us (bs.map D.bl) → us = bs.map V.bl
  | [], _, .nil => rfl
  | _ :: _, _, .cons a t => by cases a; rw [DdL.bls t]; rfl
def cAll : RCd := fun xs P => ∃ bs : List Bool, xs = [.lst (bs.map D.bl)] ∧ P (.d (.bl (bs.all id)))
def cAny : RCd := fun xs P => ∃ bs : List Bool, xs = [.lst (bs.map D.bl)] ∧ P (.d (.bl (bs.any id)))
theorem cd_all (hc : X.calm = true) : CallD X (.builtin "all") cAll := by
  refine CallR.ofD (cr_all hc) ?_
  intro F G H σ ρ vs xs P Q r d ⟨bs, hx, p⟩ k
  subst hx
  obtain ⟨v, rfl, dv⟩ := d.one
  cases dv with
  | lst g t => exact ⟨_, bs, rfl, .of (by rw [← t.bls]; exact r.gh _ _ g), k _ _ _ _ p .rfl (r.push (.bl _))⟩
theorem cd_any (hc : X.calm = true) : CallD X (.builtin "any") cAny := by
  refine CallR.ofD (cr_any hc) ?_
  intro F G H σ ρ vs xs P Q r d ⟨bs, hx, p⟩ k
  subst hx
  obtain ⟨v, rfl, dv⟩ := d.one
  cases dv with
  | lst g t => exact ⟨_, bs, rfl, .of (by rw [← t.bls]; exact r.gh _ _ g), k _ _ _ _ p .rfl (r.push (.bl _))⟩
def cMin2 : RCd := fun xs P => ∃ i j, xs = [.int i, .int j] ∧ P (.d (.int (if j < i then j else i)))
theorem cd_min2 (hc : X.calm = true) : CallD X (.builtin "min") cMin2 := by
  refine CallR.ofD (call_min2 hc) ?_
  intro F G H σ ρ vs xs P Q r d ⟨i, j, hx, p⟩ k
  subst hx
  obtain ⟨v, u, rfl, dv, du⟩ := d.two
  cases dv; cases du
  exact ⟨i, j, rfl, k _ _ _ _ p .rfl (r.push (.int _))⟩
/-- sorted of texts, of a list or of a dict's keys -/
def sortIn : D → Option (List Str)
  | .lst xs => xs.mapM fun x => match x with | .str s => some s | _ => none
  | .dic ks _ => ks.mapM fun x => match x with | .inr s => some s | _ => none
  | _ => none
theorem mapM_str {xs : List D} : ∀ {ws : List Str}, (xs.mapM fun x => match x with | .str s => some s | _ => none) = some ws → xs = ws.map D.str := by
  induction xs with
  | nil => intro ws h; cases h; rfl
  | cons x xs ih =>
    intro ws h
    rw [List.mapM_cons] at h
    cases x with
    | str s =>
      cases e : (xs.mapM fun x => match x with | .str s => some s | _ => none) with
      | none => simp [e] at h
      | some vs => simp [e] at h; subst h; rw [ih e]; rfl
    | _ => simp at h
theorem mapM_key {xs : List Key} : ∀ {ws : List Str}, (xs.mapM fun x => match x with | .inr s => some s | _ => none) = some ws → xs = ws.map Sum.inr := by
  induction xs with
  | nil => intro ws h; cases h; rfl
  | cons x xs ih =>
    intro ws h
    rw [List.mapM_cons] at h
    cases x with
    | inr s =>
      cases e : (xs.mapM fun x => match x with | .inr s => some s | _ => none) with
      | none => simp [e] at h
      | some vs => simp [e] at h; subst h; rw [ih e]; rfl
    | inl _ => simp at h
def cSortS : RCd := fun xs P => ∃ x ws, xs = [x] ∧ sortIn x = some ws ∧ ws.length < 64 ∧ (∀ w ∈ ws, sOk w = true) ∧ ∀ ys : List Str, ys.Perm ws → PyProof.Rows.sortedS ys = true → P (.ol (ys.map D.str))
theorem cd_sortS (hc : X.calm = true) : CallD X (.builtin "sorted") cSortS := by
  refine CallR.ofD (CallR.or cr_sortedS (call_sortedD hc)) ?_
  intro F G H σ ρ vs xs P Q r d ⟨x, ws, hx, hs, hl, ho, p⟩ k
  subst hx
  obtain ⟨v, rfl, dv⟩ := d.one
  have fin : ∀ (ys : List Str) (q : Addr), ys.Perm ws → PyProof.Rows.sortedS ys = true → H q = none → Q (.ref q) (upd H q (.lst (ys.map V.str))) := fun ys q h1 h2 hq =>
    k _ _ _ _ (p ys h1 h2) .rfl (r.lst hq (DdL.ofStrs ys fun w hw => ho w (h1.mem_iff.mp hw)))
  cases dv with
  | lst g t =>
    have e := mapM_str hs
    subst e
    have e2 := t.strs
    subst e2
    exact .inl ⟨_, ws, rfl, .of (r.gh _ _ g), hl, fin⟩
  | dic g h1 h2 t =>
    have e := mapM_key hs
    subst e
    exact .inr ⟨_, _, ws, rfl, .inl (r.gh _ _ g), List.map_fst_zip (by omega), hl, fun ys q h1 h2 hq => fin ys q h1 h2 hq⟩
  | non => cases hs
  | bl _ => cases hs
  | int _ => cases hs
  | str _ _ => cases hs
  | tup _ _ => cases hs
  | ins _ _ _ _ => cases hs

def isTy (T : String) : D → Bool
  | .non => T == "NoneType"
  | .bl _ => T == "bool" || T == "int"
  | .int _ => T == "int"
  | .str _ => T == "str"
  | .lst _ => T == "list"
  | .tup _ => T == "tuple"
  | .dic _ _ => T == "dict"
  | .ins _ _ _ => false
def tyN : D → String
  | .non => "NoneType"
  | .bl _ => "bool"
  | .int _ => "int"
  | .str _ => "str"
  | .lst _ => "list"
  | .tup _ => "tuple"
  | .dic _ _ => "dict"
  | .ins _ _ _ => "object"
def isIns : D → Bool
  | .ins _ _ _ => true
  | _ => false
end
end Fl
namespace Fl
open PySem L2
section
variable {X : Cx} {K : PySem.W.Frag} {F : Fr} {G G' H H' : Hp} {σ : St} {ρ : Env'} {pos : Pos} {e a b c : Expr} {te ta tb tcc : ET} {k : Nat}

/-- the classes of data, asked of T -/
def AskT (T : String) : Prop := ∀ n ∈ ["NoneType", "bool", "int", "str", "list", "tuple", "dict"], kitB n T = some (n == T || (n == "bool" && T == "int"))
theorem askT_str : AskT "str" := by unfold AskT; decide +kernel
theorem askT_int : AskT "int" := by unfold AskT; decide +kernel
theorem askT_bool : AskT "bool" := by unfold AskT; decide +kernel
theorem askT_list : AskT "list" := by unfold AskT; decide +kernel
theorem askT_tuple : AskT "tuple" := by unfold AskT; decide +kernel
theorem askT_dict : AskT "dict" := by unfold AskT; decide +kernel
def isT (T : String) (x : D) : Bool := tyN x == T || (tyN x == "bool" && T == "int")
theorem Dd.tyX {v : V} {x : D} (d : Dd K G v x) (gh : Ex G H) (hi : isIns x = false) : TyX K H v (.type (tyN x)) := by
  cases d with
  | non => exact .base .non
  | bl b => exact .base (.bl b)
  | int i => exact .base (.int i)
  | str s _ => exact .base (.str s)
  | lst g t => exact .base (.lst (gh _ _ g))
  | tup g t =>
    rcases g with (g | ⟨o, g⟩) | ⟨o, its, n, g1, g2, _⟩
    · exact .base (.tup (gh _ _ g))
    · exact .fTuple (gh _ _ g)
    · exact .kTuple g1 g2
  | dic g _ _ t => exact .base (.dK (gh _ _ g))
  | ins _ _ _ _ => cases hi
theorem ask_of {T : String} (h : AskT T) {x : D} (hi : isIns x = false) : PySem.W.kitOne K (.type (tyN x)) (.type T) = some (isT T x) := by
  refine kit_ty (h (tyN x) ?_)
  cases x <;> first | (exact Bool.noConfusion (show (true = false) from hi)) | (simp [tyN])
def dIsi (T : String) (te : ET) : ET := fun ρ P => te ρ fun s ρ1 => ∃ x, s.dat = some x ∧ isIns x = false ∧ P (.d (.bl (isT T x))) ρ1
theorem pd_isi {T : String} {x : Str} {p p2 : Pos} (hT : AskT T) (he : PE X e (lift X.K te)) (hg : Gl X "isinstance") (hm : X.mg "isinstance" = none) (hg2 : Gl X x) (hm2 : X.mg x = none) (hv : bootBuiltins x = some (.type T) := by decide +kernel)
    (hb : bootBuiltins "isinstance" = some (.builtin "isinstance") := by decide +kernel) (hn : x ≠ "__name__" := by decide) (hdb : (x == ("__debug__" : Str)) = false := by decide)
    (hs : starEach [e, .Name x p2] X.env = (false, eval e X.env) :: starEach [.Name x p2] X.env := by rfl) (hs2 : starEach [.Name x p2] X.env = (false, eval (.Name x p2) X.env) :: starEach [] X.env := by rfl) (hpl : (backTo pos (starEach [.Name x p2] X.env)).any (·.1) = false := by rfl) :
    PE X (.Call (.Name "isinstance" p) [e, .Name x p2] [] pos) (lift X.K (dIsi T te)) :=
  peImp (pe_callB call_isi hg hm hb (pa_cons he (pa_cons (pe_bltn (v := .ty T) hg2 hm2 hv rfl hn hdb) pa_nil hs2) hs) (by decide) (by decide) hs hpl) fun σ H Q ⟨F, G, ρ, P, r, h, k⟩ => goD r h fun x ρ1 v G1 H1 ⟨hi, h1⟩ e1 r1 d1 =>
    ⟨v, .ty T, _, _, _, rfl, .ty T, d1.tyX r1.gh hi, ask_of hT hi, k _ _ _ _ _ h1 e1 (r1.push (.bl _))⟩
def dIsi2 (T U : String) (te : ET) : ET := fun ρ P => te ρ fun s ρ1 => ∃ x, s.dat = some x ∧ isIns x = false ∧ P (.d (.bl (isT T x || isT U x))) ρ1
theorem pd_isi2 {T U : String} {x y : Str} {p p2 p3 p4 : Pos} {x1} (hT : AskT T) (hU : AskT U) (he : PE X e (lift X.K te)) (hg : Gl X "isinstance") (hm : X.mg "isinstance" = none) (hg2 : Gl X x) (hm2 : X.mg x = none) (hg3 : Gl X y) (hm3 : X.mg y = none)
    (hv : bootBuiltins x = some (.type T) := by decide +kernel) (hv3 : bootBuiltins y = some (.type U) := by decide +kernel)
    (hb : bootBuiltins "isinstance" = some (.builtin "isinstance") := by decide +kernel) (hn : x ≠ "__name__" := by decide) (hdb : (x == ("__debug__" : Str)) = false := by decide) (hn3 : y ≠ "__name__" := by decide) (hdb3 : (y == ("__debug__" : Str)) = false := by decide)
    (hs : starEach [e, .Tuple [.Name x p2, .Name y p3] x1 p4] X.env = (false, eval e X.env) :: starEach [.Tuple [.Name x p2, .Name y p3] x1 p4] X.env := by rfl) (hs2 : starEach [.Tuple [.Name x p2, .Name y p3] x1 p4] X.env = (false, eval (.Tuple [.Name x p2, .Name y p3] x1 p4) X.env) :: starEach [] X.env := by rfl)
    (hs3 : starEach [.Name x p2, .Name y p3] X.env = (false, eval (.Name x p2) X.env) :: starEach [.Name y p3] X.env := by rfl) (hs4 : starEach [.Name y p3] X.env = (false, eval (.Name y p3) X.env) :: starEach [] X.env := by rfl)
    (hpl : (backTo pos (starEach [.Tuple [.Name x p2, .Name y p3] x1 p4] X.env)).any (·.1) = false := by rfl) :
    PE X (.Call (.Name "isinstance" p) [e, .Tuple [.Name x p2, .Name y p3] x1 p4] [] pos) (lift X.K (dIsi2 T U te)) :=
  peImp (pe_callB call_isiT hg hm hb (pa_cons he (pa_cons (pe_tup (pa_cons (pe_bltn (v := .ty T) hg2 hm2 hv rfl hn hdb) (pa_cons (pe_bltn (v := .ty U) hg3 hm3 hv3 rfl hn3 hdb3) pa_nil hs4) hs3)) pa_nil hs2) hs) (by decide) (by decide) hs hpl) fun σ H Q ⟨F, G, ρ, P, r, h, k⟩ => goD r h fun x ρ1 v G1 H1 ⟨hi, h1⟩ e1 r1 d1 =>
    ⟨(by show 2 ≤ sizeLine; decide), fun q hq => by
      have r2 : R X.K F G1 (upd H1 q (.tup [.ty T, .ty U])) σ ρ1 := r1.grow .rfl (r1.gh.under (r1.new hq).1) (.put hq) fun b u e => .inl e
      refine ⟨v, q, [.ty T, .ty U], _, [.type T, .type U], isT T x || isT U x, rfl, upd_same, .cons (.ty T) (.cons (.ty U) .nil), d1.tyX r2.gh hi, ?_, k _ _ _ _ _ h1 e1 (r2.push (.bl _))⟩
      cases h : isT T x with
      | true => exact kitAny_cons (b := true) (by rw [ask_of hT hi, h]) (fun z => by cases z) fun _ => rfl
      | false =>
        refine kitAny_cons (b := false) (by rw [ask_of hT hi, h]) (fun _ => ?_) (fun z => by cases z)
        cases h2 : isT U x with
        | true => exact kitAny_cons (b := true) (by rw [ask_of hU hi, h2]) (fun z => by cases z) fun _ => rfl
        | false => exact kitAny_cons (b := false) (by rw [ask_of hU hi, h2]) (fun _ => kitAny_nil) (fun z => by cases z)⟩

def keyD : D → Option Key
  | .int i => some (.inl i)
  | .str s => some (.inr s)
  | _ => none
theorem Dd.key {v : V} {x : D} {j : Key} (d : Dd K G v x) (h : keyD x = some j) : v = kV j := by
  cases d <;> first | (cases h; rfl) | cases h
def lkD : List Key → List D → Key → Option D
  | j :: ks, v :: vs, i => if j = i then some v else lkD ks vs i
  | _, _, _ => none
def putD : List Key → List D → Key → D → List Key × List D
  | j :: ks, v :: vs, i, x => if j = i then (j :: ks, x :: vs) else ((j :: (putD ks vs i x).1), (v :: (putD ks vs i x).2))
  | _, _, i, x => ([i], [x])
theorem lk_of : ∀ {ks : List Key} {us : List V} {vs : List D} {i : Key}, ks.length = us.length → DdL K G us vs → (∀ x, lkD ks vs i = some x → ∃ v, valV (ks.zip us) i = some v ∧ Dd K G v x) ∧ (lkD ks vs i = none → valV (ks.zip us) i = none)
  | [], [], [], i, _, .nil => ⟨fun x h => (by cases h), fun _ => rfl⟩
  | j :: ks, u :: us, v :: vs, i, hl, .cons a t => by
    have ih := lk_of (i := i) (by simpa using hl) t
    rw [List.zip_cons_cons]
    by_cases e : j = i
    · refine ⟨fun x h => ?_, fun h => ?_⟩
      · have h : (if j = i then some v else lkD ks vs i) = some x := h
        rw [if_pos e] at h
        cases h
        exact ⟨u, valV_pos (p := (j, u)) e, a⟩
      · have h : (if j = i then some v else lkD ks vs i) = none := h
        rw [if_pos e] at h; cases h
    · refine ⟨fun x h => ?_, fun h => ?_⟩
      · have h : (if j = i then some v else lkD ks vs i) = some x := h
        rw [if_neg e] at h
        rw [valV_neg (p := (j, u)) e]
        exact ih.1 x h
      · have h : (if j = i then some v else lkD ks vs i) = none := h
        rw [if_neg e] at h
        rw [valV_neg (p := (j, u)) e]
        exact ih.2 h
theorem putK_cons {j i : Key} {u z : V} {kvs : List (Key × V)} (e : ¬ j = i) : putK ((j, u) :: kvs) i z = (j, u) :: putK kvs i z := by
  unfold putK
  rw [List.any_cons]
  simp only [decide_eq_false e, Bool.false_or]
  split
  · rw [List.map_cons, if_neg e]
  · rfl
theorem putK_noop {i : Key} {z : V} : ∀ {ks : List Key} {us : List V}, i ∉ ks → (ks.zip us).map (fun kv => if kv.1 = i then (kv.1, z) else kv) = ks.zip us
  | [], _, _ => by simp
  | _ :: _, [], _ => by simp
  | j :: ks, u :: us, h => by
    rw [List.zip_cons_cons, List.map_cons, if_neg (fun e => h (by simp [e.symm] )), putK_noop (fun m => h (List.mem_cons_of_mem _ m))]
theorem put_of : ∀ {ks : List Key} {us : List V} {vs : List D} {i : Key} {z : V} {x : D}, ks.length = us.length → ks.Nodup → DdL K G us vs → Dd K G z x →
    ∃ us', putK (ks.zip us) i z = (putD ks vs i x).1.zip us' ∧ (putD ks vs i x).1.length = us'.length ∧ (putD ks vs i x).1.Nodup ∧ DdL K G us' (putD ks vs i x).2 ∧ (∀ j, j ∈ (putD ks vs i x).1 → j ∈ ks ∨ j = i)
  | [], [], [], i, z, x, _, _, .nil, d => ⟨[z], rfl, rfl, by simp [putD], .cons d .nil, fun j h => .inr (by simpa [putD] using h)⟩
  | j :: ks, u :: us, v :: vs, i, z, x, hl, hn, .cons a t, d => by
    have nd := List.nodup_cons.mp hn
    by_cases e : j = i
    · have e1 : putD (j :: ks) (v :: vs) i x = (j :: ks, x :: vs) := if_pos e
      rw [e1]
      refine ⟨z :: us, ?_, hl, hn, .cons d t, fun j h => .inl h⟩
      rw [List.zip_cons_cons, List.zip_cons_cons]
      unfold putK
      rw [List.any_cons]
      simp only [decide_eq_true e, Bool.true_or, if_true]
      rw [List.map_cons, if_pos e, putK_noop (e ▸ nd.1)]
    · obtain ⟨us', h1, h2, h3, h4, h5⟩ := put_of (i := i) (x := x) (by simpa using hl) nd.2 t d
      have e1 : putD (j :: ks) (v :: vs) i x = ((j :: (putD ks vs i x).1), (v :: (putD ks vs i x).2)) := if_neg e
      rw [e1]
      refine ⟨u :: us', ?_, by simp [h2], List.nodup_cons.mpr ⟨fun m => ?_, h3⟩, .cons a h4, fun j' h => ?_⟩
      · rw [List.zip_cons_cons, putK_cons e, h1, List.zip_cons_cons]
      · rcases h5 j m with m | m
        · exact nd.1 m
        · exact e m
      · rcases List.mem_cons.mp h with h | h
        · exact .inl (by simp [h])
        · rcases h5 j' h with m | m
          · exact .inl (List.mem_cons_of_mem _ m)
          · exact .inr m
/-- d[k], there -/
def dDg (td ty : ET) : ET := fun ρ P => td ρ fun s ρ1 => ∃ x, s.dat = some x ∧ ty ρ1 fun s2 ρ2 => ∃ y, s2.dat = some y ∧ ∃ ks vs, x = .dic ks vs ∧ ∃ j, keyD y = some j ∧ ∃ z, lkD ks vs j = some z ∧ P (.d z) ρ2
theorem pd_dg (hr : Room k X.A) (ha : PE X a (lift X.K ta)) (hb : PE X b (lift X.K tb)) (hs : NoSl b := by exact fun _ _ => rfl) : PE X (.Subscript a b pos) (lift X.K (dDg ta tb)) :=
  peImp (pe_dget (hu_of hr) ha hb hs) fun σ H Q ⟨F, G, ρ, P, r, h, k⟩ => goD r h fun x ρ1 v G1 H1 h1 e1 r1 d1 => goD r1 h1 fun y ρ2 u G2 H2 ⟨ks, vs, hx, j, hj, z, hz, p⟩ e2 r2 d2 => by
    subst hx
    cases d1.ex e2 with
    | dic g hl hn t =>
      obtain ⟨w, w1, w2⟩ := (lk_of hl t).1 z hz
      rw [d2.key hj]
      refine ⟨_, w, rfl, ?_, k _ _ _ _ _ p (e1.tr e2) (r2.push w2)⟩
      rw [← w1]
      exact DGet.k (r2.gh _ _ g)
/-- k in d -/
def dDin (ty td : ET) : ET := fun ρ P => ty ρ fun s2 ρ1 => ∃ y, s2.dat = some y ∧ td ρ1 fun s ρ2 => ∃ x, s.dat = some x ∧ ∃ ks vs, x = .dic ks vs ∧ ∃ j, keyD y = some j ∧ P (.d (.bl (lkD ks vs j).isSome)) ρ2
theorem pd_din (hr : Room k X.A) (ha : PE X a (lift X.K ta)) (hb : PE X b (lift X.K tb)) (hm : behindInMarks .In b = false := by first | rfl | exact nomark _) : PE X (.Compare a [.In] [b] pos) (lift X.K (dDin ta tb)) :=
  peImp (pe_cmp (pc_din (hu_of hr) ha hb) hm) fun σ H Q ⟨F, G, ρ, P, r, h, k⟩ => goD r h fun x ρ1 v G1 H1 h1 e1 r1 d1 => goD r1 h1 fun y ρ2 u G2 H2 ⟨ks, vs, hx, j, hj, p⟩ e2 r2 d2 => by
    subst hx
    rw [d1.key hj]
    cases d2 with
    | dic g hl hn t =>
      cases e : lkD ks vs j with
      | some z =>
        rw [e] at p
        obtain ⟨w, w1, w2⟩ := (lk_of hl t).1 z e
        exact ⟨_, some w, rfl, by rw [← w1]; exact DGet.k (r2.gh _ _ g), k _ _ _ _ _ p (e1.tr e2) (r2.push (.bl _))⟩
      | none =>
        rw [e] at p
        have w1 := (lk_of hl t).2 e
        exact ⟨_, none, rfl, by rw [← w1]; exact DGet.k (r2.gh _ _ g), k _ _ _ _ _ p (e1.tr e2) (r2.push (.bl _))⟩

theorem R.sl_at (r : R K F G H σ ρ) {i : Nat} {xs : List D} (hi : ρ[i]? = some (.ol xs)) : ∃ p us, σ[i]? = some (some (.ref p)) ∧ H p = some (.lst us) ∧ DdL K G us xs := by
  obtain ⟨p, us, h1, h2, h3, _⟩ := r.wrL hi
  exact ⟨p, us, h1, h2, h3⟩
variable {i : Nat} {x : Str} {apos cpos p1 : Pos}
def dApp (i : Nat) (te : ET) : ET := fun ρ P => (∃ xs, ρ[i]? = some (.ol xs)) ∧ te ρ fun s ρ1 => ∃ d, s.dat = some d ∧ ∃ xs, ρ1[i]? = some (.ol xs) ∧ xs.length < 1000000 ∧ P (.d .non) (ρ1.set i (.ol (xs ++ [d])))
theorem pd_append (ho : PE X (.Name x p1) (tVar i)) (he : PE X e (lift X.K te)) (hs : starEach [e] X.env = (false, eval e X.env) :: starEach [] X.env := by rfl)
    (hbase : attributeBase (.Name x p1) "append" X.env (eval (.Name x p1) X.env) = eval (.Name x p1) X.env := by rfl)
    (hfew : ((backTo cpos (starEach [e] X.env)).all (fun x => !x.1) && (backToKw cpos (keywordEach [] X.env)).all (fun x => x.1.isSome) && decide (([e] : List Expr).length + ([] : List Keyword).length + (if ([] : List Keyword).isEmpty then 0 else 1) < 30)) = true := by rfl)
    (hline : (apos.endLine == cpos.line) = true := by rfl) (hplain : (backTo cpos (starEach [] X.env)).any (·.1) = false := by rfl) :
    PE X (.Call (.Attribute (.Name x p1) "append" apos) [e] [] cpos) (lift X.K (dApp i te)) :=
  peImp (pe_bm PySem.F.plainAttrs_list PySem.F.slot_list_append PySem.F.type_list_append mt_append ho (pa_cons he pa_nil hs) hbase hfew hline hs hplain) fun σ H Q ⟨F, G, ρ, P, r, ⟨⟨xs0, h0⟩, h⟩, k⟩ => by
    obtain ⟨p, us, s1, s2, s3⟩ := r.sl_at h0
    refine ⟨.ref p, s1, .inl ⟨rfl, us, .of s2⟩, goD r h fun d ρ1 v G1 H1 ⟨xs, hx, hl, q⟩ e1 r1 d1 => ?_⟩
    obtain ⟨p', us', t1, t2, t3, wr⟩ := r1.wrL hx
    obtain rfl : p' = p := by rw [s1] at t1; cases t1; rfl
    exact ⟨p', us', v, rfl, rfl, t2, by rw [t3.len]; exact Nat.lt_of_lt_of_le hl (by decide), k _ _ _ _ _ q e1 ((wr _ _ (t3.app (.cons d1 .nil))).push .non)⟩
def dExt (i : Nat) (te : ET) : ET := fun ρ P => (∃ xs, ρ[i]? = some (.ol xs)) ∧ te ρ fun s ρ1 => ∃ d, s.dat = some d ∧ ∃ ys, d = .lst ys ∧ ∃ xs, ρ1[i]? = some (.ol xs) ∧ xs.length + ys.length < 1000000 ∧ P (.d .non) (ρ1.set i (.ol (xs ++ ys)))
theorem pd_extend (ho : PE X (.Name x p1) (tVar i)) (he : PE X e (lift X.K te)) (hs : starEach [e] X.env = (false, eval e X.env) :: starEach [] X.env := by rfl)
    (hbase : attributeBase (.Name x p1) "extend" X.env (eval (.Name x p1) X.env) = eval (.Name x p1) X.env := by rfl)
    (hfew : ((backTo cpos (starEach [e] X.env)).all (fun x => !x.1) && (backToKw cpos (keywordEach [] X.env)).all (fun x => x.1.isSome) && decide (([e] : List Expr).length + ([] : List Keyword).length + (if ([] : List Keyword).isEmpty then 0 else 1) < 30)) = true := by rfl)
    (hline : (apos.endLine == cpos.line) = true := by rfl) (hplain : (backTo cpos (starEach [] X.env)).any (·.1) = false := by rfl) :
    PE X (.Call (.Attribute (.Name x p1) "extend" apos) [e] [] cpos) (lift X.K (dExt i te)) :=
  peImp (pe_bm PySem.F.plainAttrs_list PySem.F.slot_list_extend PySem.F.type_list_extend mt_extend ho (pa_cons he pa_nil hs) hbase hfew hline hs hplain) fun σ H Q ⟨F, G, ρ, P, r, ⟨⟨xs0, h0⟩, h⟩, k⟩ => by
    obtain ⟨p, us, s1, s2, s3⟩ := r.sl_at h0
    refine ⟨.ref p, s1, .inl ⟨rfl, us, .of s2⟩, goD r h fun d ρ1 v G1 H1 ⟨ys, hd, xs, hx, hl, q⟩ e1 r1 d1 => ?_⟩
    subst hd
    obtain ⟨p', us', t1, t2, t3, wr⟩ := r1.wrL hx
    obtain rfl : p' = p := by rw [s1] at t1; cases t1; rfl
    cases d1 with
    | lst g t => exact ⟨p', _, us', _, rfl, rfl, t2, r1.gh _ _ g, by rw [t3.len, t.len]; exact Nat.le_of_lt (Nat.lt_of_lt_of_le hl (by decide)), k _ _ _ _ _ q e1 ((wr _ _ (t3.app t)).push .non)⟩
theorem seqIx {n : Nat} {j : Int} (h0 : 0 ≤ j) (h : j < n) : seqIndex? j n = some j.toNat := by
  unfold seqIndex?
  rw [if_neg (show ¬ j < 0 by omega)]
  simp [h0, h]
def dPop (i : Nat) (te : ET) : ET := fun ρ P => (∃ xs, ρ[i]? = some (.ol xs)) ∧ te ρ fun s ρ1 => ∃ d, s.dat = some d ∧ ∃ j : Int, d = .int j ∧ 0 ≤ j ∧ ∃ xs, ρ1[i]? = some (.ol xs) ∧ xs.length < 1000000 ∧ ∃ y, xs[j.toNat]? = some y ∧ P (.d y) (ρ1.set i (.ol (xs.eraseIdx j.toNat)))
theorem pd_pop (ho : PE X (.Name x p1) (tVar i)) (he : PE X e (lift X.K te)) (hs : starEach [e] X.env = (false, eval e X.env) :: starEach [] X.env := by rfl)
    (hbase : attributeBase (.Name x p1) "pop" X.env (eval (.Name x p1) X.env) = eval (.Name x p1) X.env := by rfl)
    (hfew : ((backTo cpos (starEach [e] X.env)).all (fun x => !x.1) && (backToKw cpos (keywordEach [] X.env)).all (fun x => x.1.isSome) && decide (([e] : List Expr).length + ([] : List Keyword).length + (if ([] : List Keyword).isEmpty then 0 else 1) < 30)) = true := by rfl)
    (hline : (apos.endLine == cpos.line) = true := by rfl) (hplain : (backTo cpos (starEach [] X.env)).any (·.1) = false := by rfl) :
    PE X (.Call (.Attribute (.Name x p1) "pop" apos) [e] [] cpos) (lift X.K (dPop i te)) :=
  peImp (pe_bm PySem.F.plainAttrs_list PySem.F.slot_list_pop PySem.F.type_list_pop mt_popAt ho (pa_cons he pa_nil hs) hbase hfew hline hs hplain) fun σ H Q ⟨F, G, ρ, P, r, ⟨⟨xs0, h0⟩, h⟩, k⟩ => by
    obtain ⟨p, us, s1, s2, s3⟩ := r.sl_at h0
    refine ⟨.ref p, s1, .inl ⟨rfl, us, .of s2⟩, goD r h fun d ρ1 v G1 H1 ⟨j, hd, h0, xs, hx, hl, y, hy, q⟩ e1 r1 d1 => ?_⟩
    subst hd
    obtain ⟨p', us', t1, t2, t3, wr⟩ := r1.wrL hx
    obtain rfl : p' = p := by rw [s1] at t1; cases t1; rfl
    cases d1
    obtain ⟨w, w1, w2⟩ := t3.get hy
    have hj : j.toNat < us'.length := (List.getElem?_eq_some_iff.mp w1).1
    have hj2 : us'.length < 1000000 := by rw [t3.len]; exact hl
    exact ⟨p', us', j, j.toNat, w, rfl, rfl, t2, by omega, by omega, seqIx h0 (by omega), w1, k _ _ _ _ _ q e1 ((wr _ _ (t3.erase _)).push w2)⟩
def dIns (i : Nat) (te tf : ET) : ET := fun ρ P => (∃ xs, ρ[i]? = some (.ol xs)) ∧ te ρ fun s ρ1 => ∃ d, s.dat = some d ∧ tf ρ1 fun s2 ρ2 => ∃ y, s2.dat = some y ∧ ∃ j : Int, d = .int j ∧ (0 ≤ j ∧ j < 1000000) ∧ ∃ xs, ρ2[i]? = some (.ol xs) ∧ xs.length < 1000000 ∧ P (.d .non) (ρ2.set i (.ol (xs.take j.toNat ++ [y] ++ xs.drop j.toNat)))
theorem pd_insert {f : Expr} {tf : ET} (ho : PE X (.Name x p1) (tVar i)) (he : PE X e (lift X.K te)) (hf : PE X f (lift X.K tf)) (hs : starEach [e, f] X.env = (false, eval e X.env) :: starEach [f] X.env := by rfl) (hs2 : starEach [f] X.env = (false, eval f X.env) :: starEach [] X.env := by rfl)
    (hbase : attributeBase (.Name x p1) "insert" X.env (eval (.Name x p1) X.env) = eval (.Name x p1) X.env := by rfl)
    (hfew : ((backTo cpos (starEach [e, f] X.env)).all (fun x => !x.1) && (backToKw cpos (keywordEach [] X.env)).all (fun x => x.1.isSome) && decide (([e, f] : List Expr).length + ([] : List Keyword).length + (if ([] : List Keyword).isEmpty then 0 else 1) < 30)) = true := by rfl)
    (hline : (apos.endLine == cpos.line) = true := by rfl) (hplain : (backTo cpos (starEach [f] X.env)).any (·.1) = false := by rfl) :
    PE X (.Call (.Attribute (.Name x p1) "insert" apos) [e, f] [] cpos) (lift X.K (dIns i te tf)) :=
  peImp (pe_bm PySem.F.plainAttrs_list PySem.F.slot_list_insert PySem.F.type_list_insert mt_insert ho (pa_cons he (pa_cons hf pa_nil hs2) hs) hbase hfew hline hs hplain) fun σ H Q ⟨F, G, ρ, P, r, ⟨⟨xs0, h0⟩, h⟩, k⟩ => by
    obtain ⟨p, us, s1, s2, s3⟩ := r.sl_at h0
    refine ⟨.ref p, s1, .inl ⟨rfl, us, .of s2⟩, goD r h fun d ρ1 v G1 H1 h1 e1 r1 d1 => goD r1 h1 fun y ρ2 u G2 H2 ⟨j, hd, ⟨hj0, hj1⟩, xs, hx, hl, q⟩ e2 r2 d2 => ?_⟩
    subst hd
    obtain ⟨p', us', t1, t2, t3, wr⟩ := r2.wrL hx
    obtain rfl : p' = p := by rw [s1] at t1; cases t1; rfl
    cases d1
    exact ⟨p', us', j, u, rfl, rfl, t2, by rw [t3.len]; exact Nat.lt_of_lt_of_le hl (by decide), by omega, by omega, k _ _ _ _ _ q (e1.tr e2) ((wr _ _ (((t3.take _).app (.cons d2 .nil)).app (t3.drop _))).push .non)⟩
/-- x != [], x an own list that stays own -/
def dOwnNe (i : Nat) : TTd := fun ρ P => ∃ xs, ρ[i]? = some (.ol xs) ∧ xs.all (ok 50) = true ∧ P (!xs.isEmpty) ρ
theorem pt_ownNe {p3 : Pos} (hr : Room k X.A) (ho : PE X (.Name x p1) (tVar i)) (hm : behindInMarks .NotEq (.List [] p3) = false := by first | rfl | exact nomark _) : PT X (.Compare (.Name x p1) [.NotEq] [.List [] p3] pos) (liftT X.K (dOwnNe i)) :=
  ptImp (pt_cmpR (op_neD hr.units) ho (pe_lst pa_nil) hm) fun σ H Q ⟨F, G, ρ, P, r, ⟨xs, hx, hk, q⟩, k⟩ => by
    obtain ⟨p, us, s1, s2, s3⟩ := r.sl_at hx
    refine ⟨.ref p, s1, by decide, fun l hl => ?_⟩
    have r2 : R X.K F G (upd H l (.lst [])) σ ρ := r.grow .rfl (r.gh.under (r.new hl).1) (.put hl) fun b u e => .inl e
    have hp : upd H l (.lst []) p = some (.lst us) := by rw [upd_ne (ne_of_none s2 hl)]; exact s2
    obtain ⟨a1, a2, a3⟩ := DdL.py r2.gh s3 hk
    refine ⟨.list (toPys xs), .list [], .lst (.of hp) a1, .lst (.of upd_same) .nil, ?_, by decide, !xs.isEmpty, ?_, k _ _ _ _ q .rfl r2⟩
    · exact shaped_of (x := .lst xs) (n := 51) a2 (Nat.succ_le_succ a3) (by decide)
    · cases xs with
      | nil => rfl
      | cons x xs => rfl
def dOwnLen (i : Nat) : ET := fun ρ P => ∃ xs, ρ[i]? = some (.ol xs) ∧ P (.d (.int (xs.length : Nat))) ρ
theorem pd_ownLen {p : Pos} (ho : PE X (.Name x p1) (tVar i)) (hg : Gl X "len") (hm : X.mg "len" = none) (hs : starEach [.Name x p1] X.env = (false, eval (.Name x p1) X.env) :: starEach [] X.env := by rfl) (hpl : (backTo pos (starEach [] X.env)).any (·.1) = false := by rfl) :
    PE X (.Call (.Name "len" p) [.Name x p1] [] pos) (lift X.K (dOwnLen i)) :=
  peImp (pe_callB call_len_seq hg hm PySem.boot_len (pa_cons ho pa_nil hs) (by decide) (by decide) hs hpl) fun σ H Q ⟨F, G, ρ, P, r, ⟨xs, hx, q⟩, k⟩ => by
    obtain ⟨p, us, s1, s2, s3⟩ := r.sl_at hx
    exact ⟨.ref p, s1, p, us, rfl, .inl (.of s2), by rw [s3.len]; exact k _ _ _ _ _ q .rfl (r.push (.int _))⟩
/-- x[i] of an own list -/
def dOwnIx (i : Nat) (ti : ET) : ET := fun ρ P => ti ρ fun s ρ1 => ∃ d, s.dat = some d ∧ ∃ j : Int, d = .int j ∧ ∃ xs, ρ1[i]? = some (.ol xs) ∧ ∃ y, atI xs j = some y ∧ P (.d y) ρ1
theorem pd_ownIx (ho : PE X (.Name x p1) (tVar i)) (hb : PE X b (lift X.K tb)) (hs : PlainIx b := by exact fun _ _ => rfl) : PE X (.Subscript (.Name x p1) b pos) (lift X.K (fun ρ P => (∃ xs, ρ[i]? = some (.ol xs)) ∧ dOwnIx i tb ρ P)) :=
  peImp (pe_ix ix_list ho hb hs) fun σ H Q ⟨F, G, ρ, P, r, ⟨⟨xs0, h0⟩, h⟩, k⟩ => by
    obtain ⟨p, us, s1, s2, s3⟩ := r.sl_at h0
    refine ⟨.ref p, s1, goD r h fun d ρ1 v G1 H1 ⟨j, hd, xs, hx, y, hy, q⟩ e1 r1 d1 => ?_⟩
    subst hd
    obtain ⟨p', us', t1, t2, t3, wr⟩ := r1.wrL hx
    obtain rfl : p' = p := by rw [s1] at t1; cases t1; rfl
    cases d1
    obtain ⟨w, w1, w2⟩ := t3.atI hy
    exact ⟨p', us', j, w, rfl, rfl, .of t2, w1, k _ _ _ _ _ q e1 (r1.push w2)⟩
/-- x[j] = e, x an own list -/
def dSetL (i : Nat) (te ti : ET) : ST := fun E ρ => te ρ fun s ρ1 => ∃ y, s.dat = some y ∧ (∃ xs, ρ1[i]? = some (.ol xs)) ∧ ti ρ1 fun s2 ρ2 => ∃ d, s2.dat = some d ∧ ∃ j : Int, d = .int j ∧ 0 ≤ j ∧ ∃ xs, ρ2[i]? = some (.ol xs) ∧ j < xs.length ∧ E.nx (ρ2.set i (.ol (xs.set j.toNat y)))
theorem ds_setL {pos' : Pos} (ho : PE X (.Name x p1) (tVar i)) (hi : PE X b (lift X.K tb)) (he : PE X e (lift X.K te)) (hs : swapsWithSole [.Subscript (.Name x p1) b pos'] e pos.line X.env = pure false := by rfl) (hw : swappedStores [.Subscript (.Name x p1) b pos'] e X.env = pure none := by rfl)
    (h1 : (assignEach [.Subscript (.Name x p1) b pos'] X.env).map (·.2) = [assign (.Subscript (.Name x p1) b pos') X.env] := by rfl)
    (ha : ∀ v, assign (.Subscript (.Name x p1) b pos') X.env v = (do
      let ov ← holding [v] (eval (.Name x p1) X.env)
      let iv ← holding [v, ov] (eval b X.env)
      standAt pos'
      holding [v, ov, iv] (setItem ov iv v)
      release [v, ov, iv] []) := by intro _; rfl) : PS X (.Assign [.Subscript (.Name x p1) b pos'] e pos) (liftS X.K (dSetL i te tb)) :=
  psImp (ps_asg he (pg_sub ho hi set_list ha) hs hw h1) fun D σ H ⟨F, G, ρ, E, r, h, w⟩ => goD r h fun y ρ1 v G1 H1 ⟨⟨xs0, h0⟩, h1⟩ e1 r1 d1 => by
    obtain ⟨p, us, s1, s2, s3⟩ := r1.sl_at h0
    refine ⟨.ref p, s1, goD r1 h1 fun d ρ2 u G2 H2 ⟨j, hd, hj0, xs, hx, hj, q⟩ e2 r2 d2 => ?_⟩
    subst hd
    obtain ⟨p', us', t1, t2, t3, wr⟩ := r2.wrL hx
    obtain rfl : p' = p := by rw [s1] at t1; cases t1; rfl
    cases d2
    refine ⟨p', us', j, j.toNat, rfl, rfl, t2, ?_, w.nx _ _ _ _ q (e1.tr e2) (wr _ _ (t3.set (d1.ex e2) j.toNat))⟩
    unfold ixN
    rw [if_pos hj0, if_pos (by rw [t3.len]; exact hj)]
/-- d[k] = v, d an own dict -/
def dSetD (i : Nat) (te ti : ET) : ST := fun E ρ => te ρ fun s ρ1 => ∃ y, s.dat = some y ∧ (∃ ks vs, ρ1[i]? = some (.od ks vs)) ∧ ti ρ1 fun s2 ρ2 => ∃ d, s2.dat = some d ∧ ∃ j, keyD d = some j ∧ ∃ ks vs, ρ2[i]? = some (.od ks vs) ∧ ks.length < 1000000 ∧ E.nx (ρ2.set i (.od (putD ks vs j y).1 (putD ks vs j y).2))
theorem ds_setD {pos' : Pos} (hr : Room k X.A) (ho : PE X (.Name x p1) (tVar i)) (hi : PE X b (lift X.K tb)) (he : PE X e (lift X.K te)) (hs : swapsWith e (some (.Subscript (.Name x p1) b pos')) pos.line X.env = pure false := by rfl) :
    PS X (.Assign [.Subscript (.Name x p1) b pos'] e pos) (liftS X.K (dSetD i te tb)) :=
  psImp (ps_dput (hu_of hr) ho hi he hs) fun D σ H ⟨F, G, ρ, E, r, h, w⟩ => goD r h fun y ρ1 v G1 H1 ⟨⟨ks0, vs0, h0⟩, h1⟩ e1 r1 d1 => by
    obtain ⟨p, us, s1, s2, _, _, _, _⟩ := r1.wrD h0
    refine ⟨.ref p, s1, goD r1 h1 fun d ρ2 u G2 H2 ⟨j, hj, ks, vs, hx, hl, q⟩ e2 r2 d2 => ?_⟩
    obtain ⟨p', us', t1, t2, t3, t4, t5, wr⟩ := r2.wrD hx
    obtain rfl : p' = p := by rw [s1] at t1; cases t1; rfl
    rw [d2.key hj]
    obtain ⟨us2, g1, g2, g3, g4, _⟩ := put_of (i := j) t3 t4 t5 (d1.ex e2)
    refine ⟨p', _, rfl, DPut.k t2 ?_, ?_⟩
    · rw [List.length_zip]
      exact Nat.lt_of_le_of_lt (Nat.min_le_left _ _) (Nat.lt_of_lt_of_le hl (by decide))
    · rw [g1]
      exact w.nx _ _ _ _ q (e1.tr e2) (wr _ _ _ g2 g3 g4)

def joinA (a : Str) (ys : List Str) : Str := PySem.Txt.join a ys
def strsOf : D → Option (List Str)
  | .lst xs => xs.mapM fun x => match x with | .str s => some s | _ => none
  | .tup xs => xs.mapM fun x => match x with | .str s => some s | _ => none
  | _ => none
def dJoin (te tf : ET) : ET := fun ρ P => te ρ fun s ρ1 => ∃ d, s.dat = some d ∧ ∃ a, d = .str a ∧ tf ρ1 fun s2 ρ2 => ∃ y, s2.dat = some y ∧ ∃ ws, strsOf y = some ws ∧ (ws.map (·.length)).sum + ws.length * a.length ≤ 1000000 ∧ sOk (PySem.Txt.join a ws) = true ∧ P (.d (.str (PySem.Txt.join a ws))) ρ2
theorem pd_join {f : Expr} {tf : ET} {apos : Pos} (ho : PE X e (lift X.K te)) (he : PE X f (lift X.K tf)) (hs : starEach [f] X.env = [(false, eval f X.env)] := by rfl) (hbase : attributeBase e "join" X.env (eval e X.env) = eval e X.env := by rfl) (hline : (apos.endLine == pos.line) = true := by rfl) :
    PE X (.Call (.Attribute e "join" apos) [f] [] pos) (lift X.K (dJoin te tf)) :=
  peImp (pe_join ho he hs hbase hline) fun σ H Q ⟨F, G, ρ, P, r, h, k⟩ => goD r h fun d ρ1 v G1 H1 ⟨a, hd, h1⟩ e1 r1 d1 => by
    subst hd
    cases d1
    refine ⟨⟨_, rfl⟩, goD r1 h1 fun y ρ2 u G2 H2 ⟨ws, hw, hl, ho, q⟩ e2 r2 d2 => ?_⟩
    cases d2 with
    | lst g t =>
      have e := mapM_str hw
      subst e
      have e2' := t.strs
      subst e2'
      exact ⟨a, _, ws, rfl, rfl, .inl (.of (r2.gh _ _ g)), Nat.le_trans hl (by decide), k _ _ _ _ _ q (e1.tr e2) (r2.push (.str _ ho))⟩
    | tup g t =>
      have e := mapM_str hw
      subst e
      have e2' := t.strs
      subst e2'
      exact ⟨a, _, ws, rfl, rfl, .inr (sqT_ex r2.gh g), Nat.le_trans hl (by decide), k _ _ _ _ _ q (e1.tr e2) (r2.push (.str _ ho))⟩
    | non => cases hw
    | bl _ => cases hw
    | int _ => cases hw
    | str _ _ => cases hw
    | dic _ _ _ _ => cases hw
    | ins _ _ _ _ => cases hw
end
end Fl
namespace Fl
open PySem L2
section
variable {X : Cx} {K : PySem.W.Frag} {F : Fr} {G G' H H' : Hp} {σ τ : St} {ρ ss : Env'} {pos : Pos} {e a b o : Expr} {te ta tb : ET} {k n : Nat} {C f fa : Addr} {fd : FuncData} {ps ks : List Str} {ft : FT} {x m : Str} {p apos : Pos} {es : List Expr} {bb bk : BT} {kws : List Keyword}

def lkF : List Str → List D → Str → Option D
  | j :: ns, v :: vs, i => if i = j then some v else lkF ns vs i
  | _, _, _ => none
theorem lkF_of : ∀ {ns : List Str} {us : List V} {vs : List D} {i : Str}, ns.length = us.length → DdL K G us vs → (∀ x, lkF ns vs i = some x → ∃ v, (ns.zip us).lookup i = some v ∧ Dd K G v x) ∧ (lkF ns vs i = none → (ns.zip us).lookup i = none)
  | [], [], [], i, _, .nil => ⟨fun x h => (by cases h), fun _ => rfl⟩
  | j :: ns, u :: us, v :: vs, i, hl, .cons a t => by
    have ih := lkF_of (i := i) (by simpa using hl) t
    rw [List.zip_cons_cons, List.lookup_cons]
    by_cases e : i = j
    · subst e
      refine ⟨fun x h => ?_, fun h => ?_⟩
      · have h : (if i = i then some v else lkF ns vs i) = some x := h
        rw [if_pos rfl] at h
        cases h
        exact ⟨u, by simp, a⟩
      · have h : (if i = i then some v else lkF ns vs i) = none := h
        rw [if_pos rfl] at h; cases h
    · have eb : (i == j) = false := beq_eq_false_iff_ne.mpr e
      refine ⟨fun x h => ?_, fun h => ?_⟩
      · have h : (if i = j then some v else lkF ns vs i) = some x := h
        rw [if_neg e] at h
        rw [eb]
        exact ih.1 x h
      · have h : (if i = j then some v else lkF ns vs i) = none := h
        rw [if_neg e] at h
        rw [eb]
        exact ih.2 h
def putN : List Str → List D → Str → D → List Str × List D
  | j :: ns, v :: vs, i, x => if j = i then (j :: ns, x :: vs) else ((j :: (putN ns vs i x).1), (v :: (putN ns vs i x).2))
  | _, _, i, x => ([i], [x])
theorem putN_of : ∀ {ns : List Str} {us : List V} {vs : List D} {i : Str} {z : V} {x : D}, ns.length = us.length → DdL K G us vs → Dd K G z x →
    ∃ us', putF i z (ns.zip us) = (putN ns vs i x).1.zip us' ∧ (putN ns vs i x).1.length = us'.length ∧ DdL K G us' (putN ns vs i x).2
  | [], [], [], i, z, x, _, .nil, d => ⟨[z], rfl, rfl, .cons d .nil⟩
  | j :: ns, u :: us, v :: vs, i, z, x, hl, .cons a t, d => by
    rw [List.zip_cons_cons]
    by_cases e : j = i
    · have e1 : putN (j :: ns) (v :: vs) i x = (j :: ns, x :: vs) := if_pos e
      rw [e1]
      refine ⟨z :: us, ?_, hl, .cons d t⟩
      show (if j = i then (j, z) :: ns.zip us else (j, u) :: putF i z (ns.zip us)) = _
      rw [if_pos e]; rfl
    · obtain ⟨us', h1, h2, h3⟩ := putN_of (i := i) (x := x) (by simpa using hl) t d
      have e1 : putN (j :: ns) (v :: vs) i x = ((j :: (putN ns vs i x).1), (v :: (putN ns vs i x).2)) := if_neg e
      rw [e1]
      refine ⟨u :: us', ?_, by simp [h2], .cons a h3⟩
      show (if j = i then (j, z) :: ns.zip us else (j, u) :: putF i z (ns.zip us)) = _
      rw [if_neg e, h1]; rfl
def insOf (C : Addr) : D → Option (List Str × List D)
  | .ins C' ns vs => if C' = C then some (ns, vs) else none
  | _ => none
theorem Dd.insOf {v : V} {x : D} {ns : List Str} {vs : List D} (d : Dd K G v x) (h : insOf C x = some (ns, vs)) : ∃ a dx us, v = .ref a ∧ x = .ins C ns vs ∧ G a = some (.ins C dx (ns.zip us)) ∧ ns.length = us.length ∧ DdL K G us vs := by
  cases d with
  | @ins a C' dx ns' us vs' g hl _ t =>
    have h : (if C' = C then some (ns', vs') else none) = some (ns, vs) := h
    by_cases e : C' = C
    · rw [if_pos e] at h
      cases h; subst e
      exact ⟨a, dx, us, rfl, rfl, g, hl, t⟩
    · rw [if_neg e] at h; cases h
  | _ => cases h
/-- e.f of a C -/
def dFld (C : Addr) (f : Str) (te : ET) : ET := fun ρ P => te ρ fun s ρ1 => ∃ x, s.dat = some x ∧ ∃ ns vs, insOf C x = some (ns, vs) ∧ ∃ y, lkF ns vs f = some y ∧ P (.d y) ρ1
theorem pd_fld {f : Str} (c : Cls X.K C) (nA : NoAttr X.K C f) (he : PE X e (lift X.K te)) (hb : attributeBase e f X.env (eval e X.env) = eval e X.env := by rfl) : PE X (.Attribute e f pos) (lift X.K (dFld C f te)) :=
  peImp (pe_fld he hb) fun σ H Q ⟨F, G, ρ, P, r, h, k⟩ => goD r h fun x ρ1 v G1 H1 ⟨ns, vs, hi, y, hy, q⟩ e1 r1 d1 => by
    obtain ⟨a, dx, us, rfl, rfl, g, hl, t⟩ := d1.insOf hi
    obtain ⟨w, w1, w2⟩ := (lkF_of hl t).1 y hy
    exact ⟨a, C, dx, _, w, rfl, r1.gh _ _ g, c, nA, w1, k _ _ _ _ _ q e1 (r1.push w2)⟩
/-- x.f = e, x an own (or lent) instance in slot i -/
def dSetF (C : Addr) (i : Nat) (f : Str) (te : ET) : ST := fun E ρ => te ρ fun s ρ1 => ∃ y, s.dat = some y ∧ ∃ s0 ns vs, ρ1[i]? = some s0 ∧ s0.inst = some (C, ns, vs) ∧ ns.length < 1000 ∧ E.nx (ρ1.set i (s0.withF (putN ns vs f y).1 (putN ns vs f y).2))
theorem ds_fld {i : Nat} {f : Str} {p1 pos' : Pos} (c : Cls X.K C) (nA : NoAttr X.K C f) (ho : PE X (.Name x p1) (tVar i)) (he : PE X e (lift X.K te)) (hs : swapsWith e (some (.Attribute (.Name x p1) f pos')) pos.line X.env = pure false := by rfl) :
    PS X (.Assign [.Attribute (.Name x p1) f pos'] e pos) (liftS X.K (dSetF C i f te)) :=
  psImp (ps_fld ho he hs) fun D σ H ⟨F, G, ρ, E, r, h, w⟩ => goD r h fun y ρ1 v G1 H1 ⟨s0, ns, vs, h0, hi, hl, q⟩ e1 r1 d1 => by
    obtain ⟨p, dx, us, s1, s2, s3, s4, wr⟩ := r1.wrI h0 hi
    obtain ⟨us', g1, g2, g3⟩ := putN_of (i := f) s3 s4 d1
    refine ⟨.ref p, s1, p, C, dx, _, rfl, s2, c, nA, ?_, ?_⟩
    · rw [List.length_zip]; exact Nat.lt_of_le_of_lt (Nat.min_le_left _ _) hl
    · rw [g1]
      exact w.nx _ _ _ _ q e1 (wr _ _ _ g2 g3)

theorem R.rest (r : R K F G H (τ ++ σ) (ss ++ ρ)) (hl : τ.length = ss.length) : R K F G H σ ρ := by
  obtain ⟨os, h, nd, f⟩ := r.sl
  obtain ⟨o1, o2, rfl, h3, h4⟩ := h.split hl
  exact ⟨r.gg, r.gh, r.fr, r.nw, r.th, r.sr, r.kp, r.nm, _, h4, (List.nodup_append.mp nd).2.1, fun p hp => f p (List.mem_append_right _ hp)⟩
/-- what a callee's promise gives its caller -/
theorem spGo {vs : List V} {Q : VK} {P : Sl → Env' → Prop} {E : XK} (r : R K F G H (vs.map some ++ σ) (ss ++ ρ)) (hl : vs.length = ss.length) (hn : ss.length = n) (ha : ss.all argOk = true) (h : ft ss fun s => noNo s = true ∧ P s ρ)
    (k : ∀ s v G' H', P s ρ → Ex G G' → R K F G' H' (some v :: σ) (s :: ρ) → Q v H') : spD K n ft vs H Q E :=
  ⟨G, F.src, ss, _, r.enter (by rw [List.length_map]; exact hl) ha, ha, hn, h, fun s v G2 H2 ⟨hs, hp⟩ e2 r2 => k s v G2 H2 hp e2 ((r.rest (by rw [List.length_map]; exact hl)).leave r2 (fun z => by rw [z] at hs; cases hs) (fun x z => by rw [z] at hs; cases hs))⟩
/-- o.m(e, ..), m a plain method of o's class C, o data -/
def dMeth (C : Addr) (m : Str) (n : Nat) (ft : FT) (te : ET) (tb : BT) : ET := fun ρ P => te ρ fun s ρ1 => ∃ x, s.dat = some x ∧ (∃ ns vs, insOf C x = some (ns, vs) ∧ lkF ns vs m = none) ∧ tb ρ1 fun ss ρ2 => ss.length + 1 = n ∧ ss.all argOk = true ∧ ft (.d x :: ss) fun s => noNo s = true ∧ P s ρ2
theorem goDB {P : D → Env' → Prop} {tb : BT} {Q : List V → Hp → Prop} {x : D} {v : V} (r : R K F G H σ ρ) (d : Dd K G v x) {P : List Sl → Env' → Prop} (h : tb ρ P)
    (k : ∀ ss ρ' vs G' H', P ss ρ' → Ex G G' → R K F G' H' (some v :: vs.map some ++ σ) (.d x :: ss ++ ρ') → vs.length = ss.length → Q vs H') : liftB K tb σ H Q :=
  ⟨F, G, ρ, P, r, h, fun ss ρ' vs G' H' p e r' hl => k ss ρ' vs G' H' p e (r'.push (d.ex e)) hl⟩
theorem pd_meth {pl : Sem Bool} (c : Cls X.K C) (hm : Meth X.K C m fa) (Fn : FnOk X.prog X.w X.K X.mg X.base CX0 k fa fd ps (spD X.K n ft)) (hr : Room k X.A) (hb : Binds X.K fd ps []) (he : PE X o (lift X.K te)) (ha : PA X (e :: es) (liftB X.K bb))
    (hst : starEach (e :: es) X.env = (false, eval e X.env) :: starEach es X.env := by rfl) (hpl : (backTo pos (starEach es X.env)).any (·.1) = false := by rfl)
    (ht : eval (.Call (.Attribute o m apos) (e :: es) [] pos) X.env = (do
      let ov ← eval o X.env
      standAt apos.atName
      let (f, first) ← holding [ov] (getMethod ov m pl)
      callWith pos f first (backTo pos (starEach (e :: es) X.env)) (backToKw pos (keywordEach [] X.env))) := by rfl) :
    PE X (.Call (.Attribute o m apos) (e :: es) [] pos) (lift X.K (dMeth C m n ft te bb)) :=
  peImp (pe_meth he c hm Fn hr hb .nil pass0 ha hst hpl ht) fun σ H Q ⟨F, G, ρ, P, r, h, k⟩ => goD r h fun x ρ1 v G1 H1 ⟨⟨ns, vs, hi, hl⟩, h1⟩ e1 r1 d1 => by
    obtain ⟨a, dx, us, rfl, rfl, g, hl2, t⟩ := d1.insOf hi
    refine ⟨a, dx, _, rfl, r1.gh _ _ g, (lkF_of hl2 t).2 hl, goDB (P := fun _ _ => True) r1 d1 h1 fun ss ρ2 vs G2 H2 ⟨q1, q2, q3⟩ e2 r2 l2 => ?_⟩
    rw [List.append_nil]
    exact spGo (vs := .ref a :: vs) (ss := .d _ :: ss) r2 (by simp [l2]) (by simpa using q1) (by simpa [argOk] using q2) q3 fun s v G' H' p e3 r3 => k _ _ _ _ _ p ((e1.tr e2).tr e3) r3
def dMeth0 (C : Addr) (m : Str) (ft : FT) (te : ET) : ET := fun ρ P => te ρ fun s ρ1 => ∃ x, s.dat = some x ∧ (∃ ns vs, insOf C x = some (ns, vs) ∧ lkF ns vs m = none) ∧ ft [.d x] fun s => noNo s = true ∧ P s ρ1
theorem pd_meth0 {pl : Sem Bool} (c : Cls X.K C) (hm : Meth X.K C m fa) (Fn : FnOk X.prog X.w X.K X.mg X.base CX0 k fa fd ps (spD X.K 1 ft)) (hr : Room k X.A) (hb : Binds X.K fd ps []) (he : PE X o (lift X.K te))
    (ht : eval (.Call (.Attribute o m apos) [] [] pos) X.env = (do
      let ov ← eval o X.env
      standAt apos.atName
      let (f, first) ← holding [ov] (getMethod ov m pl)
      callWith pos f first (backTo pos (starEach [] X.env)) (backToKw pos (keywordEach [] X.env))) := by rfl) :
    PE X (.Call (.Attribute o m apos) [] [] pos) (lift X.K (dMeth0 C m ft te)) :=
  peImp (pe_meth0 (E := E0) he c hm Fn hr hb .nil pass0 ht) fun σ H Q ⟨F, G, ρ, P, r, h, k⟩ => goD r h fun x ρ1 v G1 H1 ⟨⟨ns, vs, hi, hl⟩, h1⟩ e1 r1 d1 => by
    obtain ⟨a, dx, us, rfl, rfl, g, hl2, t⟩ := d1.insOf hi
    refine ⟨a, dx, _, rfl, r1.gh _ _ g, (lkF_of hl2 t).2 hl, ?_⟩
    exact spGo (E := E0) (vs := [.ref a]) (ss := [.d _]) (σ := σ) (ρ := ρ1) (r1.push d1) rfl rfl rfl h1 fun s v G' H' p e3 r3 => k _ _ _ _ _ p (e1.tr e3) r3

def liftK (K : PySem.W.Frag) (t : BT) : TA := liftB K t
theorem pkImp {t t' : TA} (h : PK X kws t) (i : ∀ σ H Q, t' σ H Q → t σ H Q) : PK X kws t' := ⟨fun p pins s σ H Q I q => h.run p pins s σ H Q I (i _ _ _ q)⟩
theorem dkb_nil : PK X [] (liftB X.K bNil) := pkImp pk_nil fun σ H Q ⟨F, G, ρ, P, r, h, k⟩ => k [] ρ [] G H h .rfl r rfl
theorem dkb_arg {nm : Option Str} {kpos : Pos} (he : PE X e (lift X.K te)) (hr : PK X kws (liftB X.K bk)) : PK X (⟨nm, e, kpos⟩ :: kws) (liftB X.K (bArg te bk)) :=
  pkImp (pk_cons he hr) fun σ H Q ⟨F, G, ρ, P, r, h, k⟩ => goE r h fun s ρ1 v G1 H1 ⟨s', h0, h1⟩ e1 r1 => by
    have dat : ∀ {x : D}, s.dat = some x → s' = .d x → liftB X.K bk σ H1 fun vs H2 => Q (v :: vs) H2 := fun {x} hx hs' => by
      subst hs'
      obtain ⟨G2, e2, d2, r2⟩ := r1.frz hx
      exact ⟨F, G2, ρ1, _, r2, h1, fun ss ρ2 vs G3 H3 h3 e3 r3 hl => k (.d x :: ss) ρ2 (v :: vs) G3 H3 h3 ((e1.tr e2).tr e3) (r3.push (d2.ex e3)) (by simp [hl])⟩
    cases s with
    | src =>
      cases h0
      obtain ⟨F', r2, f⟩ := r1.pend rfl
      exact ⟨F', G1, ρ1, _, r2, h1, fun ss ρ2 vs G2 H2 h2 e2 r3 hl => k (.src :: ss) ρ2 (v :: vs) G2 H2 h2 (e1.tr e2) (f e2 r3) (by simp [hl])⟩
    | ld x =>
      cases h0
      obtain ⟨F', r2, f⟩ := r1.pend rfl
      exact ⟨F', G1, ρ1, _, r2, h1, fun ss ρ2 vs G2 H2 h2 e2 r3 hl => k (.ld x :: ss) ρ2 (v :: vs) G2 H2 h2 (e1.tr e2) (f e2 r3) (by simp [hl])⟩
    | d x => cases h0; exact dat rfl rfl
    | ol x => cases h0; exact dat rfl rfl
    | od x y => cases h0; exact dat rfl rfl
    | oi x y z => cases h0; exact dat rfl rfl
    | no => cases h0
    | bi x y z => cases h0
/-- f(k = v, ..), all by keywords, in some order: g puts them in the parameters' order -/
def dFnK (n : Nat) (g : List Sl → List Sl) (ft : FT) (bk : BT) : ET := fun ρ P => bk ρ fun ss ρ1 => (g ss).length = n ∧ (g ss).all argOk = true ∧ ft (g ss) fun s => noNo s = true ∧ P s ρ1
theorem pd_callK0 (Fn : FnOk X.prog X.w X.K X.mg X.base CX0 k fa fd ps (spD X.K n ft)) (hr : Room k X.A) (hg : Gl X x) (hm : X.mg x = some (.ref fa)) (hk : PySem.W.keepIn X.K (.ref fa) = true) (hb : KBn X.K fd ps 0 ks (fun _ ws => ws) (fun _ zs => zs)) (hkw : PK X kws (liftB X.K bk)) (hkl : ks.length = n)
    (hall : (backToKw pos (keywordEach kws X.env)).all (·.1.isSome) = true := by rfl) (hks : (backToKw pos (keywordEach kws X.env)).filterMap (·.1) = ks := by rfl) (hdb : (x == ("__debug__" : Str)) = false := by decide)
    (hpl : ((backTo pos (starEach [] X.env)).any (·.1) || (backToKw pos (keywordEach kws X.env)).any (·.1.isNone)) = false := by rfl) :
    PE X (.Call (.Name x p) [] kws pos) (lift X.K (dFnK n id ft bk)) := by
  refine ⟨fun pins s σ H Q I ⟨F, G, ρ, P, r, h, q⟩ => ?_⟩
  refine wpAny_Call_Name_kw (ld_glob I hg hm ?_ hdb)
  refine PySem.W.callWith_KW0 (h₀ := X.base) I.ok.mod.kin hk hall (thn (hkw.run pos pins s σ H (fun vs H1 => vs.length = ks.length ∧ spD X.K n ft vs H1 Q E0) I ⟨F, G, ρ, _, r, h, fun ss ρ1 vs G1 H1 ⟨q1, q2, q3⟩ e1 r1 l1 => ⟨(l1.trans q1).trans hkl.symm, ?_⟩⟩) fun ws s2 ⟨zs, H2, I2, rz, l2, q2⟩ => ⟨I2.kIn, ?_⟩) hpl
  · exact spGo r1 l1 q1 q2 q3 fun s v G' H' p e3 r3 => q _ _ _ _ _ p (e1.tr e3) r3
  · rw [hks]
    exact run_fnN (us := []) (vs := []) Fn hr hb pass0 I2 .nil rz rfl l2 q2
/-- o.m(k = v, ..) -/
def dMethK (C : Addr) (m : Str) (n : Nat) (ft : FT) (te : ET) (bk : BT) : ET := dMeth C m n ft te bk
theorem pd_methK {pl : Sem Bool} (c : Cls X.K C) (hm : Meth X.K C m fa) (Fn : FnOk X.prog X.w X.K X.mg X.base CX0 k fa fd ps (spD X.K n ft)) (hr : Room k X.A) (hb : KBn X.K fd ps 1 ks (fun us ws => us ++ ws) (fun vs zs => vs ++ zs)) (he : PE X o (lift X.K te)) (hkw : PK X kws (liftB X.K bk)) (hkl : ks.length + 1 = n)
    (hall : (backToKw pos (keywordEach kws X.env)).all (·.1.isSome) = true := by rfl) (hks : (backToKw pos (keywordEach kws X.env)).filterMap (·.1) = ks := by rfl)
    (hpl : ((backTo pos (starEach [] X.env)).any (·.1) || (backToKw pos (keywordEach kws X.env)).any (·.1.isNone)) = false := by rfl)
    (ht : eval (.Call (.Attribute o m apos) [] kws pos) X.env = (do
      let ov ← eval o X.env
      standAt apos.atName
      let (f, first) ← holding [ov] (getMethod ov m pl)
      callWith pos f first (backTo pos (starEach [] X.env)) (backToKw pos (keywordEach kws X.env))) := by rfl) :
    PE X (.Call (.Attribute o m apos) [] kws pos) (lift X.K (dMethK C m n ft te bk)) := by
  refine ⟨fun pins s σ H Q I ⟨F, G, ρ, P, r, h, q⟩ => ?_⟩
  refine PySem.W.methodCall_KW (pl := pl) (thn (he.run pins s σ H (fun v H1 => ∃ a dx fs, v = .ref a ∧ H1 a = some (.ins C dx fs) ∧ fs.lookup m = none ∧ liftB X.K bk σ H1 fun vs H2 => vs.length = ks.length ∧ spD X.K n ft (.ref a :: vs) H2 Q E0) I (goD r h fun x ρ1 v G1 H1 ⟨⟨ns, vs, hi, hl⟩, h1⟩ e1 r1 d1 => ?_)) fun u s1 ⟨v, H1, I1, rv, a, dx, fs, ev, ea, l, q1⟩ => ?_) ht
  · obtain ⟨a, dx, us, rfl, rfl, g, hl2, t⟩ := d1.insOf hi
    refine ⟨a, dx, _, rfl, r1.gh _ _ g, (lkF_of hl2 t).2 hl, goDB (P := fun _ _ => True) r1 d1 h1 fun ss ρ2 vs G2 H2 ⟨q1, q2, q3⟩ e2 r2 l2 => ⟨by omega, ?_⟩⟩
    exact spGo (vs := .ref a :: vs) (ss := .d _ :: ss) r2 (by simp [l2]) (by simpa using q1) (by simpa [argOk] using q2) q3 fun s v G' H' p e3 r3 => q _ _ _ _ _ p ((e1.tr e2).tr e3) r3
  · subst ev
    obtain rfl : u = Value.ref a := rv
    refine getmeth_ok I1 ea c hm l ?_
    refine PySem.W.callWith_KW0 (h₀ := X.base) (first := [.ref a]) I.ok.mod.kin hm.kp hall (thn (hkw.run pos pins s1 σ H1 _ I1 q1) fun ws s2 ⟨zs, H2, I2, rz, l3, q2⟩ => ⟨I2.kIn, ?_⟩) hpl
    rw [hks]
    exact run_fnN (us := [.ref a]) (vs := [.ref a]) Fn hr hb pass0 I2 (.cons rfl .nil) rz rfl l3 q2
/-- e.f, a property -/
def dProp (C : Addr) (ft : FT) (te : ET) : ET := fun ρ P => te ρ fun s ρ1 => ∃ x, s.dat = some x ∧ (∃ ns vs, insOf C x = some (ns, vs)) ∧ ft [.d x] fun s => noNo s = true ∧ P s ρ1
theorem pd_prop {f : Str} {pa : Addr} (c : Cls X.K C) (hp : PropOf X.K C f pa fa) (Fn : FnOk X.prog X.w X.K X.mg X.base CX0 k fa fd ps (spD X.K 1 ft)) (hr : Room (k + 1) X.A) (hb : Binds X.K fd ps []) (he : PE X e (lift X.K te)) (hab : attributeBase e f X.env (eval e X.env) = eval e X.env := by rfl) :
    PE X (.Attribute e f pos) (lift X.K (dProp C ft te)) :=
  peImp (pe_prop he c hp Fn hr hb .nil (E := E0) pass0 hab) fun σ H Q ⟨F, G, ρ, P, r, h, k⟩ => goD r h fun x ρ1 v G1 H1 ⟨⟨ns, vs, hi⟩, h1⟩ e1 r1 d1 => by
    obtain ⟨a, dx, us, rfl, rfl, g, hl2, t⟩ := d1.insOf hi
    exact ⟨a, dx, _, rfl, r1.gh _ _ g, spGo (vs := [.ref a]) (ss := [.d _]) (σ := σ) (ρ := ρ1) (r1.push d1) rfl rfl rfl h1 fun s v G' H' p e3 r3 => k _ _ _ _ _ p (e1.tr e3) r3⟩

/-- __init__'s promise: the fields that it leaves -/
abbrev FI := List Sl → (List Str → List D → Prop) → Prop
def spI (K : PySem.W.Frag) (C : Addr) (n : Nat) (fi : FI) : Sp := fun vs H Q _ => ∃ x dx G src rest ss P, vs = .ref x :: rest ∧ H x = some (.ins C dx []) ∧ H dx = some (.own x) ∧
  R K ⟨G, H, src, some (x, dx), []⟩ G H (vs.map some) (.bi C [] [] :: ss) ∧ ss.all argOk = true ∧ ss.length + 1 = n ∧ fi ss P ∧
  ∀ ns ds us G' H', P ns ds → Ex G G' → H' x = some (.ins C dx (ns.zip us)) → ns.length = us.length → H' dx = some (.own x) → DdL K G' us ds → R K ⟨G, H, src, some (x, dx), []⟩ G' H' [] [] → Q .non H'
end
end Fl
namespace Fl
open PySem L2
section
variable {X : Cx} {K : PySem.W.Frag} {F : Fr} {G G' H H' : Hp} {σ τ : St} {ρ ss : Env'} {pos : Pos} {e a b o : Expr} {te ta tb : ET} {k n : Nat} {C f fa : Addr} {fd : FuncData} {ps ks : List Str} {ft : FT} {fi : FI} {x m : Str} {p apos : Pos} {es : List Expr} {bb bk : BT} {kws : List Keyword}
theorem R.th_ne (r : R K F G H σ ρ) {q : Addr} (h : H q = none) : q ≠ sysModules := fun e => by obtain ⟨so, z⟩ := r.nm; rw [e, z] at h; cases h
/-- arguments kept while others are made -/
theorem R.pendAll : ∀ (vs : List V) {ss : Env'}, R K F G H (vs.map some ++ σ) (ss ++ ρ) → vs.length = ss.length → ss.all argOk = true →
    ∀ {G' H' σ' ρ'}, Ex G G' → R K F G' H' σ' ρ' → R K F G' H' (vs.map some ++ σ') (ss ++ ρ') := by
  intro vs
  induction vs with
  | nil =>
    intro ss _ hl _ G' H' σ' ρ' _ r
    cases ss with
    | nil => exact r
    | cons s ss => cases hl
  | cons v vs ih =>
    intro ss r0 hl ha G' H' σ' ρ' e r
    cases ss with
    | nil => cases hl
    | cons s ss =>
      rw [List.all_cons, Bool.and_eq_true] at ha
      have r1 : R K F G H (some v :: (vs.map some ++ σ)) (s :: (ss ++ ρ)) := r0
      have jh := ih r1.pop (by simpa using hl) ha.2 e r
      obtain ⟨os, h, nd, f⟩ := r1.sl
      cases h with
      | cons a t =>
        cases a with
        | d a => exact jh.push (a.ex e)
        | src a => exact jh.pushSrc a
        | ld a h0 h1 h2 => exact jh.pushLd (a.ex e) h0 h1 h2
        | no => exact absurd ha.1 (by simp [argOk])
        | ol _ _ _ => exact absurd ha.1 (by simp [argOk])
        | od _ _ _ _ _ => exact absurd ha.1 (by simp [argOk])
        | oi _ _ _ _ _ _ => exact absurd ha.1 (by simp [argOk])
        | bi _ _ _ _ _ => exact absurd ha.1 (by simp [argOk])
/-- the heap with a new instance at q, its dict at dx -/
abbrev mkH (H : Hp) (C q dx : Addr) : Hp := upd (upd H dx (.own q)) q (.ins C dx [])
theorem mk_q {q dx : Addr} : mkH H C q dx q = some (.ins C dx []) := upd_same
theorem mk_d {q dx : Addr} (ne : dx ≠ q) : mkH H C q dx dx = some (.own q) := by
  show upd (upd H dx (.own q)) q (.ins C dx []) dx = _
  rw [upd_ne ne, upd_same]
theorem mk_ex {q dx : Addr} (hq : H q = none) (hd : H dx = none) (ne : dx ≠ q) : Ex H (mkH H C q dx) := fun b o e => by
  show upd (upd H dx (.own q)) q (.ins C dx []) b = _
  rw [upd_ne (ne_of_none e hq), upd_ne (ne_of_none e hd)]; exact e
theorem Sls.argsTo {F' : Fr} {os : List Addr} (h : Sls K F G H σ ρ os) (ha : ρ.all argOk = true) (hs : F'.src = F.src) (hz : ∀ p o, F.H0 p = some o → ¬ InSrc F p → ¬ InSelf F p → F'.H0 p = some o ∧ ¬ InSrc F' p ∧ ¬ InSelf F' p) : Sls K F' G H' σ ρ [] := by
  induction h with
  | nil => exact .nil
  | @cons v s σ ρ os ps x t ih =>
    rw [List.all_cons, Bool.and_eq_true] at ha
    refine .cons (os := []) (ps := []) ?_ (ih ha.2)
    cases x with
    | no => exact .no _
    | d h => exact .d h
    | src h => exact .src (by rw [hs]; exact h)
    | ld h h0 h1 h2 => exact .ld h (hz _ _ h0 h1 h2).1 (hz _ _ h0 h1 h2).2.1 (hz _ _ h0 h1 h2).2.2
    | ol _ _ _ => exact absurd ha.1 (by simp [argOk])
    | od _ _ _ _ _ => exact absurd ha.1 (by simp [argOk])
    | oi _ _ _ _ _ _ => exact absurd ha.1 (by simp [argOk])
    | bi _ _ _ _ _ => exact absurd ha.1 (by simp [argOk])
theorem R.enterI (r : R K F G H (τ ++ σ) (ss ++ ρ)) (hl : τ.length = ss.length) (ha : ss.all argOk = true) {q dx : Addr} (hq : H q = none) (hd : H dx = none) (ne : dx ≠ q) :
    R K ⟨G, mkH H C q dx, F.src, some (q, dx), []⟩ G (mkH H C q dx) (some (.ref q) :: τ) (.bi C [] [] :: ss) := by
  obtain ⟨os, h, nd, f⟩ := r.sl
  obtain ⟨o1, o2, rfl, h1, h2⟩ := h.split hl
  have nq := r.new hq
  have nx := r.new hd
  have is : ∀ b, InSrc ⟨G, mkH H C q dx, F.src, some (q, dx), []⟩ b → InSrc F b := fun b m => by
    rcases m with m | ⟨o, m⟩
    · exact .inl m
    · cases m
  have ex := mk_ex (C := C) hq hd ne
  have a1 : SlOk K ⟨G, mkH H C q dx, F.src, some (q, dx), []⟩ G (mkH H C q dx) (some (.ref q)) (.bi C [] []) [q, dx] :=
    .bi (us := []) upd_same rfl (mk_d ne) .nil rfl
  refine ⟨.rfl, r.gh.tr ex, fun b o e _ _ => e, fun b o e => .inl e, fun b hb => ?_, fun a c e => ?_, fun y hy => (by cases hy), r.nm.imp fun _ => ex _ _, [q, dx], .cons a1 (h1.argsTo ha rfl fun b o z0 z1 z2 => ⟨ex _ _ (r.fr b o z0 z1 z2), fun m => z1 (is _ m), fun ⟨_, _, z, m⟩ => by
    have zb := r.fr b o z0 z1 z2
    cases z
    rcases m with m | m
    · rw [m, hq] at zb; cases zb
    · rw [m, hd] at zb; cases zb⟩), ?_, fun y hy => ?_⟩
  · rcases hb with hb | ⟨a, c, e, hb⟩
    · obtain ⟨o, e⟩ := r.th b (.inl (is b hb))
      exact ⟨o, ex _ _ e⟩
    · cases e
      rcases hb with rfl | rfl
      · exact ⟨_, upd_same⟩
      · exact ⟨_, mk_d ne⟩
  · obtain ⟨z, ga, gc⟩ := r.sr a c e
    have i1 : ∃ o, H a = some o := r.th a (.inl (.inl ⟨a, c, e, .inl rfl⟩))
    have i2 : ∃ o, H c = some o := r.th c (.inl (.inl ⟨a, c, e, .inr rfl⟩))
    obtain ⟨o1, q1⟩ := i1
    obtain ⟨o2, q2⟩ := i2
    exact ⟨z.keep (by rw [q1]; exact ex _ _ q1) (by rw [q2]; exact ex _ _ q2), ga, gc⟩
  · exact List.nodup_cons.mpr ⟨by simpa using Ne.symm ne, by simp⟩
  · rcases (by simpa using hy : y = q ∨ y = dx) with rfl | rfl
    · exact ⟨nq.1, fun m => nq.2.2.1 (is _ m)⟩
    · exact ⟨nx.1, fun m => nx.2.2.1 (is _ m)⟩
theorem R.leaveI (r : R K F G H σ ρ) {q dx : Addr} (hq : H q = none) (hd : H dx = none) (ne : dx ≠ q) {ns : List Str} {us : List V} {vs : List D} (c : R K ⟨G, mkH H C q dx, F.src, some (q, dx), []⟩ G' H' [] [])
    (h1 : H' q = some (.ins C dx (ns.zip us))) (h2 : ns.length = us.length) (h3 : H' dx = some (.own q)) (h4 : DdL K G' us vs) : R K F G' H' (some (.ref q) :: σ) (.oi C ns vs :: ρ) := by
  obtain ⟨os, h, nd, f⟩ := r.sl
  have nq := r.new hq
  have nx := r.new hd
  have is : ∀ b, InSrc ⟨G, mkH H C q dx, F.src, some (q, dx), []⟩ b → InSrc F b := fun b m => by
    rcases m with m | ⟨o, m⟩
    · exact .inl m
    · cases m
  have ex := mk_ex (C := C) hq hd ne
  have keep : ∀ b o, H b = some o → ¬ InSrc ⟨G, mkH H C q dx, F.src, some (q, dx), []⟩ b → H' b = some o := fun b o e n => c.fr b o (ex _ _ e) n fun ⟨a, c, z, m⟩ => by
    cases z
    rcases m with rfl | rfl
    · rw [hq] at e; cases e
    · rw [hd] at e; cases e
  have newG : ∀ b o, G' b = some o → G b = some o ∨ H b = none := fun b o e => by
    rcases c.nw b o e with z | z
    · exact .inl z
    · refine .inr ?_
      cases q2 : H b with
      | none => rfl
      | some u => exact absurd (show mkH H C q dx b = none from z) (by rw [ex _ _ q2]; simp)
  have gnone : ∀ b o, H b = some o → G b = none → G' b = none := fun b o e g => by
    cases q2 : G' b with
    | none => rfl
    | some u =>
      rcases newG b u q2 with z | z
      · rw [g] at z; cases z
      · rw [e] at z; cases z
  have gself : ∀ y, (y = q ∨ y = dx) → G' y = none := fun y hy => by
    have g0 : G y = none := by
      rcases hy with rfl | rfl
      · exact nq.1
      · exact nx.1
    have m0 : ∃ o, mkH H C q dx y = some o := by
      rcases hy with rfl | rfl
      · exact ⟨_, mk_q⟩
      · exact ⟨_, mk_d ne⟩
    cases q2 : G' y with
    | none => rfl
    | some u =>
      rcases c.nw y u q2 with z | z
      · exact absurd (show G y = some u from z) (by rw [g0]; simp)
      · obtain ⟨o, e⟩ := m0
        exact absurd (show mkH H C q dx y = none from z) (by rw [e]; simp)
  refine ⟨r.gg.tr c.gg, c.gh, fun b o e n1 n2 => keep b o (r.fr b o e n1 n2) fun m => n1 (is b m), fun b o e => ?_, fun b hb => ?_, fun a c' e => c.sr a c' e, fun y hy => ?_, c.nm, [q, dx] ++ os, .cons (.oi h1 h2 h3 h4 nq.2.1 nx.2.1) (h.keep c.gg fun y hy => ?_), ?_, fun y hy => ?_⟩
  · rcases newG b o e with z | z
    · exact r.nw b o z
    · exact .inr (r.new z).2.1
  · obtain ⟨o, e⟩ := r.th b hb
    by_cases m : InSrc ⟨G, mkH H C q dx, F.src, some (q, dx), []⟩ b
    · exact c.th b (.inl m)
    · exact ⟨o, keep b o e m⟩
  · obtain ⟨k1, k2, k3⟩ := r.kp y hy
    refine ⟨keep _ _ k1 fun m => ?_, gnone _ _ k1 k2, k3⟩
    rcases m with ⟨a, c', e, m⟩ | ⟨o, m⟩
    · rcases m with m | m
      · exact (k3 a c' e).1 m
      · exact (k3 a c' e).2 m
    · cases m
  · obtain ⟨o, e⟩ := h.inH y hy
    rw [e]; exact keep y o e fun m => (f y hy).2 (is y m)
  · have a1 := h.notIn hq
    have a2 := h.notIn hd
    refine List.nodup_append.mpr ⟨List.nodup_cons.mpr ⟨by simpa using Ne.symm ne, by simp⟩, nd, fun y hy z hz e => ?_⟩
    subst e
    rcases (by simpa using hy : y = q ∨ y = dx) with rfl | rfl
    · exact a1 _ hz rfl
    · exact a2 _ hz rfl
  · rcases List.mem_append.mp hy with m | m
    · have m : y = q ∨ y = dx := by simpa using m
      refine ⟨gself y m, ?_⟩
      rcases m with rfl | rfl
      · exact nq.2.2.1
      · exact nx.2.2.1
    · obtain ⟨o, e⟩ := h.inH y m
      exact ⟨gnone y o e (f y m).1, (f y m).2⟩
/-- C(e, .., k = v, ..): positional ones, then keywords that stand in the parameters' order -/
def dMakeK (C : Addr) (n m : Nat) (fi : FI) (tb bk : BT) : ET := fun ρ P => tb ρ fun ss ρ1 => ss.all argOk = true ∧ bk ρ1 fun zs ρ2 => zs.all argOk = true ∧ ss.length = n ∧ zs.length = m ∧ fi (ss ++ zs) fun ns vs => P (.oi C ns vs) ρ2
theorem makeGo {ws zs : List V} {ss zz : Env'} {P : Sl → Env' → Prop} {Q : VK} {E : XK} {q dx : Addr} (r : R K F G H ((ws ++ zs).map some ++ σ) ((ss ++ zz) ++ ρ)) (hl : (ws ++ zs).length = (ss ++ zz).length) (ha : (ss ++ zz).all argOk = true) (hn : (ss ++ zz).length + 1 = n)
    (h : fi (ss ++ zz) fun ns vs => P (.oi C ns vs) ρ) (hq : H q = none) (hd : H dx = none) (ne : dx ≠ q) (k : ∀ s v G' H', P s ρ → Ex G G' → R K F G' H' (some v :: σ) (s :: ρ) → Q v H') :
    spI K C n fi (.ref q :: (ws ++ zs)) (mkH H C q dx) (fun v H2 => v = .non ∧ Q (.ref q) H2) E := by
  refine ⟨q, dx, G, F.src, ws ++ zs, ss ++ zz, _, rfl, upd_same, mk_d ne, r.enterI (by rw [List.length_map]; exact hl) ha hq hd ne, ha, hn, h, fun ns ds us G2 H2 hp e2 g1 g2 g3 g4 c => ⟨rfl, ?_⟩⟩
  exact k _ _ _ _ hp e2 ((r.rest (by rw [List.length_map]; exact hl)).leaveI hq hd ne c g1 g2 g3 g4)
theorem pd_makeK {m : Nat} (M : Mk X.K C fa) (Fn : FnOk X.prog X.w X.K X.mg X.base CX0 k fa fd ps (spI X.K C (n + m + 1) fi)) (hr : Room (k + 1) X.A) (hg : Gl X x) (hm : X.mg x = some (.ref C)) (hb : KBn X.K fd ps (n + 1) ks (fun us ws => us ++ ws) (fun vs zs => vs ++ zs)) (ha : PA X (e :: es) (liftB X.K bb)) (hkw : PK X kws (liftB X.K bk)) (hkl : ks.length = m)
    (hall : (backToKw pos (keywordEach kws X.env)).all (·.1.isSome) = true := by rfl) (hks : (backToKw pos (keywordEach kws X.env)).filterMap (·.1) = ks := by rfl) (hdb : (x == ("__debug__" : Str)) = false := by decide)
    (he : starEach (e :: es) X.env = (false, eval e X.env) :: starEach es X.env := by rfl) (hpl : ((backTo pos (starEach (e :: es) X.env)).any (·.1) || (backToKw pos (keywordEach kws X.env)).any (·.1.isNone)) = false := by rfl) :
    PE X (.Call (.Name x p) (e :: es) kws pos) (lift X.K (dMakeK C n m fi bb bk)) := by
  subst hkl
  refine peImp (pe_makeK (n := n) M Fn hr hg hm hb pass0 ha hkw hall hks hdb he hpl) fun σ H Q ⟨F, G, ρ, P, r, h, q⟩ => ⟨F, G, ρ, _, r, h, fun ss ρ1 vs G1 H1 ⟨a1, h1⟩ e1 r1 l1 => ⟨F, G1, ρ1, _, r1.rest (by rw [List.length_map]; exact l1), h1, fun zz ρ2 zs G2 H2 ⟨a2, n1, n2, h2⟩ e2 r2 l2 => ⟨l1.trans n1, l2.trans n2, fun y dx hy hd ne => ?_⟩⟩⟩
  have r3 := R.pendAll _ r1 l1 a1 e2 r2
  refine makeGo (ws := vs) (zs := zs) (ss := ss) (zz := zz) (σ := σ) (ρ := ρ2) ?_ (by simp [l1, l2]) (by rw [List.all_append, a1, a2]; rfl) (by simp; omega) h2 hy hd ne fun s v G' H' p e3 r4 => q _ _ _ _ _ p ((e1.tr e2).tr e3) r4
  rw [List.map_append, List.append_assoc, List.append_assoc]
  exact r3
/-- C(e, ..) -/
def dMake (C : Addr) (n : Nat) (fi : FI) (tb : BT) : ET := fun ρ P => tb ρ fun ss ρ1 => ss.all argOk = true ∧ ss.length = n ∧ fi ss fun ns vs => P (.oi C ns vs) ρ1
theorem pd_make (M : Mk X.K C fa) (Fn : FnOk X.prog X.w X.K X.mg X.base CX0 k fa fd ps (spI X.K C (n + 1) fi)) (hr : Room (k + 1) X.A) (hg : Gl X x) (hm : X.mg x = some (.ref C)) (hb : Binds X.K fd ps []) (ha : PA X (e :: es) (liftB X.K bb))
    (hdb : (x == ("__debug__" : Str)) = false := by decide) (he : starEach (e :: es) X.env = (false, eval e X.env) :: starEach es X.env := by rfl) (hpl : (backTo pos (starEach es X.env)).any (·.1) = false := by rfl) :
    PE X (.Call (.Name x p) (e :: es) [] pos) (lift X.K (dMake C n fi bb)) :=
  peImp (pe_make M Fn hr hg hm hb .nil pass0 ha hdb he hpl) fun σ H Q ⟨F, G, ρ, P, r, h, q⟩ => ⟨F, G, ρ, _, r, h, fun ss ρ1 vs G1 H1 ⟨a1, n1, h1⟩ e1 r1 l1 => fun y dx hy hd ne => by
    rw [List.append_nil]
    have z := makeGo (ws := vs) (zs := []) (ss := ss) (zz := []) (σ := σ) (ρ := ρ1) (n := n + 1) (E := E0) (fi := fi) (C := C) (P := P) (Q := Q) (by rw [List.append_nil, List.append_nil]; exact r1) (by simp [l1]) (by rw [List.append_nil]; exact a1) (by rw [List.append_nil]; omega) (by rw [List.append_nil]; exact h1) hy hd ne fun s v G' H' p e3 r4 => q _ _ _ _ _ p (e1.tr e3) r4
    rw [List.append_nil] at z
    exact z⟩
/-- __init__ by its body -/
def BodyI (N : List Str) (C : Addr) (n : Nat) (t : ST) (fi : FI) : Prop := ∀ ss P, ss.all argOk = true → ss.length + 1 = n → fi ss P →
  t { nx := fun ρ => ∃ ns vs, ρ[0]? = some (.bi C ns vs) ∧ P ns vs, rt := fun _ => False } (.bi C [] [] :: ss ++ List.replicate (N.length - n) .no)
theorem liftS_startI {N : List Str} {t : ST} (hb : BodyI N C n t fi) {vs : List V} {H : Hp} {Q : VK} {E : XK} (h : spI K C n fi vs H Q E) : liftS K t { nx := fun _ H' => Q .non H', rt := Q } (L2.start N vs) H := by
  obtain ⟨q, dx, G, src, rest, ss, P, rfl, hq, hd, r, ha, hn, hf, k⟩ := h
  have e : (V.ref q :: rest).length = n := by have := r.len; rw [List.length_map] at this; simpa using this.trans hn
  refine ⟨⟨G, H, src, some (q, dx), []⟩, G, _, _, ?_, hb ss _ ha hn hf, ⟨fun σ ρ G' H' ⟨ns, vs, h0, hP⟩ e r' => ?_, fun σ ρ G' H' z => z.elim, fun σ ρ G' H' z => z.elim, fun s v σ ρ G' H' hP e r' => hP.elim⟩⟩
  · unfold L2.start
    rw [e]
    exact r.more _
  · obtain ⟨os, h, nd, f⟩ := r'.sl
    obtain ⟨v, os1, os2, e1, e2, e3, _⟩ := h.at h0
    cases e2 with
    | bi h1 h2 h3 h4 h5 =>
      cases h5
      exact k _ _ _ _ _ hP e h1 h2 h3 h4 r'.nil
end
end Fl
namespace Fl
open PySem PySem.Spec PySem.W PyProof.Rows L2

/-- as FnOk, of a stack on which no repr waits -/
structure FnG (P : Program) (w : World) (K : PySem.W.Frag) (mg : Str → Option Value) (base : Heap) (k : Nat) (f : Addr) (fd : FuncData) (ps : List Str) (sp : Sp) : Prop where
  len : ∀ vs H Q E, sp vs H Q E → vs.length = ps.length
  run : ∀ (A : Around) (outer : List Env) (s : Shared) (H : Hp) (args : Args) (us : List Value) (vs : List V) (Q : VK) (E : XK), A.guards = some [] → Room k A → Env0 P w K mg base A outer s H →
    BindsTo s fd args (ps.zip us) → Vals vs us → sp vs H Q E → codeAny (model P w) A (.call (.ref f) args) (CR CX0 outer P w H s Q E) s
section
variable {P : Program} {w : World} {K : PySem.W.Frag} {mg : Str → Option Value} {base : Heap}
theorem deeper_guards (A : Around) (env : Env) : (A.deeper env).guards = A.guards := rfl
/-- a def by its body; no repr waits ahead of it -/
theorem fnG_of {x qual : Str} {st : Stmt} {f : Addr} {fd : FuncData} {N ps : List Str} {k : Nat} {sp : Sp} (F : Fun K x qual st f fd) (S : FnScope N ps (defScope st)) (len : ∀ vs H Q E, sp vs H Q E → vs.length = ps.length)
    (body : ∀ (cdv : Value) (A : Around) (outer : List Env) (s : Shared) (H : Hp) (vs : List V) (Q : VK) (E : XK), (A.deeper (envOfC qual (defScope st) s.heap.objs.size f cdv)).guards = some [] → Room k (A.deeper (envOfC qual (defScope st) s.heap.objs.size f cdv)) → sp vs H Q E →
      ∃ t, PSs (cxOf CX0 P w K mg base N qual (defScope st) f cdv A outer s H E).nox (defBody st) t ∧ t { nx := fun _ H' => Q .non H', rt := Q } (L2.start N vs) H) : FnG P w K mg base (k + 1) f fd ps sp := by
  obtain ⟨oc, od, kV, doc, pm, an, cdv, ct, osl, hfd, lk, hcd⟩ := F.ex
  constructor
  · exact len
  intro A outer s H args us vs Q E hg hr e0 hb r hsp
  have lens : vs.length = ps.length := len vs H Q E hsp
  have kin : K.In s.heap := (e0.mod.kin).keeps (fun b o z => (e0.bs b o z).left)
  have nolim : s.heap.NoLimit := (e0.mod.nolimit).keeps (fun b o z => (e0.bs b o z).left)
  subst hfd
  apply codeAny_call_function hr.depth (kin f _ lk) rfl S.co S.gen rfl (PySem.W.codeRec_of kin hcd)
  apply hb
  have kinds : ∀ y ∈ ps.zip us, (defScope st).names.lookup y.1 = some .local ∨ ((defScope st).names.lookup y.1 = some .cell ∧ ((cellsFrom (s.heap.objs.size + 1) (defScope st).names []).lookup y.1).isSome = true) := by
    rintro ⟨nm, val⟩ hy
    have hin : nm ∈ ps := (List.of_mem_zip hy).1
    exact (S.par nm hin).imp id fun q => ⟨q, PySem.W.cellsFrom_some _ _ _ (Or.inl q)⟩
  apply wpAny_newFunctionEnv_cells S.kind kinds
  rintro env rfl s1 hx
  constructor
  · exact nolim.keeps hx.toInCall.keep
  apply codeAny_func
  obtain ⟨t, ht, hq⟩ := body cdv A outer s H vs Q E (by rw [deeper_guards]; exact hg) (hr.deeper _) hsp
  have I0 : Inv (cxOf CX0 P w K mg base N qual (defScope st) f cdv A outer s H E) [] (L2.start N vs) H s1 := inv_start S hr.hd e0 lens r hx
  have run := (PSs.nox ht).run [] s1 (L2.start N vs) H { nx := fun _ H' => Q .non H', rt := Q } I0 hq
  apply wpAny_mono run
  · intro fl s' hs
    cases fl with
    | ret u =>
      obtain ⟨v, σ', H', J, rv, q⟩ := hs
      exact ⟨v, H', J.os, J.bare, J.base, J.hok, rv, q⟩
    | next =>
      obtain ⟨σ', H', J, q⟩ := hs
      exact ⟨V.non, H', J.os, J.bare, J.base, J.hok, rfl, q⟩
    | brk =>
      obtain ⟨_, _, _, q⟩ := hs
      cases q
    | cont =>
      obtain ⟨_, _, _, q⟩ := hs
      cases q
  · exact fun e s' z => z
theorem FnG.of {k : Nat} {f : Addr} {fd : FuncData} {ps : List Str} {sp : Sp} (F : FnOk P w K mg base CX0 k f fd ps sp) : FnG P w K mg base k f fd ps sp := ⟨F.len, fun A outer s H args us vs Q E _ hr e hb r h => F.run A outer s H args us vs Q E hr e hb r h⟩
/-- the law's promise -/
def spLaw (K : PySem.W.Frag) : Sp := fun vs H Q _ => ∃ (a : Addr) (ns : List Int), vs = [.ref a] ∧ SqL K H a (ns.map V.int) ∧ ns.length ≤ 63 ∧ (∃ so, H sysModules = some (.frz so sysO)) ∧ ∀ H', Q (.bl true) H'

/-- what is tracked ahead of the law: the script (if the text itself has no such object), sys.modules' place -/
def lawH (so : Obj) (a : Addr) (o : Option HO) : Hp := fun b => if b = sysModules then some (.frz so sysO) else if b = a then o else none
theorem law_entry {mb : Str → Option Value} {k : Nat} {fa a : Addr} {fd : FuncData} {x : Str} {s₁ : Shared} {vs : List Value} {ns : List Int}
    (KX : K.In s₁.heap) (hns : s₁.heap.Ns mainGlobals mg) (hb : s₁.heap.Ns builtinsNs mb) (hbb : ∀ x : Str, x ≠ "__name__" → mb x = bootBuiltins x) (hlim : s₁.heap.NoLimit) (hg : s₁.gens = #[])
    (ha : s₁.heap.get? a = some { cls := .type "list", data := .seq vs.toArray }) (hi : IntsAre vs ns) (hl : ns.length ≤ 63) (hr : Room k callerA) (hsk : K.lookup sysModules = none)
    (hsy : ∃ mm, s₁.heap.Ns sysModules mm)
    (F : ∀ base : Heap, K.In base → base.Ns mainGlobals mg → FnG P w K mg base k fa fd [x] (spLaw K)) (hbind : ∀ (s : Shared) (u : Value), BindsTo s fd ⟨[u], []⟩ [(x, u)]) :
    codeAny (model P w) callerA (.call (.ref fa) ⟨[.ref a], []⟩) (fun r s' => r = .ok (.ret (.bool true)) ∧ OldK s₁.heap s'.heap ∧ s'.os = s₁.os ∧ AllBare s'.gens) s₁ := by
  have rv := L2.vals_ints hi
  have len : ns.length ≤ sizeLine := Nat.le_trans hl (by decide)
  obtain ⟨mm, om, em, pm, hom, dom, _⟩ := hsy
  have anm : a ≠ sysModules := fun e => by
    rw [e, hom] at ha
    cases ha
    cases (show PySem.Data.seq _ _ = PySem.Data.dict _ _ from dom)
  -- the heap that is told of: H, the script in it if the text does not hold it
  have main : ∀ o : Option HO, lawH om a o a = o → (∀ u, o = some u → u = .frz { cls := .type "list", data := .seq vs.toArray } (.lst (ns.map V.int)) ∧ K.lookup a = none) → SqL K (lawH om a o) a (ns.map V.int) →
      codeAny (model P w) callerA (.call (.ref fa) ⟨[.ref a], []⟩) (fun r s' => r = .ok (.ret (.bool true)) ∧ OldK s₁.heap s'.heap ∧ s'.os = s₁.os ∧ AllBare s'.gens) s₁ := by
    intro o hoa ho hS
    have at_ : ∀ b u, lawH om a o b = some u → (b = sysModules ∧ u = .frz om sysO) ∨ (b = a ∧ o = some u) := fun b u e => by
      unfold lawH at e
      by_cases q : b = sysModules
      · rw [if_pos q] at e; exact .inl ⟨q, (Option.some.inj e).symm⟩
      · rw [if_neg q] at e
        by_cases q2 : b = a
        · rw [if_pos q2] at e; exact .inr ⟨q2, e⟩
        · rw [if_neg q2] at e; cases e
    have un : ∀ {b : Addr}, b ≠ sysModules → (b = a → o = none) → lawH om a o b = none := fun {b} n1 n2 => by
      unfold lawH
      rw [if_neg n1]
      by_cases q2 : b = a
      · rw [if_pos q2]; exact n2 q2
      · rw [if_neg q2]
    have ok : HOk P w (lawH om a o) s₁.heap := fun b u e => by
      rcases at_ b u e with ⟨rfl, rfl⟩ | ⟨rfl, e2⟩
      · exact ⟨hom, ⟨om, hom⟩, ⟨om, hom⟩, fun h1 h2 ⟨o1, q1⟩ z => ⟨o1, z o1 q1⟩⟩
      · obtain ⟨rfl, _⟩ := ho u e2
        exact ⟨ha, by rw [List.length_map]; exact len, vs, _, rv, ha⟩
    -- what the text wrote is none of these
    have kN : ∀ b o', K.lookup b = some o' → lawH om a o b = none := fun b o' e => un (fun q => by rw [q, hsk] at e; cases e) fun q => by
      cases z : o with
      | none => rfl
      | some u => rw [q, (ho u z).2] at e; cases e
    have kB : K.In (hidT s₁.heap (lawH om a o)) := fun b o' e => hidT_get (KX b o' e) (kN b o' e)
    have nB : ∀ {b : Addr} {m : Str → Option Value}, b ≠ sysModules → s₁.heap.Ns b m → (hidT s₁.heap (lawH om a o)).Ns b m := fun {b m} n ⟨u, es, ep, e, d, r⟩ => by
      refine ⟨u, es, ep, hidT_get e (un n fun q => ?_), d, r⟩
      rw [q, ha] at e
      cases e
      cases (show PySem.Data.seq _ _ = PySem.Data.dict _ _ from d)
    have M : Mod K mg (hidT s₁.heap (lawH om a o)) := ⟨kB, nB (by decide) hns, ⟨mb, nB (by decide) hb, hbb⟩, let ⟨mc, h1, h2⟩ := hlim; ⟨mc, nB (by decide) h1, h2⟩⟩
    have E0 : Env0 P w K mg (hidT s₁.heap (lawH om a o)) callerA [] s₁ (lawH om a o) := ⟨rfl, M, fun b u e => of_hidT e, Nat.le_of_eq (hidT_size _ _), trivial, fun b z => absurd (show b ∈ ([] : List Addr) from z) (by simp), ok, .of_eq hg⟩
    refine codeAny_mono ((F _ kB (nB (by decide) hns)).run callerA [] s₁ (lawH om a o) ⟨[.ref a], []⟩ [.ref a] [.ref a] (fun v _ => v = .bl true) (fun _ _ _ => False) rfl hr E0 (hbind s₁ (.ref a)) (.cons rfl .nil) ⟨a, ns, rfl, hS, hl, ⟨om, if_pos rfl⟩, fun _ => rfl⟩) fun r s' z => ?_
    cases r with
    | error e => exact False.elim z
    | ok fl =>
      cases fl with
      | next => exact False.elim z
      | brk => exact False.elim z
      | cont => exact False.elim z
      | ret u =>
        obtain ⟨v, H', os, bare, keep, ok', ru, q⟩ := z
        subst q
        obtain rfl : u = Value.bool true := ru
        refine ⟨rfl, OldK.of_keep fun b u e => ?_, os, bare⟩
        cases z : lawH om a o b with
        | none => exact keep.keep b u e z (by intro q; exact absurd (show b ∈ ([] : List Addr) from q) (by simp)) (by simp)
        | some y =>
          have fz : ∃ t, y = .frz u t := by
            rcases at_ b y z with ⟨rfl, rfl⟩ | ⟨rfl, z2⟩
            · rw [hom] at e; cases e; exact ⟨_, rfl⟩
            · rw [ha] at e; cases e; exact ⟨_, (ho y z2).1⟩
          obtain ⟨t, rfl⟩ := fz
          exact (ok' b _ (keep.frzs b u t z)).1
  cases hk : K.lookup a with
  | some o =>
    have e := KX a o hk
    rw [ha] at e
    cases e
    exact main none (by unfold lawH; rw [if_neg anm, if_pos rfl]) (fun u e => nomatch e) (.inr ⟨_, vs.toArray, _, hk, rfl, rfl, rfl, by rw [List.size_toArray, hi.length]; exact len, by simpa using rv⟩)
  | none => exact main (some (.frz { cls := .type "list", data := .seq vs.toArray } (.lst (ns.map V.int)))) (by unfold lawH; rw [if_neg anm, if_pos rfl]) (fun u e => ⟨(Option.some.inj e).symm, hk⟩) (.inl (.inr ⟨_, by unfold lawH; rw [if_neg anm, if_pos rfl]⟩))
end
end Fl
namespace Fl
open PySem PySem.Spec L2

def keyR : Key → PyData
  | .inl i => .int i
  | .inr s => .str s
mutual
/-- data as repr sees them -/
def toR : D → PyData
  | .non => .none
  | .bl b => .bool b
  | .int i => .int i
  | .str s => .str s
  | .lst xs => .list (toRs xs)
  | .tup xs => .tuple (toRs xs)
  | .dic ks vs => .dict (toKv ks vs)
  | .ins _ _ _ => .none
def toRs : List D → List PyData
  | [] => []
  | x :: xs => toR x :: toRs xs
def toKv : List Key → List D → List (PyData × PyData)
  | k :: ks, x :: xs => (keyR k, toR x) :: toKv ks xs
  | _, _ => []
end
def keyWt : Key → Nat
  | .inl i => i.natAbs + 2
  | .inr s => 10 * s.length + 2
def keySk : Key → Bool
  | .inl _ => true
  | .inr s => PyData.strOk s
mutual
/-- no shorter than its repr -/
def wt : D → Nat
  | .non => 5
  | .bl _ => 5
  | .int i => i.natAbs + 2
  | .str s => 10 * s.length + 2
  | .lst xs => 3 + wts xs
  | .tup xs => 3 + wts xs
  | .dic ks vs => 3 + wtk ks vs
  | .ins _ _ _ => 0
def wts : List D → Nat
  | [] => 0
  | x :: xs => wt x + 2 + wts xs
def wtk : List Key → List D → Nat
  | k :: ks, x :: xs => keyWt k + 2 + wt x + 2 + wtk ks xs
  | _, _ => 0
end
mutual
/-- no instance within, at most n deep, keys of valid signs -/
def shw : Nat → D → Bool
  | _, .non => true
  | _, .bl _ => true
  | _, .int _ => true
  | _, .str s => PyData.strOk s
  | 0, _ => false
  | n + 1, .lst xs => shws n xs
  | n + 1, .tup xs => shws n xs
  | n + 1, .dic ks vs => ks.all keySk && shws n vs
  | _ + 1, .ins _ _ _ => false
def shws : Nat → List D → Bool
  | _, [] => true
  | n, x :: xs => shw n x && shws n xs
end
theorem shws_all : ∀ {n : Nat} {xs : List D}, shws n xs = xs.all (shw n)
  | _, [] => by unfold shws; rfl
  | n, x :: xs => by unfold shws; rw [List.all_cons, shws_all]
/-- the text -/
def reprD (x : D) : Str := PyData.shown (toR x)

theorem sok_app {a b : Str} (h1 : PyData.strOk a = true) (h2 : PyData.strOk b = true) : PyData.strOk (a ++ b) = true := by
  show (a.cps ++ b.cps).all _ = true
  rw [Array.all_append]
  exact Bool.and_eq_true_iff.mpr ⟨h1, h2⟩
theorem sok_of (z : String) : PyData.strOk (Str.ofString z) = true := by
  rw [Str.ofString_eq_toList]
  show ((z.toList.map Char.toNat).toArray).all _ = true
  rw [List.all_toArray, List.all_map, List.all_eq_true]
  intro c _
  refine decide_eq_true ?_
  have v := c.valid
  show c.val.toNat < 0x110000
  rcases v with v | v
  · exact Nat.lt_trans v (by decide)
  · exact v.2
theorem sok_cps {x : Str} : PyData.strOk x = true ↔ ∀ c ∈ x.cps.toList, c < 0x110000 := by
  unfold PyData.strOk
  rw [Array.all_eq_true_iff_forall_mem]
  constructor
  · intro h c hc; exact of_decide_eq_true (h c (by simpa using hc))
  · intro h c hc; exact decide_eq_true (h c (by simpa using hc))
theorem hex_ok (w c : Nat) : ∀ y ∈ List.replicate (w - ((Nat.toDigits 16 c).map Char.toNat).length) 48 ++ (Nat.toDigits 16 c).map Char.toNat, y < 0x110000 := by
  intro y hy
  rcases List.mem_append.mp hy with hy | hy
  · rw [List.mem_replicate] at hy; omega
  · obtain ⟨d, _, rfl⟩ := List.mem_map.mp hy
    show d.val.toNat < 0x110000
    rcases d.valid with v | v
    · exact Nat.lt_trans v (by decide)
    · exact v.2
theorem sign_ok {q c : Nat} (hc : c < 0x110000) : ∀ y ∈ Builtin.Str.reprChar q c, y < 0x110000 := by
  have h := fun w => hex_ok w c
  unfold Builtin.Str.reprChar
  dsimp only
  repeat' split
  all_goals intro y hy
  all_goals simp only [List.cons_append, List.nil_append, List.mem_cons, List.not_mem_nil, or_false] at hy
  all_goals first
    | omega
    | (rcases hy with hy | hy | hy; (omega); (omega); exact h _ y hy)
theorem fold_ok {q : Nat} : ∀ (l : List Nat) (acc : Array Nat), (∀ c ∈ l, c < 0x110000) → (∀ c ∈ acc.toList, c < 0x110000) → ∀ c ∈ (l.foldl (fun out c => out ++ (Builtin.Str.reprChar q c).toArray) acc).toList, c < 0x110000
  | [], _, _, h => h
  | y :: r, acc, h, g => by
    rw [List.foldl_cons]
    refine fold_ok r _ (fun c hc => h c (List.mem_cons_of_mem _ hc)) fun c hc => ?_
    rw [Array.toList_append, List.mem_append] at hc
    rcases hc with hc | hc
    · exact g c hc
    · exact sign_ok (h y (by simp)) c (by simpa using hc)
theorem sok_repr {x : Str} (h : PyData.strOk x = true) : PyData.strOk (PySem.reprText x) = true := by
  have h' := sok_cps.mp h
  have q : PySem.reprQuote x < 0x110000 := by unfold PySem.reprQuote; split <;> decide
  rw [sok_cps]
  show ∀ c ∈ ((x.cps.foldl (fun out c => out ++ (Builtin.Str.reprChar (PySem.reprQuote x) c).toArray) #[PySem.reprQuote x]).push (PySem.reprQuote x)).toList, c < 0x110000
  intro c hc
  rw [Array.toList_push, List.mem_append, ← Array.foldl_toList] at hc
  rcases hc with hc | hc
  · exact fold_ok x.cps.toList _ h' (fun y hy => by have e : y = PySem.reprQuote x := by simpa using hy
                                                    rw [e]; exact q) c hc
  · have e : c = PySem.reprQuote x := by simpa using hc
    rw [e]; exact q
theorem sok_join {a : Str} (ha : PyData.strOk a = true) : ∀ ts : List Str, (∀ t ∈ ts, PyData.strOk t = true) → PyData.strOk (Str.join a ts) = true
  | [], _ => sok_of ""
  | [x], h => h x (by simp)
  | x :: y :: r, h => sok_app (sok_app (h x (by simp)) ha) (sok_join ha (y :: r) fun t ht => h t (List.mem_cons_of_mem _ ht))
theorem sok_from : ∀ (ts : List Str) (k : Nat) (acc : Str), PyData.strOk acc = true → (∀ t ∈ ts, PyData.strOk t = true) → PyData.strOk (textFrom k acc ts) = true
  | [], _, _, h, _ => h
  | t :: r, k, acc, h, g => sok_from r (k + 1) _ (sok_app (sok_app h (by split <;> exact sok_of _)) (g t (by simp))) fun u hu => g u (List.mem_cons_of_mem _ hu)
theorem sok_key {k : Key} (h : keySk k = true) : PyData.strOk (PyData.shown (keyR k)) = true := by
  cases k with
  | inl i => simp only [keyR, PyData.shown]; exact sok_of _
  | inr s => simp only [keyR, PyData.shown]; exact sok_repr h
mutual
theorem sok_shown : ∀ (n : Nat) (x : D), shw n x = true → PyData.strOk (PyData.shown (toR x)) = true
  | _, .non, _ => by simp only [toR, PyData.shown]; exact sok_of _
  | _, .bl b, _ => by simp only [toR, PyData.shown]; split <;> exact sok_of _
  | _, .int i, _ => by simp only [toR, PyData.shown]; exact sok_of _
  | n, .str s, h => by simp only [toR, PyData.shown]; exact sok_repr (by cases n <;> simpa [shw] using h)
  | 0, .lst _, h => by simp [shw] at h
  | 0, .tup _, h => by simp [shw] at h
  | 0, .dic _ _, h => by simp [shw] at h
  | 0, .ins _ _ _, h => by simp [shw] at h
  | n + 1, .ins _ _ _, h => by simp [shw] at h
  | n + 1, .lst xs, h => by
    simp only [toR, PyData.shown]
    exact sok_app (sok_from _ _ _ (sok_of _) (sok_all n xs (by simpa only [shw] using h))) (sok_of _)
  | n + 1, .tup xs, h => by
    simp only [toR, PyData.shown]
    exact sok_app (sok_app (sok_of _) (sok_join (sok_of _) _ (sok_all n xs (by simpa only [shw] using h)))) (by split <;> exact sok_of _)
  | n + 1, .dic ks vs, h => by
    simp only [toR, PyData.shown]
    have h' : ks.all keySk = true ∧ shws n vs = true := by simpa only [shw, Bool.and_eq_true] using h
    exact sok_app (sok_app (sok_of _) (sok_join (sok_of _) _ (sok_kv n ks vs h'.1 h'.2))) (sok_of _)
theorem sok_all : ∀ (n : Nat) (xs : List D), shws n xs = true → ∀ t ∈ PyData.shownAll (toRs xs), PyData.strOk t = true
  | _, [], _ => by simp [toRs, PyData.shownAll]
  | n, x :: xs, h => by
    simp only [shws, Bool.and_eq_true] at h
    simp only [toRs, PyData.shownAll, List.mem_cons]
    rintro t (rfl | ht)
    · exact sok_shown n x h.1
    · exact sok_all n xs h.2 t ht
theorem sok_kv : ∀ (n : Nat) (ks : List Key) (xs : List D), ks.all keySk = true → shws n xs = true → ∀ t ∈ PyData.shownKv (toKv ks xs), PyData.strOk t = true
  | _, [], xs, _, _ => by simp [toKv, PyData.shownKv]
  | _, _ :: _, [], _, _ => by simp [toKv, PyData.shownKv]
  | n, k :: ks, x :: xs, g, h => by
    simp only [shws, Bool.and_eq_true] at h
    rw [List.all_cons, Bool.and_eq_true] at g
    simp only [toKv, PyData.shownKv, List.mem_cons]
    rintro t (rfl | ht)
    · exact sok_app (sok_app (sok_key g.1) (sok_of _)) (sok_shown n x h.1)
    · exact sok_kv n ks xs g.2 h.2 t ht
end
theorem lt8_of {x : Str} (h : PyData.strOk x = true) : ∀ c ∈ x.cps.toList, c < 16 ^ 8 := fun c hc => Nat.lt_trans (sok_cps.mp h c hc) (by decide)
theorem wt_int (i : Int) : (Str.ofString (toString i)).length ≤ i.natAbs + 2 := by have := PyProof.Rows.len_str_of_int i; omega
theorem wt_key {k : Key} (h : keySk k = true) : (PyData.shown (keyR k)).length ≤ keyWt k := by
  cases k with
  | inl i => simp only [keyR, PyData.shown]; exact wt_int i
  | inr s => simp only [keyR, PyData.shown]; exact StrLaws.reprText_len s (lt8_of h)
theorem join_le (a : Str) (h : a.length ≤ 2) : ∀ ts : List Str, (Str.join a ts).length ≤ piled ts
  | [] => Nat.zero_le _
  | [x] => by show x.length ≤ piled [x]; simp [piled]
  | x :: y :: r => by
    have ih := join_le a h (y :: r)
    show (x ++ a ++ Str.join a (y :: r)).length ≤ _
    rw [strLen_append, strLen_append, piled_cons]
    omega
mutual
theorem wt_shown : ∀ (n : Nat) (x : D), shw n x = true → (PyData.shown (toR x)).length ≤ wt x
  | _, .non, _ => by simp only [toR, PyData.shown, wt]; decide
  | _, .bl b, _ => by simp only [toR, PyData.shown, wt]; cases b <;> decide
  | _, .int i, _ => by simp only [toR, PyData.shown, wt]; exact wt_int i
  | n, .str s, h => by simp only [toR, PyData.shown, wt]; exact StrLaws.reprText_len s (lt8_of (by cases n <;> simpa [shw] using h))
  | 0, .lst _, h => by simp [shw] at h
  | 0, .tup _, h => by simp [shw] at h
  | 0, .dic _ _, h => by simp [shw] at h
  | 0, .ins _ _ _, h => by simp [shw] at h
  | n + 1, .ins _ _ _, h => by simp [shw] at h
  | n + 1, .lst xs, h => by
    have ih := wt_all n xs (by simpa only [shw] using h)
    simp only [toR, PyData.shown, wt]
    unfold listText
    rw [strLen_append]
    have e2 : (Str.ofString "]").length = 1 := rfl
    have e3 : (Str.ofString "[").length = 1 := rfl
    cases e : PyData.shownAll (toRs xs) with
    | nil =>
      show ("[" : Str).length + _ ≤ _
      omega
    | cons t ts =>
      have := textFrom_length_pos ts 1 (("[" : Str) ++ (if 0 > 0 then ", " else "" : String) ++ t) (by decide)
      show (textFrom 1 (("[" : Str) ++ (if 0 > 0 then ", " else "" : String) ++ t) ts).length + _ ≤ _
      rw [this, strLen_append, strLen_append]
      have e4 : (Str.ofString (if 0 > 0 then ", " else "" : String)).length = 0 := rfl
      rw [e, piled_cons] at ih
      omega
  | n + 1, .tup xs, h => by
    have ih := wt_all n xs (by simpa only [shw] using h)
    simp only [toR, PyData.shown, wt]
    unfold tupleText
    rw [strLen_append, strLen_append]
    have e2 : ((if (PyData.shownAll (toRs xs)).length == 1 then ",)" else ")" : String) : Str).length ≤ 2 := by split <;> decide
    have e3 : (Str.ofString "(").length = 1 := rfl
    have := join_le ", " (by decide) (PyData.shownAll (toRs xs))
    omega
  | n + 1, .dic ks vs, h => by
    have h' : ks.all keySk = true ∧ shws n vs = true := by simpa only [shw, Bool.and_eq_true] using h
    have ih := wt_kv n ks vs h'.1 h'.2
    simp only [toR, PyData.shown, wt]
    unfold dictText
    rw [strLen_append, strLen_append]
    have e2 : (Str.ofString "}").length = 1 := rfl
    have e3 : (Str.ofString "{").length = 1 := rfl
    have := join_le ", " (by decide) (PyData.shownKv (toKv ks vs))
    omega
theorem wt_all : ∀ (n : Nat) (xs : List D), shws n xs = true → piled (PyData.shownAll (toRs xs)) ≤ wts xs
  | _, [], _ => Nat.zero_le _
  | n, x :: xs, h => by
    simp only [shws, Bool.and_eq_true] at h
    have a := wt_shown n x h.1
    have b := wt_all n xs h.2
    simp only [toRs, PyData.shownAll, wts]
    rw [piled_cons]
    omega
theorem wt_kv : ∀ (n : Nat) (ks : List Key) (xs : List D), ks.all keySk = true → shws n xs = true → piled (PyData.shownKv (toKv ks xs)) ≤ wtk ks xs
  | _, [], xs, _, _ => by simp only [toKv, PyData.shownKv]; exact Nat.zero_le _
  | _, _ :: _, [], _, _ => by simp only [toKv, PyData.shownKv]; exact Nat.zero_le _
  | n, k :: ks, x :: xs, g, h => by
    simp only [shws, Bool.and_eq_true] at h
    rw [List.all_cons, Bool.and_eq_true] at g
    have a := wt_shown n x h.1
    have b := wt_kv n ks xs g.2 h.2
    have c := wt_key g.1
    simp only [toKv, PyData.shownKv, wtk]
    rw [piled_cons, strLen_append, strLen_append]
    have e2 : (Str.ofString ": ").length = 2 := rfl
    omega
end
theorem log_of {i : Int} (h : i.natAbs ≤ 1000000) : i.natAbs.log2 < 1920 := by
  by_cases e : i.natAbs = 0
  · rw [e]; decide
  · exact (Nat.log2_lt e).mpr (Nat.lt_of_le_of_lt h (Nat.lt_of_lt_of_le (by decide : 1000000 < 2 ^ 20) (Nat.pow_le_pow_right (by decide) (by decide))))
mutual
theorem able_of : ∀ (n : Nat) (x : D), shw n x = true → wt x ≤ 1000000 → PyData.showable (toR x) = true ∧ (toR x).depth ≤ n
  | _, .non, _, _ => ⟨rfl, Nat.zero_le _⟩
  | _, .bl b, _, _ => ⟨rfl, Nat.zero_le _⟩
  | _, .int i, _, h => ⟨by simp only [toR, PyData.showable]; exact decide_eq_true (log_of (by simp only [wt] at h; omega)), by simp only [toR, PyData.depth]; exact Nat.zero_le _⟩
  | _, .str s, _, _ => ⟨rfl, Nat.zero_le _⟩
  | 0, .lst _, h, _ => by simp [shw] at h
  | 0, .tup _, h, _ => by simp [shw] at h
  | 0, .dic _ _, h, _ => by simp [shw] at h
  | 0, .ins _ _ _, h, _ => by simp [shw] at h
  | n + 1, .ins _ _ _, h, _ => by simp [shw] at h
  | n + 1, .lst xs, h, hw => by
    have ih := able_all n xs (by simpa only [shw] using h) (by simp only [wt] at hw; omega)
    simp only [toR, PyData.showable, PyData.depth]
    exact ⟨ih.1, by omega⟩
  | n + 1, .tup xs, h, hw => by
    have ih := able_all n xs (by simpa only [shw] using h) (by simp only [wt] at hw; omega)
    simp only [toR, PyData.showable, PyData.depth]
    exact ⟨ih.1, by omega⟩
  | n + 1, .dic ks vs, h, hw => by
    have h' : ks.all keySk = true ∧ shws n vs = true := by simpa only [shw, Bool.and_eq_true] using h
    have ih := able_kv n ks vs h'.2 (by simp only [wt] at hw; omega)
    simp only [toR, PyData.showable, PyData.depth]
    exact ⟨ih.1, by omega⟩
theorem able_all : ∀ (n : Nat) (xs : List D), shws n xs = true → wts xs ≤ 1000000 → PyData.showableAll (toRs xs) = true ∧ PyData.depthAll (toRs xs) ≤ n
  | _, [], _, _ => ⟨rfl, Nat.zero_le _⟩
  | n, x :: xs, h, hw => by
    simp only [shws, Bool.and_eq_true] at h
    simp only [wts] at hw
    have a := able_of n x h.1 (by omega)
    have b := able_all n xs h.2 (by omega)
    simp only [toRs, PyData.showableAll, PyData.depthAll, a.1, b.1]
    exact ⟨rfl, by omega⟩
theorem able_kv : ∀ (n : Nat) (ks : List Key) (xs : List D), shws n xs = true → wtk ks xs ≤ 1000000 → PyData.showableKv (toKv ks xs) = true ∧ PyData.depthKv (toKv ks xs) ≤ n
  | _, [], xs, _, _ => by simp only [toKv]; exact ⟨rfl, Nat.zero_le _⟩
  | _, _ :: _, [], _, _ => by simp only [toKv]; exact ⟨rfl, Nat.zero_le _⟩
  | n, k :: ks, x :: xs, h, hw => by
    simp only [shws, Bool.and_eq_true] at h
    simp only [wtk] at hw
    have a := able_of n x h.1 (by omega)
    have b := able_kv n ks xs h.2 (by omega)
    have c : PyData.showable (keyR k) = true ∧ PyData.depth (keyR k) = 0 := by
      cases k with
      | inl i => simp only [keyR, PyData.showable, PyData.depth]; exact ⟨decide_eq_true (log_of (by simp only [keyWt] at hw; omega)), trivial⟩
      | inr s => simp only [keyR, PyData.showable, PyData.depth]; exact ⟨trivial, trivial⟩
    simp only [toKv, PyData.showableKv, PyData.depthKv, a.1, b.1, c.1, c.2]
    exact ⟨rfl, by omega⟩
end
end Fl
namespace Fl
open PySem PySem.Spec PyProof.Rows L2

section
variable {X : Cx} {pins : List (Addr × Obj)} {σ : L2.St} {G H : Hp} {s : Shared}
theorem keys_read : ∀ {es : List DictEntry} {us : List (Key × Value)}, Pairs (mixKind X.prog X.w) es us → ReadsAll s.heap (es.map (·.key)) (us.map fun y => keyR y.1) []
  | _, _, .nil => .nil
  | e :: es, (k, v) :: us, .cons h _ t => by
    have ih := keys_read t
    have hk : Reads s.heap e.key (keyR k) [] := by
      rcases keyIs_shape (show keyIs k e.key = true from h) with ⟨i, t, rfl, q⟩ | ⟨x, t, rfl, q⟩
      · rw [q]; exact .int i t
      · rw [q]; exact .str x t
    exact .cons (as := []) hk ih
theorem vals_pairs : ∀ {es : List DictEntry} {us : List (Key × Value)}, Pairs (mixKind X.prog X.w) es us → es.map (·.val) = us.map (·.2)
  | _, _, .nil => rfl
  | e :: es, (k, v) :: us, .cons _ h t => by
    rw [List.map_cons, List.map_cons, vals_pairs t]
    exact congrArg (· :: _) h
theorem kv_split : ∀ {ks : List Key} {vs : List V} {us : List (Key × Value)}, ks.length = vs.length → KV (ks.zip vs) us → us.map (·.1) = ks ∧ Vals vs (us.map (·.2))
  | [], [], _, _, .nil => ⟨rfl, .nil⟩
  | k :: ks, v :: vs, _, hl, .cons (b := (k', u)) h t => by
    obtain ⟨a, b⟩ := kv_split (by simpa using hl) t
    obtain ⟨e, r⟩ := h
    exact ⟨by rw [List.map_cons, a]; exact congrArg (· :: ks) (Eq.symm e), .cons r b⟩
theorem toKv_1 : ∀ {ks : List Key} {xs : List D}, ks.length = xs.length → (toKv ks xs).map (·.1) = ks.map keyR ∧ (toKv ks xs).map (·.2) = toRs xs
  | [], [], _ => ⟨by simp only [toKv]; rfl, by simp only [toKv, toRs]; rfl⟩
  | k :: ks, x :: xs, h => by
    obtain ⟨a, b⟩ := toKv_1 (ks := ks) (xs := xs) (by simpa using h)
    simp only [toKv, toRs, List.map_cons, a, b, and_self]
mutual
/-- what the object is read as -/
theorem Dd.reads (I : Inv X pins σ H s) (gh : Ex G H) (nm : ∃ so, H sysModules = some (.frz so sysO)) : ∀ {n : Nat} {v : V} {x : D} {u : Value}, Dd X.K G v x → shw n x = true → RelV v u → ∃ as, Reads s.heap u (toR x) as ∧ sysModules ∉ as
  | _, _, _, _, .non, _, r => by cases r; exact ⟨_, by unfold toR; exact Reads.none, by simp⟩
  | _, _, _, _, .bl b, _, r => by cases r; exact ⟨_, by unfold toR; exact Reads.bool b, by simp⟩
  | _, _, _, _, .int i, _, r => by obtain ⟨t, rfl⟩ := r; exact ⟨_, by unfold toR; exact Reads.int i t, by simp⟩
  | _, _, _, _, .str x _, _, r => by obtain ⟨t, rfl⟩ := r; exact ⟨_, by unfold toR; exact Reads.str x t, by simp⟩
  | 0, _, _, _, .lst _ _, h, _ => by simp [shw] at h
  | 0, _, _, _, .tup _ _, h, _ => by simp [shw] at h
  | 0, _, _, _, .dic _ _ _ _, h, _ => by simp [shw] at h
  | 0, _, _, _, .ins _ _ _ _, h, _ => by simp [shw] at h
  | n + 1, _, _, _, .ins _ _ _ _, h, _ => by simp [shw] at h
  | n + 1, _, .lst xs, _, .lst (a := a) g t, h, r => by
    cases r
    obtain ⟨its, rv, ⟨o, m, ho, hc, _, hd⟩, _⟩ := I.list (.of (gh _ _ g))
    obtain ⟨as, hr, hn⟩ := DdL.reads I gh nm t (by simpa only [shw] using h) rv
    refine ⟨_, by unfold toR; exact Reads.list ho hc hd hr, fun m => ?_⟩
    rcases List.mem_cons.mp m with e | m
    · obtain ⟨so, z⟩ := nm
      rw [e] at z; rw [gh _ _ g] at z; cases z
    · exact hn m
  | n + 1, _, .tup xs, _, .tup g t, h, r => by
    cases r
    obtain ⟨its, rv, ⟨o, ho, hc, m, hd⟩, _⟩ := I.tuple (sqT_ex gh g)
    obtain ⟨as, hr, hn⟩ := DdL.reads I gh nm t (by simpa only [shw] using h) rv
    exact ⟨_, by unfold toR; exact Reads.tuple ho hc hd hr, hn⟩
  | n + 1, _, .dic ks vs, _, .dic (a := a) (us := us) g l nd t, h, r => by
    cases r
    have h' : ks.all keySk = true ∧ shws n vs = true := by simpa only [shw, Bool.and_eq_true] using h
    obtain ⟨_, hs, ws, kv, o, es, ep, ho, hx, hd, _, hp, _⟩ := I.hok a _ (gh _ _ g)
    obtain ⟨e1, rv⟩ := kv_split l kv
    obtain ⟨as, hr, hn⟩ := DdL.reads I gh nm t h'.2 rv
    have q := toKv_1 (ks := ks) (xs := vs) (l.trans t.len)
    have r1 : ReadsAll s.heap (es.toList.map (·.key)) ((toKv ks vs).map (·.1)) [] := by
      have := keys_read (s := s) hp
      rw [q.1]
      have e2 : (ws.map fun y => keyR y.1) = ks.map keyR := by rw [← e1, List.map_map]; rfl
      rw [← e2]; exact this
    have r2 : ReadsAll s.heap (es.toList.map (·.val)) ((toKv ks vs).map (·.2)) as := by
      rw [q.2, vals_pairs hp]; exact hr
    refine ⟨_, by unfold toR; exact Reads.dict ho hx.1 hd r1 r2, fun m => ?_⟩
    have m' : sysModules = a ∨ sysModules ∈ as := by simpa using m
    rcases m' with e | m
    · rw [← e] at hs; cases hs
    · exact hn m
theorem DdL.reads (I : Inv X pins σ H s) (gh : Ex G H) (nm : ∃ so, H sysModules = some (.frz so sysO)) : ∀ {n : Nat} {vs : List V} {xs : List D} {us : List Value}, DdL X.K G vs xs → shws n xs = true → Vals vs us → ∃ as, ReadsAll s.heap us (toRs xs) as ∧ sysModules ∉ as
  | _, _, _, _, .nil, _, r => by cases r; exact ⟨_, by unfold toRs; exact ReadsAll.nil, by simp⟩
  | n, _, x :: xs, _, .cons a t, h, r => by
    simp only [shws, Bool.and_eq_true] at h
    cases r with
    | cons r1 r2 =>
      obtain ⟨as, h1, n1⟩ := Dd.reads I gh nm a h.1 r1
      obtain ⟨bs, h2, n2⟩ := DdL.reads I gh nm t h.2 r2
      exact ⟨_, by unfold toRs; exact ReadsAll.cons h1 h2, fun m => (List.mem_append.mp m).elim n1 n2⟩
end

def rRepr (K : PySem.W.Frag) : List V → Hp → VK → Prop := fun vs H Q => ∃ (G : Hp) (v : V) (x : D), vs = [v] ∧ Dd K G v x ∧ Ex G H ∧ (∃ so, H sysModules = some (.frz so sysO)) ∧ shw 60 x = true ∧ wt x ≤ 100000 ∧ Q (.str (reprD x)) H
theorem call_reprD {k : Nat} (hr : Room k X.A) (hg : X.A.guards = some []) : CallR X (.builtin "repr") (rRepr X.K) := by
  intro pins s σ H xs us Q I r h
  obtain ⟨G, v, x, rfl, d, gh, nm, hs, hw, q⟩ := h
  obtain ⟨u, rfl, rx⟩ := vals1 r
  obtain ⟨as, hd, hn⟩ := Dd.reads I gh nm d hs rx
  obtain ⟨h1, h2⟩ := able_of 60 x hs (by omega)
  have h3 : (PyData.shown (toR x)).length ≤ sizeLine := Nat.le_trans (wt_shown 60 x hs) (Nat.le_trans hw (by decide))
  have fin : ∀ (h' : Heap) (t t' : Tok), (∀ b o, s.heap.get? b = some o → h'.get? b = some o) → EP X pins σ Q (.str (PyData.shown (toR x)) t) { s with heap := h', toks := t' } := fun h' t t' k => ⟨.str (reprD x), H, I.kept k, ⟨t, rfl⟩, q⟩
  have far : ∀ {a : Addr}, u = .ref a → wpAny (model X.prog X.w) X.A (call (.builtin "repr") [u]) (EP X pins σ Q) X.xe s := fun {a} e => by
    subst e
    have hu := hr.units
    exact repr_of_reads' hd h1 (fun _ => hn) hg (by have := hr.un; omega) (fun _ _ e => e) (fun h' t t' k => fin h' t t' k) h3
  cases d with
  | non =>
    cases rx
    exact PySem.P.repr_of_none (by have := fin s.heap s.toks (s.toks + 1) fun _ _ e => e; simpa only [toR, PyData.shown] using this)
  | bl b =>
    cases rx
    exact PySem.P.repr_of_bool (by have := fin s.heap s.toks (s.toks + 1) fun _ _ e => e; simpa only [toR, PyData.shown] using this)
  | int i =>
    obtain ⟨t, rfl⟩ := rx
    exact PySem.P.repr_of_int (log_of (by simp only [wt] at hw; omega)) (by have := fin s.heap s.toks (s.toks + 1) fun _ _ e => e; simpa only [toR, PyData.shown] using this)
  | str z _ =>
    obtain ⟨t, rfl⟩ := rx
    exact PySem.P.repr_of_str (by have := fin s.heap s.toks (s.toks + 1) fun _ _ e => e; simpa only [toR, PyData.shown] using this) (by simpa only [toR, PyData.shown] using h3)
  | lst _ _ => cases rx; exact far rfl
  | tup _ _ => cases rx; exact far rfl
  | dic _ _ _ _ => cases rx; exact far rfl
  | ins _ _ _ _ => cases rx; exact far rfl
/-- repr(x) -/
def cRepr : RCd := fun xs P => ∃ x, xs = [x] ∧ shw 60 x = true ∧ wt x ≤ 100000 ∧ P (.d (.str (reprD x)))
theorem cd_repr {k : Nat} (hr : Room k X.A) (hg : X.A.guards = some []) : CallD X (.builtin "repr") cRepr := by
  refine CallR.ofD (call_reprD hr hg) fun {F G H σ ρ vs xs P Q} r d h k => ?_
  obtain ⟨x, rfl, h1, h2, p⟩ := h
  obtain ⟨v, rfl, dv⟩ := d.one
  refine ⟨G, v, x, rfl, dv, r.gh, r.nm, h1, h2, k _ _ _ _ p .rfl (r.push (.str _ ?_))⟩
  have a := sok_shown 60 x h1
  have b := wt_shown 60 x h1
  exact sOk_of a (Nat.le_trans b (by omega))
end
end Fl
namespace Fl
open PySem PySem.W L2
open PyProof.Rows (envOfC)
section
variable {K : PySem.W.Frag} {G H H' : Hp} {σ : St} {ρ : Env'} {a c : Addr}
theorem SrcAt.ne (s : SrcAt H a c) : a ≠ c := by
  obtain ⟨i, m, ns, h1, h2, _⟩ := s
  intro e
  subst e
  rw [h1] at h2
  cases ns with
  | nil => cases h2
  | cons n ns => cases h2
/-- drawn from: nothing but the source has changed -/
theorem R.drawn (r : R K ⟨G, H, some (a, c), none, []⟩ G H σ ρ) (hk : ∀ b, b ≠ a → b ≠ c → H' b = H b) (hs : SrcAt H' a c) (j : Int) : R K ⟨G, H, some (a, c), none, []⟩ G H' [some (.int j)] [.d (.int j)] := by
  obtain ⟨s, ga, gc⟩ := r.sr a c rfl
  obtain ⟨i, m, ns, h1, h2, _⟩ := s
  have ne : ∀ {b : Addr} {o : HO}, H b = some o → ¬ InSrc ⟨G, H, some (a, c), none, []⟩ b → H' b = some o := fun {b o} e n => by
    rw [hk b (fun q => n (.inl ⟨a, c, rfl, .inl q⟩)) (fun q => n (.inl ⟨a, c, rfl, .inr q⟩))]; exact e
  refine ⟨.rfl, fun b o e => ?_, fun b o e n _ => ne e n, fun b o e => .inl e, fun b hb => ?_, fun a' c' e => ?_, fun q hq => (by cases hq), ?_, [], .cons (os := []) (ps := []) (.d (.int j)) .nil, List.nodup_nil, by simp⟩
  · rw [hk b (fun q => by rw [q, ga] at e; cases e) (fun q => by rw [q, gc] at e; cases e)]; exact r.gh b o e
  · obtain ⟨i', m', ns', g1, g2, _⟩ := hs
    rcases hb with (⟨a', c', e, q⟩ | ⟨o, q⟩) | ⟨a', c', e, q⟩
    · cases e
      rcases q with rfl | rfl
      · exact ⟨_, g1⟩
      · exact ⟨_, g2⟩
    · cases q
    · cases e
  · cases e
    exact ⟨hs, ga, gc⟩
  · obtain ⟨so, e⟩ := r.nm
    refine ⟨so, ?_⟩
    rw [hk sysModules (fun q => by rw [q, h1] at e; cases e) (fun q => by rw [q, h2] at e; cases e)]; exact e
/-- the promise of a draw below m -/
def ftDraw : FT := fun ss P => ∃ m : Int, ss = [.src, .d (.int m)] ∧ 0 < m ∧ m < 1000000000 ∧ ∀ r : Int, 0 ≤ r → r < m → P (.d (.int r))
/-- what the draw's body sees, what it must bring about -/
theorem draw_of {vs : List V} {Q : VK} {E : XK} (h : spD K 2 ftDraw vs H Q E) : ∃ (a c : Addr) (m i j : Int) (ns : List Int), vs = [.ref a, .int m] ∧ 0 < m ∧ m < 1000000000 ∧ a ≠ c ∧ H a = some (.lst [.ref c, .int i, .int j]) ∧ H c = some (.lst (ns.map V.int)) ∧ ns ≠ [] ∧ ns.length ≤ 63 ∧
    ∀ (r : Int) (H' : Hp), 0 ≤ r → r < m → (∀ b, b ≠ a → b ≠ c → H' b = H b) → SrcAt H' a c → Q (.int r) H' := by
  obtain ⟨G, src, ss, P, r, _, _, ⟨m, rfl, m0, m1, k⟩, q⟩ := h
  obtain ⟨os, hs, _, _⟩ := id r.sl
  have hv := r.len
  rw [List.length_map] at hv
  rcases vs with _ | ⟨v, _ | ⟨u, _ | ⟨_, _⟩⟩⟩
  · cases hv
  · cases hv
  · have hs' : Sls K ⟨G, H, src, none, []⟩ G H [some v, some u] [.src, .d (.int m)] os := hs
    cases hs' with
    | cons x t =>
      cases t with
      | cons y t =>
        cases x with
        | @src a c e =>
          cases y with
          | d y =>
            cases y
            have e : src = some (a, c) := e
            subst e
            obtain ⟨s, _, _⟩ := r.sr a c rfl
            obtain ⟨i, j, ns, h1, h2, h3, h4⟩ := id s
            exact ⟨a, c, m, i, j, ns, rfl, m0, m1, s.ne, h1, h2, h3, h4, fun z H' z0 z1 hk hs' => q _ _ G H' (k z z0 z1) .rfl (r.drawn hk hs' z)⟩
  · simp at hv
end
section
variable {X : Cx} {a : Expr} {ta : ET} {pos : Pos}
def dNeg (ta : ET) : ET := fun ρ P => ta ρ fun s ρ1 => ∃ i, s = .d (.int i) ∧ P (.d (.int (-i))) ρ1
theorem pd_neg (ha : PE X a (lift X.K ta)) : PE X (.UnaryOp .USub a pos) (lift X.K (dNeg ta)) :=
  peImp (pe_un un_neg ha) fun σ H Q ⟨F, G, ρ, P, r, h, k⟩ => ⟨F, G, ρ, _, r, h, fun x ρ1 v G1 H1 ⟨i, hx, q⟩ e1 r1 => by
    subst hx
    rw [r1.topInt]
    exact ⟨i, rfl, k _ _ _ _ _ q e1 (r1.pop.push (.int _))⟩⟩
end
section
variable {P : Program} {w : World} {K : PySem.W.Frag} {mg : Str → Option Value} {base : Heap} {x qual : Str} {st : Stmt} {f : Addr} {fd : FuncData} {N ps : List Str} {k n : Nat} {ft : FT}
theorem spD_len {vs : List V} {H : Hp} {Q : VK} {E : XK} (h : spD K n ft vs H Q E) : vs.length = n := by
  obtain ⟨G, src, ss, P, r, ha, hl, hf, k⟩ := h
  have := r.len
  rw [List.length_map] at this
  omega
/-- a def by its body's data reading -/
theorem fun_d (F : Fun K x qual st f fd) (S : FnScope N ps (defScope st)) (hn : ps.length = n)
    (hb : ∀ (cdv : Value) (A : Around) (outer : List Env) (s : Shared) (H : Hp) (E : XK), Room k (A.deeper (envOfC qual (defScope st) s.heap.objs.size f cdv)) →
      ∃ t, PSs (cxOf CX0 P w K mg base N qual (defScope st) f cdv A outer s H E).nox (defBody st) (liftS K t) ∧ Body N n t ft) : FnOk P w K mg base CX0 (k + 1) f fd ps (spD K n ft) := by
  refine F.ok S (fun vs H Q E h => (spD_len h).trans hn.symm) fun cdv A outer s H vs Q E hr h => ?_
  obtain ⟨t, h1, h2⟩ := hb cdv A outer s H E hr
  exact ⟨_, h1, liftS_start h2 h⟩
theorem fun_g (F : Fun K x qual st f fd) (S : FnScope N ps (defScope st)) (hn : ps.length = n)
    (hb : ∀ (cdv : Value) (A : Around) (outer : List Env) (s : Shared) (H : Hp) (E : XK), (A.deeper (envOfC qual (defScope st) s.heap.objs.size f cdv)).guards = some [] → Room k (A.deeper (envOfC qual (defScope st) s.heap.objs.size f cdv)) →
      ∃ t, PSs (cxOf CX0 P w K mg base N qual (defScope st) f cdv A outer s H E).nox (defBody st) (liftS K t) ∧ Body N n t ft) : FnG P w K mg base (k + 1) f fd ps (spD K n ft) := by
  refine fnG_of F S (fun vs H Q E h => (spD_len h).trans hn.symm) fun cdv A outer s H vs Q E hg hr h => ?_
  obtain ⟨t, h1, h2⟩ := hb cdv A outer s H E hg hr
  exact ⟨_, h1, liftS_start h2 h⟩
theorem fun_i {C : Addr} {fi : FI} (F : Fun K x qual st f fd) (S : FnScope N ps (defScope st)) (hn : ps.length = n)
    (hb : ∀ (cdv : Value) (A : Around) (outer : List Env) (s : Shared) (H : Hp) (E : XK), Room k (A.deeper (envOfC qual (defScope st) s.heap.objs.size f cdv)) →
      ∃ t, PSs (cxOf CX0 P w K mg base N qual (defScope st) f cdv A outer s H E).nox (defBody st) (liftS K t) ∧ BodyI N C n t fi) (hl : ∀ vs H Q E, spI K C n fi vs H Q E → vs.length = n) : FnOk P w K mg base CX0 (k + 1) f fd ps (spI K C n fi) := by
  refine F.ok S (fun vs H Q E h => (hl vs H Q E h).trans hn.symm) fun cdv A outer s H vs Q E hr h => ?_
  obtain ⟨t, h1, h2⟩ := hb cdv A outer s H E hr
  exact ⟨_, h1, liftS_startI h2 h⟩
theorem ifB {A B : Prop} {c : Bool} (h1 : c = true → A) (h2 : c = false → B) : if c = true then A else B := by
  cases c with
  | true => exact (if_pos rfl).mpr (h1 rfl)
  | false => exact (if_neg Bool.false_ne_true).mpr (h2 rfl)
end
end Fl
namespace Fl
open PySem L2
section
variable {X : Cx} {K : PySem.W.Frag} {F : Fr} {G G' H H' : Hp} {σ : St} {ρ : Env'} {pos : Pos} {e a b c : Expr} {te ta tb tcc : ET} {k : Nat}

def loopK (gd : GT) (tt : TTd) (tk tv : ET) (vs : List Nat) (P : Sl → Env' → Prop) : List D → List Key → List D → Env' → Prop
  | [], ks, us, ρ => P (.od ks us) ρ
  | x :: xs, ks, us, ρ => gd (.d x) ρ fun ρ1 => tt ρ1 fun b ρ2 => if b = true then tk ρ2 fun s ρ3 => ∃ y, s.dat = some y ∧ tv ρ3 fun s2 ρ4 => ∃ z, s2.dat = some z ∧ ∃ j, keyD y = some j ∧ ks.length < 1000000 ∧
      loopK gd tt tk tv vs P xs (putD ks us j z).1 (putD ks us j z).2 (wipeD ρ4 vs) else loopK gd tt tk tv vs P xs ks us (wipeD ρ2 vs)
def dDc (ti : AT) (gd : GT) (tt : TTd) (tk tv : ET) (vs : List Nat) : ET := fun ρ P => ti ρ fun xs ρ1 => loopK gd tt tk tv vs P xs [] [] (wipeD ρ1 vs)
theorem dcWalk {J : It} {n : Nat} {Gp : Hp → Prop} {Y : Nat → Hp → V → Hp → Prop} (w : Walk J n Gp Y) {g : TG} {tt : TT} {tk tv : TE} {vs : List Nat} {σ : St} {H1 : Hp} {D : Addr} {Q : VK} (Pv : Nat → Hp → Prop) (h0 : Pv 0 (upd H1 D (.dK []))) (hG : ∀ i H, i ≤ n → Pv i H → Gp H)
    (hs : ∀ i x H H', i < n → Pv i H → Y i H x H' → g x (L2.wipe σ vs) H' fun σ2 H2 => L2.wipe σ2 vs = L2.wipe σ vs ∧ tt σ2 H2 fun b H3 =>
      if b = true then tk σ2 H3 fun y H4 => tv σ2 H4 fun z H5 => ∃ kvs k, y = kV k ∧ H5 D = some (.dK kvs) ∧ kvs.length < sizeLine ∧ Pv (i + 1) (upd H5 D (.dK (putK kvs k z))) else Pv (i + 1) H3) (hd : ∀ H, Pv n H → Q (.ref D) H) :
    ∃ W : Nat → Nat → Hp → Prop, (∃ m, W 0 m (upd H1 D (.dK []))) ∧ ∀ i m H, W i m H →
      (J.stop i H ∧ Q (.ref D) H) ∨ (J.go i H ∧ ∃ Nx : Hp → Prop, (∀ H', Nx H' → ∃ m', m' < m ∧ W (i + 1) m' H') ∧ ∀ x H', J.yld i H x H' → g x (L2.wipe σ vs) H' fun σ2 H2 => L2.wipe σ2 vs = L2.wipe σ vs ∧ tt σ2 H2 fun b H3 =>
        if b = true then tk σ2 H3 fun y H4 => tv σ2 H4 fun z H5 => ∃ kvs k, y = kV k ∧ H5 D = some (.dK kvs) ∧ kvs.length < sizeLine ∧ Nx (upd H5 D (.dK (putK kvs k z))) else Nx H3) := by
  refine ⟨fun i m H => Pv i H ∧ i ≤ n ∧ m + i = n, ⟨n, h0, Nat.zero_le _, rfl⟩, fun i m H h => ?_⟩
  obtain ⟨p, hi, hm⟩ := h
  have q := hG i H hi p
  rcases Nat.lt_or_ge i n with lt | ge
  · exact .inr ⟨w.goes i H lt q, Pv (i + 1), fun H' p' => ⟨m - 1, by omega, p', lt, by omega⟩, fun x H' y => hs i x H H' lt p (w.yields i H x H' lt q y)⟩
  · obtain rfl : i = n := by omega
    exact .inl ⟨w.stops H q, hd H p⟩
theorem dcGo {ti : AT} {g0 : TG} {gd : GT} {is vs : List Nat} {tt : TTd} {tk tv : ET} {Q : VK} (ht : Tgt K g0 gd is) (hv : ∀ i ∈ is, i ∈ vs) {P : Sl → Env' → Prop} (r : R K F G H σ ρ) (h : dDc ti gd tt tk tv vs ρ P)
    (k : ∀ s ρ' v G' H', P s ρ' → Ex G G' → R K F G' H' (some v :: σ) (s :: ρ') → Q v H') : tDc (liftI K ti) g0 (liftT K tt) (lift K tk) (lift K tv) vs σ H Q :=
  ⟨F, G, ρ, _, r, h, fun xs ρ1 G1 H1 J h1 e1 r1 ⟨Gp, Y, wk, wg, wy⟩ => fun Dl hD => by
    refine dcWalk wk (fun i H' => ∃ G' ρ' us ks acc, Ex G1 G' ∧ H' Dl = some (.dK (ks.zip us)) ∧ ks.length = us.length ∧ ks.Nodup ∧ DdL K G' us acc ∧ R K (F.aside Dl (.dK (ks.zip us))) G' H' (L2.wipe σ vs) ρ' ∧ F.H0 Dl = none ∧ ¬ InSrc F Dl ∧ (∀ i ∈ vs, i < ρ'.length → ρ'[i]? = some .no) ∧ loopK gd tt tk tv vs P (xs.drop i) ks acc ρ') ?_ (fun i H' _ ⟨G', ρ', us, ks, acc, e, _, _, _, _, r', _⟩ => wg e r') (fun i x H' H2 hi ⟨G', ρ', us, ks, acc, e, hd, hl, nd, da, r', n1, n2, nv, l⟩ y => ?_) fun H' ⟨G', ρ', us, ks, acc, e, hd, hl, nd, da, r', n1, n2, nv, l⟩ => ?_
    · have r2 := (r1.wipe vs).dic (ks := []) (us := []) hD rfl List.nodup_nil .nil
      obtain ⟨p, us, ep, h3, h4, h5, h6, r3, n1, n2⟩ := r2.asideD
      cases ep
      have hu : us = [] := List.length_eq_zero_iff.mp h4.symm
      subst hu
      exact ⟨G1, _, [], [], [], .rfl, upd_same, rfl, List.nodup_nil, .nil, r3, n1, n2, fun i hi hl => wipeD_no hi (by rw [wipeD_len] at hl; exact hl), h1⟩
    · obtain ⟨d, G2, ed, e2, r2⟩ := wy e r' y hi
      rw [drop_cons ed] at l
      refine ht.up r2 l fun σ3 ρ3 G3 H3 p3 e3 r3 w3 => ⟨?_, ?_⟩
      · rw [w3 vs hv]
        exact wipe_wipe vs σ
      · have w4 : L2.wipe σ3 vs = L2.wipe σ vs := by
          rw [w3 vs hv]
          exact wipe_wipe vs σ
        refine goT r3 p3 fun b ρ4 G4 H4 q4 e4 r4 => ?_
        have back : ∀ {G5 H5 o5} {ρ5 : Env'}, R K (F.aside Dl o5) G5 H5 σ3 ρ5 → R K (F.aside Dl o5) G5 H5 (L2.wipe σ vs) (wipeD ρ5 vs) := fun {G5 H5 o5 ρ5} z => by
          have := z.wipe vs
          rwa [w4] at this
        cases b with
        | true =>
          refine goD r4 q4 fun y1 ρ5 u1 G5 H5 q5 e5 r5 d5 => goD r5 q5 fun z ρ6 v G6 H6 ⟨j, hj, hz, q6⟩ e6 r6 d6 => ?_
          have kp := r6.kp (Dl, .dK (ks.zip us)) (by simp [Fr.aside])
          have eG : Ex G' G6 := ((((e2.tr e3).tr e4).tr e5).tr e6)
          obtain ⟨us', g1, g2, g3, g4, _⟩ := put_of (i := j) hl nd (da.ex eG) d6
          refine ⟨ks.zip us, j, (d5.key hj), kp.1, by rw [List.length_zip]; exact Nat.lt_of_le_of_lt (Nat.min_le_left _ _) (Nat.lt_trans hz (by decide)), G6, wipeD ρ6 vs, us', (putD ks acc j z).1, (putD ks acc j z).2, e.tr eG, by rw [g1]; exact upd_same, g2, g3, g4, ?_, n1, n2, fun i hi hl => wipeD_no hi (by rw [wipeD_len] at hl; exact hl), q6⟩
          have r7 := back r6
          rw [g1]
          have r8 := r7.unset (o' := .dK ((putD ks acc j z).1.zip us')) (s := .od (putD ks acc j z).1 (putD ks acc j z).2) n1 n2 (fun _ z => nomatch z) (.od upd_same g2 g3 g4 n1)
          obtain ⟨p, us2, ep, h3, h4, h5, h6, r9, _, _⟩ := r8.asideD
          cases ep
          rw [upd_same] at h3
          rw [← Option.some.inj h3] at r9
          exact r9
        | false =>
          have kp := r4.kp (Dl, .dK (ks.zip us)) (by simp [Fr.aside])
          exact ⟨G4, wipeD ρ4 vs, us, ks, acc, ((e.tr e2).tr e3).tr e4, kp.1, hl, nd, da.ex ((e2.tr e3).tr e4), back r4, n1, n2, fun i hi hl => wipeD_no hi (by rw [wipeD_len] at hl; exact hl), q4⟩
    · rw [List.drop_length] at l
      have r7 := r'.unset (o' := .dK (ks.zip us)) (s := .od ks acc) n1 n2 (fun _ z => nomatch z) (.od upd_same hl nd da n1)
      rw [upd_self hd] at r7
      refine k _ _ _ _ _ l (e1.tr e) ?_
      obtain ⟨F', r8, f⟩ := r7.pend rfl
      exact f .rfl (R.unwipe r8 nv)⟩
theorem pd_dc {kx vx tg iter : Expr} {ifs : List Expr} {scope : Scope} {own : List (Str × Nat)} {ti : AT} {g0 : TG} {gd : GT} {is : List Nat} {tt : TTd} {tk tv : ET} (hc : X.calm = true) (hN : X.N.Nodup) (hi : PI X tg iter (liftI X.K ti)) (ok : BlkOk X.N X.env.scope scope own)
    (hg : ∀ (s : Shared) (H : Hp) (C : Addr) (cl : List (Str × Addr)) (fp : List Addr), PG (X.blk s H scope (compEnvC scope cl C X.env) fp) tg g0) (ht : Tgt X.K g0 gd is) (hv : ∀ i ∈ is, i ∈ own.map (·.2))
    (hts : ∀ (s : Shared) (H : Hp) (C : Addr) (cl : List (Str × Addr)) (fp : List Addr), PTs (X.blk s H scope (compEnvC scope cl C X.env) fp) ifs (liftT X.K tt))
    (hk : ∀ (s : Shared) (H : Hp) (C : Addr) (cl : List (Str × Addr)) (fp : List Addr), PE (X.blk s H scope (compEnvC scope cl C X.env) fp) kx (lift X.K tk))
    (he : ∀ (s : Shared) (H : Hp) (C : Addr) (cl : List (Str × Addr)) (fp : List Addr), PE (X.blk s H scope (compEnvC scope cl C X.env) fp) vx (lift X.K tv)) (hs : ∀ x, foldedSetIterable iter X.env x = pure x := by intro _; rfl) :
    PE X (.DictComp kx vx [⟨tg, iter, ifs, 0⟩] scope pos) (lift X.K (dDc ti gd tt tk tv (own.map (·.2)))) :=
  peImp (pe_dc hc hN hi ok hg hts hk he hs) fun σ H Q ⟨F, G, ρ, P, r, h, k⟩ => dcGo ht hv r h k

def timesS (x : Str) (n : Nat) : Str := ⟨(List.replicate n x.cps).foldl (· ++ ·) #[]⟩
def rTimes : R2 := fun x y H Q => ∃ (z : Str) (n : Int), x = .str z ∧ y = .int n ∧ 2 ≤ n ∧ n ≤ 1000 ∧ 1 ≤ z.length ∧ z.length ≤ 1000 ∧ (timesS z n.toNat).length ≤ sizeLine ∧ Q (.str (timesS z n.toNat)) H
theorem op_times : OpR X (binaryOp .Mult) rTimes := by
  intro pins s σ H x y v u Q I rx ry h
  obtain ⟨z, n, rfl, rfl, h1, h2, h3, h4, h5, q⟩ := h
  obtain ⟨t, rfl⟩ := rx
  obtain ⟨t', rfl⟩ := ry
  have n1 : ¬ n < 1 := by omega
  have e1 : (n == 1 || z.length == 0) = false := by
    rw [Bool.or_eq_false_iff]
    exact ⟨beq_eq_false_iff_ne.mpr (by omega), beq_eq_false_iff_ne.mpr (by omega)⟩
  refine PySem.P.mul_str ?_ (fun _ _ => ?_) (fun _ _ => ?_) ?_
  · rw [decide_eq_false (by omega), decide_eq_false (by omega)]; rfl
  · have : (2 ^ 63 - 1 : Int) / n ≥ (2 ^ 63 - 1) / 1000 := by
      refine Int.le_ediv_of_mul_le (by omega) ?_
      have : (2 ^ 63 - 1 : Int) / 1000 * n ≤ (2 ^ 63 - 1 : Int) / 1000 * 1000 := Int.mul_le_mul_of_nonneg_left h2 (by decide)
      omega
    omega
  · have : z.length * n.toNat ≤ 1000 * 1000 := Nat.mul_le_mul h4 (by omega)
    unfold Builtin.Str.tooLong
    exact decide_eq_false (by have : sizeLine = 2 ^ 24 := rfl; omega)
  · rw [if_neg n1, e1]
    simp only [Bool.false_eq_true, if_false]
    exact ⟨h5, ⟨.str _, H, I.tok _, ⟨_, rfl⟩, q⟩⟩
def dTimes : RO := fun x y P => ∃ (z : Str) (n : Int), x = .str z ∧ y = .int n ∧ 2 ≤ n ∧ n ≤ 1000 ∧ 1 ≤ z.length ∧ z.length ≤ 1000 ∧ sOk (timesS z n.toNat) = true ∧ P (.d (.str (timesS z n.toNat)))
theorem od_times : OpD X (binaryOp .Mult) dTimes := by
  refine OpR.ofD op_times ?_
  intro F G H σ ρ vx vy x y P Q r hx hy h k
  obtain ⟨z, n, rfl, rfl, h1, h2, h3, h4, h5, p⟩ := h
  cases hx
  cases hy
  exact ⟨z, n, rfl, rfl, h1, h2, h3, h4, Nat.le_trans (sOk_2 h5) (by decide), k _ _ _ _ p .rfl (r.push (.str _ h5))⟩
end
end Fl
namespace Fl
open PySem L2

section
variable {gd : GT} {tt : TTd} {te : ET} {vs : List Nat} {P : Sl → Env' → Prop} {ρ : Env'}
/-- a comprehension by a relation of what is done and what is gathered -/
theorem loopC_inv (I : List D → List D → Prop) (hl : ∀ pre acc, I pre acc → acc.length < 1000000) : ∀ (xs pre acc : List D), I pre acc →
    (∀ p x q a, pre ++ xs = p ++ x :: q → I p a → ∀ (Qs : Sl → Env' → Prop) (Q0 : Env' → Prop), (∀ s y ρ', s.dat = some y → wipeD ρ' vs = ρ → I (p ++ [x]) (a ++ [y]) → Qs s ρ') → (∀ ρ', wipeD ρ' vs = ρ → I (p ++ [x]) a → Q0 ρ') →
      gd (.d x) ρ fun ρ1 => tt ρ1 fun b ρ2 => if b = true then te ρ2 Qs else Q0 ρ2) →
    (∀ a, I (pre ++ xs) a → P (.ol a) ρ) → loopC gd tt te vs P xs acc ρ
  | [], pre, acc, h0, _, hd => hd acc (by rw [List.append_nil]; exact h0)
  | x :: xs, pre, acc, h0, hs, hd => by
    unfold loopC
    have go := fun a' (h : I (pre ++ [x]) a') => loopC_inv I hl xs (pre ++ [x]) a' h (fun p y q a e => hs p y q a (by rw [← e]; simp)) fun a h => hd a (by simpa using h)
    exact hs pre x xs acc rfl h0 _ _ (fun s y ρ' hy hw hI => ⟨y, hy, hl pre acc h0, by rw [hw]; exact go _ hI⟩) fun ρ' hw hI => by rw [hw]; exact go _ hI
/-- every item gives one value -/
theorem loopC_map (f : D → D) {xs : List D} (hn : xs.length < 1000000) (hs : ∀ x ∈ xs, ∀ (Qs : Sl → Env' → Prop), (∀ s ρ', s.dat = some (f x) → wipeD ρ' vs = ρ → Qs s ρ') → gd (.d x) ρ fun ρ1 => te ρ1 Qs) (hd : P (.ol (xs.map f)) ρ) :
    loopC gd dYes te vs P xs [] ρ := by
  refine loopC_inv (fun p a => a = p.map f ∧ p.length ≤ xs.length) (fun p a h => by rw [h.1, List.length_map]; omega) xs [] [] ⟨rfl, Nat.zero_le _⟩ (fun p x q a e h Qs Q0 k _ => ?_) fun a h => by rw [h.1]; exact hd
  have e : xs = p ++ x :: q := e
  have hx : x ∈ xs := by rw [e]; simp
  have := hs x hx Qs fun s ρ' h1 h2 => k s _ ρ' h1 h2 ⟨by rw [h.1]; simp, by rw [e]; simp⟩
  exact this
/-- every item gives a value of which something is known -/
theorem loopC_rel (Rf : D → D → Prop) {xs : List D} (hn : xs.length < 1000000) (hs : ∀ x ∈ xs, ∀ (Qs : Sl → Env' → Prop), (∀ s y ρ', s.dat = some y → Rf x y → wipeD ρ' vs = ρ → Qs s ρ') → gd (.d x) ρ fun ρ1 => te ρ1 Qs)
    (hd : ∀ ys, ys.length = xs.length → (∀ y ∈ ys, ∃ x ∈ xs, Rf x y) → P (.ol ys) ρ) : loopC gd dYes te vs P xs [] ρ := by
  refine loopC_inv (fun p a => a.length = p.length ∧ p.length ≤ xs.length ∧ ∀ y ∈ a, ∃ x ∈ xs, Rf x y) (fun p a h => by omega) xs [] [] ⟨rfl, Nat.zero_le _, by simp⟩ (fun p x q a e h Qs Q0 k _ => ?_) fun a h => hd a h.1 h.2.2
  have e : xs = p ++ x :: q := e
  have hx : x ∈ xs := by rw [e]; simp
  have := hs x hx Qs fun s y ρ' h1 h2 h3 => k s y ρ' h1 h3 ⟨by simp [h.1], by rw [e]; simp, fun z hz => ?_⟩
  · exact this
  · rcases List.mem_append.mp hz with hz | hz
    · exact h.2.2 z hz
    · have : z = y := by simpa using hz
      exact ⟨x, hx, by rw [this]; exact h2⟩
/-- the items that pass a test -/
theorem loopC_filter (t : D → Bool) {xs : List D} (hn : xs.length < 1000000) (hs : ∀ x ∈ xs, ∀ (Qs : Sl → Env' → Prop) (Q0 : Env' → Prop), (t x = true → ∀ s ρ', s.dat = some x → wipeD ρ' vs = ρ → Qs s ρ') → (t x = false → ∀ ρ', wipeD ρ' vs = ρ → Q0 ρ') →
      gd (.d x) ρ fun ρ1 => tt ρ1 fun b ρ2 => if b = true then te ρ2 Qs else Q0 ρ2) (hd : P (.ol (xs.filter t)) ρ) : loopC gd tt te vs P xs [] ρ := by
  refine loopC_inv (fun p a => a = p.filter t ∧ p.length ≤ xs.length) (fun p a h => by rw [h.1]; have := List.length_filter_le t p; omega) xs [] [] ⟨rfl, Nat.zero_le _⟩ (fun p x q a e h Qs Q0 k1 k0 => ?_) fun a h => by rw [h.1]; exact hd
  have e : xs = p ++ x :: q := e
  have hx : x ∈ xs := by rw [e]; simp
  have hl : (p ++ [x]).length ≤ xs.length := by rw [e]; simp
  refine hs x hx Qs Q0 (fun ht s ρ' h1 h2 => k1 s x ρ' h1 h2 ⟨?_, hl⟩) fun ht ρ' h2 => k0 ρ' h2 ⟨?_, hl⟩
  · rw [h.1, List.filter_append]; simp [ht]
  · rw [h.1, List.filter_append]; simp [ht]
end
section
variable {gd : GT} {tb : ST} {E : DE}
/-- a loop by an invariant of what is done -/
theorem loopS_inv (I : List D → Env' → Prop) : ∀ (xs pre : List D) (ρ : Env'), I pre ρ →
    (∀ p x q ρ, pre ++ xs = p ++ x :: q → I p ρ → ∀ (Nx : Env' → Prop), (∀ ρ', I (p ++ [x]) ρ' → Nx ρ') → gd (.d x) ρ fun ρ1 => tb { E with nx := Nx, ct := Nx, bk := E.nx } ρ1) → (∀ ρ, I (pre ++ xs) ρ → E.nx ρ) → loopS gd tb E xs ρ
  | [], pre, ρ, h0, _, hd => hd ρ (by rw [List.append_nil]; exact h0)
  | x :: xs, pre, ρ, h0, hs, hd => by
    unfold loopS
    exact hs pre x xs ρ rfl h0 _ fun ρ' h => loopS_inv I xs (pre ++ [x]) ρ' h (fun p y q ρ e => hs p y q ρ (by rw [← e]; simp)) fun ρ h => hd ρ (by simpa using h)
/-- .. that does not look at it -/
theorem loopS_same (I : Env' → Prop) {xs : List D} {ρ : Env'} (h0 : I ρ) (hs : ∀ x ∈ xs, ∀ ρ, I ρ → ∀ (Nx : Env' → Prop), (∀ ρ', I ρ' → Nx ρ') → gd (.d x) ρ fun ρ1 => tb { E with nx := Nx, ct := Nx, bk := E.nx } ρ1) (hd : ∀ ρ, I ρ → E.nx ρ) : loopS gd tb E xs ρ :=
  loopS_inv (fun _ => I) xs [] ρ h0 (fun p x q ρ e h Nx k => hs x (by rw [show xs = p ++ x :: q from e]; simp) ρ h Nx k) hd
end
theorem eqD_len {xs ys : List D} : (PyData.eqvAll (toPys xs) (toPys ys) = true) → xs.length = ys.length := by
  induction xs generalizing ys with
  | nil =>
    intro h
    cases ys with
    | nil => rfl
    | cons y ys => simp [toPys, PyData.eqvAll] at h
  | cons x xs ih =>
    intro h
    cases ys with
    | nil => simp [toPys, PyData.eqvAll] at h
    | cons y ys =>
      simp only [toPys, PyData.eqvAll, Bool.and_eq_true] at h
      simp [ih h.2]
theorem eqD_nil (xs : List D) : eqD (.lst xs) (.lst []) = xs.isEmpty := by
  cases xs with
  | nil => rfl
  | cons x xs => rfl
theorem eqD_str (a b : Str) : eqD (.str a) (.str b) = (a == b) := by
  simp only [eqD, toPy, PyData.eqv]
theorem eqD_int (a b : Int) : eqD (.int a) (.int b) = (a == b) := by
  simp only [eqD, toPy, PyData.eqv]
theorem eqvAll_strs : ∀ (xs ys : List Str), PyData.eqvAll (toPys (xs.map D.str)) (toPys (ys.map D.str)) = decide (xs = ys)
  | [], [] => rfl
  | [], y :: ys => rfl
  | x :: xs, [] => rfl
  | x :: xs, y :: ys => by
    simp only [List.map_cons, toPys, PyData.eqvAll, toPy, PyData.eqv, eqvAll_strs xs ys]
    by_cases h : x = y
    · subst h
      by_cases h2 : xs = ys
      · simp [h2]
      · simp [h2]
    · simp [h]
theorem ok_flat {n : Nat} {x : D} (h : flat x = true) : ok n x = true := by
  cases x <;> first | (cases n <;> rfl) | cases h
theorem ok_strs (n : Nat) (xs : List Str) : ok (n + 1) (.lst (xs.map D.str)) = true ∧ ok (n + 1) (.tup (xs.map D.str)) = true := by
  have h : (xs.map D.str).all (ok n) = true := List.all_eq_true.mpr fun y hy => by
    obtain ⟨s, _, rfl⟩ := List.mem_map.mp hy
    exact ok_flat rfl
  exact ⟨h, h⟩
theorem flat_strs (xs : List Str) : (xs.map D.str).all flat = true := List.all_eq_true.mpr fun y hy => by
    obtain ⟨s, _, rfl⟩ := List.mem_map.mp hy
    rfl
theorem inD_strs (s : Str) (xs : List Str) : inD (.str s) (xs.map D.str) = decide (s ∈ xs) := by
  unfold inD
  rw [List.any_map]
  induction xs with
  | nil => simp
  | cons x xs ih =>
    rw [List.any_cons, ih]
    have : ((fun y => eqD y (D.str s)) ∘ D.str) x = (x == s) := eqD_str x s
    rw [this]
    by_cases h : x = s
    · subst h; simp
    · have h2 : ¬ s = x := fun e => h e.symm
      simp [h, h2]
theorem in_strs (s : Str) (xs : List Str) : inSeq (.str s) (.lst (xs.map D.str)) = some (decide (s ∈ xs)) ∧ inSeq (.str s) (.tup (xs.map D.str)) = some (decide (s ∈ xs)) := by
  have h : (flat (.str s) && (xs.map D.str).all flat) = true := by rw [flat_strs]; rfl
  exact ⟨by show (if _ then _ else _) = _; rw [if_pos h, inD_strs], by show (if _ then _ else _) = _; rw [if_pos h, inD_strs]⟩
end Fl
namespace Fl
open PySem L2
section
variable {X : Cx} {K : PySem.W.Frag} {F : Fr} {G G' H H' : Hp} {σ : St} {ρ : Env'} {pos p1 : Pos} {e a b c : Expr} {te ta tb tcc : ET} {k i n : Nat} {x : Str}
/-- e (not) in x, x an own list -/
def dOwnIn (neg : Bool) (i : Nat) (te : ET) : ET := fun ρ P => te ρ fun s ρ1 => ∃ d, s.dat = some d ∧ flat d = true ∧ ∃ xs, ρ1[i]? = some (.ol xs) ∧ xs.all flat = true ∧ P (.d (.bl (if neg then !inD d xs else inD d xs))) ρ1
theorem pd_ownNotIn (ho : PE X (.Name x p1) (tVar i)) (he : PE X e (lift X.K te)) (hm : behindInMarks .NotIn (.Name x p1) = false := by first | rfl | exact nomark _) : PE X (.Compare e [.NotIn] [.Name x p1] pos) (lift X.K (dOwnIn true i te)) :=
  peImp (pe_cmpR op_notIn_seq he ho hm) fun σ H Q ⟨F, G, ρ, P, r, h, k⟩ => goD r h fun d ρ1 v G1 H1 ⟨f1, xs, hx, f2, q⟩ e1 r1 d1 => by
    obtain ⟨p, us, t1, t2, t3⟩ := r1.sl_at hx
    exact ⟨.ref p, t1, ⟨_, _, rfl, .inl (.of t2), d1.flatV f1, t3.flatV f2, by rw [t3.inV d1 f1 f2]; exact k _ _ _ _ _ q e1 (r1.push (.bl _))⟩⟩
theorem pd_ownIn (ho : PE X (.Name x p1) (tVar i)) (he : PE X e (lift X.K te)) (hm : behindInMarks .In (.Name x p1) = false := by first | rfl | exact nomark _) : PE X (.Compare e [.In] [.Name x p1] pos) (lift X.K (dOwnIn false i te)) :=
  peImp (pe_cmpR op_in_seq he ho hm) fun σ H Q ⟨F, G, ρ, P, r, h, k⟩ => goD r h fun d ρ1 v G1 H1 ⟨f1, xs, hx, f2, q⟩ e1 r1 d1 => by
    obtain ⟨p, us, t1, t2, t3⟩ := r1.sl_at hx
    exact ⟨.ref p, t1, ⟨_, _, rfl, .inl (.of t2), d1.flatV f1, t3.flatV f2, by rw [t3.inV d1 f1 f2]; exact k _ _ _ _ _ q e1 (r1.push (.bl _))⟩⟩
theorem spI_len {C : Addr} {fi : FI} {vs : List V} {Q : VK} {E : XK} (h : spI K C n fi vs H Q E) : vs.length = n := by
  obtain ⟨q, dx, G, src, rest, ss, P, rfl, hq, hd, r, ha, hn, hf, k⟩ := h
  have := r.len
  rw [List.length_map] at this
  simpa using this.trans hn
theorem var_dat {s : Sl} {x : D} {P : Sl → Env' → Prop} (h : ρ[i]? = some s) (hd : s.dat = some x) (p : P (.d x) (ρ.set i (.d x))) : dVar i ρ P := by
  unfold dVar
  rw [h]
  cases s <;> first | (cases hd; exact p) | cases hd
theorem len_le1000 {n : Nat} (h : n ≤ 1000) : n ≤ 1000 := h
end
end Fl
namespace Fl
open PySem L2
theorem isT_str (x : D) : isT "str" x = (match x with | .str _ => true | _ => false) := by cases x <;> rfl
theorem isT_int (x : D) : isT "int" x = (match x with | .int _ => true | .bl _ => true | _ => false) := by cases x <;> rfl
theorem isT_bool (x : D) : isT "bool" x = (match x with | .bl _ => true | _ => false) := by cases x <;> rfl
theorem isT_tuple (x : D) : isT "tuple" x = (match x with | .tup _ => true | _ => false) := by cases x <;> rfl
theorem isT_list (x : D) : isT "list" x = (match x with | .lst _ => true | _ => false) := by cases x <;> rfl
theorem isT_dict (x : D) : isT "dict" x = (match x with | .dic _ _ => true | _ => false) := by cases x <;> rfl
/-- one argument, a value -/
def ft1 (ok : D → Prop) (f : D → D) : FT := fun ss P => ∃ x, ss = [.d x] ∧ ok x ∧ P (.d (f x))
def leS (a b : Str) : Prop := a.cps.toList ≤ b.cps.toList
theorem leS_of {a b : Str} (h : (!PySem.Spec.ltCps b.cps.toList a.cps.toList) = true) : leS a b := by
  rw [PyProof.Rows.ltCps_eq] at h
  have h : ¬ b.cps.toList < a.cps.toList := by simpa using h
  exact h
theorem rising_le : ∀ (l : List Str) (p : Str), PyProof.Rows.risingS p l = true → (p :: l).Pairwise leS
  | [], p, _ => by simp
  | x :: r, p, h => by
    have h : (!PySem.Spec.ltCps x.cps.toList p.cps.toList && PyProof.Rows.risingS x r) = true := h
    rw [Bool.and_eq_true] at h
    have ih := rising_le r x h.2
    have h1 := leS_of h.1
    refine List.pairwise_cons.mpr ⟨fun y hy => ?_, ih⟩
    rcases List.mem_cons.mp hy with e | hy
    · rw [e]; exact h1
    · exact List.le_trans h1 ((List.pairwise_cons.mp ih).1 y hy)
theorem sorted_le : ∀ (l : List Str), PyProof.Rows.sortedS l = true → l.Pairwise leS
  | [], _ => List.Pairwise.nil
  | x :: r, h => rising_le r x h
theorem str_ext {a b : Str} (h : a.cps.toList = b.cps.toList) : a = b := by
  obtain ⟨⟨a⟩⟩ := a
  obtain ⟨⟨b⟩⟩ := b
  have h : a = b := h
  rw [h]
theorem sorted_eq {xs ys : List Str} (h1 : PyProof.Rows.sortedS xs = true) (h2 : PyProof.Rows.sortedS ys = true) (p : xs.Perm ys) : xs = ys :=
  List.Perm.eq_of_pairwise (le := leS) (fun a b _ _ h h' => str_ext (List.le_antisymm h h')) (sorted_le xs h1) (sorted_le ys h2) p
theorem putD_new : ∀ {ks : List Key} {us : List D} {j : Key} {z : D}, ks.length = us.length → j ∉ ks → putD ks us j z = (ks ++ [j], us ++ [z])
  | [], [], j, z, _, _ => rfl
  | i :: ks, u :: us, j, z, hl, hn => by
    have e : ¬ i = j := fun q => hn (by simp [q])
    have ih := putD_new (ks := ks) (us := us) (j := j) (z := z) (by simpa using hl) fun m => hn (List.mem_cons_of_mem _ m)
    show (if i = j then _ else _) = _
    rw [if_neg e, ih]; rfl
theorem lkD_mem : ∀ {ks : List Key} {us : List D} {j : Key}, ks.length = us.length → j ∈ ks → ∃ u, lkD ks us j = some u ∧ u ∈ us
  | i :: ks, u :: us, j, hl, hm => by
    by_cases e : i = j
    · exact ⟨u, by show (if i = j then _ else _) = _; rw [if_pos e], by simp⟩
    · obtain ⟨u', h1, h2⟩ := lkD_mem (ks := ks) (us := us) (j := j) (by simpa using hl) (by rcases List.mem_cons.mp hm with h | h; exact absurd h.symm e; exact h)
      exact ⟨u', by show (if i = j then _ else _) = _; rw [if_neg e]; exact h1, List.mem_cons_of_mem _ h2⟩
/-- the keys' list of a dict made by one pass -/
theorem loopK_map {gd : GT} {tk tv : ET} {vs : List Nat} {P : Sl → Env' → Prop} {ρ : Env'} (fk : D → Key) (fv : D → D) : ∀ (xs pre : List D), (pre ++ xs).length < 1000000 → ((pre ++ xs).map fk).Nodup →
    (∀ x ∈ pre ++ xs, ∀ (Q : Sl → Env' → Prop), (∀ s y ρ', s.dat = some y → keyD y = some (fk x) → (∀ (Q2 : Sl → Env' → Prop), (∀ s2 ρ2, s2.dat = some (fv x) → wipeD ρ2 vs = ρ → Q2 s2 ρ2) → tv ρ' Q2) → Q s ρ') → gd (.d x) ρ fun ρ1 => tk ρ1 Q) →
    P (.od ((pre ++ xs).map fk) ((pre ++ xs).map fv)) ρ → loopK gd dYes tk tv vs P xs (pre.map fk) (pre.map fv) ρ
  | [], pre, _, _, _, hd => by simpa [loopK] using hd
  | x :: xs, pre, hn, nd, hs, hd => by
    unfold loopK
    have e : pre ++ x :: xs = (pre ++ [x]) ++ xs := by simp
    have ih := loopK_map (gd := gd) (tk := tk) (tv := tv) (vs := vs) (P := P) (ρ := ρ) fk fv xs (pre ++ [x]) (by rw [← e]; exact hn) (by rw [← e]; exact nd) (by rw [← e]; exact hs) (by rw [← e]; exact hd)
    refine hs x (by simp) _ fun s y ρ' h1 h2 k => ⟨y, h1, k _ fun s2 ρ2 h3 h4 => ⟨fv x, h3, fk x, h2, ?_, ?_⟩⟩
    · rw [List.length_map]; rw [List.length_append] at hn; omega
    · have nm : fk x ∉ pre.map fk := fun m => by
        rw [List.map_append, List.map_cons] at nd
        exact (List.nodup_append.mp nd).2.2 _ m _ (by simp) rfl
      rw [putD_new (by simp) nm, h4]
      simpa using ih
end Fl
namespace Fl
open PySem L2
section
variable {X : Cx} {K : PySem.W.Frag} {F : Fr} {G G' H H' : Hp} {σ : St} {ρ : Env'} {pos : Pos}
theorem R.aloof (r : R K F G H σ ρ) {p : Addr} {o : HO} (h : H p = none) : R K F G (upd H p o) σ ρ :=
  r.grow .rfl (r.gh.under (r.new h).1) (.put h) fun b u e => .inl e
theorem ds_parT {i j : Nat} {t1 t2 a b : Expr} {ta : BT} {pt : Pos} {kt k2 pt2} (hc : X.calm = true) (h1 : PG X t1 (gName i)) (h2 : PG X t2 (gName j)) (ha : PA X [a, b] (liftB X.K ta))
    (hs : swapsWithSole [.Tuple [t1, t2] kt pt] (.Tuple [a, b] k2 pt2) pos.line X.env = pure false := by rfl) (hw : swappedStores [.Tuple [t1, t2] kt pt] (.Tuple [a, b] k2 pt2) X.env = pure none := by rfl)
    (h0 : (assignEach [.Tuple [t1, t2] kt pt] X.env).map (·.2) = [assign (.Tuple [t1, t2] kt pt) X.env] := by rfl)
    (e1 : (assignEach [t1, t2] X.env).map (·.2) = assign t1 X.env :: (assignEach [t2] X.env).map (·.2) := by rfl) (e2 : (assignEach [t2] X.env).map (·.2) = assign t2 X.env :: (assignEach [] X.env).map (·.2) := by rfl)
    (hn : (assignEach [t1, t2] X.env).length = 2 := by rfl) (hst : (assignEach [t1, t2] X.env).findIdx? (·.1) = none := by rfl) :
    PS X (.Assign [.Tuple [t1, t2] kt pt] (.Tuple [a, b] k2 pt2) pos) (liftS X.K (dPar i j ta)) :=
  psImp (ps_asg (pe_tup ha) (pg_tup hc (pgs_cons h1 (pgs_cons h2 pgs_nil e2) e1) hn hst) hs hw h0) fun D σ H ⟨F, G, ρ, E, r, h, w⟩ => ⟨F, G, ρ, _, r, h, fun ss ρ1 vs G1 H1 ⟨a, b, es, ⟨q1, q2⟩, q⟩ e1 r1 hl => by
    subst es
    match vs, hl with
    | [va, vb], _ =>
      refine ⟨by show 2 ≤ _; decide, fun p hp => ⟨p, [va, vb], rfl, .inl (.inl upd_same), rfl, va, [vb], rfl, vb, [], rfl, rfl, ?_⟩⟩
      have r1' := r1.aloof (o := .tup [va, vb]) hp
      have r2 : R X.K F G1 _ ((some vb :: σ).set (i + 1) (some va)) ((b :: ρ1).set (i + 1) a) := R.put (σ := some vb :: σ) (ρ := b :: ρ1) r1' (i + 1) (by simp; exact q1)
      have r3 := R.put (σ := σ.set i (some va)) (ρ := ρ1.set i a) r2 j (by simp; exact q2)
      exact w.nx _ _ _ _ q e1 r3⟩
theorem ds_parT3 {i j l : Nat} {t1 t2 t3 a b c : Expr} {ta : BT} {pt : Pos} {kt k2 pt2} (hc : X.calm = true) (h1 : PG X t1 (gName i)) (h2 : PG X t2 (gName j)) (h3 : PG X t3 (gName l)) (ha : PA X [a, b, c] (liftB X.K ta))
    (hs : swapsWithSole [.Tuple [t1, t2, t3] kt pt] (.Tuple [a, b, c] k2 pt2) pos.line X.env = pure false := by rfl) (hw : swappedStores [.Tuple [t1, t2, t3] kt pt] (.Tuple [a, b, c] k2 pt2) X.env = pure none := by rfl)
    (h0 : (assignEach [.Tuple [t1, t2, t3] kt pt] X.env).map (·.2) = [assign (.Tuple [t1, t2, t3] kt pt) X.env] := by rfl)
    (e1 : (assignEach [t1, t2, t3] X.env).map (·.2) = assign t1 X.env :: (assignEach [t2, t3] X.env).map (·.2) := by rfl) (e2 : (assignEach [t2, t3] X.env).map (·.2) = assign t2 X.env :: (assignEach [t3] X.env).map (·.2) := by rfl)
    (e3 : (assignEach [t3] X.env).map (·.2) = assign t3 X.env :: (assignEach [] X.env).map (·.2) := by rfl)
    (hn : (assignEach [t1, t2, t3] X.env).length = 3 := by rfl) (hst : (assignEach [t1, t2, t3] X.env).findIdx? (·.1) = none := by rfl) :
    PS X (.Assign [.Tuple [t1, t2, t3] kt pt] (.Tuple [a, b, c] k2 pt2) pos) (liftS X.K (dPar3 i j l ta)) :=
  psImp (ps_asg (pe_tup ha) (pg_tup hc (pgs_cons h1 (pgs_cons h2 (pgs_cons h3 pgs_nil e3) e2) e1) hn hst) hs hw h0) fun D σ H ⟨F, G, ρ, E, r, h, w⟩ => ⟨F, G, ρ, _, r, h, fun ss ρ1 vs G1 H1 ⟨a, b, c, es, ⟨q1, q2, q3⟩, q⟩ e1 r1 hl => by
    subst es
    match vs, hl with
    | [va, vb, vc], _ =>
      refine ⟨by show 3 ≤ _; decide, fun p hp => ⟨p, [va, vb, vc], rfl, .inl (.inl upd_same), rfl, va, [vb, vc], rfl, vb, [vc], rfl, vc, [], rfl, rfl, ?_⟩⟩
      have r1' := r1.aloof (o := .tup [va, vb, vc]) hp
      have r2 := R.put (σ := some vb :: some vc :: σ) (ρ := b :: c :: ρ1) r1' (i + 2) (by simp; exact q1)
      have r3 := R.put (σ := some vc :: σ.set i (some va)) (ρ := c :: ρ1.set i a) r2 (j + 1) (by simp; exact q2)
      have r4 := R.put (σ := (σ.set i (some va)).set j (some vb)) (ρ := (ρ1.set i a).set j b) r3 l (by simp; exact q3)
      exact w.nx _ _ _ _ q e1 r4⟩
theorem pt_ownNotIn {x : Str} {e : Expr} {te : ET} {p1 : Pos} {i : Nat} (ho : PE X (.Name x p1) (tVar i)) (he : PE X e (lift X.K te)) (hm : behindInMarks .NotIn (.Name x p1) = false := by first | rfl | exact nomark _) : PT X (.Compare e [.NotIn] [.Name x p1] pos) (liftT X.K (dTst (dOwnIn true i te))) :=
  ptImp (pt_cmpR op_notIn_seq he ho hm) fun σ H Q ⟨F, G, ρ, P, r, h, k⟩ => goD r h fun d ρ1 v G1 H1 ⟨f1, xs, hx, f2, b, hb, q⟩ e1 r1 d1 => by
    obtain ⟨p, us, t1, t2, t3⟩ := r1.sl_at hx
    cases hb
    exact ⟨.ref p, t1, ⟨_, _, rfl, .inl (.of t2), d1.flatV f1, t3.flatV f2, _, by rw [t3.inV d1 f1 f2], k _ _ _ _ q e1 r1⟩⟩
end
theorem ix0 (x : D) (xs : List D) : ixD (.lst (x :: xs)) (.int 0) = some x := by
  show atI (x :: xs) 0 = some x
  unfold atI ixN
  rw [if_pos (by decide), if_pos (by rw [List.length_cons]; omega)]
  rfl
end Fl
namespace Fl
open PySem L2
section
variable {K : PySem.W.Frag} {F : Fr} {G G' H H' : Hp} {σ : St} {ρ : Env'}
/-- turns of a body of which an invariant is known -/
theorem loopR {tb : ST} {Dn : Ends} {i : Nat} {n : Int} (r : R K F G H σ ρ) (I : Env' → Prop) (h0 : I ρ) (hs : ∀ (x : D) (ρ : Env'), I ρ → i < ρ.length ∧ tb { nx := I, ct := I, bk := fun _ => False, rt := fun _ => False } (ρ.set i (.d x)))
    (hd : ∀ G' H' σ' ρ', Ex G G' → R K F G' H' σ' ρ' → I ρ' → Dn.nx σ' H') :
    ∃ W : Nat → Nat → St → Hp → Prop, (∃ m, W 0 m σ H) ∧ ∀ j m σ H, W j m σ H →
      ((Itr 0 n.toNat).stop j H ∧ Dn.nx σ H) ∨ ((Itr 0 n.toNat).go j H ∧ ∃ N : St → Hp → Prop, (∀ σ' H', N σ' H' → ∃ m', m' < m ∧ W (j + 1) m' σ' H') ∧ ∀ x H', (Itr 0 n.toNat).yld j H x H' → gName i x σ H' fun σ2 H2 => liftS K tb { Dn with nx := N, ct := N, bk := Dn.nx } σ2 H2) := by
  obtain ⟨Gp, Y, wk, wg, wy⟩ := walkD_range (K := K) (G := G) n
  refine for_it wk (fun _ σ' H' => ∃ G' ρ', Ex G G' ∧ R K F G' H' σ' ρ' ∧ I ρ') ⟨G, ρ, .rfl, r, h0⟩ (fun i σ' H' _ ⟨G', ρ', e, r', _⟩ => wg e r') (fun j x σ' H' H2 hj ⟨G', ρ', e, r', l⟩ y => ?_) fun σ' H' ⟨G', ρ', e, r', l⟩ => hd G' H' σ' ρ' e r' l
  obtain ⟨d, G2, ed, e2, r2⟩ := wy e r' y hj
  refine (tgt_name i).up r2 (P := fun ρ2 => tb { nx := I, ct := I, bk := fun _ => False, rt := fun _ => False } ρ2) (hs d ρ' l) fun σ3 ρ3 G3 H3 p3 e3 r3 _ => ⟨F, G3, ρ3, _, r3, p3, ?_⟩
  exact ⟨fun σ4 ρ4 G4 H4 q e4 r4 => ⟨G4, ρ4, ((e.tr e2).tr e3).tr e4, r4, q⟩, fun σ4 ρ4 G4 H4 q e4 r4 => q.elim, fun σ4 ρ4 G4 H4 q e4 r4 => ⟨G4, ρ4, ((e.tr e2).tr e3).tr e4, r4, q⟩, fun s v σ4 ρ4 G4 H4 q e4 r4 => q.elim⟩
/-- the promise of the def that makes the source -/
def spState (K : PySem.W.Frag) : Sp := fun vs H Q _ => ∃ (a : Addr) (ns : List Int), vs = [.ref a] ∧ SqL K H a (ns.map V.int) ∧ ns.length ≤ 63 ∧
  ∀ (p c : Addr) (H' : Hp) (ms : List Int), H p = none → H c = none → p ≠ c → H' p = some (.lst [.ref c, .int 0, .int 1]) → H' c = some (.lst (ms.map V.int)) → ms ≠ [] → ms.length ≤ 63 → (∀ b o, H b = some o → H' b = some o) → Q (.ref p) H'
theorem sqL_keep {a : Addr} {xs : List V} (h : SqL K H a xs) (k : ∀ b o, H b = some o → H' b = some o) : SqL K H' a xs := sqL_ex k h
theorem cut_ints {ns : List Int} {lo hi : Option Int} {i : Nat} {x : V} (h : (cutV (ns.map V.int) lo hi)[i]? = some x) : ∃ z, x = .int z := by
  have hm : x ∈ cutV (ns.map V.int) lo hi := List.mem_of_getElem? h
  unfold cutV at hm
  obtain ⟨z, _, e⟩ := List.mem_map.mp (List.mem_of_mem_drop (List.mem_of_mem_take hm))
  exact ⟨z, e.symm⟩
theorem cut_len (xs : List V) (lo hi : Option Int) : (cutV xs lo hi).length ≤ xs.length := by
  unfold cutV
  rw [List.length_take, List.length_drop]; omega
/-- the frame of the law behind the making of the source -/
theorem R.begin {p c : Addr} {v : Option V} (h1 : SrcAt H p c) (nm : ∃ so, H sysModules = some (.frz so sysO)) (n : Nat) :
    R K ⟨fun _ => none, H, some (p, c), none, []⟩ (fun _ => none) H ([v, some (.ref p)] ++ List.replicate n none) ([.no, .src] ++ List.replicate n .no) := by
  refine R.more ⟨.rfl, fun b o e => (by cases e), fun b o e _ _ => e, fun b o e => (by cases e), fun b hb => ?_, fun a c' e => ?_, fun q hq => (by cases hq), nm, [], .cons (os := []) (ps := []) (.no _) (.cons (os := []) (ps := []) (.src rfl) .nil), List.nodup_nil, by simp⟩ n
  · obtain ⟨i, m, ns, g1, g2, _⟩ := h1
    rcases hb with (⟨a, c', e, q⟩ | ⟨o, q⟩) | ⟨a, c', e, q⟩
    · cases e
      rcases q with rfl | rfl
      · exact ⟨_, g1⟩
      · exact ⟨_, g2⟩
    · cases q
    · cases e
  · cases e
    exact ⟨h1, rfl, rfl⟩
end
end Fl
namespace Fl
open PySem L2
section
variable {X : Cx} {K : PySem.W.Frag} {F : Fr} {G G' H H' : Hp} {σ : St} {ρ : Env'} {pos : Pos} {e : Expr} {te : ET}
def keyT : Key → D
  | .inl i => .int i
  | .inr s => .str s
def kOk : Key → Bool
  | .inl _ => true
  | .inr s => sOk s
theorem Dd.ofKey {k : Key} (h : kOk k = true) : Dd K G (kV k) (keyT k) := by
  cases k with
  | inl i => exact .int i
  | inr s => exact .str s h
theorem DdL.ofKeys : ∀ {ks : List Key}, ks.all kOk = true → DdL K G (ks.map kV) (ks.map keyT)
  | [], _ => .nil
  | k :: ks, h => by
    rw [List.all_cons, Bool.and_eq_true] at h
    exact .cons (.ofKey h.1) (DdL.ofKeys h.2)
/-- dict(d): the same pairs, anew -/
def cDict : RCd := fun xs P => ∃ ks vs, xs = [.dic ks vs] ∧ P (.od ks vs)
theorem cd_dict : CallD X (.type "dict") cDict := by
  refine CallR.ofD call_dictD ?_
  intro F G H σ ρ vs xs P Q r d ⟨ks, us, hx, p⟩ k
  subst hx
  obtain ⟨v, rfl, dv⟩ := d.one
  cases dv with
  | dic g hl hn t => exact ⟨_, _, rfl, .inl (r.gh _ _ g), fun q hq => k _ _ _ _ p .rfl (r.dic hq hl hn t)⟩
/-- list(d): its keys -/
def cListK : RCd := fun xs P => ∃ ks vs, xs = [.dic ks vs] ∧ ks.all kOk = true ∧ P (.ol (ks.map keyT))
theorem cd_listK (hc : X.calm = true) : CallD X (.type "list") cListK := by
  refine CallR.ofD (call_listD hc) ?_
  intro F G H σ ρ vs xs P Q r d ⟨ks, us, hx, hk, p⟩ k
  subst hx
  obtain ⟨v, rfl, dv⟩ := d.one
  cases dv with
  | @dic _ _ ws _ g hl hn t =>
    refine ⟨_, _, rfl, .inl (r.gh _ _ g), fun q hq => k _ _ _ _ p .rfl ?_⟩
    have e : ((ks.zip ws).map fun kv => kV kv.1) = ks.map kV := by
      have := congrArg (List.map kV) (List.map_fst_zip (l₁ := ks) (l₂ := ws) (by omega))
      rw [List.map_map] at this
      exact this
    rw [e]
    exact r.lst hq (DdL.ofKeys hk)
/-- list(d.items()) -/
def pairD : List Key → List D → List D
  | k :: ks, x :: xs => .tup [keyT k, x] :: pairD ks xs
  | _, _ => []
theorem pairs_dd {G1 : Hp} : ∀ {ts : List Addr} {ks : List Key} {us : List V} {xs : List D}, Paired (fun (t : Addr) (q : Key × V) => G1 t = some (.tup [kV q.1, q.2])) ts (ks.zip us) → ks.length = us.length → ks.all kOk = true → DdL K G1 us xs → DdL K G1 (ts.map V.ref) (pairD ks xs)
  | [], [], _, _, _, _, _, _ => .nil
  | [], k :: ks, u :: us, _, h, _, _, _ => by cases h
  | t :: ts, [], _, _, h, _, _, _ => by cases h
  | t :: ts, k :: ks, [], _, _, hl, _, _ => by cases hl
  | [], k :: ks, [], _, _, hl, _, _ => by cases hl
  | t :: ts, k :: ks, u :: us, x :: xs, h, hl, ho, .cons a d => by
    rw [List.all_cons, Bool.and_eq_true] at ho
    cases h with
    | cons h1 h2 => exact .cons (.tup (.inl (.inl h1)) (.cons (.ofKey ho.1) (.cons a .nil))) (pairs_dd h2 (by simpa using hl) ho.2 d)
def dItems (te : ET) : ET := fun ρ P => te ρ fun s ρ1 => ∃ x, s.dat = some x ∧ ∃ ks vs, x = .dic ks vs ∧ ks.all kOk = true ∧ P (.d (.lst (pairD ks vs))) ρ1
theorem pd_items {p apos cpos : Pos} (hc : X.calm = true) (he : PE X e (lift X.K te)) (hg : Gl X "list") (hm : X.mg "list" = none) (hv : bootBuiltins "list" = some (.type "list")) (hbase : attributeBase e "items" X.env (eval e X.env) = eval e X.env := by rfl) (hline : (apos.endLine == cpos.line) = true := by rfl)
    (hs : starEach [.Call (.Attribute e "items" apos) [] [] cpos] X.env = (false, eval (.Call (.Attribute e "items" apos) [] [] cpos) X.env) :: starEach [] X.env := by rfl) :
    PE X (.Call (.Name "list" p) [.Call (.Attribute e "items" apos) [] [] cpos] [] pos) (lift X.K (dItems te)) :=
  peImp (LiI.pe_listItems hc he hg hm hv hbase hline hs) fun σ H Q ⟨F, G, ρ, P, r, h, k⟩ => goD r h fun x ρ1 v G1 H1 ⟨ks, vs, hx, hk, q⟩ e1 r1 d1 => by
    subst hx
    cases d1 with
    | @dic a _ us _ g hl hn t =>
      refine ⟨a, _, rfl, r1.gh _ _ g, fun H2 p ts hh hp hts hpn g1 g2 => ?_⟩
      let G2 : Hp := fun b => if b = p ∨ b ∈ ts then H2 b else G1 b
      have hfree : ∀ b, b = p ∨ b ∈ ts → H1 b = none := fun b m => m.elim (fun m => m ▸ hp) (hts b)
      have ex : Ex G1 G2 := fun b o e => by
        show (if b = p ∨ b ∈ ts then H2 b else G1 b) = some o
        rw [if_neg (fun m => by have := r1.gh _ _ e; rw [hfree b m] at this; cases this)]; exact e
      have r2 := r1.grow ex (fun b o e => by
        have e : (if b = p ∨ b ∈ ts then H2 b else G1 b) = some o := e
        by_cases m : b = p ∨ b ∈ ts
        · rw [if_pos m] at e; exact e
        · rw [if_neg m] at e; exact hh _ _ (r1.gh _ _ e)) hh (fun b o e => by
        have e : (if b = p ∨ b ∈ ts then H2 b else G1 b) = some o := e
        by_cases m : b = p ∨ b ∈ ts
        · exact .inr (hfree b m)
        · rw [if_neg m] at e; exact .inl e)
      have g3 : Paired (fun (t : Addr) (q : Key × V) => G2 t = some (.tup [kV q.1, q.2])) ts (ks.zip us) := by
        have key : ∀ {as : List Addr} {qs : List (Key × V)}, Paired (fun (t : Addr) (q : Key × V) => H2 t = some (.tup [kV q.1, q.2])) as qs → (∀ t ∈ as, t ∈ ts) → Paired (fun (t : Addr) (q : Key × V) => G2 t = some (.tup [kV q.1, q.2])) as qs := by
          intro as qs h
          induction h with
          | nil => exact fun _ => .nil
          | @cons t q _ _ a _ ih =>
            intro m
            refine .cons ?_ (ih fun z hz => m z (List.mem_cons_of_mem _ hz))
            show (if t = p ∨ t ∈ ts then H2 t else G1 t) = _
            rw [if_pos (.inr (m t (by simp)))]; exact a
        exact key g2 fun _ h => h
      have gp : G2 p = some (.lst (ts.map V.ref)) := by
        show (if p = p ∨ p ∈ ts then H2 p else G1 p) = _
        rw [if_pos (.inl rfl)]; exact g1
      exact k _ _ _ _ _ q (e1.tr ex) (r2.push (.lst gp (pairs_dd g3 hl hk (t.ex ex))))
end
end Fl
namespace Fl
open PySem L2
section
variable {X : Cx} {K : PySem.W.Frag} {F : Fr} {G G' H H' : Hp} {σ : St} {ρ : Env'} {pos : Pos} {e : Expr} {te : ET} {pins : List (Addr × Obj)} {s : Shared} {a C dx : Addr} {fs : List (Str × V)}
theorem inst_at (I : Inv X pins σ H s) (e : H a = some (.ins C dx fs)) : ∃ od, PySem.W.InstAt s.heap a (PySem.W.instObj C dx) C (some od) := by
  obtain ⟨d, z, ne, ob, mA, n, r, q⟩ := I.hok a _ e
  obtain ⟨o, ho⟩ := I.hok dx _ d
  exact ⟨o, ob, rfl, rfl, ho⟩
/-- the type of any data -/
inductive TyD (K : PySem.W.Frag) (H : Hp) : V → Value → Prop
  | x {v : V} {t : Value} (h : TyX K H v t) : TyD K H v t
  | i {a C dx : Addr} {fs : List (Str × V)} (h : H a = some (.ins C dx fs)) : TyD K H (.ref a) (.ref C)
theorem TyD.looks {v : V} {u t : Value} (I : Inv X pins σ H s) (rv : RelV v u) (ty : TyD X.K H v t) : PySem.W.Looks (model X.prog X.w) s.heap (typeOf u) t := by
  cases ty with
  | x h =>
    obtain ⟨P, kx, hp, _⟩ := kit_of I rv h
    exact kx.ty _ _ I.kIn hp
  | i h =>
    obtain ⟨od, J⟩ := inst_at I h
    cases (show u = Value.ref _ from rv)
    exact J.type
def tyV (x : D) : Value := match x with
  | .ins C _ _ => .ref C
  | x => .type (tyN x)
theorem Dd.tyD {v : V} {x : D} (d : Dd K G v x) (gh : Ex G H) : TyD K H v (tyV x) := by
  cases d with
  | ins g _ _ _ => exact .i (gh _ _ g)
  | non => exact .x (Dd.tyX (K := K) (G := G) .non gh rfl)
  | bl b => exact .x (Dd.tyX (K := K) (G := G) (.bl b) gh rfl)
  | int i => exact .x (Dd.tyX (K := K) (G := G) (.int i) gh rfl)
  | str z o => exact .x (Dd.tyX (K := K) (G := G) (.str z o) gh rfl)
  | lst g t => exact .x (Dd.tyX (.lst g t) gh rfl)
  | tup g t => exact .x (Dd.tyX (.tup g t) gh rfl)
  | dic g l n t => exact .x (Dd.tyX (.dic g l n t) gh rfl)
def rOwnEq (K : PySem.W.Frag) (C : Addr) (sp : Sp) : R2 := fun x y H Q => ∃ a dx fs t, x = .ref a ∧ H a = some (.ins C dx fs) ∧ TyD K H y t ∧ PySem.W.notFirst K C t = true ∧ sp [x, y] H Q E0
theorem op_ownEq {k : Nat} {fa : Addr} {fd : FuncData} {ps : List Str} {sp : Sp} (Fn : FnOk X.prog X.w X.K X.mg X.base CX0 k fa fd ps sp) (hr : Room k X.A) (hb : Binds X.K fd ps [])
    (hs : PySem.W.findIn X.K (.ref C) "__eq__" = some (some (.ref fa))) (hf : PySem.W.isFn X.K (.ref fa) = true) : OpR X (compareOp .Eq) (rOwnEq X.K C sp) := by
  intro pins s σ H x y v u Q I rx ry h
  obtain ⟨a, dx, fs, t, rfl, ha, ht, hn, q⟩ := h
  cases (show v = Value.ref a from rx)
  obtain ⟨od, J⟩ := inst_at I ha
  obtain ⟨m, hF⟩ := I.fr
  refine PySem.W.cmp_ofEq (PySem.W.cmp_K (op := .Eq) hr.units0 hF I.ok.mod.kin J (ht.looks I ry) hn hs hf ?_)
  refine wpAny_mono (run_fn (us := [.ref a, u]) (vs := [.ref a, y]) Fn hr hb .nil pass0 I (.cons rfl (.cons ry .nil)) q) (fun w s' z => ?_) fun _ _ x => x
  obtain ⟨z', H', I', rz, qz⟩ := z
  exact SlX.cmpback rz ⟨z', H', I', rz, qz⟩
/-- x == y by the own def of C -/
def dOwnEq (K : PySem.W.Frag) (C : Addr) (ft : FT) : RO := fun x y P => (∃ ns vs, insOf C x = some (ns, vs)) ∧ PySem.W.notFirst K C (tyV y) = true ∧ ft [.d x, .d y] fun s => noNo s = true ∧ P s
theorem od_ownEq {k : Nat} {fa : Addr} {fd : FuncData} {ps : List Str} {ft : FT} (Fn : FnOk X.prog X.w X.K X.mg X.base CX0 k fa fd ps (spD X.K 2 ft)) (hr : Room k X.A) (hb : Binds X.K fd ps [])
    (hs : PySem.W.findIn X.K (.ref C) "__eq__" = some (some (.ref fa))) (hf : PySem.W.isFn X.K (.ref fa) = true) : OpD X (compareOp .Eq) (dOwnEq X.K C ft) := by
  refine OpR.ofD (op_ownEq Fn hr hb hs hf) ?_
  intro F G H σ ρ vx vy x y P Q r hx hy ⟨⟨ns, us, hi⟩, hn, h⟩ k
  obtain ⟨a, dx, ws, rfl, rfl, g, hl, t⟩ := hx.insOf hi
  exact ⟨a, dx, _, _, rfl, r.gh _ _ g, hy.tyD r.gh, hn, spGo (vs := [.ref a, vy]) (ss := [.d (.ins C ns us), .d y]) (P := fun s _ => P s) ((r.push hy).push hx) rfl rfl rfl h fun s v G' H' p e r' => k s v G' H' p e r'⟩
end
end Fl
namespace Fl
open PySem PySem.Spec PyProof.Rows
section
variable {M : Model} {prog : Program} {w : World} {A : Around} {E : Value → Shared → Prop} {s : Shared} {K : PySem.W.Frag} {x C f : Addr} {ox : Obj} {od : Option Obj} {b : Value}
theorem bound_ne {args : List Value} {Q : Option Value → Shared → Prop} (X : K.In s.heap) (I : PySem.W.InstAt s.heap x ox C od) (hs : PySem.W.findIn K (.ref C) "__ne__" = some (some (.builtin "object.__ne__")))
    (h : wpAny M A (call (.builtin "object.__ne__") (.ref x :: args)) (fun v => Q (some v)) E s) : wpAny M A (callSpecialIfBound? (.ref x) "__ne__" args) Q E s := by
  simp only [callSpecialIfBound?, bindSpecialIfBound?]
  refine wpAny_holding (wpAny_bind (wpAny_bind (wpAny_bind (I.type.here ((PySem.W.looks_findIn X hs).here ?_)))))
  refine wpAny_bind (wpAny_askSetting (wpAny_ite ?_))
  have go : wpAny M A (call (.builtin "object.__ne__") ([.ref x] ++ args) >>= fun v => pure (some v)) Q E s := wpAny_bind (wpAny_mono h (fun v s' z => wpAny_pure z) fun _ _ z => z)
  split
  · exact wpAny_bind (wpAny_of_eq (F.cmp_object.ne.bind _) (wpAny_pure (by exact go)))
  · exact wpAny_tryCatch (wpAny_bind (wpAny_of_eq (F.cmp_object.ne.bind _) (wpAny_pure (by exact go))))
theorem entry_ne {Q : Fin → Shared → Prop} (hu : A.units < cLine) (X : K.In s.heap) (I : PySem.W.InstAt s.heap x ox C od) (hs : PySem.W.findIn K (.ref C) "__eq__" = some (some (.ref f))) (hf : PySem.W.isFn K (.ref f) = true)
    (h : wpAny M A (call (.ref f) [.ref x, b]) (fun v s' => ∃ r, v = .bool r ∧ Q (.done (.ret (.bool (!r)))) s') E s) : wpAny M A (Builtin.«object.__ne__» ⟨[.ref x, b], []⟩) Q E s := by
  unfold Builtin.«object.__ne__»
  have ask : wpAny M A (callSpecialIfBound? (.ref x) "__eq__" [b]) (fun o s' => ∃ r, o = some (.bool r) ∧ Q (.done (.ret (.bool (!r)))) s') E s :=
    PySem.W.ifBound_K X I hs hf (wpAny_mono h (fun v s' ⟨r, e, q⟩ => ⟨r, by rw [e], q⟩) fun _ _ z => z)
  repeat (first | (with_reducible refine wpAny_bind (wpAny_cRoomFor hu ?_)) | (with_reducible refine wpAny_cRoomFor hu ?_) | (with_reducible refine wpAny_bind (wpAny_mono ask (fun o s' z => ?_) fun _ _ z => z)) | (with_reducible refine wpAny_mono ask (fun o s' z => ?_) fun _ _ z => z) | wp_step)
  obtain ⟨r, rfl, q⟩ := z
  repeat wp_step
  exact q
theorem call_ne {Q : Value → Shared → Prop} (hu : A.in1.units < cLine) (X : K.In s.heap) (I : PySem.W.InstAt s.heap x ox C od) (hm : PySem.W.mroIn K C (.type "object") = some true) (hs : PySem.W.findIn K (.ref C) "__eq__" = some (some (.ref f))) (hf : PySem.W.isFn K (.ref f) = true)
    (h : wpAny (model prog w) A.in1 (call (.ref f) [.ref x, b]) (fun v s' => ∃ r, v = .bool r ∧ Q (.bool (!r)) s') E s) : wpAny (model prog w) A (call (.builtin "object.__ne__") [.ref x, b]) Q E s :=
  wpAny_call (codeAny_call_builtin F.cmp_object.ne.plain F.cmpEntry_ne (PySem.W.check_slot F.cmpKind_ne F.cmpSplit_ne (I.type.andThen (PySem.W.looks_mroIn X hm)) (F.cmpArgs_ne _ _) (entry_ne hu X I hs hf (wpAny_mono h (fun v s' ⟨r, e, q⟩ => ⟨r, e, q⟩) fun _ _ z => z))))
theorem rich_ne {Q : Value → Shared → Prop} {tb : Value} (hu : A.units < cLine) (hu1 : A.in1.units < cLine) (X : K.In s.heap) (I : PySem.W.InstAt s.heap x ox C od) (hb : PySem.W.Looks (model prog w) s.heap (typeOf b) tb) (hn : PySem.W.notFirst K C tb = true) (hm : PySem.W.mroIn K C (.type "object") = some true)
    (hs : PySem.W.findIn K (.ref C) "__eq__" = some (some (.ref f))) (hne : PySem.W.findIn K (.ref C) "__ne__" = some (some (.builtin "object.__ne__"))) (hf : PySem.W.isFn K (.ref f) = true)
    (h : wpAny (model prog w) A.in1 (call (.ref f) [.ref x, b]) (fun v s' => ∃ r, v = .bool r ∧ Q (.bool (!r)) s') E s) : wpAny (model prog w) A (richCompare .NotEq (.ref x) b) Q E s := by
  have one : wpAny (model prog w) A (tryCompare (.ref x) "__ne__" b) (fun r s' => ∃ c : Bool, r = some (.bool c) ∧ Q (.bool c) s') E s := by
    unfold tryCompare
    refine wpAny_bind (bound_ne X I hne (call_ne hu1 X I hm hs hf (wpAny_mono h (fun v s' ⟨r, e, q⟩ => ⟨r, e, ?_⟩) fun _ _ z => z)))
    exact wpAny_pure ⟨_, rfl, q⟩
  unfold richCompare
  simp only [oneThing_ref]
  refine wpAny_holding (wpAny_bind (wpAny_cRoomFor hu (wpAny_bind (I.type.here (wpAny_bind (hb.here ?_))))))
  have go : ∀ s', s' = s → wpAny (model prog w) A (tryCompare (.ref x) "__ne__" b) (fun r s' => ∃ c : Bool, r = some (.bool c) ∧ Q (.bool c) s') E s' := fun s' e => e ▸ one
  split
  · rename_i q
    have e : PySem.W.subIn K tb (.ref C) = some false := by
      rcases Bool.or_eq_true_iff.mp hn with e | e
      · rw [beq_iff_eq.mp e] at q; simp at q
      · exact beq_iff_eq.mp e
    refine wpAny_bind ((PySem.W.looks_subIn X e).here ?_)
    simp only [Bool.false_eq_true, if_false]
    refine wpAny_bind (wpAny_mono one (fun r s' z => ?_) fun _ _ z => z)
    obtain ⟨c, rfl, hq⟩ := z
    exact wpAny_pure hq
  · refine wpAny_bind (wpAny_pure ?_)
    simp only [Bool.false_eq_true, if_false]
    refine wpAny_bind (wpAny_mono one (fun r s' z => ?_) fun _ _ z => z)
    obtain ⟨c, rfl, hq⟩ := z
    exact wpAny_pure hq
end
end Fl
namespace Fl
open PySem L2
section
variable {X : Cx} {K : PySem.W.Frag} {C : Addr}
def rOwnNe (K : PySem.W.Frag) (C : Addr) (sp : Sp) : R2 := fun x y H Q => ∃ a dx fs t, x = .ref a ∧ H a = some (.ins C dx fs) ∧ TyD K H y t ∧ PySem.W.notFirst K C t = true ∧ sp [x, y] H (fun v H' => ∃ b, v = .bl b ∧ Q (.bl (!b)) H') E0
theorem op_ownNe {k : Nat} {fa : Addr} {fd : FuncData} {ps : List Str} {sp : Sp} (Fn : FnOk X.prog X.w X.K X.mg X.base CX0 k fa fd ps sp) (hr : Room (k + 1) X.A) (hb : Binds X.K fd ps [])
    (hs : PySem.W.findIn X.K (.ref C) "__eq__" = some (some (.ref fa))) (hne : PySem.W.findIn X.K (.ref C) "__ne__" = some (some (.builtin "object.__ne__"))) (hm : PySem.W.mroIn X.K C (.type "object") = some true) (hf : PySem.W.isFn X.K (.ref fa) = true) : OpR X (compareOp .NotEq) (rOwnNe X.K C sp) := by
  intro pins s σ H x y v u Q I rx ry h
  obtain ⟨a, dx, fs, t, rfl, ha, ht, hn, q⟩ := h
  cases (show v = Value.ref a from rx)
  obtain ⟨od, J⟩ := inst_at I ha
  have hr1 : Room k X.A.in1 := Room.in1 hr
  have r2 : Vals [V.ref a, y] [Value.ref a, u] := .cons rfl (.cons ry .nil)
  have hl : ([Value.ref a, u] : List Value).length = ps.length := Fn.len _ _ _ _ q
  refine PySem.W.cmp_ofNotEq (rich_ne hr.units0 hr1.units0 I.kIn J (ht.looks I ry) hn hm hs hne hf ?_)
  refine wpAny_call (codeAny_mono (Fn.run X.A.in1 X.stack s H ⟨[.ref a, u], []⟩ [.ref a, u] [.ref a, y] _ E0 hr1 I.env0.in1 (hb s _ I.kIn (by simpa using hl)) r2 q) fun r s' hq => ?_)
  cases r with
  | error e => exact False.elim hq
  | ok fl =>
    cases fl with
    | ret z =>
      obtain ⟨v', H', I', rz, b, e, qz⟩ := I.after hq
      subst e
      cases (show z = Value.bool b from rz)
      exact ⟨b, rfl, .bl (!b), H', I', rfl, qz⟩
    | next => exact False.elim hq
    | brk => exact False.elim hq
    | cont => exact False.elim hq
def dNeqOwn (K : PySem.W.Frag) (C : Addr) (ft : FT) : RO := fun x y P => (∃ ns vs, insOf C x = some (ns, vs)) ∧ PySem.W.notFirst K C (tyV y) = true ∧ ft [.d x, .d y] fun s => ∃ b, s = .d (.bl b) ∧ P (.d (.bl (!b)))
theorem od_ownNe {k : Nat} {fa : Addr} {fd : FuncData} {ps : List Str} {ft : FT} (hft : ∀ ss P P', (∀ s, P s → P' s) → ft ss P → ft ss P') (Fn : FnOk X.prog X.w X.K X.mg X.base CX0 k fa fd ps (spD X.K 2 ft)) (hr : Room (k + 1) X.A) (hb : Binds X.K fd ps [])
    (hs : PySem.W.findIn X.K (.ref C) "__eq__" = some (some (.ref fa))) (hne : PySem.W.findIn X.K (.ref C) "__ne__" = some (some (.builtin "object.__ne__"))) (hm : PySem.W.mroIn X.K C (.type "object") = some true) (hf : PySem.W.isFn X.K (.ref fa) = true) : OpD X (compareOp .NotEq) (dNeqOwn X.K C ft) := by
  refine OpR.ofD (op_ownNe Fn hr hb hs hne hm hf) ?_
  intro F G H σ ρ vx vy x y P Q r hx hy ⟨⟨ns, us, hi⟩, hn, h⟩ k
  obtain ⟨a, dx, ws, rfl, rfl, g, hl, t⟩ := hx.insOf hi
  refine ⟨a, dx, _, _, rfl, r.gh _ _ g, hy.tyD r.gh, hn, spGo (vs := [.ref a, vy]) (ss := [.d (.ins C ns us), .d y]) (P := fun s _ => ∃ b, s = .d (.bl b) ∧ P (.d (.bl (!b)))) ((r.push hy).push hx) rfl rfl rfl (hft _ _ _ (fun s ⟨b, e, p⟩ => ⟨by rw [e]; rfl, b, e, p⟩) h) fun s v G' H' ⟨b, e, p⟩ ex r' => ?_⟩
  subst e
  have e : v = .bl b := r'.topBl
  exact ⟨b, e, k _ _ _ _ p ex (r'.pop.push (.bl _))⟩
end
end Fl
namespace Fl
open PySem L2
/-- what isinstance asks of the class C -/
structure IsOwn (K : PySem.W.Frag) (C : Addr) : Prop where
  cl : Cls K C
  ha : PySem.W.findIn K (.ref C) "__class__" = some (some (.builtin "object.__class__"))
  hn : PySem.W.specialIn K (.builtin "object.__class__") "__get__" = some (some (.builtin "getset_descriptor.__get__"))
  tk : PySem.W.takesIn K (.builtin "object.__class__") = some true
  hm : PySem.W.mroIn K C (.type "object") = some true
  no : ∀ T ∈ ["NoneType", "bool", "int", "str", "list", "tuple", "dict"], PySem.W.kitOne K (.type T) (.ref C) = some false
section
variable {X : Cx} {K : PySem.W.Frag} {C : Addr} {e : Expr} {te : ET} {pos : Pos} {G H : Hp}
theorem IsOwn.ask (w : IsOwn K C) {v : V} {x : D} (d : Dd K G v x) (gh : Ex G H) (hc : isIns x = false ∨ ∃ ns vs, insOf C x = some (ns, vs)) : ∃ t, TyX K H v t ∧ PySem.W.kitOne K t (.ref C) = some (isIns x) := by
  rcases hc with hc | ⟨ns, vs, hc⟩
  · refine ⟨_, d.tyX gh hc, ?_⟩
    rw [hc]
    refine w.no _ ?_
    cases x <;> first | (exact Bool.noConfusion (show (true = false) from hc)) | (simp [tyN])
  · obtain ⟨a, dx, us, rfl, rfl, g, _, _⟩ := d.insOf hc
    refine ⟨.ref C, .base (.ins (gh _ _ g) w.cl w.ha w.hn w.tk w.hm), ?_⟩
    unfold PySem.W.kitOne
    rw [if_pos (beq_self_eq_true _)]
    rfl
def dIsOwn (C : Addr) (te : ET) : ET := fun ρ P => te ρ fun s ρ1 => ∃ x, s.dat = some x ∧ (isIns x = false ∨ ∃ ns vs, insOf C x = some (ns, vs)) ∧ P (.d (.bl (isIns x))) ρ1
theorem pd_isOwn {x : Str} {p p2 : Pos} (w : IsOwn X.K C) (he : PE X e (lift X.K te)) (hg : Gl X "isinstance") (hm : X.mg "isinstance" = none) (hg2 : Gl X x) (hm2 : X.mg x = some (.ref C))
    (hb : bootBuiltins "isinstance" = some (.builtin "isinstance") := by decide +kernel) (hdb : (x == ("__debug__" : Str)) = false := by decide)
    (hs : starEach [e, .Name x p2] X.env = (false, eval e X.env) :: starEach [.Name x p2] X.env := by rfl) (hs2 : starEach [.Name x p2] X.env = (false, eval (.Name x p2) X.env) :: starEach [] X.env := by rfl) (hpl : (backTo pos (starEach [.Name x p2] X.env)).any (·.1) = false := by rfl) :
    PE X (.Call (.Name "isinstance" p) [e, .Name x p2] [] pos) (lift X.K (dIsOwn C te)) :=
  peImp (pe_callB call_isi hg hm hb (pa_cons he (pa_cons (pe_glob (v := .ref C) hg2 hm2 rfl hdb) pa_nil hs2) hs) (by decide) (by decide) hs hpl) fun σ H Q ⟨F, G, ρ, P, r, h, k⟩ => goD r h fun x ρ1 v G1 H1 ⟨hc, h1⟩ e1 r1 d1 => by
    obtain ⟨t, ht, hk⟩ := w.ask d1 r1.gh hc
    exact ⟨v, .ref C, t, .ref C, _, rfl, .own C, ht, hk, k _ _ _ _ _ h1 e1 (r1.push (.bl _))⟩
end
end Fl
namespace Fl
open PySem L2
section
variable {X : Cx} {i : Nat} {x : Str} {p1 apos cpos : Pos}
def dClr (i : Nat) : ET := fun ρ P => ∃ ks vs, ρ[i]? = some (.od ks vs) ∧ P (.d .non) (ρ.set i (.od [] []))
theorem pd_clear (ho : PE X (.Name x p1) (tVar i)) (hbase : attributeBase (.Name x p1) "clear" X.env (eval (.Name x p1) X.env) = eval (.Name x p1) X.env := by rfl) (hline : (apos.endLine == cpos.line) = true := by rfl) :
    PE X (.Call (.Attribute (.Name x p1) "clear" apos) [] [] cpos) (lift X.K (dClr i)) :=
  peImp (pe_bm0 PySem.F.plainAttrs_dict PySem.F.slot_dict_clear PySem.F.type_dict_clear mtd_clear ho hbase hline) fun σ H Q ⟨F, G, ρ, P, r, ⟨ks, vs, h0, h⟩, k⟩ => by
    obtain ⟨p, us, s1, s2, s3, s4, s5, wr⟩ := r.wrD h0
    refine ⟨.ref p, s1, ?_, p, _, rfl, rfl, s2, k _ _ _ _ _ h .rfl ((wr [] [] [] rfl List.nodup_nil .nil).push .non)⟩
    exact .inr (.inr (.inl ⟨rfl, .inl ⟨_, s2⟩⟩))
end
end Fl
namespace Fl
open PySem L2
/-- the cases, the subject a text -/
structure PM (X : Cx) (cs : List MatchCase) (t : Str → TS) : Prop where
  run : ∀ (pins : List (Addr × Obj)) (s : Shared) (σ : St) (H : Hp) (D : Ends) (z : Str) (tk : Tok) (first : Bool), Inv X pins σ H s → t z D σ H → wpAny (model X.prog X.w) X.A (matchCases cs X.env (.str z tk) first) (SP X pins D) X.xe s
section
variable {X : Cx} {e : Expr} {te : ET} {pos pp cp : Pos} {body : List Stmt} {rest : List MatchCase} {tb : TS} {tr : Str → TS}
theorem pm_nil : PM X [] (fun z D σ H => D.nx σ H) := ⟨fun pins s σ H D z tk first I h => wpAny_matchCases_nil ⟨σ, H, I, h⟩⟩
theorem pm_any (hb : PSs X body tb) : PM X (⟨.MatchAs none none pp, none, body⟩ :: rest) (fun z => tb) :=
  ⟨fun pins s σ H D z tk first I h => wpAny_matchCases_cons (wpAny_matchPattern_Capture (wpAny_of_eq (rfl : assignInOrder [] [] = pure ()) (hb.run pins s σ H D I h)))⟩
theorem pm_val {c : Str} {j} (hb : PSs X body tb) (hr : PM X rest tr) : PM X (⟨.MatchValue (.Constant (.str c) j cp) pp, none, body⟩ :: rest) (fun z D σ H => if z = c then tb D σ H else tr z D σ H) :=
  ⟨fun pins s σ H D z tk first I h => wpAny_matchCases_cons (wpAny_matchPattern_Value (thn ((pe_str (X := X) (x := c) (j := j) (pos := cp)).run pins s σ H (fun v H1 => v = .str c ∧ H1 = H) I ⟨rfl, rfl⟩) fun u s1 ⟨v, H1, I1, rv, e1, e2⟩ => by
    subst e1
    subst e2
    refine thn (op_eq pins s1 σ H1 (.str z) (.str c) _ u (fun w H2 => w = .bl (decide (V.str z = V.str c)) ∧ H2 = H1) I1 ⟨tk, rfl⟩ rv ⟨rfl, rfl, rfl⟩) fun w s2 ⟨w', H2, I2, rw', e3, e4⟩ => ?_
    subst e3
    subst e4
    cases (show w = Value.bool _ from rw')
    refine wpAny_of_eq (rfl : truthy (.bool _) = pure _) ?_
    by_cases hz : z = c
    · subst hz
      rw [if_pos rfl] at h
      rw [if_pos (by simp)]
      exact wpAny_of_eq (rfl : assignInOrder [] [] = pure ()) (hb.run pins s2 σ H2 D I2 h)
    · rw [if_neg hz] at h
      rw [if_neg (by simp [hz])]
      exact hr.run pins s2 σ H2 D z tk false I2 h))⟩
def liftM (K : PySem.W.Frag) (t : Str → ST) : Str → TS := fun z => liftS K (t z)
def mNil : Str → ST := fun _ => dNext
def mVal (c : Str) (tb : ST) (tr : Str → ST) : Str → ST := fun z E ρ => if z = c then tb E ρ else tr z E ρ
def mAny (tb : ST) : Str → ST := fun _ => tb
theorem PM.imp {cs : List MatchCase} {t t' : Str → TS} (h : PM X cs t) (i : ∀ z D σ H, t' z D σ H → t z D σ H) : PM X cs t' := ⟨fun pins s σ H D z tk first I q => h.run pins s σ H D z tk first I (i _ _ _ _ q)⟩
theorem dm_nil : PM X [] (liftM X.K mNil) := pm_nil.imp fun z D σ H ⟨F, G, ρ, E, r, h, w⟩ => w.nx _ _ _ _ h .rfl r
theorem dm_any {tb : ST} (hb : PSs X body (liftS X.K tb)) : PM X (⟨.MatchAs none none pp, none, body⟩ :: rest) (liftM X.K (mAny tb)) := (pm_any hb).imp fun z D σ H h => h
theorem dm_val {c : Str} {j} {tb : ST} {tr : Str → ST} (hb : PSs X body (liftS X.K tb)) (hr : PM X rest (liftM X.K tr)) : PM X (⟨.MatchValue (.Constant (.str c) j cp) pp, none, body⟩ :: rest) (liftM X.K (mVal c tb tr)) :=
  (pm_val hb hr).imp fun z D σ H ⟨F, G, ρ, E, r, h, w⟩ => by
    have h : if z = c then tb E ρ else tr z E ρ := h
    by_cases hz : z = c
    · rw [if_pos hz] at h ⊢; exact ⟨F, G, ρ, E, r, h, w⟩
    · rw [if_neg hz] at h ⊢; exact ⟨F, G, ρ, E, r, h, w⟩
/-- match e: case 'a': .. -/
def dMatch (te : ET) (t : Str → ST) : ST := fun E ρ => te ρ fun s ρ1 => ∃ z, s.dat = some (.str z) ∧ t z E ρ1
theorem ds_match {cs : List MatchCase} {t : Str → ST} (he : PE X e (lift X.K te)) (hm : PM X cs (liftM X.K t)) : PS X (.Match e cs pos) (liftS X.K (dMatch te t)) :=
  ⟨fun pins s σ H D I ⟨F, G, ρ, E, r, h, w⟩ => wpAny_Match (thn (he.run pins s σ H (fun v H1 => ∃ z, v = .str z ∧ liftS X.K (t z) D σ H1) I ⟨F, G, ρ, _, r, h, fun x ρ1 v G1 H1 ⟨z, hz, q⟩ e1 r1 => by
    obtain ⟨G2, e2, d2, r2⟩ := r1.frz hz
    cases d2 with
    | str _ _ => exact ⟨z, rfl, F, G2, ρ1, E, r2, q, w.up (e1.tr e2)⟩⟩) fun u s1 ⟨v, H1, I1, rv, z, e, q⟩ => by
      subst e
      obtain ⟨tk, rfl⟩ := rv
      exact hm.run pins s1 σ H1 D z tk true I1 q)⟩
end
end Fl
namespace Fl
open PySem L2
section
variable {X : Cx} {K : PySem.W.Frag} {G H : Hp}
/-- pairs put into a dict, one by one -/
def mergeD : List Key → List D → List (Key × D) → List Key × List D
  | ks, vs, [] => (ks, vs)
  | ks, vs, (k, x) :: r => mergeD (putD ks vs k x).1 (putD ks vs k x).2 r
theorem merge_of (kxs : List (Key × D)) : ∀ {kus : List (Key × V)} {ks : List Key} {us : List V} {vs : List D}, Paired (fun (p : Key × D) (q : Key × V) => p.1 = q.1 ∧ Dd K G q.2 p.2) kxs kus → ks.length = us.length → ks.Nodup → DdL K G us vs →
    ∃ us', mergeK (ks.zip us) kus = (mergeD ks vs kxs).1.zip us' ∧ (mergeD ks vs kxs).1.length = us'.length ∧ (mergeD ks vs kxs).1.Nodup ∧ DdL K G us' (mergeD ks vs kxs).2 := by
  induction kxs with
  | nil =>
    intro kus ks us vs h hl hn d
    cases h
    exact ⟨us, rfl, hl, hn, d⟩
  | cons p r ih =>
    intro kus ks us vs h hl hn d
    obtain ⟨k, x⟩ := p
    cases h with
    | @cons _ q _ _ h t =>
      obtain ⟨k', u⟩ := q
      obtain ⟨h1, h2⟩ := h
      cases (show k = k' from h1)
      obtain ⟨us1, g1, g2, g3, g4, _⟩ := put_of (i := k) hl hn d h2
      obtain ⟨us2, f1, f2, f3, f4⟩ := ih t g2 g3 g4
      exact ⟨us2, by rw [← g1] at f1; exact f1, f2, f3, f4⟩
def pairIn : D → Option (Key × D)
  | .tup [k, x] => (keyD k).map fun j => (j, x)
  | _ => none
/-- dict(list of pairs) -/
def cDictP : RCd := fun xs P => ∃ ps kxs, xs = [.lst ps] ∧ ps.map pairIn = kxs.map some ∧ P (.od (mergeD [] [] kxs).1 (mergeD [] [] kxs).2)
theorem pairs_in (gh : Ex G H) (ps : List D) : ∀ {kxs : List (Key × D)} {us : List V}, DdL K G us ps → ps.map pairIn = kxs.map some → ∃ (as : List Addr) (kus : List (Key × V)), us = as.map V.ref ∧ Paired (fun p kv => SqT K H p [kV kv.1, kv.2]) as kus ∧ Paired (fun (p : Key × D) (q : Key × V) => p.1 = q.1 ∧ Dd K G q.2 p.2) kxs kus := by
  induction ps with
  | nil =>
    intro kxs us d h
    cases d
    cases kxs with
    | nil => exact ⟨[], [], rfl, .nil, .nil⟩
    | cons _ _ => cases h
  | cons p ps ih =>
    intro kxs us d h
    cases kxs with
    | nil => cases h
    | cons kx kxs =>
      obtain ⟨k, x⟩ := kx
      rw [List.map_cons, List.map_cons] at h
      have h0 := (List.cons.inj h).1
      cases d with
      | cons a t =>
        obtain ⟨as, kus, e, g1, g2⟩ := ih t (List.cons.inj h).2
        subst e
        cases a with
        | @tup b ws ys g d =>
          rcases ys with _ | ⟨y, _ | ⟨z, _ | ⟨_, _⟩⟩⟩
          · cases h0
          · cases h0
          · cases d with
            | cons dy d =>
              cases d with
              | cons dz d =>
                cases d
                have h0 : (keyD y).map (fun j => (j, z)) = some (k, x) := h0
                cases hk : keyD y with
                | none => rw [hk] at h0; cases h0
                | some j =>
                  rw [hk] at h0
                  cases h0
                  rw [dy.key hk] at g
                  exact ⟨b :: as, (k, _) :: kus, rfl, .cons (sqT_ex gh g) g1, .cons ⟨rfl, dz⟩ g2⟩
          · cases h0
        | _ => cases h0
theorem cd_dictP (hc : X.calm = true) : CallD X (.type "dict") cDictP := by
  refine CallR.ofD (call_dictP hc) ?_
  intro F G H σ ρ vs xs P Q r d ⟨ps, kxs, hx, hp, p⟩ k
  subst hx
  obtain ⟨v, rfl, dv⟩ := d.one
  cases dv with
  | lst g t =>
    obtain ⟨as, kus, e, g1, g2⟩ := pairs_in r.gh ps t hp
    subst e
    obtain ⟨us, f1, f2, f3, f4⟩ := merge_of kxs (ks := []) (us := []) (vs := []) g2 rfl List.nodup_nil .nil
    refine ⟨_, as, kus, rfl, .of (r.gh _ _ g), g1, fun q hq => k _ _ _ _ p .rfl ?_⟩
    have f1 : mergeK [] kus = _ := f1
    rw [f1]
    exact r.dic hq f2 f3 f4
end
end Fl
namespace Tr
open PySem L2 Fl

structure Exc where
  C : Addr
  fs : List (Str × D)
inductive T (α : Type) where
  | ret (a : α) | fail | exn (e : Exc) | draw (m : Int) (k : Int → T α)
namespace T
variable {α β γ : Type}
def bind : T α → (α → T β) → T β
  | .ret a, f => f a
  | .fail, _ => .fail
  | .exn e, _ => .exn e
  | .draw m k, f => .draw m fun r => (k r).bind f
def bind2 (t : T (α × β)) (f : α → β → T γ) : T γ := t.bind fun r => f r.1 r.2
def ofO : Option α → (α → T β) → T β
  | some a, f => f a
  | none, _ => .fail
def need (b : Bool) (t : T α) : T α := if b = true then t else .fail
end T
def wp {α : Type} (Z : Exc → Prop) : T α → (α → Prop) → Prop
  | .ret a, P => P a
  | .fail, _ => False
  | .exn e, _ => Z e
  | .draw m k, P => (0 < m ∧ m < 1000000000) ∧ ∀ r : Int, 0 ≤ r → r < m → wp Z (k r) P
section
variable {α β γ : Type} {Z : Exc → Prop}
theorem wp_ret {a : α} {P : α → Prop} : wp Z (.ret a) P ↔ P a := Iff.rfl
theorem wp_fail {P : α → Prop} : wp Z (.fail : T α) P ↔ False := Iff.rfl
theorem wp_bind {P : β → Prop} {f : α → T β} : ∀ {t : T α}, wp Z (t.bind f) P ↔ wp Z t fun a => wp Z (f a) P
  | .ret a => Iff.rfl
  | .fail => Iff.rfl
  | .exn e => Iff.rfl
  | .draw m k => and_congr Iff.rfl (forall_congr' fun r => forall_congr' fun _ => forall_congr' fun _ => wp_bind)
theorem wp_bind2 {P : γ → Prop} {f : α → β → T γ} {t : T (α × β)} : wp Z (t.bind2 f) P ↔ wp Z t fun r => wp Z (f r.1 r.2) P := wp_bind
theorem wp_ofO {P : β → Prop} {f : α → T β} {o : Option α} : wp Z (T.ofO o f) P ↔ ∃ a, o = some a ∧ wp Z (f a) P := by
  cases o with
  | none => exact ⟨fun h => h.elim, fun ⟨_, h, _⟩ => by cases h⟩
  | some a => exact ⟨fun h => ⟨a, rfl, h⟩, fun ⟨_, h, q⟩ => by cases h; exact q⟩
theorem wp_need {P : α → Prop} {b : Bool} {t : T α} : wp Z (T.need b t) P ↔ b = true ∧ wp Z t P := by
  unfold T.need
  by_cases h : b = true
  · rw [if_pos h]; exact ⟨fun q => ⟨h, q⟩, fun q => q.2⟩
  · rw [if_neg h]; exact ⟨fun q => q.elim, fun q => absurd q.1 h⟩
theorem wp_ite {P : α → Prop} {b : Bool} {t u : T α} : wp Z (if b = true then t else u) P ↔ if b = true then wp Z t P else wp Z u P := by
  by_cases h : b = true
  · rw [if_pos h, if_pos h]
  · rw [if_neg h, if_neg h]
theorem wp_mono {P Q : α → Prop} (i : ∀ a, P a → Q a) : ∀ {t : T α}, wp Z t P → wp Z t Q
  | .ret a, h => i a h
  | .fail, h => h
  | .exn e, h => h
  | .draw m k, h => ⟨h.1, fun r a b => wp_mono i (h.2 r a b)⟩
end
abbrev E' := Env' → T (Sl × Env')
abbrev C' := Env' → T (Bool × Env')
abbrev A' := Env' → T (List D × Env')
abbrev B' := Env' → T (List Sl × Env')
inductive Out where
  | nx (ρ : Env') | rt (s : Sl) | bk (ρ : Env') | ct (ρ : Env')
abbrev S' := Env' → T Out
abbrev M := List Sl → T Sl
def up (Z : Exc → Prop) (f : E') : ET := fun ρ P => wp Z (f ρ) fun r => P r.1 r.2
def upT (Z : Exc → Prop) (f : C') : TTd := fun ρ P => wp Z (f ρ) fun r => P r.1 r.2
def upA (Z : Exc → Prop) (f : A') : AT := fun ρ P => wp Z (f ρ) fun r => P r.1 r.2
def upB (Z : Exc → Prop) (f : B') : BT := fun ρ P => wp Z (f ρ) fun r => P r.1 r.2
def Out.want (E : DE) : Out → Prop
  | .nx ρ => E.nx ρ
  | .rt s => E.rt s
  | .bk ρ => E.bk ρ
  | .ct ρ => E.ct ρ
def upS (Z : Exc → Prop) (f : S') : ST := fun E ρ => wp Z (f ρ) (Out.want E)
def ftM (Z : Exc → Prop) (m : M) : FT := fun ss P => wp Z (m ss) P

def sdat (s : Sl) (k : D → T α) : T α := T.ofO s.dat k
def eC (x : D) : E' := fun ρ => .ret (.d x, ρ)
def eVar (i : Nat) : E' := fun ρ => match ρ[i]? with
  | some .src => .ret (.src, ρ)
  | some s => match s.dat with
    | some x => .ret (.d x, ρ.set i (.d x))
    | none => .fail
  | none => .fail
def aNil : A' := fun ρ => .ret ([], ρ)
def aCons (f : E') (g : A') : A' := fun ρ => (f ρ).bind2 fun s ρ1 => T.ofO s.dat fun d => (g ρ1).bind2 fun xs ρ2 => .ret (d :: xs, ρ2)
def eTup (f : A') : E' := fun ρ => (f ρ).bind2 fun xs ρ1 => T.need (decide (xs.length ≤ 1000)) (.ret (.d (.tup xs), ρ1))
def eLst (f : A') : E' := fun ρ => (f ρ).bind2 fun xs ρ1 => T.need (decide (xs.length ≤ 1000)) (.ret (.ol xs, ρ1))
def eDic0 : E' := fun ρ => .ret (.od [] [], ρ)
abbrev O' := D → D → T Sl
def roF (Z : Exc → Prop) (o : O') : RO := fun x y P => wp Z (o x y) P
def eOp (o : O') (f g : E') : E' := fun ρ => (f ρ).bind2 fun x ρ1 => T.ofO x.dat fun dx => (g ρ1).bind2 fun y ρ2 => T.ofO y.dat fun dy => (o dx dy).bind fun z => .ret (z, ρ2)
def tTru (f : E') : C' := fun ρ => (f ρ).bind2 fun x ρ1 => T.ofO x.dat fun d => T.ofO (tru d) fun b => .ret (b, ρ1)
def blO : Sl → Option Bool
  | .d (.bl b) => some b
  | _ => none
def tTst (f : E') : C' := fun ρ => (f ρ).bind2 fun x ρ1 => T.ofO (blO x) fun b => .ret (b, ρ1)
def tNot' (f : C') : C' := fun ρ => (f ρ).bind2 fun b ρ1 => .ret (!b, ρ1)
def tAnd' (f g : C') : C' := fun ρ => (f ρ).bind2 fun b ρ1 => if b = true then g ρ1 else .ret (false, ρ1)
def tOr' (f g : C') : C' := fun ρ => (f ρ).bind2 fun b ρ1 => if b = true then .ret (true, ρ1) else g ρ1
def eAnd (f g : E') : E' := fun ρ => (f ρ).bind2 fun x ρ1 => T.ofO (blO x) fun b => if b = true then g ρ1 else .ret (.d (.bl false), ρ1)
def eOr (f g : E') : E' := fun ρ => (f ρ).bind2 fun x ρ1 => T.ofO (blO x) fun b => if b = true then .ret (.d (.bl true), ρ1) else g ρ1
def eNot (f : E') : E' := fun ρ => (f ρ).bind2 fun x ρ1 => T.ofO (blO x) fun b => .ret (.d (.bl (!b)), ρ1)
def eIf (c : C') (f g : E') : E' := fun ρ => (c ρ).bind2 fun b ρ1 => if b = true then f ρ1 else g ρ1
def eCall (o : List D → T Sl) (f : A') : E' := fun ρ => (f ρ).bind2 fun xs ρ1 => (o xs).bind fun z => .ret (z, ρ1)
def rcF (Z : Exc → Prop) (o : List D → T Sl) : RCd := fun xs P => wp Z (o xs) P
def eIx (f g : E') : E' := fun ρ => (f ρ).bind2 fun x ρ1 => T.ofO x.dat fun dx => (g ρ1).bind2 fun y ρ2 => T.ofO y.dat fun dy => T.ofO (ixD dx dy) fun z => .ret (.d z, ρ2)
abbrev O1' := Env' → T (Option Int × Env')
def upO (Z : Exc → Prop) (f : O1') : OT := fun ρ P => wp Z (f ρ) fun r => P r.1 r.2
def oNo' : O1' := fun ρ => .ret (none, ρ)
def intO : Sl → Option Int
  | .d (.int i) => some i
  | _ => none
def oSome' (f : E') : O1' := fun ρ => (f ρ).bind2 fun x ρ1 => T.ofO (intO x) fun i => .ret (some i, ρ1)
def eSl (f : E') (l h : O1') : E' := fun ρ => (f ρ).bind2 fun x ρ1 => T.ofO x.dat fun dx => (l ρ1).bind2 fun lo ρ2 => (h ρ2).bind2 fun hi ρ3 => T.ofO (slD dx lo hi) fun y => .ret (y, ρ3)
def eChain (o1 o2 : O') (f g h : E') : E' := fun ρ => (f ρ).bind2 fun x ρ1 => T.ofO x.dat fun dx => (g ρ1).bind2 fun y ρ2 => T.ofO y.dat fun dy => (o1 dx dy).bind fun z => T.ofO (blO z) fun b =>
  if b = true then (h ρ2).bind2 fun w ρ3 => T.ofO w.dat fun dw => (o2 dy dw).bind fun z => .ret (z, ρ3) else .ret (.d (.bl false), ρ2)
def eIsi (Ty : String) (f : E') : E' := fun ρ => (f ρ).bind2 fun s ρ1 => T.ofO s.dat fun x => T.need (!isIns x) (.ret (.d (.bl (isT Ty x)), ρ1))
def eIsi2 (Ty Uy : String) (f : E') : E' := fun ρ => (f ρ).bind2 fun s ρ1 => T.ofO s.dat fun x => T.need (!isIns x) (.ret (.d (.bl (isT Ty x || isT Uy x)), ρ1))
def dicO : D → Option (List Key × List D)
  | .dic ks vs => some (ks, vs)
  | _ => none
def eDg (f g : E') : E' := fun ρ => (f ρ).bind2 fun s ρ1 => T.ofO s.dat fun x => (g ρ1).bind2 fun s2 ρ2 => T.ofO s2.dat fun y => T.ofO (dicO x) fun q => T.ofO (keyD y) fun j => T.ofO (lkD q.1 q.2 j) fun z => .ret (.d z, ρ2)
def eDin (f g : E') : E' := fun ρ => (f ρ).bind2 fun s2 ρ1 => T.ofO s2.dat fun y => (g ρ1).bind2 fun s ρ2 => T.ofO s.dat fun x => T.ofO (dicO x) fun q => T.ofO (keyD y) fun j => .ret (.d (.bl (lkD q.1 q.2 j).isSome), ρ2)
def ownO (i : Nat) (ρ : Env') : Option (List D) := match ρ[i]? with
  | some (.ol xs) => some xs
  | _ => none
def odO (i : Nat) (ρ : Env') : Option (List Key × List D) := match ρ[i]? with
  | some (.od ks vs) => some (ks, vs)
  | _ => none
def dint : D → Option Int
  | .int i => some i
  | _ => none
def dlst : D → Option (List D)
  | .lst xs => some xs
  | _ => none
def dstr : D → Option Str
  | .str s => some s
  | _ => none
def nat0 (j : Int) : Option Nat := if 0 ≤ j ∧ j < 1000000 then some j.toNat else none
def big : Nat := 1000000
def eApp (i : Nat) (f : E') : E' := fun ρ => T.ofO (ownO i ρ) fun _ => (f ρ).bind2 fun s ρ1 => T.ofO s.dat fun d => T.ofO (ownO i ρ1) fun xs => T.need (decide (xs.length < 1000000)) (.ret (.d .non, ρ1.set i (.ol (xs ++ [d]))))
def eExt (i : Nat) (f : E') : E' := fun ρ => T.ofO (ownO i ρ) fun _ => (f ρ).bind2 fun s ρ1 => T.ofO s.dat fun d => T.ofO (dlst d) fun ys => T.ofO (ownO i ρ1) fun xs => T.need (decide (xs.length + ys.length < 1000000)) (.ret (.d .non, ρ1.set i (.ol (xs ++ ys))))
def ePop (i : Nat) (f : E') : E' := fun ρ => T.ofO (ownO i ρ) fun _ => (f ρ).bind2 fun s ρ1 => T.ofO s.dat fun d => T.ofO (dint d) fun j => T.need (decide (0 ≤ j)) (T.ofO (ownO i ρ1) fun xs => T.need (decide (xs.length < 1000000)) (T.ofO xs[j.toNat]? fun y => .ret (.d y, ρ1.set i (.ol (xs.eraseIdx j.toNat)))))
def eIns (i : Nat) (f g : E') : E' := fun ρ => T.ofO (ownO i ρ) fun _ => (f ρ).bind2 fun s ρ1 => T.ofO s.dat fun d => (g ρ1).bind2 fun s2 ρ2 => T.ofO s2.dat fun y => T.ofO (dint d) fun j => T.need (decide (0 ≤ j ∧ j < 1000000)) (T.ofO (ownO i ρ2) fun xs => T.need (decide (xs.length < 1000000)) (.ret (.d .non, ρ2.set i (.ol (xs.take j.toNat ++ [y] ++ xs.drop j.toNat)))))
def tOwnNe (i : Nat) : C' := fun ρ => T.ofO (ownO i ρ) fun xs => T.need (xs.all (ok 50)) (.ret (!xs.isEmpty, ρ))
def eOwnLen (i : Nat) : E' := fun ρ => T.ofO (ownO i ρ) fun xs => .ret (.d (.int (xs.length : Nat)), ρ)
def eOwnIx (i : Nat) (f : E') : E' := fun ρ => T.ofO (ownO i ρ) fun _ => (f ρ).bind2 fun s ρ1 => T.ofO s.dat fun d => T.ofO (dint d) fun j => T.ofO (ownO i ρ1) fun xs => T.ofO (atI xs j) fun y => .ret (.d y, ρ1)
def eOwnIn (neg : Bool) (i : Nat) (f : E') : E' := fun ρ => (f ρ).bind2 fun s ρ1 => T.ofO s.dat fun d => T.need (flat d) (T.ofO (ownO i ρ1) fun xs => T.need (xs.all flat) (.ret (.d (.bl (if neg then !inD d xs else inD d xs)), ρ1)))
def eClr (i : Nat) : E' := fun ρ => T.ofO (odO i ρ) fun _ => .ret (.d .non, ρ.set i (.od [] []))
def eJoin (f g : E') : E' := fun ρ => (f ρ).bind2 fun s ρ1 => T.ofO s.dat fun d => T.ofO (dstr d) fun a => (g ρ1).bind2 fun s2 ρ2 => T.ofO s2.dat fun y => T.ofO (strsOf y) fun ws =>
  T.need (decide ((ws.map (·.length)).sum + ws.length * a.length ≤ 1000000)) (T.need (sOk (PySem.Txt.join a ws)) (.ret (.d (.str (PySem.Txt.join a ws)), ρ2)))
def eItems (f : E') : E' := fun ρ => (f ρ).bind2 fun s ρ1 => T.ofO s.dat fun x => T.ofO (dicO x) fun q => T.need (q.1.all kOk) (.ret (.d (.lst (pairD q.1 q.2)), ρ1))
def eNeg (f : E') : E' := fun ρ => (f ρ).bind2 fun s ρ1 => T.ofO (intO s) fun i => .ret (.d (.int (-i)), ρ1)
def eFld (C : Addr) (n : Str) (f : E') : E' := fun ρ => (f ρ).bind2 fun s ρ1 => T.ofO s.dat fun x => T.ofO (insOf C x) fun q => T.ofO (lkF q.1 q.2 n) fun y => .ret (.d y, ρ1)
def bNil' : B' := fun ρ => .ret ([], ρ)
def bCons' (f : E') (g : B') : B' := fun ρ => (f ρ).bind2 fun s ρ1 => T.need (pend s) ((g ρ1).bind2 fun ss ρ2 => .ret (s :: ss, ρ2))
def bArg' (f : E') (g : B') : B' := fun ρ => (f ρ).bind2 fun s ρ1 => T.ofO s.arg fun s' => (g ρ1).bind2 fun ss ρ2 => .ret (s' :: ss, ρ2)
def back (t : T Sl) (ρ : Env') : T (Sl × Env') := t.bind fun r => T.need (noNo r) (.ret (r, ρ))
def eFn (n : Nat) (m : M) (f : B') : E' := fun ρ => (f ρ).bind2 fun ss ρ1 => T.need (ss.all argOk && (ss.length == n)) (back (m ss) ρ1)
def eMeth (C : Addr) (x : Str) (n : Nat) (m : M) (f : E') (g : B') : E' := fun ρ => (f ρ).bind2 fun s ρ1 => T.ofO s.dat fun d => T.ofO (insOf C d) fun q => T.need (lkF q.1 q.2 x).isNone
  ((g ρ1).bind2 fun ss ρ2 => T.need (ss.all argOk && (ss.length + 1 == n)) (back (m (.d d :: ss)) ρ2))
def eMeth0 (C : Addr) (x : Str) (m : M) (f : E') : E' := fun ρ => (f ρ).bind2 fun s ρ1 => T.ofO s.dat fun d => T.ofO (insOf C d) fun q => T.need (lkF q.1 q.2 x).isNone (back (m [.d d]) ρ1)
def eProp (C : Addr) (m : M) (f : E') : E' := fun ρ => (f ρ).bind2 fun s ρ1 => T.ofO s.dat fun d => T.ofO (insOf C d) fun _ => back (m [.d d]) ρ1
abbrev MI := List Sl → T (List Str × List D)
def fiM (Z : Exc → Prop) (m : MI) : FI := fun ss P => wp Z (m ss) fun r => P r.1 r.2
def eMakeK (C : Addr) (n k : Nat) (m : MI) (f g : B') : E' := fun ρ => (f ρ).bind2 fun ss ρ1 => T.need (ss.all argOk) ((g ρ1).bind2 fun zs ρ2 => T.need (zs.all argOk && ((ss.length == n) && (zs.length == k))) ((m (ss ++ zs)).bind2 fun ns vs => .ret (.oi C ns vs, ρ2)))
def eMake (C : Addr) (n : Nat) (m : MI) (f : B') : E' := fun ρ => (f ρ).bind2 fun ss ρ1 => T.need (ss.all argOk && (ss.length == n)) ((m ss).bind2 fun ns vs => .ret (.oi C ns vs, ρ1))
def eIsOwn (C : Addr) (f : E') : E' := fun ρ => (f ρ).bind2 fun s ρ1 => T.ofO s.dat fun x => T.need (!isIns x || (insOf C x).isSome) (.ret (.d (.bl (isIns x)), ρ1))
abbrev G' := Sl → Env' → T Env'
def upG (Z : Exc → Prop) (g : G') : GT := fun s ρ P => wp Z (g s ρ) P
abbrev Gs' := List D → Env' → T Env'
def gNm' (i : Nat) : G' := fun s ρ => T.need (decide (i < ρ.length)) (.ret (ρ.set i s))
def gsNil : Gs' := fun _ ρ => .ret ρ
def gsCons (g : G') (gs : Gs') : Gs' := fun xs ρ => match xs with
  | x :: r => (g (.d x) ρ).bind fun ρ1 => gs r ρ1
  | [] => .fail
def tupO (n : Nat) : Sl → Option (List D)
  | .d (.tup xs) => if xs.length = n then some xs else none
  | _ => none
def gTp' (n : Nat) (gs : Gs') : G' := fun s ρ => T.ofO (tupO n s) fun xs => gs xs ρ
def sNext : S' := fun ρ => .ret (.nx ρ)
def sNever : S' := fun _ => .fail
def sBreak : S' := fun ρ => .ret (.bk ρ)
def sCont : S' := fun ρ => .ret (.ct ρ)
def thenS (g : S') : Out → T Out
  | .nx ρ => g ρ
  | o => .ret o
def sSeq (f g : S') : S' := fun ρ => (f ρ).bind (thenS g)
def sExpr (f : E') : S' := fun ρ => (f ρ).bind2 fun _ ρ1 => .ret (.nx ρ1)
def sRet (f : E') : S' := fun ρ => (f ρ).bind2 fun s _ => .ret (.rt s)
def sIf (c : C') (f g : S') : S' := fun ρ => (c ρ).bind2 fun b ρ1 => if b = true then f ρ1 else g ρ1
def sAsg (f : E') (g : G') : S' := fun ρ => (f ρ).bind2 fun s ρ1 => (g s ρ1).bind fun ρ2 => .ret (.nx ρ2)
def two : List Sl → Option (Sl × Sl)
  | [a, b] => some (a, b)
  | _ => none
def three : List Sl → Option (Sl × Sl × Sl)
  | [a, b, c] => some (a, b, c)
  | _ => none
def sPar (i j : Nat) (f : B') : S' := fun ρ => (f ρ).bind2 fun ss ρ1 => T.ofO (two ss) fun q => T.need (decide (i < ρ1.length ∧ j < ρ1.length)) (.ret (.nx ((ρ1.set i q.1).set j q.2)))
def sPar3 (i j l : Nat) (f : B') : S' := fun ρ => (f ρ).bind2 fun ss ρ1 => T.ofO (three ss) fun q => T.need (decide (i < ρ1.length ∧ j < ρ1.length ∧ l < ρ1.length)) (.ret (.nx (((ρ1.set i q.1).set j q.2.1).set l q.2.2)))
def loopT (g : G') (b : S') : List D → Env' → T Out
  | [], ρ => .ret (.nx ρ)
  | x :: xs, ρ => (g (.d x) ρ).bind fun ρ' => (b ρ').bind fun o => match o with
    | .nx ρ2 => loopT g b xs ρ2
    | .ct ρ2 => loopT g b xs ρ2
    | .bk ρ2 => .ret (.nx ρ2)
    | .rt s => .ret (.rt s)
def sFor (f : A') (g : G') (b : S') : S' := fun ρ => (f ρ).bind2 fun xs ρ1 => loopT g b xs ρ1
def whileT (c : C') (b : S') : Nat → Env' → T Out
  | 0, _ => .fail
  | n + 1, ρ => (c ρ).bind2 fun t ρ1 => if t = true then (b ρ1).bind fun o => match o with
    | .nx ρ2 => whileT c b n ρ2
    | .ct ρ2 => whileT c b n ρ2
    | .bk ρ2 => .ret (.nx ρ2)
    | .rt s => .ret (.rt s)
    else .ret (.nx ρ1)
def sWhile (n : Nat) (c : C') (b : S') : S' := fun ρ => whileT c b n ρ
def sSetL (i : Nat) (f g : E') : S' := fun ρ => (f ρ).bind2 fun s ρ1 => T.ofO s.dat fun y => T.ofO (ownO i ρ1) fun _ => (g ρ1).bind2 fun s2 ρ2 => T.ofO s2.dat fun d => T.ofO (dint d) fun j => T.need (decide (0 ≤ j)) (T.ofO (ownO i ρ2) fun xs => T.need (decide (j < (xs.length : Nat))) (.ret (.nx (ρ2.set i (.ol (xs.set j.toNat y))))))
def sSetD (i : Nat) (f g : E') : S' := fun ρ => (f ρ).bind2 fun s ρ1 => T.ofO s.dat fun y => T.ofO (odO i ρ1) fun _ => (g ρ1).bind2 fun s2 ρ2 => T.ofO s2.dat fun d => T.ofO (keyD d) fun j => T.ofO (odO i ρ2) fun q => T.need (decide (q.1.length < 1000000)) (.ret (.nx (ρ2.set i (.od (putD q.1 q.2 j y).1 (putD q.1 q.2 j y).2))))
def instO (C : Addr) (i : Nat) (ρ : Env') : Option (Sl × List Str × List D) := match ρ[i]? with
  | some s => match s.inst with
    | some (C', ns, vs) => if C' = C then some (s, ns, vs) else none
    | none => none
  | none => none
def sSetF (C : Addr) (i : Nat) (n : Str) (f : E') : S' := fun ρ => (f ρ).bind2 fun s ρ1 => T.ofO s.dat fun y => T.ofO (instO C i ρ1) fun q => T.need (decide (q.2.1.length < 1000)) (.ret (.nx (ρ1.set i (q.1.withF (putN q.2.1 q.2.2 n y).1 (putN q.2.1 q.2.2 n y).2))))
def sMatch (f : E') (m : Str → S') : S' := fun ρ => (f ρ).bind2 fun s ρ1 => T.ofO (s.dat.bind dstr) fun z => m z ρ1
def mNil' : Str → S' := fun _ => sNext
def mVal' (c : Str) (b : S') (r : Str → S') : Str → S' := fun z ρ => if z = c then b ρ else r z ρ
def mAny' (b : S') : Str → S' := fun _ => b
def iL' (f : E') : A' := fun ρ => (f ρ).bind2 fun s ρ1 => T.ofO (s.dat.bind dlst) fun xs => .ret (xs, ρ1)
def dtup : D → Option (List D)
  | .tup xs => some xs
  | _ => none
def iT' (f : E') : A' := fun ρ => (f ρ).bind2 fun s ρ1 => T.ofO (s.dat.bind dtup) fun xs => .ret (xs, ρ1)
def iS' (f : E') : A' := fun ρ => (f ρ).bind2 fun s ρ1 => T.ofO (s.dat.bind dstr) fun z => .ret (signs z, ρ1)
def int1 : List D → Option Int
  | [.int n] => some n
  | _ => none
def lst1 : List D → Option (List D)
  | [.lst n] => some n
  | _ => none
def iR' (f : A') : A' := fun ρ => (f ρ).bind2 fun ys ρ1 => T.ofO (int1 ys) fun n => T.need (decide (-1000000 < n ∧ n < 1000000)) (.ret (upto n, ρ1))
def iEn' (f : A') : A' := fun ρ => (f ρ).bind2 fun ys ρ1 => T.ofO (lst1 ys) fun xs => .ret (numbered xs, ρ1)
def lcT (g : G') (tt : C') (te : E') (vs : List Nat) : List D → List D → Env' → T (Sl × Env')
  | [], acc, ρ => .ret (.ol acc, ρ)
  | x :: xs, acc, ρ => (g (.d x) ρ).bind fun ρ1 => (tt ρ1).bind2 fun b ρ2 => if b = true then
      (te ρ2).bind2 fun s ρ3 => T.ofO s.dat fun y => T.need (decide (acc.length < 1000000)) (lcT g tt te vs xs (acc ++ [y]) (wipeD ρ3 vs))
    else lcT g tt te vs xs acc (wipeD ρ2 vs)
def eLc (f : A') (g : G') (tt : C') (te : E') (vs : List Nat) : E' := fun ρ => (f ρ).bind2 fun xs ρ1 => lcT g tt te vs xs [] (wipeD ρ1 vs)
def tYes' : C' := fun ρ => .ret (true, ρ)
def dcT (g : G') (tt : C') (tk tv : E') (vs : List Nat) : List D → List Key → List D → Env' → T (Sl × Env')
  | [], ks, us, ρ => .ret (.od ks us, ρ)
  | x :: xs, ks, us, ρ => (g (.d x) ρ).bind fun ρ1 => (tt ρ1).bind2 fun b ρ2 => if b = true then
      (tk ρ2).bind2 fun s ρ3 => T.ofO s.dat fun y => (tv ρ3).bind2 fun s2 ρ4 => T.ofO s2.dat fun z => T.ofO (keyD y) fun j => T.need (decide (ks.length < 1000000)) (dcT g tt tk tv vs xs (putD ks us j z).1 (putD ks us j z).2 (wipeD ρ4 vs))
    else dcT g tt tk tv vs xs ks us (wipeD ρ2 vs)
def eDc (f : A') (g : G') (tt : C') (tk tv : E') (vs : List Nat) : E' := fun ρ => (f ρ).bind2 fun xs ρ1 => dcT g tt tk tv vs xs [] [] (wipeD ρ1 vs)
def endM : Out → T Sl
  | .nx _ => .ret (.d .non)
  | .rt s => T.need (noNo s) (.ret s)
  | _ => .fail
def defM (k : Nat) (b : S') : M := fun ss => (b (ss ++ List.replicate k .no)).bind endM
def biO (C : Addr) (ρ : Env') : Option (List Str × List D) := match (ρ[0]? : Option Sl) with
  | some (.bi C' ns vs) => if C' = C then some (ns, vs) else none
  | _ => none
def endI (C : Addr) : Out → T (List Str × List D)
  | .nx ρ => T.ofO (biO C ρ) .ret
  | _ => .fail
def defI (C : Addr) (k : Nat) (b : S') : MI := fun ss => (b (.bi C [] [] :: ss ++ List.replicate k .no)).bind (endI C)
def drawM : M := fun ss => match ss with
  | [.src, .d (.int m)] => .draw m fun r => .ret (.d (.int r))
  | _ => .fail
end Tr
namespace Tr
open PySem L2 Fl
section
variable {X : Cx} {e : Expr}
theorem dnE {t t' : ET} (h : PE X e (lift X.K t)) (i : ∀ ρ P, t' ρ P → t ρ P) : PE X e (lift X.K t') := peImp h fun σ H Q ⟨F, G, ρ, P, r, q, k⟩ => ⟨F, G, ρ, P, r, i _ _ q, k⟩
theorem dnT {t t' : TTd} (h : PT X e (liftT X.K t)) (i : ∀ ρ P, t' ρ P → t ρ P) : PT X e (liftT X.K t') := ptImp h fun σ H Q ⟨F, G, ρ, P, r, q, k⟩ => ⟨F, G, ρ, P, r, i _ _ q, k⟩
theorem dnW {t t' : TTd} (h : PW X e (liftT X.K t)) (i : ∀ ρ P, t' ρ P → t ρ P) : PW X e (liftT X.K t') := pwImp h fun σ H Q ⟨F, G, ρ, P, r, q, k⟩ => ⟨F, G, ρ, P, r, i _ _ q, k⟩
theorem dnTs {cs : List Expr} {t t' : TTd} (h : PTs X cs (liftT X.K t)) (i : ∀ ρ P, t' ρ P → t ρ P) : PTs X cs (liftT X.K t') := ⟨fun pins s σ H Q I ⟨F, G, ρ, P, r, q, k⟩ => h.run pins s σ H Q I ⟨F, G, ρ, P, r, i _ _ q, k⟩⟩
theorem dnA {es : List Expr} {t t' : AT} (h : PA X es (liftA X.K t)) (i : ∀ ρ P, t' ρ P → t ρ P) : PA X es (liftA X.K t') := paImp h fun σ H Q ⟨F, G, ρ, P, r, q, k⟩ => ⟨F, G, ρ, P, r, i _ _ q, k⟩
theorem dnB {es : List Expr} {t t' : BT} (h : PA X es (liftB X.K t)) (i : ∀ ρ P, t' ρ P → t ρ P) : PA X es (liftB X.K t') := paImp h fun σ H Q ⟨F, G, ρ, P, r, q, k⟩ => ⟨F, G, ρ, P, r, i _ _ q, k⟩
theorem dnK {ks : List Keyword} {t t' : BT} (h : PK X ks (liftB X.K t)) (i : ∀ ρ P, t' ρ P → t ρ P) : PK X ks (liftB X.K t') := pkImp h fun σ H Q ⟨F, G, ρ, P, r, q, k⟩ => ⟨F, G, ρ, P, r, i _ _ q, k⟩
theorem dnO {o : Option Expr} {t t' : OT} (h : PO X o (liftO X.K t)) (i : ∀ ρ P, t' ρ P → t ρ P) : PO X o (liftO X.K t') := poImp h fun σ H Q ⟨F, G, ρ, P, r, q, k⟩ => ⟨F, G, ρ, P, r, i _ _ q, k⟩
theorem dnI {tg : Expr} {t t' : AT} (h : PI X tg e (liftI X.K t)) (i : ∀ ρ P, t' ρ P → t ρ P) : PI X tg e (liftI X.K t') := piImp h fun σ H Q ⟨F, G, ρ, P, r, q, k⟩ => ⟨F, G, ρ, P, r, i _ _ q, k⟩
theorem dnS {st : Stmt} {t t' : ST} (h : PS X st (liftS X.K t)) (i : ∀ E ρ, t' E ρ → t E ρ) : PS X st (liftS X.K t') := psImp h fun D σ H ⟨F, G, ρ, E, r, q, w⟩ => ⟨F, G, ρ, E, r, i _ _ q, w⟩
theorem dnSs {st : List Stmt} {t t' : ST} (h : PSs X st (liftS X.K t)) (i : ∀ E ρ, t' E ρ → t E ρ) : PSs X st (liftS X.K t') := pssImp h fun D σ H ⟨F, G, ρ, E, r, q, w⟩ => ⟨F, G, ρ, E, r, i _ _ q, w⟩
theorem dnM {cs : List MatchCase} {t t' : Str → ST} (h : PM X cs (liftM X.K t)) (i : ∀ z E ρ, t' z E ρ → t z E ρ) : PM X cs (liftM X.K t') := h.imp fun z D σ H ⟨F, G, ρ, E, r, q, w⟩ => ⟨F, G, ρ, E, r, i _ _ _ q, w⟩
theorem dnG {K : PySem.W.Frag} {g0 : TG} {t t' : GT} {is : List Nat} (h : Tgt K g0 t is) (i : ∀ s ρ P, t' s ρ P → t s ρ P) : Tgt K g0 t' is := ⟨fun r q k => h.up r (i _ _ _ q) k⟩
theorem dnGs {K : PySem.W.Frag} {g0 : TGs} {n : Nat} {t t' : List D → Env' → (Env' → Prop) → Prop} {is : List Nat} (h : Tgts K g0 n t is) (i : ∀ s ρ P, t' s ρ P → t s ρ P) : Tgts K g0 n t' is := ⟨fun r d l q k => h.up r d l (i _ _ _ q) k⟩
def upGs (Z : Exc → Prop) (g : Gs') : List D → Env' → (Env' → Prop) → Prop := fun xs ρ P => wp Z (g xs ρ) P
def upM (Z : Exc → Prop) (m : Str → S') : Str → ST := fun z => upS Z (m z)
end
section
variable {Z : Exc → Prop} {f g h : E'} {ρ : Env'} {P : Sl → Env' → Prop} {fa : A'} {PA' : List D → Env' → Prop} {c c2 : C'} {PT' : Bool → Env' → Prop} {fb gb : B'} {PB : List Sl → Env' → Prop}
theorem w_c {x : D} (q : up Z (eC x) ρ P) : dC x ρ P := q
theorem w_var {i : Nat} (q : up Z (eVar i) ρ P) : dVar i ρ P := by
  unfold up eVar at q
  unfold dVar
  cases e : ρ[i]? with
  | none => rw [e] at q; exact q
  | some s => rw [e] at q; cases s <;> exact q
theorem w_nil (q : upA Z aNil ρ PA') : dNil ρ PA' := q
theorem w_cons (q : upA Z (aCons f fa) ρ PA') : dCons (up Z f) (upA Z fa) ρ PA' := by
  simpa only [upA, up, aCons, dCons, wp_bind2, wp_ofO, wp_ret] using q
theorem w_tup (q : up Z (eTup fa) ρ P) : dTup (upA Z fa) ρ P := by
  simpa only [upA, up, eTup, dTup, wp_bind2, wp_need, wp_ret, decide_eq_true_eq] using q
theorem w_lst (q : up Z (eLst fa) ρ P) : dLst (upA Z fa) ρ P := by
  simpa only [upA, up, eLst, dLst, wp_bind2, wp_need, wp_ret, decide_eq_true_eq] using q
theorem w_dic0 (q : up Z eDic0 ρ P) : dDic0 ρ P := q
theorem w_op {ro : RO} {o : O'} (i : ∀ x y P, roF Z o x y P → ro x y P) (q : up Z (eOp o f g) ρ P) : dOp ro (up Z f) (up Z g) ρ P := by
  simp only [up, eOp, wp_bind2, wp_bind, wp_ofO, wp_ret] at q
  exact wp_mono (fun a ⟨x, hx, q⟩ => ⟨x, hx, wp_mono (fun b ⟨y, hy, q⟩ => ⟨y, hy, i _ _ _ q⟩) q⟩) q
theorem w_tru (q : upT Z (tTru f) ρ PT') : dTru (up Z f) ρ PT' := by
  simpa only [upT, up, tTru, dTru, wp_bind2, wp_ofO, wp_ret] using q
theorem blO_some {s : Sl} {b : Bool} : blO s = some b ↔ s = .d (.bl b) := by
  constructor
  · intro h
    cases s with
    | d x => cases x <;> first | (cases h; rfl) | cases h
    | _ => cases h
  · rintro rfl; rfl
theorem intO_some {s : Sl} {b : Int} : intO s = some b ↔ s = .d (.int b) := by
  constructor
  · intro h
    cases s with
    | d x => cases x <;> first | (cases h; rfl) | cases h
    | _ => cases h
  · rintro rfl; rfl
theorem w_tst (q : upT Z (tTst f) ρ PT') : dTst (up Z f) ρ PT' := by
  simpa only [upT, up, tTst, dTst, wp_bind2, wp_ofO, wp_ret, blO_some] using q
theorem w_not (q : upT Z (tNot' c) ρ PT') : dNotT (upT Z c) ρ PT' := by
  simpa only [upT, tNot', dNotT, wp_bind2, wp_ret] using q
theorem w_and (q : upT Z (tAnd' c c2) ρ PT') : dAndT (upT Z c) (upT Z c2) ρ PT' := by
  simpa only [upT, tAnd', dAndT, wp_bind2, wp_ite, wp_ret] using q
theorem w_or (q : upT Z (tOr' c c2) ρ PT') : dOrT (upT Z c) (upT Z c2) ρ PT' := by
  simpa only [upT, tOr', dOrT, wp_bind2, wp_ite, wp_ret] using q
theorem w_andV (q : up Z (eAnd f g) ρ P) : dAndV (up Z f) (up Z g) ρ P := by
  simpa only [up, eAnd, dAndV, wp_bind2, wp_ofO, wp_ite, wp_ret, blO_some] using q
theorem w_orV (q : up Z (eOr f g) ρ P) : dOrV (up Z f) (up Z g) ρ P := by
  simpa only [up, eOr, dOrV, wp_bind2, wp_ofO, wp_ite, wp_ret, blO_some] using q
theorem w_notV (q : up Z (eNot f) ρ P) : dNotV (up Z f) ρ P := by
  simpa only [up, eNot, dNotV, wp_bind2, wp_ofO, wp_ret, blO_some] using q
theorem w_if (q : up Z (eIf c f g) ρ P) : dIf (upT Z c) (up Z f) (up Z g) ρ P := by
  simpa only [upT, up, eIf, dIf, wp_bind2, wp_ite] using q
theorem w_call {rc : RCd} {o : List D → T Sl} (i : ∀ xs P, rcF Z o xs P → rc xs P) (q : up Z (eCall o fa) ρ P) : dCall rc (upA Z fa) ρ P := by
  simp only [up, eCall, wp_bind2, wp_bind, wp_ret] at q
  exact wp_mono (fun a q => i _ _ q) q
theorem w_ix (q : up Z (eIx f g) ρ P) : dIx (up Z f) (up Z g) ρ P := by
  simpa only [up, eIx, dIx, wp_bind2, wp_ofO, wp_ret] using q
theorem w_oNo {PO : Option Int → Env' → Prop} (q : upO Z oNo' ρ PO) : oNo ρ PO := q
theorem w_oSome {PO : Option Int → Env' → Prop} (q : upO Z (oSome' f) ρ PO) : oSome (up Z f) ρ PO := by
  simpa only [upO, up, oSome', oSome, wp_bind2, wp_ofO, wp_ret, intO_some] using q
theorem w_sl {l u : O1'} (q : up Z (eSl f l u) ρ P) : dSl (up Z f) (upO Z l) (upO Z u) ρ P := by
  simpa only [upO, up, eSl, dSl, wp_bind2, wp_ofO, wp_ret] using q
theorem w_chain {r1 r2 : RO} {o1 o2 : O'} (i1 : ∀ x y P, roF Z o1 x y P → r1 x y P) (i2 : ∀ x y P, roF Z o2 x y P → r2 x y P) (q : up Z (eChain o1 o2 f g h) ρ P) : dChain r1 r2 (up Z f) (up Z g) (up Z h) ρ P := by
  simp only [up, eChain, wp_bind2, wp_bind, wp_ofO, wp_ret, wp_ite, blO_some] at q
  refine wp_mono (fun a ⟨x, hx, q⟩ => ⟨x, hx, wp_mono (fun b ⟨y, hy, q⟩ => ⟨y, hy, i1 _ _ _ (wp_mono (fun z ⟨k, hk, q⟩ => ⟨k, hk, ?_⟩) q)⟩) q⟩) q
  cases k with
  | true => exact wp_mono (fun w ⟨dw, hw, q⟩ => ⟨dw, hw, i2 _ _ _ q⟩) q
  | false => exact q
theorem w_isi {Ty : String} (q : up Z (eIsi Ty f) ρ P) : dIsi Ty (up Z f) ρ P := by
  simpa only [up, eIsi, dIsi, wp_bind2, wp_ofO, wp_need, wp_ret, Bool.not_eq_true'] using q
theorem w_isi2 {Ty Uy : String} (q : up Z (eIsi2 Ty Uy f) ρ P) : dIsi2 Ty Uy (up Z f) ρ P := by
  simpa only [up, eIsi2, dIsi2, wp_bind2, wp_ofO, wp_need, wp_ret, Bool.not_eq_true'] using q
theorem dicO_some {x : D} {q : List Key × List D} : dicO x = some q ↔ x = .dic q.1 q.2 := by
  constructor
  · intro h; cases x <;> first | (cases h; rfl) | cases h
  · rintro rfl; rfl
theorem w_dg (q : up Z (eDg f g) ρ P) : dDg (up Z f) (up Z g) ρ P := by
  simp only [up, eDg, wp_bind2, wp_ofO, wp_ret, dicO_some] at q
  exact wp_mono (fun a ⟨x, hx, q⟩ => ⟨x, hx, wp_mono (fun b ⟨y, hy, ⟨p, e, j, hj, z, hz, q⟩⟩ => ⟨y, hy, p.1, p.2, e, j, hj, z, hz, q⟩) q⟩) q
theorem w_din (q : up Z (eDin f g) ρ P) : dDin (up Z f) (up Z g) ρ P := by
  simp only [up, eDin, wp_bind2, wp_ofO, wp_ret, dicO_some] at q
  exact wp_mono (fun a ⟨x, hx, q⟩ => ⟨x, hx, wp_mono (fun b ⟨y, hy, ⟨p, e, j, hj, q⟩⟩ => ⟨y, hy, p.1, p.2, e, j, hj, q⟩) q⟩) q
theorem ownO_some {i : Nat} {ρ : Env'} {xs : List D} : ownO i ρ = some xs ↔ ρ[i]? = some (.ol xs) := by
  unfold ownO
  constructor
  · intro h
    cases e : ρ[i]? with
    | none => rw [e] at h; cases h
    | some s => rw [e] at h; cases s <;> first | (cases h; rfl) | cases h
  · intro h; rw [h]
theorem odO_some {i : Nat} {ρ : Env'} {q : List Key × List D} : odO i ρ = some q ↔ ρ[i]? = some (.od q.1 q.2) := by
  unfold odO
  constructor
  · intro h
    cases e : ρ[i]? with
    | none => rw [e] at h; cases h
    | some s => rw [e] at h; cases s <;> first | (cases h; rfl) | cases h
  · intro h; rw [h]
theorem dint_some {x : D} {i : Int} : dint x = some i ↔ x = .int i := by
  constructor
  · intro h; cases x <;> first | (cases h; rfl) | cases h
  · rintro rfl; rfl
theorem dlst_some {x : D} {xs : List D} : dlst x = some xs ↔ x = .lst xs := by
  constructor
  · intro h; cases x <;> first | (cases h; rfl) | cases h
  · rintro rfl; rfl
theorem dtup_some {x : D} {xs : List D} : dtup x = some xs ↔ x = .tup xs := by
  constructor
  · intro h; cases x <;> first | (cases h; rfl) | cases h
  · rintro rfl; rfl
theorem dstr_some {x : D} {s : Str} : dstr x = some s ↔ x = .str s := by
  constructor
  · intro h; cases x <;> first | (cases h; rfl) | cases h
  · rintro rfl; rfl
theorem w_app {i : Nat} (q : up Z (eApp i f) ρ P) : dApp i (up Z f) ρ P := by
  simp only [up, eApp, wp_bind2, wp_ofO, wp_need, wp_ret, ownO_some, decide_eq_true_eq] at q
  obtain ⟨xs, hx, q⟩ := q
  exact ⟨⟨xs, hx⟩, q⟩
theorem w_ext {i : Nat} (q : up Z (eExt i f) ρ P) : dExt i (up Z f) ρ P := by
  simp only [up, eExt, wp_bind2, wp_ofO, wp_need, wp_ret, ownO_some, dlst_some, decide_eq_true_eq] at q
  obtain ⟨xs, hx, q⟩ := q
  exact ⟨⟨xs, hx⟩, q⟩
theorem w_pop {i : Nat} (q : up Z (ePop i f) ρ P) : dPop i (up Z f) ρ P := by
  simp only [up, ePop, wp_bind2, wp_ofO, wp_need, wp_ret, ownO_some, dint_some, decide_eq_true_eq] at q
  obtain ⟨xs, hx, q⟩ := q
  exact ⟨⟨xs, hx⟩, q⟩
theorem w_ins {i : Nat} (q : up Z (eIns i f g) ρ P) : dIns i (up Z f) (up Z g) ρ P := by
  simp only [up, eIns, wp_bind2, wp_ofO, wp_need, wp_ret, ownO_some, dint_some, decide_eq_true_eq] at q
  obtain ⟨xs, hx, q⟩ := q
  exact ⟨⟨xs, hx⟩, q⟩
theorem w_ownNe {i : Nat} (q : upT Z (tOwnNe i) ρ PT') : dOwnNe i ρ PT' := by
  simpa only [upT, tOwnNe, dOwnNe, wp_ofO, wp_need, wp_ret, ownO_some] using q
theorem w_ownLen {i : Nat} (q : up Z (eOwnLen i) ρ P) : dOwnLen i ρ P := by
  simpa only [up, eOwnLen, dOwnLen, wp_ofO, wp_ret, ownO_some] using q
theorem w_ownIx {i : Nat} (q : up Z (eOwnIx i f) ρ P) : (∃ xs, ρ[i]? = some (.ol xs)) ∧ dOwnIx i (up Z f) ρ P := by
  simp only [up, eOwnIx, wp_bind2, wp_ofO, wp_ret, ownO_some, dint_some] at q
  obtain ⟨xs, hx, q⟩ := q
  exact ⟨⟨xs, hx⟩, q⟩
theorem w_ownIn {i : Nat} {neg : Bool} (q : up Z (eOwnIn neg i f) ρ P) : dOwnIn neg i (up Z f) ρ P := by
  simpa only [up, eOwnIn, dOwnIn, wp_bind2, wp_ofO, wp_need, wp_ret, ownO_some] using q
theorem w_clr {i : Nat} (q : up Z (eClr i) ρ P) : dClr i ρ P := by
  simp only [up, eClr, wp_ofO, wp_ret, odO_some] at q
  obtain ⟨p, hx, q⟩ := q
  exact ⟨p.1, p.2, hx, q⟩
theorem w_join (q : up Z (eJoin f g) ρ P) : dJoin (up Z f) (up Z g) ρ P := by
  simpa only [up, eJoin, dJoin, wp_bind2, wp_ofO, wp_need, wp_ret, dstr_some, decide_eq_true_eq] using q
theorem w_items (q : up Z (eItems f) ρ P) : dItems (up Z f) ρ P := by
  simp only [up, eItems, wp_bind2, wp_ofO, wp_need, wp_ret, dicO_some] at q
  exact wp_mono (fun a ⟨x, hx, p, e, q⟩ => ⟨x, hx, p.1, p.2, e, q⟩) q
theorem w_neg (q : up Z (eNeg f) ρ P) : dNeg (up Z f) ρ P := by
  simpa only [up, eNeg, dNeg, wp_bind2, wp_ofO, wp_ret, intO_some] using q
theorem w_fld {C : Addr} {n : Str} (q : up Z (eFld C n f) ρ P) : dFld C n (up Z f) ρ P := by
  simp only [up, eFld, wp_bind2, wp_ofO, wp_ret] at q
  exact wp_mono (fun a ⟨x, hx, p, e, q⟩ => ⟨x, hx, p.1, p.2, e, q⟩) q
theorem w_bnil (q : upB Z bNil' ρ PB) : bNil ρ PB := q
theorem w_bcons (q : upB Z (bCons' f gb) ρ PB) : bCons (up Z f) (upB Z gb) ρ PB := by
  simpa only [upB, up, bCons', bCons, wp_bind2, wp_need, wp_ret] using q
theorem w_barg (q : upB Z (bArg' f gb) ρ PB) : bArg (up Z f) (upB Z gb) ρ PB := by
  simpa only [upB, up, bArg', bArg, wp_bind2, wp_ofO, wp_ret] using q
theorem w_back {t : T Sl} {ρ1 : Env'} (q : wp Z (back t ρ1) fun r => P r.1 r.2) : wp Z t fun r => noNo r = true ∧ P r ρ1 := by
  simpa only [back, wp_bind, wp_need, wp_ret] using q
theorem w_fn {n : Nat} {m : M} (q : up Z (eFn n m fb) ρ P) : dFn (ftM Z m) (fun ρ Q => upB Z fb ρ fun ss ρ1 => ss.length = n ∧ Q ss ρ1) ρ P := by
  simp only [up, eFn, wp_bind2, wp_need, Bool.and_eq_true, beq_iff_eq] at q
  exact wp_mono (fun a ⟨⟨h1, h2⟩, q⟩ => ⟨h2, h1, w_back q⟩) q
theorem w_meth {C : Addr} {x : Str} {n : Nat} {m : M} (q : up Z (eMeth C x n m f gb) ρ P) : dMeth C x n (ftM Z m) (up Z f) (upB Z gb) ρ P := by
  simp only [up, eMeth, wp_bind2, wp_ofO, wp_need, Bool.and_eq_true, beq_iff_eq, Option.isNone_iff_eq_none] at q
  exact wp_mono (fun a ⟨d, hd, p, hp, hl, q⟩ => ⟨d, hd, ⟨p.1, p.2, hp, hl⟩, wp_mono (fun b ⟨⟨h1, h2⟩, q⟩ => ⟨h2, h1, w_back q⟩) q⟩) q
theorem w_meth0 {C : Addr} {x : Str} {m : M} (q : up Z (eMeth0 C x m f) ρ P) : dMeth0 C x (ftM Z m) (up Z f) ρ P := by
  simp only [up, eMeth0, wp_bind2, wp_ofO, wp_need, Option.isNone_iff_eq_none] at q
  exact wp_mono (fun a ⟨d, hd, p, hp, hl, q⟩ => ⟨d, hd, ⟨p.1, p.2, hp, hl⟩, w_back q⟩) q
theorem w_fnK {n : Nat} {m : M} (q : up Z (eFn n m fb) ρ P) : dFnK n (fun zs => zs) (ftM Z m) (upB Z fb) ρ P := by
  simp only [up, eFn, wp_bind2, wp_need, Bool.and_eq_true, beq_iff_eq] at q
  exact wp_mono (fun a ⟨⟨h1, h2⟩, q⟩ => ⟨h2, h1, w_back q⟩) q
theorem w_prop {C : Addr} {m : M} (q : up Z (eProp C m f) ρ P) : dProp C (ftM Z m) (up Z f) ρ P := by
  simp only [up, eProp, wp_bind2, wp_ofO] at q
  exact wp_mono (fun a ⟨d, hd, p, hp, q⟩ => ⟨d, hd, ⟨p.1, p.2, hp⟩, w_back q⟩) q
theorem w_make {C : Addr} {n : Nat} {m : MI} (q : up Z (eMake C n m fb) ρ P) : dMake C n (fiM Z m) (upB Z fb) ρ P := by
  simp only [up, eMake, wp_bind2, wp_need, wp_ret, Bool.and_eq_true, beq_iff_eq] at q
  exact wp_mono (fun a ⟨⟨h1, h2⟩, q⟩ => ⟨h1, h2, q⟩) q
theorem w_makeK {C : Addr} {n k : Nat} {m : MI} (q : up Z (eMakeK C n k m fb gb) ρ P) : dMakeK C n k (fiM Z m) (upB Z fb) (upB Z gb) ρ P := by
  simp only [up, eMakeK, wp_bind2, wp_need, wp_ret, Bool.and_eq_true, beq_iff_eq] at q
  exact wp_mono (fun a ⟨h1, q⟩ => ⟨h1, wp_mono (fun b ⟨⟨h2, h3, h4⟩, q⟩ => ⟨h2, h3, h4, q⟩) q⟩) q
theorem w_isOwn {C : Addr} (q : up Z (eIsOwn C f) ρ P) : dIsOwn C (up Z f) ρ P := by
  simp only [up, eIsOwn, wp_bind2, wp_ofO, wp_need, wp_ret, Bool.or_eq_true, Bool.not_eq_true'] at q
  refine wp_mono (fun a ⟨x, hx, h, q⟩ => ⟨x, hx, h.imp id fun h => ?_, q⟩) q
  obtain ⟨p, hp⟩ := Option.isSome_iff_exists.mp h
  exact ⟨p.1, p.2, hp⟩
end
section
variable {Z : Exc → Prop} {f g : E'} {ρ : Env'} {c : C'} {sf sg : S'} {E : DE} {fb : B'} {fa : A'} {s : Sl} {PG : Env' → Prop} {gg : G'}
theorem w_gnm {i : Nat} (q : upG Z (gNm' i) s ρ PG) : gNm i s ρ PG := by
  simpa only [upG, gNm', gNm, wp_need, wp_ret, decide_eq_true_eq] using q
theorem w_gsnil {xs : List D} (q : upGs Z gsNil xs ρ PG) : gNil' xs ρ PG := q
theorem w_gscons {xs : List D} {gs : Gs'} (q : upGs Z (gsCons gg gs) xs ρ PG) : gCons' (upG Z gg) (upGs Z gs) xs ρ PG := by
  cases xs with
  | nil => exact q
  | cons x r =>
    have q : wp Z ((gg (.d x) ρ).bind fun ρ1 => gs r ρ1) PG := q
    exact wp_bind.mp q
theorem tupO_some {n : Nat} {s : Sl} {xs : List D} : tupO n s = some xs ↔ s = .d (.tup xs) ∧ xs.length = n := by
  constructor
  · intro h
    cases s with
    | d x =>
      cases x with
      | tup ys =>
        have h : (if ys.length = n then some ys else none) = some xs := h
        split at h
        · cases h; exact ⟨rfl, by assumption⟩
        · cases h
      | _ => cases h
    | _ => cases h
  · rintro ⟨rfl, h⟩
    exact if_pos h
theorem w_gtp {n : Nat} {gs : Gs'} (q : upG Z (gTp' n gs) s ρ PG) : gTp n (upGs Z gs) s ρ PG := by
  simp only [upG, gTp', wp_ofO, tupO_some] at q
  obtain ⟨xs, ⟨rfl, h⟩, q⟩ := q
  exact ⟨xs, rfl, h, q⟩
theorem w_next (q : upS Z sNext E ρ) : dNext E ρ := q
theorem w_never (q : upS Z sNever E ρ) : dNever E ρ := q
theorem w_break (q : upS Z sBreak E ρ) : dBreak E ρ := q
theorem w_cont (q : upS Z sCont E ρ) : dCont E ρ := q
theorem w_seq (q : upS Z (sSeq sf sg) E ρ) : dSeq (upS Z sf) (upS Z sg) E ρ := by
  simp only [upS, sSeq, wp_bind] at q
  exact wp_mono (fun o q => by cases o <;> exact q) q
theorem w_expr (q : upS Z (sExpr f) E ρ) : dExpr (up Z f) E ρ := by
  simp only [upS, sExpr, wp_bind2, wp_ret] at q; exact q
theorem w_ret (q : upS Z (sRet f) E ρ) : dRet (up Z f) E ρ := by
  simp only [upS, sRet, wp_bind2, wp_ret] at q; exact q
theorem w_ifS (q : upS Z (sIf c sf sg) E ρ) : dIfS (upT Z c) (upS Z sf) (upS Z sg) E ρ := by
  simp only [upS, sIf, wp_bind2, wp_ite] at q; exact q
theorem w_asg (q : upS Z (sAsg f gg) E ρ) : dAsg (up Z f) (upG Z gg) E ρ := by
  simp only [upS, sAsg, wp_bind2, wp_bind, wp_ret] at q; exact q
theorem two_some {ss : List Sl} {q : Sl × Sl} : two ss = some q ↔ ss = [q.1, q.2] := by
  constructor
  · intro h
    match ss, h with
    | [a, b], h => cases h; rfl
  · rintro rfl; rfl
theorem three_some {ss : List Sl} {q : Sl × Sl × Sl} : three ss = some q ↔ ss = [q.1, q.2.1, q.2.2] := by
  constructor
  · intro h
    match ss, h with
    | [a, b, c], h => cases h; rfl
  · rintro rfl; rfl
theorem w_par {i j : Nat} (q : upS Z (sPar i j fb) E ρ) : dPar i j (upB Z fb) E ρ := by
  simp only [upS, sPar, wp_bind2, wp_ofO, wp_need, wp_ret, two_some, decide_eq_true_eq] at q
  exact wp_mono (fun a ⟨p, e, h, q⟩ => ⟨p.1, p.2, e, h, q⟩) q
theorem w_par3 {i j l : Nat} (q : upS Z (sPar3 i j l fb) E ρ) : dPar3 i j l (upB Z fb) E ρ := by
  simp only [upS, sPar3, wp_bind2, wp_ofO, wp_need, wp_ret, three_some, decide_eq_true_eq] at q
  exact wp_mono (fun a ⟨p, e, h, q⟩ => ⟨p.1, p.2.1, p.2.2, e, h, q⟩) q
theorem loop_up : ∀ {xs : List D} {ρ : Env'}, wp Z (loopT gg sf xs ρ) (Out.want E) → loopS (upG Z gg) (upS Z sf) E xs ρ
  | [], ρ, q => q
  | x :: xs, ρ, q => by
    simp only [loopT, wp_bind] at q
    refine wp_mono (fun ρ' q => wp_mono (fun o q => ?_) q) q
    cases o with
    | nx ρ2 => exact loop_up q
    | ct ρ2 => exact loop_up q
    | bk ρ2 => exact q
    | rt s => exact q
theorem w_for (q : upS Z (sFor fa gg sf) E ρ) : dFor (upA Z fa) (upG Z gg) (upS Z sf) E ρ := by
  simp only [upS, sFor, wp_bind2] at q
  exact wp_mono (fun a q => loop_up q) q
theorem w_while {n : Nat} (q : upS Z (sWhile n c sf) E ρ) : dWhile (upT Z c) (upS Z sf) E ρ := by
  refine ⟨fun m ρ => wp Z (whileT c sf m ρ) (Out.want E), ⟨n, q⟩, fun m ρ q => ?_⟩
  cases m with
  | zero => exact q.elim
  | succ m =>
    simp only [whileT, wp_bind2, wp_ite, wp_bind] at q
    refine wp_mono (fun a q => ?_) q
    by_cases h : a.1 = true
    · rw [if_pos h] at q ⊢
      refine wp_mono (fun o q => ?_) q
      cases o with
      | nx ρ2 => exact ⟨m, Nat.lt_succ_self m, q⟩
      | ct ρ2 => exact ⟨m, Nat.lt_succ_self m, q⟩
      | bk ρ2 => exact q
      | rt s => exact q
    · rw [if_neg h] at q ⊢
      exact q
theorem w_setL {i : Nat} (q : upS Z (sSetL i f g) E ρ) : dSetL i (up Z f) (up Z g) E ρ := by
  simp only [upS, sSetL, wp_bind2, wp_ofO, wp_need, wp_ret, ownO_some, dint_some, decide_eq_true_eq] at q
  exact wp_mono (fun a ⟨y, hy, xs, hx, q⟩ => ⟨y, hy, ⟨xs, hx⟩, q⟩) q
theorem w_setD {i : Nat} (q : upS Z (sSetD i f g) E ρ) : dSetD i (up Z f) (up Z g) E ρ := by
  simp only [upS, sSetD, wp_bind2, wp_ofO, wp_need, wp_ret, odO_some, decide_eq_true_eq] at q
  exact wp_mono (fun a ⟨y, hy, p, hx, q⟩ => ⟨y, hy, ⟨p.1, p.2, hx⟩, wp_mono (fun b ⟨d, hd, j, hj, r, hr, q⟩ => ⟨d, hd, j, hj, r.1, r.2, hr, q⟩) q⟩) q
theorem instO_some {C : Addr} {i : Nat} {ρ : Env'} {q : Sl × List Str × List D} : instO C i ρ = some q → ρ[i]? = some q.1 ∧ q.1.inst = some (C, q.2.1, q.2.2) := by
  unfold instO
  intro h
  cases e : ρ[i]? with
  | none => rw [e] at h; cases h
  | some s =>
    rw [e] at h
    cases e2 : s.inst with
    | none => simp only [e2] at h; cases h
    | some p =>
      obtain ⟨C', ns, vs⟩ := p
      simp only [e2] at h
      split at h
      · rename_i hc
        cases h; cases hc
        exact ⟨rfl, e2⟩
      · cases h
theorem w_setF {C : Addr} {i : Nat} {n : Str} (q : upS Z (sSetF C i n f) E ρ) : dSetF C i n (up Z f) E ρ := by
  simp only [upS, sSetF, wp_bind2, wp_ofO, wp_need, wp_ret, decide_eq_true_eq] at q
  refine wp_mono (fun a ⟨y, hy, p, hp, h, q⟩ => ?_) q
  obtain ⟨h1, h2⟩ := instO_some hp
  exact ⟨y, hy, p.1, p.2.1, p.2.2, h1, h2, h, q⟩
theorem w_mnil {z : Str} (q : upM Z mNil' z E ρ) : mNil z E ρ := q
theorem w_mval {z x : Str} {m : Str → S'} (q : upM Z (mVal' x sf m) z E ρ) : mVal x (upS Z sf) (upM Z m) z E ρ := by
  unfold upM upS mVal' at q
  unfold mVal
  split at q
  · rename_i h; rw [if_pos h]; exact q
  · rename_i h; rw [if_neg h]; exact q
theorem w_many {z : Str} (q : upM Z (mAny' sf) z E ρ) : mAny (upS Z sf) z E ρ := q
theorem bind_dstr {s : Sl} {z : Str} : s.dat.bind dstr = some z ↔ s.dat = some (.str z) := by
  cases e : s.dat with
  | none => simp
  | some x => simp [dstr_some]
theorem bind_dlst {s : Sl} {z : List D} : s.dat.bind dlst = some z ↔ s.dat = some (.lst z) := by
  cases e : s.dat with
  | none => simp
  | some x => simp [dlst_some]
theorem bind_dtup {s : Sl} {z : List D} : s.dat.bind dtup = some z ↔ s.dat = some (.tup z) := by
  cases e : s.dat with
  | none => simp
  | some x => simp [dtup_some]
theorem w_match {m : Str → S'} (q : upS Z (sMatch f m) E ρ) : dMatch (up Z f) (upM Z m) E ρ := by
  simp only [upS, sMatch, wp_bind2, wp_ofO, bind_dstr] at q; exact q
variable {PA' : List D → Env' → Prop} {P : Sl → Env' → Prop}
theorem w_iL (q : upA Z (iL' f) ρ PA') : iL (up Z f) ρ PA' := by
  simpa only [upA, up, iL', iL, wp_bind2, wp_ofO, wp_ret, bind_dlst] using q
theorem w_iT (q : upA Z (iT' f) ρ PA') : iT (up Z f) ρ PA' := by
  simpa only [upA, up, iT', iT, wp_bind2, wp_ofO, wp_ret, bind_dtup] using q
theorem w_iS (q : upA Z (iS' f) ρ PA') : iS (up Z f) ρ PA' := by
  simpa only [upA, up, iS', iS, wp_bind2, wp_ofO, wp_ret, bind_dstr] using q
theorem int1_some {xs : List D} {n : Int} : int1 xs = some n ↔ xs = [.int n] := by
  constructor
  · intro h
    match xs, h with
    | [.int n], h => cases h; rfl
  · rintro rfl; rfl
theorem lst1_some {xs : List D} {n : List D} : lst1 xs = some n ↔ xs = [.lst n] := by
  constructor
  · intro h
    match xs, h with
    | [.lst n], h => cases h; rfl
  · rintro rfl; rfl
theorem w_iR (q : upA Z (iR' fa) ρ PA') : iR (upA Z fa) ρ PA' := by
  simpa only [upA, iR', iR, wp_bind2, wp_ofO, wp_need, wp_ret, int1_some, decide_eq_true_eq] using q
theorem w_iEn (q : upA Z (iEn' fa) ρ PA') : iEn (upA Z fa) ρ PA' := by
  simpa only [upA, iEn', iEn, wp_bind2, wp_ofO, wp_ret, lst1_some] using q
theorem lc_up {vs : List Nat} {te : E'} : ∀ {xs acc : List D} {ρ : Env'}, wp Z (lcT gg c te vs xs acc ρ) (fun r => P r.1 r.2) → loopC (upG Z gg) (upT Z c) (up Z te) vs P xs acc ρ
  | [], acc, ρ, q => q
  | x :: xs, acc, ρ, q => by
    simp only [lcT, wp_bind, wp_bind2, wp_ite, wp_ofO, wp_need, decide_eq_true_eq] at q
    refine wp_mono (fun ρ1 q => wp_mono (fun b q => ?_) q) q
    by_cases h : b.1 = true
    · rw [if_pos h] at q ⊢
      exact wp_mono (fun s ⟨y, hy, hl, q⟩ => ⟨y, hy, hl, lc_up q⟩) q
    · rw [if_neg h] at q ⊢
      exact lc_up q
theorem w_lc {vs : List Nat} {te : E'} (q : up Z (eLc fa gg c te vs) ρ P) : dLc (upA Z fa) (upG Z gg) (upT Z c) (up Z te) vs ρ P := by
  simp only [up, eLc, wp_bind2] at q
  exact wp_mono (fun a q => lc_up q) q
theorem w_setLc {vs : List Nat} {te : E'} {i : Nat} (q : upS Z (sAsg (eLc fa gg c te vs) (gNm' i)) E ρ) : dAsg (dLc (upA Z fa) (upG Z gg) (upT Z c) (up Z te) vs) (gNm i) E ρ := by
  simp only [upS, sAsg, wp_bind2, wp_bind, wp_ret] at q
  exact w_lc (wp_mono (fun a q => w_gnm q) q)
theorem w_yes {PT' : Bool → Env' → Prop} (q : upT Z tYes' ρ PT') : dYes ρ PT' := q
theorem dc_up {vs : List Nat} {tk tv : E'} : ∀ {xs : List D} {ks : List Key} {us : List D} {ρ : Env'}, wp Z (dcT gg c tk tv vs xs ks us ρ) (fun r => P r.1 r.2) → loopK (upG Z gg) (upT Z c) (up Z tk) (up Z tv) vs P xs ks us ρ
  | [], ks, us, ρ, q => q
  | x :: xs, ks, us, ρ, q => by
    simp only [dcT, wp_bind, wp_bind2, wp_ite, wp_ofO, wp_need, decide_eq_true_eq] at q
    refine wp_mono (fun ρ1 q => wp_mono (fun b q => ?_) q) q
    by_cases h : b.1 = true
    · rw [if_pos h] at q ⊢
      exact wp_mono (fun s ⟨y, hy, q⟩ => ⟨y, hy, wp_mono (fun s2 ⟨z, hz, j, hj, hl, q⟩ => ⟨z, hz, j, hj, hl, dc_up q⟩) q⟩) q
    · rw [if_neg h] at q ⊢
      exact dc_up q
theorem w_dc {vs : List Nat} {tk tv : E'} (q : up Z (eDc fa gg c tk tv vs) ρ P) : dDc (upA Z fa) (upG Z gg) (upT Z c) (up Z tk) (up Z tv) vs ρ P := by
  simp only [up, eDc, wp_bind2] at q
  exact wp_mono (fun a q => dc_up q) q
theorem body_of {N : List Str} {n k : Nat} (hk : N.length - n = k) : Body N n (upS Z sf) (ftM Z (defM k sf)) := fun ss P _ _ q => by
  rw [hk]
  have q := wp_bind.mp q
  refine wp_mono (fun o q => ?_) q
  cases o with
  | nx ρ => exact q
  | rt s => exact wp_need.mp q
  | bk ρ => exact q
  | ct ρ => exact q
theorem bodyI_of {N : List Str} {C : Addr} {n k : Nat} (hk : N.length - n = k) : BodyI N C n (upS Z sf) (fiM Z (defI C k sf)) := fun ss P _ _ q => by
  rw [hk]
  have q := wp_bind.mp q
  refine wp_mono (fun o q => ?_) q
  cases o with
  | nx ρ =>
    obtain ⟨p, hp, q⟩ := wp_ofO.mp (show wp Z (T.ofO (biO C ρ) .ret) _ from q)
    refine ⟨p.1, p.2, ?_, q⟩
    unfold biO at hp
    cases e : ρ[0]? with
    | none => rw [e] at hp; cases hp
    | some s =>
      rw [e] at hp
      cases s with
      | bi C' ns vs =>
        simp only at hp
        split at hp
        · rename_i hc
          cases hp; cases hc; rfl
        · cases hp
      | _ => cases hp
  | rt s => exact q
  | bk ρ => exact q
  | ct ρ => exact q
end
end Tr
namespace Tr
open PySem L2 Fl
open PyProof.Rows (envOfC)
def oAdd : O' := fun x y => match x, y with
  | .int i, .int j => .ret (.d (.int (i + j)))
  | .str a, .str b => T.need (decide (a.length + b.length ≤ 100000)) (.ret (.d (.str (a ++ b))))
  | .lst a, .lst b => T.need (decide (a.length + b.length ≤ 100000)) (.ret (.ol (a ++ b)))
  | .tup a, .tup b => T.need (decide (a.length + b.length ≤ 100000)) (.ret (.d (.tup (a ++ b))))
  | _, _ => .fail
def oSub : O' := fun x y => match x, y with
  | .int i, .int j => .ret (.d (.int (i - j)))
  | _, _ => .fail
def oMul : O' := fun x y => match x, y with
  | .int i, .int j => T.need (decide (-1000000000000 < i ∧ i < 1000000000000)) (.ret (.d (.int (i * j))))
  | .lst a, .int j => T.need (decide (0 ≤ j ∧ j ≤ 1000 ∧ a.length ≤ 1000)) (.ret (.ol (reps a j)))
  | _, _ => .fail
def oMod : O' := fun x y => match x, y with
  | .int i, .int j => T.need (decide (0 < j)) (.ret (.d (.int (i % j))))
  | _, _ => .fail
def oFdv : O' := fun x y => match x, y with
  | .int i, .int j => T.need (decide (0 < j ∧ j < 1000000000)) (.ret (.d (.int (i.fdiv j))))
  | _, _ => .fail
def oRel (c : Int → Int → Bool) : O' := fun x y => match x, y with
  | .int i, .int j => .ret (.d (.bl (c i j)))
  | _, _ => .fail
def oLt : O' := oRel fun i j => decide (i < j)
def oLe : O' := oRel fun i j => decide (i ≤ j)
def oGt : O' := oRel fun i j => decide (j < i)
def oGe : O' := oRel fun i j => decide (j ≤ i)
def oEq : O' := fun x y => T.need (ok 60 x && ok 60 y) (.ret (.d (.bl (eqD x y))))
def oNe : O' := fun x y => T.need (ok 60 x && ok 60 y) (.ret (.d (.bl (!eqD x y))))
def oIsN : O' := fun x y => T.need (isNon y) (.ret (.d (.bl (isNon x))))
def oNotN : O' := fun x y => T.need (isNon y) (.ret (.d (.bl (!isNon x))))
def oIn : O' := fun x y => T.ofO (inSeq x y) fun b => .ret (.d (.bl b))
def oNotIn : O' := fun x y => T.ofO (inSeq x y) fun b => .ret (.d (.bl (!b)))
def oTimes : O' := fun x y => match x, y with
  | .str z, .int n => T.need (decide (2 ≤ n ∧ n ≤ 1000 ∧ 1 ≤ z.length ∧ z.length ≤ 1000) && sOk (timesS z n.toNat)) (.ret (.d (.str (timesS z n.toNat))))
  | _, _ => .fail
section
variable {Z : Exc → Prop} {x y : D} {P : Sl → Prop}
theorem wo_add (x y : D) (P : Sl → Prop) (q : roF Z oAdd x y P) : dAdd x y P := by
  have go : ∀ {b : Prop} [Decidable b] {s : Sl}, wp Z (T.need (decide b) (.ret s)) P → b ∧ P s := fun q => let h := wp_need.mp q; ⟨of_decide_eq_true h.1, h.2⟩
  cases x <;> cases y <;> first | exact q | exact go q
theorem wo_sub (x y : D) (P : Sl → Prop) (q : roF Z oSub x y P) : dSub x y P := by
  cases x <;> cases y <;> exact q
theorem wo_mul (x y : D) (P : Sl → Prop) (q : roF Z oMul x y P) : dMul x y P := by
  have go : ∀ {b : Prop} [Decidable b] {s : Sl}, wp Z (T.need (decide b) (.ret s)) P → b ∧ P s := fun q => let h := wp_need.mp q; ⟨of_decide_eq_true h.1, h.2⟩
  cases x <;> cases y <;> first | exact q | exact go q
theorem wo_mod (x y : D) (P : Sl → Prop) (q : roF Z oMod x y P) : dMod x y P := by
  have go : ∀ {b : Prop} [Decidable b] {s : Sl}, wp Z (T.need (decide b) (.ret s)) P → b ∧ P s := fun q => let h := wp_need.mp q; ⟨of_decide_eq_true h.1, h.2⟩
  cases x <;> cases y <;> first | exact q | exact go q
theorem wo_fdv (x y : D) (P : Sl → Prop) (q : roF Z oFdv x y P) : dFdv x y P := by
  have go : ∀ {b : Prop} [Decidable b] {s : Sl}, wp Z (T.need (decide b) (.ret s)) P → b ∧ P s := fun q => let h := wp_need.mp q; ⟨of_decide_eq_true h.1, h.2⟩
  cases x <;> cases y <;> first | exact q | exact go q
theorem wo_rel {c : Int → Int → Bool} (x y : D) (P : Sl → Prop) (q : roF Z (oRel c) x y P) : dRel c x y P := by
  cases x <;> cases y <;> exact q
theorem wo_lt (x y : D) (P : Sl → Prop) (q : roF Z oLt x y P) : dLt x y P := wo_rel x y P q
theorem wo_le (x y : D) (P : Sl → Prop) (q : roF Z oLe x y P) : dLe x y P := wo_rel x y P q
theorem wo_gt (x y : D) (P : Sl → Prop) (q : roF Z oGt x y P) : dGt x y P := wo_rel x y P q
theorem wo_ge (x y : D) (P : Sl → Prop) (q : roF Z oGe x y P) : dGe x y P := wo_rel x y P q
theorem wo_eq (x y : D) (P : Sl → Prop) (q : roF Z oEq x y P) : dEq x y P := by
  obtain ⟨h, q⟩ := wp_need.mp q
  rw [Bool.and_eq_true] at h
  exact ⟨h.1, h.2, q⟩
theorem wo_ne (x y : D) (P : Sl → Prop) (q : roF Z oNe x y P) : dNe x y P := by
  obtain ⟨h, q⟩ := wp_need.mp q
  rw [Bool.and_eq_true] at h
  exact ⟨h.1, h.2, q⟩
theorem wo_isN (x y : D) (P : Sl → Prop) (q : roF Z oIsN x y P) : dIsN x y P := by
  obtain ⟨h, q⟩ := wp_need.mp q
  cases y <;> first | exact ⟨rfl, q⟩ | cases h
theorem wo_notN (x y : D) (P : Sl → Prop) (q : roF Z oNotN x y P) : dNotN x y P := by
  obtain ⟨h, q⟩ := wp_need.mp q
  cases y <;> first | exact ⟨rfl, q⟩ | cases h
theorem wo_in (x y : D) (P : Sl → Prop) (q : roF Z oIn x y P) : dIn x y P := wp_ofO.mp q
theorem wo_notIn (x y : D) (P : Sl → Prop) (q : roF Z oNotIn x y P) : dNotIn x y P := wp_ofO.mp q
theorem wo_times (x y : D) (P : Sl → Prop) (q : roF Z oTimes x y P) : dTimes x y P := by
  cases x <;> cases y <;> first | exact q.elim | skip
  rename_i z n
  obtain ⟨h, q⟩ := wp_need.mp q
  rw [Bool.and_eq_true, decide_eq_true_eq] at h
  exact ⟨z, n, rfl, rfl, h.1.1, h.1.2.1, h.1.2.2.1, h.1.2.2.2, h.2, q⟩
end
def cp : List D → Option D
  | [x] => some x
  | _ => none
theorem cp_some {xs : List D} {x : D} : cp xs = some x ↔ xs = [x] := by
  constructor
  · intro h
    match xs, h with
    | [a], h => cases h; rfl
  · rintro rfl; rfl
def fLen : List D → T Sl := fun xs => T.ofO (cp xs) fun x => T.ofO (lenD x) fun n => .ret (.d (.int (n : Nat)))
def fList : List D → T Sl := fun xs => T.ofO (cp xs) fun x => T.ofO (seqD x) fun ys => .ret (.ol ys)
def fTuple : List D → T Sl := fun xs => T.ofO (cp xs) fun x => T.ofO (seqD x) fun ys => .ret (.d (.tup ys))
def fInt : List D → T Sl := fun xs => match xs with
  | [.int i] => .ret (.d (.int i))
  | [.bl b] => .ret (.d (.int (if b then 1 else 0)))
  | _ => .fail
def bl1 : D → Option Bool
  | .bl b => some b
  | _ => none
def bls : List D → Option (List Bool)
  | [] => some []
  | x :: xs => match bl1 x, bls xs with
    | some b, some bs => some (b :: bs)
    | _, _ => none
theorem bls_some : ∀ {xs : List D} {bs : List Bool}, bls xs = some bs → xs = bs.map D.bl
  | [], bs, h => by cases h; rfl
  | x :: xs, bs, h => by
    unfold bls at h
    cases x with
    | bl b =>
      cases e : bls xs with
      | none => simp [bl1, e] at h
      | some cs => simp [bl1, e] at h; subst h; rw [bls_some e]; rfl
    | _ => simp [bl1] at h
theorem bls_of (bs : List Bool) : bls (bs.map D.bl) = some bs := by
  induction bs with
  | nil => rfl
  | cons b bs ih => simp [bls, bl1, ih]
def fAll : List D → T Sl := fun xs => T.ofO (lst1 xs) fun ys => T.ofO (bls ys) fun bs => .ret (.d (.bl (bs.all id)))
def fAny : List D → T Sl := fun xs => T.ofO (lst1 xs) fun ys => T.ofO (bls ys) fun bs => .ret (.d (.bl (bs.any id)))
def fMin2 : List D → T Sl := fun xs => match xs with
  | [.int i, .int j] => .ret (.d (.int (if j < i then j else i)))
  | _ => .fail
def fRepr : List D → T Sl := fun xs => T.ofO (cp xs) fun x => T.need (shw 60 x && decide (wt x ≤ 100000)) (.ret (.d (.str (reprD x))))
def fDict : List D → T Sl := fun xs => T.ofO (cp xs) fun x => T.ofO (dicO x) fun q => .ret (.od q.1 q.2)
def fListK : List D → T Sl := fun xs => T.ofO (cp xs) fun x => T.ofO (dicO x) fun q => T.need (q.1.all kOk) (.ret (.ol (q.1.map keyT)))
def prs : List D → Option (List (Key × D))
  | [] => some []
  | x :: xs => match pairIn x, prs xs with
    | some b, some bs => some (b :: bs)
    | _, _ => none
theorem prs_some : ∀ {xs : List D} {bs : List (Key × D)}, prs xs = some bs → xs.map pairIn = bs.map some
  | [], bs, h => by cases h; rfl
  | x :: xs, bs, h => by
    unfold prs at h
    cases e0 : pairIn x with
    | none => simp [e0] at h
    | some b =>
      cases e : prs xs with
      | none => simp [e0, e] at h
      | some cs => simp [e0, e] at h; subst h; rw [List.map_cons, List.map_cons, prs_some e, e0]
def fDictP : List D → T Sl := fun xs => T.ofO (lst1 xs) fun ps => T.ofO (prs ps) fun kxs => .ret (.od (mergeD [] [] kxs).1 (mergeD [] [] kxs).2)
/-- texts in order -/
def insS (x : Str) : List Str → List Str
  | [] => [x]
  | y :: ys => if PySem.Spec.ltCps y.cps.toList x.cps.toList then y :: insS x ys else x :: y :: ys
def sortS : List Str → List Str
  | [] => []
  | x :: xs => insS x (sortS xs)
theorem insS_perm (x : Str) : ∀ ys : List Str, (insS x ys).Perm (x :: ys)
  | [] => .refl _
  | y :: ys => by
    unfold insS
    split
    · exact ((insS_perm x ys).cons y).trans (.swap x y ys)
    · exact .refl _
theorem sortS_perm : ∀ xs : List Str, (sortS xs).Perm xs
  | [] => .refl _
  | x :: xs => (insS_perm x _).trans ((sortS_perm xs).cons x)
theorem ltCps_lt : ∀ {a b : List Nat}, PySem.Spec.ltCps a b = true ↔ a < b
  | [], [] => by simp [PySem.Spec.ltCps]
  | [], b :: bs => by simp [PySem.Spec.ltCps]
  | a :: as, [] => by simp [PySem.Spec.ltCps]
  | a :: as, b :: bs => by
    unfold PySem.Spec.ltCps
    rw [List.cons_lt_cons_iff, ← ltCps_lt (a := as) (b := bs)]
    by_cases h : a = b <;> simp [h, Nat.lt_irrefl]
theorem ltCps_asymm {a b : List Nat} (h : PySem.Spec.ltCps a b = true) : PySem.Spec.ltCps b a = false := by
  cases e : PySem.Spec.ltCps b a with
  | false => rfl
  | true => exact absurd (ltCps_lt.mp e) (List.lt_asymm (ltCps_lt.mp h))
theorem rising_ins (x : Str) : ∀ (ys : List Str) (p : Str), PyProof.Rows.risingS p ys = true → PySem.Spec.ltCps x.cps.toList p.cps.toList = false → PyProof.Rows.risingS p (insS x ys) = true
  | [], p, _, hx => by simp [insS, PyProof.Rows.risingS, hx]
  | y :: ys, p, h, hx => by
    unfold PyProof.Rows.risingS at h
    rw [Bool.and_eq_true] at h
    unfold insS
    split
    · rename_i hl
      unfold PyProof.Rows.risingS
      rw [h.1, Bool.true_and]
      exact rising_ins x ys y h.2 (ltCps_asymm hl)
    · rename_i hl
      have hl : PySem.Spec.ltCps y.cps.toList x.cps.toList = false := by simpa using hl
      simp [PyProof.Rows.risingS, hx, hl, h.2]
theorem sorted_ins (x : Str) (ys : List Str) (h : PyProof.Rows.sortedS ys = true) : PyProof.Rows.sortedS (insS x ys) = true := by
  cases ys with
  | nil => rfl
  | cons y ys =>
    unfold insS
    split
    · rename_i hl
      exact rising_ins x ys y h (ltCps_asymm hl)
    · rename_i hl
      have hl : PySem.Spec.ltCps y.cps.toList x.cps.toList = false := by simpa using hl
      have h : PyProof.Rows.risingS y ys = true := h
      simp [PyProof.Rows.sortedS, PyProof.Rows.risingS, hl, h]
theorem sortS_sorted : ∀ xs : List Str, PyProof.Rows.sortedS (sortS xs) = true
  | [] => rfl
  | x :: xs => sorted_ins x _ (sortS_sorted xs)
def fSortS : List D → T Sl := fun xs => T.ofO (cp xs) fun x => T.ofO (sortIn x) fun ws => T.need (decide (ws.length < 64) && ws.all sOk) (.ret (.ol ((sortS ws).map D.str)))
section
variable {Z : Exc → Prop}
theorem wf_len (xs : List D) (P : Sl → Prop) (q : rcF Z fLen xs P) : cLen xs P := by
  simp only [rcF, fLen, wp_ofO, wp_ret, cp_some] at q
  obtain ⟨x, h, n, h2, q⟩ := q
  exact ⟨x, n, h, h2, q⟩
theorem wf_list (xs : List D) (P : Sl → Prop) (q : rcF Z fList xs P) : cList xs P := by
  simp only [rcF, fList, wp_ofO, wp_ret, cp_some] at q
  obtain ⟨x, h, n, h2, q⟩ := q
  exact ⟨x, n, h, h2, q⟩
theorem wf_tuple (xs : List D) (P : Sl → Prop) (q : rcF Z fTuple xs P) : cTuple xs P := by
  simp only [rcF, fTuple, wp_ofO, wp_ret, cp_some] at q
  obtain ⟨x, h, n, h2, q⟩ := q
  exact ⟨x, n, h, h2, q⟩
theorem wf_int (xs : List D) (P : Sl → Prop) (q : rcF Z fInt xs P) : cInt xs P := by
  have q : wp Z (fInt xs) P := q
  match xs, q with
  | [.int i], q => exact .inl ⟨i, rfl, q⟩
  | [.bl b], q => exact .inr ⟨b, rfl, q⟩
  | [], q => exact q.elim
  | [.non], q => exact q.elim
  | [.str _], q => exact q.elim
  | [.lst _], q => exact q.elim
  | [.tup _], q => exact q.elim
  | [.dic _ _], q => exact q.elim
  | [.ins _ _ _], q => exact q.elim
  | .non :: _ :: _, q => exact q.elim
  | .int _ :: _ :: _, q => exact q.elim
  | .bl _ :: _ :: _, q => exact q.elim
  | .str _ :: _ :: _, q => exact q.elim
  | .lst _ :: _ :: _, q => exact q.elim
  | .tup _ :: _ :: _, q => exact q.elim
  | .dic _ _ :: _ :: _, q => exact q.elim
  | .ins _ _ _ :: _ :: _, q => exact q.elim
theorem wf_all (xs : List D) (P : Sl → Prop) (q : rcF Z fAll xs P) : cAll xs P := by
  simp only [rcF, fAll, wp_ofO, wp_ret, lst1_some] at q
  obtain ⟨ys, rfl, bs, h, q⟩ := q
  exact ⟨bs, by rw [bls_some h], q⟩
theorem wf_any (xs : List D) (P : Sl → Prop) (q : rcF Z fAny xs P) : cAny xs P := by
  simp only [rcF, fAny, wp_ofO, wp_ret, lst1_some] at q
  obtain ⟨ys, rfl, bs, h, q⟩ := q
  exact ⟨bs, by rw [bls_some h], q⟩
theorem wf_min2 (xs : List D) (P : Sl → Prop) (q : rcF Z fMin2 xs P) : cMin2 xs P := by
  have q : wp Z (fMin2 xs) P := q
  unfold fMin2 at q
  split at q
  · exact ⟨_, _, rfl, q⟩
  · exact q.elim
theorem wf_repr (xs : List D) (P : Sl → Prop) (q : rcF Z fRepr xs P) : cRepr xs P := by
  simp only [rcF, fRepr, wp_ofO, wp_need, wp_ret, cp_some, Bool.and_eq_true, decide_eq_true_eq] at q
  obtain ⟨x, h, h2, q⟩ := q
  exact ⟨x, h, h2.1, h2.2, q⟩
theorem wf_dict (xs : List D) (P : Sl → Prop) (q : rcF Z fDict xs P) : cDict xs P := by
  simp only [rcF, fDict, wp_ofO, wp_ret, cp_some, dicO_some] at q
  obtain ⟨x, h, p, h2, q⟩ := q
  exact ⟨p.1, p.2, by rw [h, h2], q⟩
theorem wf_listK (xs : List D) (P : Sl → Prop) (q : rcF Z fListK xs P) : cListK xs P := by
  simp only [rcF, fListK, wp_ofO, wp_need, wp_ret, cp_some, dicO_some] at q
  obtain ⟨x, h, p, h2, h3, q⟩ := q
  exact ⟨p.1, p.2, by rw [h, h2], h3, q⟩
theorem wf_dictP (xs : List D) (P : Sl → Prop) (q : rcF Z fDictP xs P) : cDictP xs P := by
  simp only [rcF, fDictP, wp_ofO, wp_ret, lst1_some] at q
  obtain ⟨ps, h, ks, h2, q⟩ := q
  exact ⟨ps, ks, h, prs_some h2, q⟩
theorem wf_sortS (xs : List D) (P : Sl → Prop) (q : rcF Z fSortS xs P) : cSortS xs P := by
  simp only [rcF, fSortS, wp_ofO, wp_need, wp_ret, cp_some, Bool.and_eq_true, decide_eq_true_eq, List.all_eq_true] at q
  obtain ⟨x, h, ws, h2, h3, q⟩ := q
  refine ⟨x, ws, h, h2, h3.1, h3.2, fun ys hp hs => ?_⟩
  rw [sorted_eq hs (sortS_sorted ws) (hp.trans (sortS_perm ws).symm)]
  exact q
end
def Z0 : Exc → Prop := fun _ => False
section
variable {P : Program} {w : World} {K : PySem.W.Frag} {mg : Str → Option Value} {base : Heap} {x qual : Str} {st : Stmt} {f : Addr} {fd : FuncData} {N ps : List Str} {k n j : Nat} {Z : Exc → Prop} {b : S'}
theorem fun_M (F : Fun K x qual st f fd) (S : FnScope N ps (defScope st)) (hn : ps.length = n) (hj : N.length - n = j)
    (hb : ∀ (cdv : Value) (A : Around) (outer : List Env) (s : Shared) (H : Hp) (E : XK), Room k (A.deeper (envOfC qual (defScope st) s.heap.objs.size f cdv)) →
      PSs (cxOf CX0 P w K mg base N qual (defScope st) f cdv A outer s H E).nox (defBody st) (liftS K (upS Z b))) : FnOk P w K mg base CX0 (k + 1) f fd ps (spD K n (ftM Z (defM j b))) :=
  fun_d F S hn fun cdv A outer s H E hr => ⟨_, hb cdv A outer s H E hr, body_of hj⟩
theorem fun_Mg (F : Fun K x qual st f fd) (S : FnScope N ps (defScope st)) (hn : ps.length = n) (hj : N.length - n = j)
    (hb : ∀ (cdv : Value) (A : Around) (outer : List Env) (s : Shared) (H : Hp) (E : XK), (A.deeper (envOfC qual (defScope st) s.heap.objs.size f cdv)).guards = some [] → Room k (A.deeper (envOfC qual (defScope st) s.heap.objs.size f cdv)) →
      PSs (cxOf CX0 P w K mg base N qual (defScope st) f cdv A outer s H E).nox (defBody st) (liftS K (upS Z b))) : FnG P w K mg base (k + 1) f fd ps (spD K n (ftM Z (defM j b))) :=
  fun_g F S hn fun cdv A outer s H E hg hr => ⟨_, hb cdv A outer s H E hg hr, body_of hj⟩
theorem fun_MI {C : Addr} (F : Fun K x qual st f fd) (S : FnScope N ps (defScope st)) (hn : ps.length = n) (hj : N.length - n = j)
    (hb : ∀ (cdv : Value) (A : Around) (outer : List Env) (s : Shared) (H : Hp) (E : XK), Room k (A.deeper (envOfC qual (defScope st) s.heap.objs.size f cdv)) →
      PSs (cxOf CX0 P w K mg base N qual (defScope st) f cdv A outer s H E).nox (defBody st) (liftS K (upS Z b))) : FnOk P w K mg base CX0 (k + 1) f fd ps (spI K C n (fiM Z (defI C j b))) :=
  fun_i F S hn (fun cdv A outer s H E hr => ⟨_, hb cdv A outer s H E hr, bodyI_of hj⟩) fun vs H Q E h => spI_len h
theorem ft_draw : ∀ ss P, ftM Z drawM ss P → ftDraw ss P := fun ss P q => by
  have q : wp Z (drawM ss) P := q
  unfold drawM at q
  split at q
  · exact ⟨_, rfl, q.1.1, q.1.2, q.2⟩
  · exact q.elim
/-- a promise weakened -/
theorem FnOk.dn {sp sp' : Sp} (F : FnOk P w K mg base CX0 k f fd ps sp) (hl : ∀ vs H Q E, sp' vs H Q E → vs.length = ps.length) (i : ∀ vs H Q E, sp' vs H Q E → sp vs H Q E) : FnOk P w K mg base CX0 k f fd ps sp' :=
  ⟨hl, fun A outer s H args us vs Q E hr e b r h => F.run A outer s H args us vs Q E hr e b r (i _ _ _ _ h)⟩
theorem FnOk.ft {ft ft' : FT} (F : FnOk P w K mg base CX0 k f fd ps (spD K n ft)) (i : ∀ ss P, ft' ss P → ft ss P) : FnOk P w K mg base CX0 k f fd ps (spD K n ft') :=
  FnOk.dn F (fun vs H Q E h => F.len vs H Q E (let ⟨G, src, ss, P, a, b, c, d, e⟩ := h; ⟨G, src, ss, P, a, b, c, i _ _ d, e⟩)) fun vs H Q E ⟨G, src, ss, P, a, b, c, d, e⟩ => ⟨G, src, ss, P, a, b, c, i _ _ d, e⟩
end
end Tr
namespace L2
open PySem PySem.Spec PyProof.Rows
open AutoSeq1 (wpAny_loadPart')
theorem meets_enumerate_newT (l : Addr) (items : Array Value) (n : Nat) (dct : Option Addr) (sl : Array (Option Value)) :
    Meets (Builtin.«enumerate.__new__» ⟨[.type "enumerate", .ref l], []⟩) (fun _ R s => s.heap.get? l = some { cls := .type "tuple", dict := dct, data := .seq items n, slots := sl } ∧
      R (.ok (.ret (.ref (s.heap.push { cls := .type "tuple_iterator", data := .fields #[.ref l, .int 0 0] }).objs.size)))
        { s with heap := (s.heap.push { cls := .type "tuple_iterator", data := .fields #[.ref l, .int 0 0] }).push { cls := .type "enumerate", data := .fields #[.none, .bool false, .ref s.heap.objs.size, rawInt 0, .none, .none] } }) :=
  .of_wp fun prog w A R s h => by
    obtain ⟨hp, g, d, tk, os⟩ := s; obtain ⟨hl, h⟩ := h
    have hsub := sub_enumerate
    have hL : Heap.IsTuple (Shared.heap ⟨hp, g, d, tk, os⟩) l items := ⟨_, hl, rfl, n, rfl⟩
    wp_walk using wpAny_loadPart' hl
    refine wpAny_stack_any fun st => wpAny_pure ?_
    split
    · rename_i c _ _ _ _ _
      cases (c == Value.type "enumerate")
      · wp_walk using wpAny_loadPart' hl, wpAny_pyIter_tuple hL
        exact ⟨_, rfl, h⟩
      · wp_walk using wpAny_loadPart' hl, wpAny_pyIter_tuple hL
        exact ⟨_, rfl, h⟩
    · wp_walk using wpAny_loadPart' hl, wpAny_pyIter_tuple hL
      exact ⟨_, rfl, h⟩
section
variable {prog : Program} {w : World} {A : Around} {E : Value → Shared → Prop} {s : Shared}
theorem call_enumerate_tuple {l : Addr} {items : Array Value} {Q : Value → Shared → Prop} (hL : s.heap.IsTuple l items)
    (h : ∀ h', IsEnum h' (s.heap.objs.size + 1) s.heap.objs.size 0 .none → h'.IsTupleIter s.heap.objs.size l 0 → h'.objs.size = s.heap.objs.size + 2 →
      (∀ b o, s.heap.get? b = some o → h'.get? b = some o) → Q (.ref (s.heap.objs.size + 1)) { s with heap := h' }) :
    wpAny (model prog w) A (call (.type "enumerate") [.ref l]) Q E s := by
  obtain ⟨⟨c, dct, dt, sl⟩, hl, hc, n, hd⟩ := hL
  replace hc : c = .type "tuple" := hc
  replace hd : dt = .seq items n := hd
  subst hc hd
  refine callType_new F.called_enumerate (by decide) (F.typeCall_enumerate_1 _) (F.newCall_enumerate_1 _) (fun obj => F.args_object_init_2 obj _) F.entry_enumerate_new
    (meets_enumerate_newT l items n dct sl) ⟨hl, ?_⟩
  have hz : (s.heap.push { cls := .type "tuple_iterator", data := .fields #[.ref l, .int 0 0] }).objs.size = s.heap.objs.size + 1 := Heap.size_push ..
  show _ ∧ _
  rw [hz]
  have he : IsEnum ((s.heap.push { cls := .type "tuple_iterator", data := .fields #[.ref l, .int 0 0] }).push
      { cls := .type "enumerate", data := .fields #[.none, .bool false, .ref s.heap.objs.size, rawInt 0, .none, .none] }) (s.heap.objs.size + 1) s.heap.objs.size 0 .none := by
    have := Heap.get?_push_size (s.heap.push { cls := .type "tuple_iterator", data := .fields #[.ref l, .int 0 0] })
      (o := { cls := .type "enumerate", data := .fields #[.none, .bool false, .ref s.heap.objs.size, rawInt 0, .none, .none] }) rfl
    rw [hz] at this; exact this
  refine ⟨⟨_, he, rfl⟩, h _ he ⟨_, Heap.get?_push_of_some _ (Heap.get?_push_size _ rfl), rfl, rfl⟩ (by rw [Heap.size_push, hz]) fun b o x => Heap.get?_push_of_some _ (Heap.get?_push_of_some _ x)⟩
end
section
variable {prog : Program} {w : World} {A : Around} {E : Value → Shared → Prop} {s : Shared}
theorem enumT_end {e it l : Addr} {i : Nat} {items : Array Value} {old : Value} {Q : Option Value → Shared → Prop} (hh : A.handled = none)
    (he : IsEnum s.heap e it i old) (hit : s.heap.IsTupleIter it l i) (hl : s.heap.IsTuple l items) (hx : items[i]? = none)
    (hQ : ∀ h', Heap.ExtBut it s.heap h' → Q none { s with heap := h' }) : wpAny (model prog w) A (pyNext (.ref e)) Q E s := by
  have hT : s.TypeIs (.ref e) "enumerate" := ⟨_, he, rfl⟩
  unfold pyNext
  refine wpAny_bind (wpAny_attempt (wpAny_callSpecial?_slot (name := Str.ofString "__next__") hT F.slot_enumerate_next
    (wpAny_call_entry F.slot_enumerate_next hT F.entry_enumerate_next ?_ (F.args_enumerate_next_1 _))))
  show wpAny _ _ (field (.ref e) 2 >>= _) _ _ _
  refine wpAny_bind (wpAny_field he rfl (x := .ref it) rfl ?_)
  refine wpAny_bind (wpAny_nextOf_tuple_end hh hit hl hx fun h' x he' hx' => ?_)
  obtain ⟨o, ho, hc⟩ := hx'
  refine wpAny_bind (wpAny_isInstance (T := "StopIteration") (b := true) ⟨o, ho, hc⟩ isSubtype_stop ?_)
  exact wpAny_pure (hQ _ he')
end
/-- the tuple at a, each item in a new pair -/
def IteT (K : PySem.W.Frag) (a : Addr) : It :=
  ⟨fun i H => ∃ (xs : List V) (x : V), SqT K H a xs ∧ xs[i]? = some x, fun i H v H' => ∃ T x, v = .ref T ∧ H T = none ∧ H' = upd H T (.tup [.int (i : Nat), x]) ∧ ∀ xs, SqT K H a xs → xs[i]? = some x, fun i H => ∃ xs : List V, SqT K H a xs ∧ xs.length ≤ i⟩
theorem turn_enumT {P : Program} {w : World} {K : PySem.W.Frag} {elts : List Expr} {kk : Nat} {tpos : Pos} (a e it : Addr) (hai : a ≠ it) (hae : a ≠ e) :
    Turn P w K (.Tuple elts kk tpos) (IteT K a) [e, it] e (fun i h => (∃ old, IsEnum h e it ((i : Nat) : Int) old) ∧ h.IsTupleIter it a i ∧ e ≠ it) where
  mem := by simp
  obj := fun i h st b hb => by
    obtain ⟨⟨old, he⟩, ⟨o, ho, hc, hd⟩, _⟩ := st
    have e' : b = e ∨ b = it := by simpa using hb
    rcases e' with z | z
    · rw [z]; exact ⟨_, he, fun v q => nomatch q⟩
    · rw [z]; exact ⟨o, ho, fun v q => by rw [hd] at q; cases q⟩
  keep := fun i h h' st k => let ⟨⟨old, he⟩, hi, hne⟩ := st; ⟨⟨old, k e (by simp) _ he⟩, hi.at fun o q => k it (by simp) o q, hne⟩
  item := by
    intro X hP hw hK hc i pins s σ H E I hf st hg
    subst hP hw hK
    obtain ⟨⟨old, he⟩, hit, hne⟩ := st
    obtain ⟨xs, x, hq, hx⟩ := hg
    obtain ⟨its, rv, p, hz⟩ := I.tuple hq
    have p : s.heap.IsTuple a its.toArray := p
    obtain ⟨u, hu, ru⟩ := rv.get hx
    have hel : e < s.heap.objs.size := Heap.lt_size he
    have hil : it < s.heap.objs.size := by obtain ⟨_, q, _⟩ := hit; exact Heap.lt_size q
    have hh : X.A.in1.handled = none := I.ok.hd hc
    have hil2 : i < its.toArray.size := by
      have := (List.getElem?_eq_some_iff.mp hu).1
      simpa using this
    refine wpAny_pyNext_enum_itemD (Draws.tuple hh it a hai its.toArray) he ⟨hit, p⟩ hil2 hne (by simp [hne, Ne.symm hae]) fun y h' tk hy ho hit' hT hsz hk => ?_
    have hy : its.toArray[i]? = some y := hy
    obtain rfl : y = u := by
      have h1 : its[i]? = some y := by simpa using hy
      rw [hu] at h1; cases h1; rfl
    refine ⟨_, rfl, wpAny_letOwnedTupleGo_enum (s := { s with heap := h', toks := tk + 1 }) ho fun h'' he' sb => ?_⟩
    have hT2 : h''.get? s.heap.objs.size = some { cls := .type "tuple", data := .seq #[.int i tk, y] } := (sb.2 _ (Nat.ne_of_gt hel)).trans hT
    have new : ObjOk X.prog X.w (upd H s.heap.objs.size (.tup [.int (i : Nat), x])) h'' s.heap.objs.size (.tup [.int (i : Nat), x]) :=
      ⟨by show 2 ≤ sizeLine; decide, [.int i tk, y], .cons ⟨_, rfl⟩ (.cons ru .nil), ⟨_, hT2, rfl, _, rfl⟩⟩
    have I1 : Inv X pins σ (upd H s.heap.objs.size (.tup [.int (i : Nat), x])) { s with heap := h'', toks := tk + 1 } :=
      I.turnedNew (ch := [e, it]) (fun b ob hb q => (sb.2 b (fun z => hb (by simp [z]))).trans (hk b ob (fun z => hb (by simp [z])) (fun z => hb (by simp [z])) q)) hf (Nat.le_refl _) new
    refine ⟨.ref s.heap.objs.size, _, I1, rfl, ⟨_, x, rfl, I.hok.fresh (Nat.le_refl _), rfl, fun ys hy => by rw [I.tuple_inj hy hq]; exact hx⟩, ⟨⟨y, ?_⟩, hit'.1.at fun o q => (sb.2 it (Ne.symm hne)).trans q, hne⟩, fun b hb => ?_⟩
    · have e1 : ((i + 1 : Nat) : Int) = (i : Int) + 1 := by omega
      rw [e1]; exact he'
    · have hb' : b < s.heap.objs.size := by
        have e' : b = e ∨ b = it := by simpa using hb
        rcases e' with z | z
        · rw [z]; exact hel
        · rw [z]; exact hil
      rw [upd_ne (Nat.ne_of_lt hb')]
      exact (hf b hb).1
  done := by
    intro X hP hw hK hc i pins s σ H E I hf st hg
    subst hP hw hK
    obtain ⟨⟨old, he⟩, hit, hne⟩ := st
    obtain ⟨xs, hq, hx⟩ := hg
    obtain ⟨its, rv, p, hz⟩ := I.tuple hq
    have p : s.heap.IsTuple a its.toArray := p
    obtain ⟨f0, f1, f2, f3, f4, f5⟩ := hf it (by simp)
    have hl := rv.length
    have hh : X.A.handled = none := I.ok.hd hc
    exact enumT_end hh he hit p (by simp; omega) fun h' eb => ⟨rfl, I.turned (t' := s.toks) (fun b o hb q => eb b o hb q) f0 f1 f3 f4 f5⟩
  self := fun A i s Q E st h => let ⟨⟨_, he⟩, _⟩ := st; wpAny_pyIter_enum he h
def iEnumA (K : PySem.W.Frag) (ta : TA) : TI := fun σ H R => ta σ H fun vs H1 => ∃ a xs, vs = [.ref a] ∧ ((SqL K H1 a xs ∧ R (Ite K a) H1) ∨ (SqT K H1 a xs ∧ R (IteT K a) H1))
theorem pi_enumA {X : Cx} {e : Expr} {ta : TA} {p pos tpos : Pos} {elts : List Expr} {kk : Nat} (hg : Gl X "enumerate") (hm : X.mg "enumerate" = none) (ha : PA X [e] ta) (hs : starEach [e] X.env = [(false, eval e X.env)] := by rfl) :
    PI X (.Tuple elts kk tpos) (.Call (.Name "enumerate" p) [e] [] pos) (iEnumA X.K ta) := by
  refine ⟨fun pins s σ H R I h => ?_⟩
  refine Call_ (ld_blt I hg hm boot_enumerate (PyProof.Rows.callWith_type1 (thn (ha.run pos pins s σ H _ I h) fun us s1 ⟨vs, H1, I1, r1, q1⟩ => ?_) hs rfl))
  obtain ⟨a, xs, ex, q1⟩ := q1
  subst ex
  cases r1 with
  | cons r rr =>
    cases rr
    cases r
    have fp : ∀ b ∈ [s1.heap.objs.size + 1, s1.heap.objs.size], FpOk X pins H1 b := fun b hb => by
      have e' : b = s1.heap.objs.size + 1 ∨ b = s1.heap.objs.size := by simpa using hb
      have hle : s1.heap.objs.size ≤ b := by
        rcases e' with z | z
        · rw [z]; exact Nat.le_add_right _ _
        · rw [z]; exact Nat.le_refl _
      exact I1.fpOk hle (I1.hok.fresh hle)
    rcases q1 with ⟨hq, q⟩ | ⟨hq, q⟩
    · obtain ⟨its, rv, p', hz⟩ := I1.list hq
      refine call_enumerate_list p'.isList fun h' he hit hsz hk => wpAny_pyIter_enum he ?_
      have I2 : Inv X pins σ H1 { s1 with heap := h' } := I1.kept (t' := s1.toks) hk
      exact ⟨s1.heap.objs.size + 1, [s1.heap.objs.size + 1, s1.heap.objs.size], _, _, H1, rfl, I2, turn_enum a (s1.heap.objs.size + 1) s1.heap.objs.size, ⟨⟨.none, he⟩, hit, Nat.succ_ne_self _⟩, fp, q⟩
    · obtain ⟨its, rv, p', hz⟩ := I1.tuple hq
      have hal : a < s1.heap.objs.size := by obtain ⟨o, ho, _⟩ := p'; exact Heap.lt_size ho
      refine call_enumerate_tuple (show s1.heap.IsTuple a its.toArray from p') fun h' he hit hsz hk => wpAny_pyIter_enum he ?_
      have I2 : Inv X pins σ H1 { s1 with heap := h' } := I1.kept (t' := s1.toks) hk
      exact ⟨s1.heap.objs.size + 1, [s1.heap.objs.size + 1, s1.heap.objs.size], _, _, H1, rfl, I2, turn_enumT a (s1.heap.objs.size + 1) s1.heap.objs.size (Nat.ne_of_lt hal) (Nat.ne_of_lt (Nat.lt_succ_of_lt hal)), ⟨⟨.none, he⟩, hit, Nat.succ_ne_self _⟩, fp, q⟩
theorem walk_enumT {K : PySem.W.Frag} {a : Addr} {xs : List V} : Walk (IteT K a) xs.length (fun H => SqT K H a xs) (YPair (fun i => some (.int (i : Nat))) (fun i => xs[i]?)) := by
  refine ⟨fun i H hi g => ⟨xs, xs[i], g, List.getElem?_eq_getElem hi⟩, fun H g => ⟨xs, g, Nat.le_refl _⟩, fun i H x H' hi g y => ?_⟩
  · obtain ⟨T, z, e1, e2, e3, e4⟩ := y
    exact ⟨T, _, z, e1, e2, e3, rfl, e4 xs g⟩
/-- a list, a tuple or a text -/
def iSeq (K : PySem.W.Frag) (tl : TE) : TI := fun σ H R => tl σ H fun x H1 => (∃ a xs, x = .ref a ∧ SqL K H1 a xs ∧ R (Itl K a) H1) ∨ (∃ a xs, x = .ref a ∧ SqT K H1 a xs ∧ R (Itt K a) H1) ∨ ∃ z, x = .str z ∧ R (Its z) H1
theorem pi_seq {X : Cx} {tg l : Expr} {tl : TE} (hl : PE X l tl) : PI X tg l (iSeq X.K tl) := by
  refine ⟨fun pins s σ H R I h => ?_⟩
  refine thn (hl.run pins s σ H _ I h) fun v s1 ⟨x, H1, I1, r1, q1⟩ => ?_
  rcases q1 with ⟨a, xs, e, hq, q⟩ | ⟨a, xs, e, hq, q⟩ | ⟨z, ex, q⟩
  · subst e
    cases r1
    obtain ⟨its, rv, p, hz⟩ := I1.list hq
    refine wpAny_pyIter_list p.isList ?_
    refine ⟨s1.heap.objs.size, [s1.heap.objs.size], _, _, H1, rfl, I1.kept (t' := s1.toks) fun b o e => Heap.get?_push_of_some _ e, turn_list a _, ⟨_, Heap.get?_push_size _ rfl, rfl, rfl⟩, fun b hb => ?_, q⟩
    have e : b = s1.heap.objs.size := by simpa using hb
    subst e
    exact I1.fpOk (Nat.le_refl _) (I1.hok.fresh (Nat.le_refl _))
  · subst e
    cases r1
    obtain ⟨its, rv, p, hz⟩ := I1.tuple hq
    refine wpAny_pyIter_tuple (show s1.heap.IsTuple a its.toArray from p) ?_
    refine ⟨s1.heap.objs.size, [s1.heap.objs.size], _, _, H1, rfl, I1.kept (t' := s1.toks) fun b o e => Heap.get?_push_of_some _ e, turn_tuple a _, ⟨_, Heap.get?_push_size _ rfl, rfl, rfl⟩, fun b hb => ?_, q⟩
    have e : b = s1.heap.objs.size := by simpa using hb
    subst e
    exact I1.fpOk (Nat.le_refl _) (I1.hok.fresh (Nat.le_refl _))
  · subst ex
    obtain ⟨t, rfl⟩ := r1
    cases ha : z.cps.all (· < 128)
    · exact wpAny_pyIter_wide ha (pi_one (tk := s1.toks) I1 _ (turn_str _ z t "str_iterator" (.inr rfl)) ⟨_, Heap.get?_push_size _ rfl, rfl, rfl⟩ q)
    · exact wpAny_pyIter_ascii ha (pi_one (tk := s1.toks) I1 _ (turn_str _ z t "str_ascii_iterator" (.inl rfl)) ⟨_, Heap.get?_push_size _ rfl, rfl, rfl⟩ q)
end L2
namespace Fl
open PySem L2
section
variable {X : Cx} {K : PySem.W.Frag} {G : Hp} {pos : Pos} {tg e : Expr} {te : ET}
theorem walkD_enumT {a : Addr} {us : List V} {xs : List D} (h : SqT K G a us) (d : DdL K G us xs) : WalkD K (IteT K a) G (numbered xs) :=
  ⟨fun H => SqT K H a us, YPair (fun i => some (.int (i : Nat))) (fun i => us[i]?), by unfold numbered; rw [List.length_mapIdx, ← d.len]; exact walk_enumT, fun e r => sqT_ex r.gh (sqT_ex e h), fun {F G' H H' σ ρ i x} e r ⟨T, y, z, y1, y2, y3, y4, y5⟩ hi => by
    subst y1 y3
    cases y4
    obtain ⟨w, e1, e2⟩ := d.get' y5
    obtain ⟨e3, r3, d3⟩ := r.tup (us := [.int (i : Nat), z]) (xs := [.int (i : Nat), w]) y2 (.cons (.int _) (.cons (e2.ex e) .nil))
    exact ⟨.tup [.int (i : Nat), w], _, by simp [numbered, e1], e3, r3.push d3⟩⟩
/-- enumerate of a list or a tuple -/
def iEnA (ta : AT) : AT := fun ρ P => ta ρ fun ys ρ1 => ∃ x xs, ys = [x] ∧ seqD x = some xs ∧ P (numbered xs) ρ1
theorem di_enumA {a : Expr} {ta : AT} {p tpos : Pos} {elts : List Expr} {kk : Nat} (hg : Gl X "enumerate") (hm : X.mg "enumerate" = none) (ha : PA X [a] (liftA X.K ta)) (hs : starEach [a] X.env = [(false, eval a X.env)] := by rfl) :
    PI X (.Tuple elts kk tpos) (.Call (.Name "enumerate" p) [a] [] pos) (liftI X.K (iEnA ta)) :=
  piImp (pi_enumA hg hm ha hs) fun σ H Q ⟨F, G, ρ, P, r, h, k⟩ => goA r h fun ys ρ1 vs G1 H1 ⟨x, xs, hy, hx, h1⟩ e1 r1 d1 => by
    subst hy
    cases d1 with
    | cons a t =>
      cases t
      cases a with
      | lst g t => cases hx; exact ⟨_, _, rfl, .inl ⟨.of (r1.gh _ _ g), k _ _ _ _ _ h1 e1 r1 (walkD_enum (.of g) t)⟩⟩
      | tup g t => cases hx; exact ⟨_, _, rfl, .inr ⟨sqT_ex r1.gh g, k _ _ _ _ _ h1 e1 r1 (walkD_enumT g t)⟩⟩
      | _ => cases hx
/-- what a for walks: a list, a tuple, a text's signs -/
def itemsD : D → Option (List D)
  | .lst xs => some xs
  | .tup xs => some xs
  | .str z => some (signs z)
  | _ => none
def iSq (te : ET) : AT := fun ρ P => te ρ fun s ρ1 => ∃ x xs, s.dat = some x ∧ itemsD x = some xs ∧ P xs ρ1
theorem di_seq (he : PE X e (lift X.K te)) : PI X tg e (liftI X.K (iSq te)) :=
  piImp (pi_seq he) fun σ H Q ⟨F, G, ρ, P, r, h, k⟩ => goE r h fun s ρ1 v G1 H1 ⟨x, xs, hs, hx, h1⟩ e1 r1 => by
    obtain ⟨G2, e2, d2, r2⟩ := r1.frz hs
    cases d2 with
    | lst g t => cases hx; exact .inl ⟨_, _, rfl, .of (r2.gh _ _ g), k _ _ _ _ _ h1 (e1.tr e2) r2 (walkD_list g t)⟩
    | tup g t => cases hx; exact .inr (.inl ⟨_, _, rfl, sqT_ex r2.gh g, k _ _ _ _ _ h1 (e1.tr e2) r2 (walkD_tup g t)⟩)
    | str z ho => cases hx; exact .inr (.inr ⟨_, rfl, k _ _ _ _ _ h1 (e1.tr e2) r2 (walkD_str ho)⟩)
    | _ => cases hx
end
end Fl
namespace Fl
open PySem PySem.W L2 Tr
/-- the items at these places -/
def pk {α : Type} (is : List Nat) (xs : List α) : List α := is.filterMap fun i => xs[i]?
def gI {α : Type} (is : List Nat) (us ws : List α) : List α := us.take 1 ++ pk is (us.drop 1 ++ ws)
section
variable {K : PySem.W.Frag} {F : Fr} {G H : Hp} {σ : St} {ρ ss : Env'}
theorem vals_pk {vs : List V} {us : List Value} (r : Vals vs us) (is : List Nat) : Vals (pk is vs) (pk is us) := by
  induction is with
  | nil => exact .nil
  | cons i is ih =>
    unfold pk at ih ⊢
    rw [List.filterMap_cons, List.filterMap_cons]
    cases e : vs[i]? with
    | none =>
      have : us[i]? = none := List.getElem?_eq_none (by rw [← r.length]; exact List.getElem?_eq_none_iff.mp e)
      rw [this]; exact ih
    | some v =>
      obtain ⟨u, e2, q⟩ := r.get e
      rw [e2]
      exact .cons q ih
theorem vals_app : ∀ {vs zs : List V} {us ws : List Value}, Vals vs us → Vals zs ws → Vals (vs ++ zs) (us ++ ws)
  | _, _, _, _, .nil, r => r
  | _, _, _, _, .cons a t, r => .cons a (vals_app t r)
theorem vals_take : ∀ {vs : List V} {us : List Value} (n : Nat), Vals vs us → Vals (vs.take n) (us.take n)
  | _, _, 0, _ => .nil
  | _, _, n + 1, .nil => .nil
  | _, _, n + 1, .cons a t => .cons a (vals_take n t)
theorem vals_drop : ∀ {vs : List V} {us : List Value} (n : Nat), Vals vs us → Vals (vs.drop n) (us.drop n)
  | _, _, 0, r => r
  | _, _, n + 1, .nil => .nil
  | _, _, n + 1, .cons a t => vals_drop n t
theorem kb_pk {fd : FuncData} {ps : List Str} {n : Nat} {ks : List Str} {is : List Nat} (h : ∀ (s : Shared) (us ws : List Value), us.length = n → ws.length = ks.length → BindsTo s fd ⟨us, ks.zip ws⟩ (ps.zip (pk is (us ++ ws)))) :
    KBn K fd ps n ks (fun us ws => pk is (us ++ ws)) (fun vs zs => pk is (vs ++ zs)) := ⟨fun s us ws _ a b => h s us ws a b, fun r1 r2 => vals_pk (vals_app r1 r2) is⟩
theorem kb_gI {fd : FuncData} {ps : List Str} {n : Nat} {ks : List Str} {is : List Nat} (h : ∀ (s : Shared) (us ws : List Value), us.length = n → ws.length = ks.length → BindsTo s fd ⟨us, ks.zip ws⟩ (ps.zip (gI is us ws))) :
    KBn K fd ps n ks (gI is) (gI is) := ⟨fun s us ws _ a b => h s us ws a b, fun r1 r2 => vals_app (vals_take 1 r1) (vals_pk (vals_app (vals_drop 1 r1) r2) is)⟩
/-- arguments in another order -/
theorem R.pk (r : R K F G H (σ) ρ) : ∀ {τ : List V} {ss : Env'}, R K F G H (τ.map some ++ σ) (ss ++ ρ) → τ.length = ss.length → ss.all argOk = true → ∀ is : List Nat,
    R K F G H ((pk is τ).map some ++ σ) (pk is ss ++ ρ) ∧ (pk is τ).length = (pk is ss).length ∧ (pk is ss).all argOk = true := by
  intro τ ss r0 hl ha is
  have one : ∀ (i : Nat) (v : V) (s : Sl), τ[i]? = some v → ss[i]? = some s → (∃ x, s = .d x ∧ Dd K G v x) ∨ (s = .src ∧ ∃ a c, v = .ref a ∧ F.src = some (a, c)) ∨ (∃ x p o, s = .ld x ∧ v = .ref p ∧ LdOk K G o x ∧ F.H0 p = some o ∧ ¬ InSrc F p ∧ ¬ InSelf F p) := by
    intro i v s hv hs
    obtain ⟨os, h, nd, f⟩ := r0.sl
    obtain ⟨o1, o2, rfl, h3, h4⟩ := h.split (by simpa using hl)
    have hs' : ss[i]? = some s := hs
    obtain ⟨v', p1, p2, e1, e2, _⟩ := h3.at hs'
    rw [List.getElem?_map, hv] at e1
    cases e1
    have hm : argOk s = true := List.all_eq_true.mp ha s (List.mem_of_getElem? hs)
    cases e2 with
    | d q => exact .inl ⟨_, rfl, q⟩
    | src q => exact .inr (.inl ⟨rfl, _, _, rfl, q⟩)
    | ld a h0 h1 h2 => exact .inr (.inr ⟨_, _, _, rfl, rfl, a, h0, h1, h2⟩)
    | no => cases hm
    | ol _ _ _ => cases hm
    | od _ _ _ _ _ => cases hm
    | oi _ _ _ _ _ _ => cases hm
    | bi _ _ _ _ _ => cases hm
  induction is with
  | nil => exact ⟨r, rfl, rfl⟩
  | cons i is ih =>
    obtain ⟨r1, l1, a1⟩ := ih
    unfold Fl.pk at r1 l1 a1 ⊢
    rw [List.filterMap_cons, List.filterMap_cons]
    cases e : τ[i]? with
    | none =>
      have e2 : ss[i]? = none := List.getElem?_eq_none (by rw [← hl]; exact List.getElem?_eq_none_iff.mp e)
      rw [e2]; exact ⟨r1, l1, a1⟩
    | some v =>
      have hi := (List.getElem?_eq_some_iff.mp e).1
      have e2 : ss[i]? = some ss[i] := List.getElem?_eq_getElem (by rw [← hl]; exact hi)
      rw [e2]
      rcases one i v _ e e2 with ⟨x, hx, q⟩ | ⟨hx, a, c, rfl, q⟩ | ⟨x, p, o, hx, rfl, q0, q1, q2, q3⟩
      · rw [hx]
        exact ⟨r1.push q, by simp [l1], by simp [argOk, a1]⟩
      · rw [hx]
        exact ⟨r1.pushSrc q, by simp [l1], by simp [argOk, a1]⟩
      · rw [hx]
        exact ⟨r1.pushLd q0 q1 q2 q3, by simp [l1], by simp [argOk, a1]⟩
end
section
variable {X : Cx} {k n m N : Nat} {fa C : Addr} {fd : FuncData} {ps ks : List Str} {x : Str} {p pos apos : Pos} {e o : Expr} {es : List Expr} {kws : List Keyword} {bb bk : BT} {te : ET} {ft : FT} {fi : FI} {is : List Nat}
/-- f(e, .., k = v, ..) -/
def dFnP (n m N : Nat) (is : List Nat) (ft : FT) (tb bk : BT) : ET := fun ρ P => tb ρ fun ss ρ1 => ss.all argOk = true ∧ bk ρ1 fun zs ρ2 => zs.all argOk = true ∧ ss.length = n ∧ zs.length = m ∧ (pk is (ss ++ zs)).length = N ∧ ft (pk is (ss ++ zs)) fun s => noNo s = true ∧ P s ρ2
theorem pd_callP0 (Fn : FnOk X.prog X.w X.K X.mg X.base CX0 k fa fd ps (spD X.K N ft)) (hr : Room k X.A) (hg : Gl X x) (hm : X.mg x = some (.ref fa)) (hk : PySem.W.keepIn X.K (.ref fa) = true) (hb : KBn X.K fd ps 0 ks (fun us ws => pk is (us ++ ws)) (fun vs zs => pk is (vs ++ zs))) (hkw : PK X kws (liftB X.K bk)) (hkl : ks.length = m)
    (hall : (backToKw pos (keywordEach kws X.env)).all (·.1.isSome) = true := by rfl) (hks : (backToKw pos (keywordEach kws X.env)).filterMap (·.1) = ks := by rfl) (hdb : (x == ("__debug__" : Str)) = false := by decide)
    (hpl : ((backTo pos (starEach [] X.env)).any (·.1) || (backToKw pos (keywordEach kws X.env)).any (·.1.isNone)) = false := by rfl) :
    PE X (.Call (.Name x p) [] kws pos) (lift X.K (dFnP 0 m N is ft bNil bk)) := by
  refine ⟨fun pins s σ H Q I ⟨F, G, ρ, P, r, ⟨_, h⟩, q⟩ => ?_⟩
  refine wpAny_Call_Name_kw (ld_glob I hg hm ?_ hdb)
  refine PySem.W.callWith_KW0 (h₀ := X.base) I.ok.mod.kin hk hall (thn (hkw.run pos pins s σ H (fun vs H1 => vs.length = ks.length ∧ spD X.K N ft (pk is ([] ++ vs)) H1 Q E0) I ⟨F, G, ρ, _, r, h, fun ss ρ1 vs G1 H1 ⟨q1, _, q2, q3, q4⟩ e1 r1 l1 => ⟨(l1.trans q2).trans hkl.symm, ?_⟩⟩) fun ws s2 ⟨zs, H2, I2, rz, l2, q2⟩ => ⟨I2.kIn, ?_⟩) hpl
  · obtain ⟨r2, l2, a2⟩ := (r1.rest (by simpa using l1)).pk (τ := vs) (ss := ss) r1 l1 q1 is
    exact spGo r2 l2 q3 a2 q4 fun s v G' H' p e3 r3 => q _ _ _ _ _ p (e1.tr e3) r3
  · rw [hks]
    exact run_fnN (us := []) (vs := []) Fn hr hb pass0 I2 .nil rz rfl l2 q2
theorem pd_callP (Fn : FnOk X.prog X.w X.K X.mg X.base CX0 k fa fd ps (spD X.K N ft)) (hr : Room k X.A) (hg : Gl X x) (hm : X.mg x = some (.ref fa)) (hk : PySem.W.keepIn X.K (.ref fa) = true) (hb : KBn X.K fd ps n ks (fun us ws => pk is (us ++ ws)) (fun vs zs => pk is (vs ++ zs))) (ha : PA X (e :: es) (liftB X.K bb)) (hkw : PK X kws (liftB X.K bk)) (hkl : ks.length = m)
    (hall : (backToKw pos (keywordEach kws X.env)).all (·.1.isSome) = true := by rfl) (hks : (backToKw pos (keywordEach kws X.env)).filterMap (·.1) = ks := by rfl) (hdb : (x == ("__debug__" : Str)) = false := by decide)
    (he : starEach (e :: es) X.env = (false, eval e X.env) :: starEach es X.env := by rfl) (hpl : ((backTo pos (starEach (e :: es) X.env)).any (·.1) || (backToKw pos (keywordEach kws X.env)).any (·.1.isNone)) = false := by rfl) :
    PE X (.Call (.Name x p) (e :: es) kws pos) (lift X.K (dFnP n m N is ft bb bk)) := by
  subst hkl
  refine peImp (pe_callN Fn hr hg hm hk hb pass0 ha hkw hall hks hdb he hpl) fun σ H Q ⟨F, G, ρ, P, r, h, q⟩ => ⟨F, G, ρ, _, r, h, fun ss ρ1 vs G1 H1 ⟨a1, h1⟩ e1 r1 l1 => ⟨F, G1, ρ1, _, r1.rest (by rw [List.length_map]; exact l1), h1, fun zz ρ2 zs G2 H2 ⟨a2, n1, n2, n3, h2⟩ e2 r2 l2 => ⟨l1.trans n1, l2.trans n2, ?_⟩⟩⟩
  have r3 := R.pendAll _ r1 l1 a1 e2 r2
  rw [← List.append_assoc, ← List.map_append, ← List.append_assoc] at r3
  have r4 := r2.rest (by rw [List.length_map]; exact l2)
  obtain ⟨r5, l5, a5⟩ := r4.pk (τ := vs ++ zs) (ss := ss ++ zz) r3 (by simp [l1, l2]) (by rw [List.all_append, a1, a2]; rfl) is
  exact spGo r5 l5 n3 a5 h2 fun s v G' H' p e3 r6 => q _ _ _ _ _ p ((e1.tr e2).tr e3) r6
/-- o.m(k = v, ..): self ahead -/
def dMethP (C : Addr) (x : Str) (m N : Nat) (is : List Nat) (ft : FT) (te : ET) (bk : BT) : ET := fun ρ P => te ρ fun s ρ1 => ∃ d, s.dat = some d ∧ (∃ ns vs, insOf C d = some (ns, vs) ∧ lkF ns vs x = none) ∧ bk ρ1 fun ss ρ2 => ss.length = m ∧ ss.all argOk = true ∧ (pk is ss).length + 1 = N ∧ ft (.d d :: pk is ss) fun s => noNo s = true ∧ P s ρ2
theorem pd_methP {pl : Sem Bool} (c : Cls X.K C) (hm : Meth X.K C x fa) (Fn : FnOk X.prog X.w X.K X.mg X.base CX0 k fa fd ps (spD X.K N ft)) (hr : Room k X.A) (hb : KBn X.K fd ps 1 ks (gI is) (gI is)) (he : PE X o (lift X.K te)) (hkw : PK X kws (liftB X.K bk)) (hkl : ks.length = m)
    (hall : (backToKw pos (keywordEach kws X.env)).all (·.1.isSome) = true := by rfl) (hks : (backToKw pos (keywordEach kws X.env)).filterMap (·.1) = ks := by rfl)
    (hpl : ((backTo pos (starEach [] X.env)).any (·.1) || (backToKw pos (keywordEach kws X.env)).any (·.1.isNone)) = false := by rfl)
    (ht : eval (.Call (.Attribute o x apos) [] kws pos) X.env = (do
      let ov ← eval o X.env
      standAt apos.atName
      let (f, first) ← holding [ov] (getMethod ov x pl)
      callWith pos f first (backTo pos (starEach [] X.env)) (backToKw pos (keywordEach kws X.env))) := by rfl) :
    PE X (.Call (.Attribute o x apos) [] kws pos) (lift X.K (dMethP C x m N is ft te bk)) := by
  refine ⟨fun pins s σ H Q I ⟨F, G, ρ, P, r, h, q⟩ => ?_⟩
  refine PySem.W.methodCall_KW (pl := pl) (thn (he.run pins s σ H (fun v H1 => ∃ a dx fs, v = .ref a ∧ H1 a = some (.ins C dx fs) ∧ fs.lookup x = none ∧ liftB X.K bk σ H1 fun vs H2 => vs.length = ks.length ∧ spD X.K N ft (.ref a :: pk is vs) H2 Q E0) I (goD r h fun y ρ1 v G1 H1 ⟨⟨ns, vs, hi, hl⟩, h1⟩ e1 r1 d1 => ?_)) fun u s1 ⟨v, H1, I1, rv, a, dx, fs, ev, ea, l, q1⟩ => ?_) ht
  · obtain ⟨a, dx, us, rfl, rfl, g, hl2, t⟩ := d1.insOf hi
    refine ⟨a, dx, _, rfl, r1.gh _ _ g, (lkF_of hl2 t).2 hl, goDB (P := fun _ _ => True) r1 d1 h1 fun ss ρ2 vs G2 H2 ⟨q1, q2, q3, q4⟩ e2 r2 l2 => ⟨by omega, ?_⟩⟩
    have r3 : R X.K F G2 H2 (vs.map some ++ σ) (ss ++ ρ2) := R.pop r2
    have r4 := r3.rest (by rw [List.length_map]; exact l2)
    obtain ⟨r5, l5, a5⟩ := r4.pk (τ := vs) (ss := ss) r3 l2 q2 is
    have d2 := d1.ex e2
    exact spGo (vs := .ref a :: pk is vs) (ss := .d _ :: pk is ss) (r5.push d2) (by simp [l5]) (by simpa using q3) (by simpa [argOk] using a5) q4 fun s v G' H' p e3 r3 => q _ _ _ _ _ p ((e1.tr e2).tr e3) r3
  · subst ev
    obtain rfl : u = Value.ref a := rv
    refine getmeth_ok I1 ea c hm l ?_
    refine PySem.W.callWith_KW0 (h₀ := X.base) (first := [.ref a]) I.ok.mod.kin hm.kp hall (thn (hkw.run pos pins s1 σ H1 _ I1 q1) fun ws s2 ⟨zs, H2, I2, rz, l3, q2⟩ => ⟨I2.kIn, ?_⟩) hpl
    rw [hks]
    exact run_fnN (us := [.ref a]) (vs := [.ref a]) Fn hr hb pass0 I2 (.cons rfl .nil) rz rfl l3 q2
/-- C(e, .., k = v, ..) -/
def dMakeP (C : Addr) (n m N : Nat) (is : List Nat) (fi : FI) (tb bk : BT) : ET := fun ρ P => tb ρ fun ss ρ1 => ss.all argOk = true ∧ bk ρ1 fun zs ρ2 => zs.all argOk = true ∧ ss.length = n ∧ zs.length = m ∧ (pk is (ss ++ zs)).length + 1 = N ∧ fi (pk is (ss ++ zs)) fun ns vs => P (.oi C ns vs) ρ2
theorem makeGoP {τ : List V} {ss ρ : Env'} {K : PySem.W.Frag} {F : Fr} {G H : Hp} {σ : St} {P : Sl → Env' → Prop} {Q : VK} {E : XK} {q dx : Addr} (r : R K F G H (τ.map some ++ σ) (ss ++ ρ)) (hl : τ.length = ss.length) (ha : ss.all argOk = true) (hn : ss.length + 1 = N)
    (h : fi ss fun ns vs => P (.oi C ns vs) ρ) (hq : H q = none) (hd : H dx = none) (ne : dx ≠ q) (k : ∀ s v G' H', P s ρ → Ex G G' → R K F G' H' (some v :: σ) (s :: ρ) → Q v H') :
    spI K C N fi (.ref q :: τ) (mkH H C q dx) (fun v H2 => v = .non ∧ Q (.ref q) H2) E := by
  have z := makeGo (ws := τ) (zs := []) (ss := ss) (zz := []) (σ := σ) (ρ := ρ) (n := N) (E := E) (fi := fi) (C := C) (P := P) (Q := Q) (by rw [List.append_nil, List.append_nil]; exact r) (by simp [hl]) (by rw [List.append_nil]; exact ha) (by rw [List.append_nil]; exact hn) (by rw [List.append_nil]; exact h) hq hd ne k
  rw [List.append_nil] at z
  exact z
theorem pd_makeP (M : Mk X.K C fa) (Fn : FnOk X.prog X.w X.K X.mg X.base CX0 k fa fd ps (spI X.K C N fi)) (hr : Room (k + 1) X.A) (hg : Gl X x) (hm : X.mg x = some (.ref C)) (hb : KBn X.K fd ps (n + 1) ks (gI is) (gI is)) (ha : PA X (e :: es) (liftB X.K bb)) (hkw : PK X kws (liftB X.K bk)) (hkl : ks.length = m)
    (hall : (backToKw pos (keywordEach kws X.env)).all (·.1.isSome) = true := by rfl) (hks : (backToKw pos (keywordEach kws X.env)).filterMap (·.1) = ks := by rfl) (hdb : (x == ("__debug__" : Str)) = false := by decide)
    (he : starEach (e :: es) X.env = (false, eval e X.env) :: starEach es X.env := by rfl) (hpl : ((backTo pos (starEach (e :: es) X.env)).any (·.1) || (backToKw pos (keywordEach kws X.env)).any (·.1.isNone)) = false := by rfl) :
    PE X (.Call (.Name x p) (e :: es) kws pos) (lift X.K (dMakeP C n m N is fi bb bk)) := by
  subst hkl
  refine peImp (pe_makeK (n := n) M Fn hr hg hm hb pass0 ha hkw hall hks hdb he hpl) fun σ H Q ⟨F, G, ρ, P, r, h, q⟩ => ⟨F, G, ρ, _, r, h, fun ss ρ1 vs G1 H1 ⟨a1, h1⟩ e1 r1 l1 => ⟨F, G1, ρ1, _, r1.rest (by rw [List.length_map]; exact l1), h1, fun zz ρ2 zs G2 H2 ⟨a2, n1, n2, n3, h2⟩ e2 r2 l2 => ⟨l1.trans n1, l2.trans n2, fun y dx hy hd ne => ?_⟩⟩⟩
  have r3 := R.pendAll _ r1 l1 a1 e2 r2
  rw [← List.append_assoc, ← List.map_append, ← List.append_assoc] at r3
  have r4 := r2.rest (by rw [List.length_map]; exact l2)
  obtain ⟨r5, l5, a5⟩ := r4.pk (τ := vs ++ zs) (ss := ss ++ zz) r3 (by simp [l1, l2]) (by rw [List.all_append, a1, a2]; rfl) is
  exact makeGoP r5 l5 a5 n3 h2 hy hd ne fun s v G' H' p e3 r6 => q _ _ _ _ _ p ((e1.tr e2).tr e3) r6
theorem pd_makeP0 (M : Mk X.K C fa) (Fn : FnOk X.prog X.w X.K X.mg X.base CX0 k fa fd ps (spI X.K C N fi)) (hr : Room (k + 1) X.A) (hg : Gl X x) (hm : X.mg x = some (.ref C)) (hb : KBn X.K fd ps 1 ks (gI is) (gI is)) (hkw : PK X kws (liftB X.K bk)) (hkl : ks.length = m)
    (hall : (backToKw pos (keywordEach kws X.env)).all (·.1.isSome) = true := by rfl) (hks : (backToKw pos (keywordEach kws X.env)).filterMap (·.1) = ks := by rfl) (hdb : (x == ("__debug__" : Str)) = false := by decide)
    (hpl : ((backTo pos (starEach [] X.env)).any (·.1) || (backToKw pos (keywordEach kws X.env)).any (·.1.isNone)) = false := by rfl) :
    PE X (.Call (.Name x p) [] kws pos) (lift X.K (dMakeP C 0 m N is fi bNil bk)) := by
  subst hkl
  refine peImp (pe_makeK0 M Fn hr hg hm hb pass0 hkw hall hks hdb hpl) fun σ H Q ⟨F, G, ρ, P, r, ⟨_, h⟩, q⟩ => ⟨F, G, ρ, _, r, h, fun zz ρ2 zs G2 H2 ⟨a2, _, n2, n3, h2⟩ e2 r2 l2 => ⟨rfl, l2.trans n2, fun y dx hy hd ne => ?_⟩⟩
  have r4 := r2.rest (by rw [List.length_map]; exact l2)
  obtain ⟨r5, l5, a5⟩ := r4.pk (τ := zs) (ss := zz) r2 l2 a2 is
  exact makeGoP r5 l5 a5 n3 h2 hy hd ne fun s v G' H' p e3 r6 => q _ _ _ _ _ p (e2.tr e3) r6
end
end Fl
namespace L2
open PySem PySem.Spec PyProof.Rows
open AutoSeq1 (wpAny_loadPart')
section
variable {P : Program} {w : World} {A : Around} {E : Value → Shared → Prop} {s : Shared}
set_option maxRecDepth 100000 in
set_option maxHeartbeats 3200000 in
theorem call_set_listI {l : Addr} {items : Array Value} (ns : List Int) {Q : Value → Shared → Prop} (hh : A.handled = none) (hl : s.heap.IsList l items) (hit : IntsAre items.toList ns) (hb : ns.length + 1 < scanBound)
    (h : ∀ (h' : Heap) (tk c : Nat), SetR w h' s.heap.objs.size (fun j => decide (j ∈ ns)) c → c ≤ ns.length → (∀ b o, s.heap.get? b = some o → h'.get? b = some o) → Q (.ref s.heap.objs.size) { s with heap := h', toks := tk }) :
    wpAny (model P w) A (call (.type "set") [.ref l]) Q E s := by
  have hisz : items.size = ns.length := by
    have q := IntsAre.length hit
    rw [Array.length_toList] at q
    exact q
  obtain ⟨c, tl, hmro⟩ := F.called_set.mro
  have hmade := F.called_set.made
  have hsub := F.called_set.sub
  refine wpAny_call (codeAny_of_tree ?_)
  show wpAny _ _ (callAny (.type "set") _) _ _ _
  refine wpAny_pure ⟨Code.quiet_builtin _ (by decide +kernel), codeAny_builtin F.entry_type_call ?_⟩
  rw [Around.under_plain (weight_type_call_type "set" [.ref l] []) rfl]
  have h1 := F.called_set.notType
  have h2 := F.called_set.canCreate
  have hct := F.typeCall_set_1 (.ref l)
  repeat (any_goals (first | assumption | wp_step))

  refine codeAny_mono (code_set_led1 (.ref l) (E := E) (Q₁ := fun obj s₁ => obj = .ref s.heap.objs.size ∧ s₁ = { s with heap := s.heap.push { cls := .type "set", dict := none, data := .set #[] 0 (.fresh 0 0 (!w.params.followText "set-order")) } }) ⟨rfl, rfl⟩) fun r s₁ hr => ?_
  cases r with
  | error e => exact hr
  | ok fl =>
    cases fl with
    | ret obj =>
      obtain ⟨rfl, rfl⟩ := hr
      have hS : (s.heap.push { cls := .type "set", dict := none, data := .set #[] 0 (.fresh 0 0 (!w.params.followText "set-order")) }).get? s.heap.objs.size = some { cls := .type "set", dict := none, data := .set #[] 0 (.fresh 0 0 (!w.params.followText "set-order")) } := Heap.get?_push_size _ rfl
      have hT : Shared.TypeIs { s with heap := s.heap.push { cls := .type "set", dict := none, data := .set #[] 0 (.fresh 0 0 (!w.params.followText "set-order")) } } (.ref s.heap.objs.size) "set" := ⟨_, hS, rfl⟩
      have hli := F.called_set.init.lookup
      have hbi := F.called_set.init.bind (.ref s.heap.objs.size)
      repeat (any_goals (first | assumption | wp_step))

      refine codeAny_mono (codeAny_call_builtin (R := wants (fun r s₂ => r = .none ∧ ∃ h' tk c, s₂ = { s with heap := h', toks := tk } ∧ SetR w h' s.heap.objs.size (fun j => decide (j ∈ ns)) c ∧ c ≤ ns.length ∧
          (∀ b o, s.heap.get? b = some o → h'.get? b = some o)) E) F.called_set.init.plain F.entry_set_init (check_set_init_1 hT ?_)) fun r₂ s₂ hr₂ => ?_
      · obtain ⟨ol, hol, hcl, nl, hdl⟩ := hl
        obtain ⟨ocls, odict, odata, oslots⟩ := ol
        simp only at hcl hdl
        subst hcl; subst hdl
        have hol' : (s.heap.push { cls := .type "set", dict := none, data := .set #[] 0 (.fresh 0 0 (!w.params.followText "set-order")) }).get? l = some { cls := .type "list", dict := odict, data := .seq items nl, slots := oslots } := Heap.get?_push_of_some _ hol
        have hsls := F.sub_list_set
        have hslf := F.sub_list_frozenset
        have hne : (Value.type "tuple" == Value.type "dict") = false := by decide
        have hl1 : (s.heap.push { cls := .type "set", dict := none, data := .set #[] 0 (.fresh 0 0 (!w.params.followText "set-order")) }).IsList l items := ⟨_, hol', rfl, nl, rfl⟩
        unfold Builtin.«set.__init__» noKeywords Builtin.Frozenset.updateFrom
        generalize hPI : pyIter = PI
        wp_walk
        subst hPI

        refine wpAny_pyIter_list hl1 ?_
        refine wpAny_bind (wpAny_runValue ?_)
        have hlS : l < s.heap.objs.size := Heap.lt_size hol
        have hh3 : A.in1.in1.in1.handled = none := by simp [hh]
        have hz1 : (s.heap.push { cls := .type "set", dict := none, data := .set #[] 0 (.fresh 0 0 (!w.params.followText "set-order")) }).objs.size = s.heap.objs.size + 1 := Heap.size_push ..
        have hneI : l ≠ (s.heap.push { cls := .type "set", dict := none, data := .set #[] 0 (.fresh 0 0 (!w.params.followText "set-order")) }).objs.size := by
          rw [Heap.size_push]; exact Nat.ne_of_lt (Nat.lt_succ_of_lt hlS)
        have hSf : s.heap.objs.size ∉ [(s.heap.push { cls := .type "set", dict := none, data := .set #[] 0 (.fresh 0 0 (!w.params.followText "set-order")) }).objs.size, l] := by
          rw [Heap.size_push]; simp only [List.mem_cons, List.mem_singleton, List.not_mem_nil, or_false, not_or]
          exact ⟨Nat.ne_of_lt (Nat.lt_succ_self _), Nat.ne_of_gt hlS⟩
        have hval : ∀ (i : Nat) (v : Value), items[i]? = some v → ∃ k t, ns[i]? = some k ∧ v = .int k t := fun i v hv => by
          have hi : i < ns.length := by rw [← hisz]; exact (Array.getElem?_eq_some_iff.mp hv).1
          obtain ⟨t, e⟩ := PyProof.Rows.IntsAre.int_at hit i v (by rw [Array.getElem?_toList]; exact hv)
          refine ⟨ns[i], t, List.getElem?_eq_getElem hi, ?_⟩
          rw [e, List.getD_eq_getElem?_getD, List.getElem?_eq_getElem hi] <;> rfl
        refine set_update_ints ((Walks.list hh3 _ l hneI items).toS) s.heap.objs.size
          hSf ns hisz hb hval (items.size - 0) 0 _ (by omega) (Nat.zero_le _)
          ⟨⟨_, Heap.get?_push_size _ rfl, rfl, rfl⟩, (hl1.push _)⟩ ?hS0 ?hR
        case hS0 =>
          have hget : ((s.heap.push { cls := .type "set", dict := none, data := .set #[] 0 (.fresh 0 0 (!w.params.followText "set-order")) }).push { cls := .type "list_iterator", data := .fields #[.ref l, .int 0 0] }).get? s.heap.objs.size
              = some { cls := .type "set", dict := none, data := .set #[] 0 (.fresh 0 0 (!w.params.followText "set-order")) } := Heap.get?_push_of_some _ hS
          exact ⟨0, Nat.le_refl 0, setR_new_at hget⟩
        case hR =>
          intro s' c' hm hc' hS'
          obtain ⟨h', g2, d', tk', os'⟩ := s'
          have eg : g2 = s.gens := hm.gens
          have ed : d' = s.drawn := hm.drawn
          have eo : os' = s.os := hm.os
          subst eg; subst ed; subst eo
          show wpAny _ _ _ _ _ _
          refine wpAny_pure ?_
          show wpAny _ _ (ret Value.none) _ _ _
          rw [hisz] at hc'
          refine wpAny_pure ⟨rfl, h', tk', c', rfl, hS', hc', fun b o e => ?_⟩
          have hb0 : b < s.heap.objs.size := Heap.lt_size e
          have hb1 : b ≠ s.heap.objs.size := Nat.ne_of_lt hb0
          have hb2 : b ≠ (s.heap.push { cls := .type "set", dict := none, data := .set #[] 0 (.fresh 0 0 (!w.params.followText "set-order")) }).objs.size := by
            rw [Heap.size_push]; exact Nat.ne_of_lt (Nat.lt_succ_of_lt hb0)
          exact hm.heap b o (by simp only [List.mem_cons, List.mem_singleton, List.not_mem_nil, or_false, not_or]; exact ⟨hb1, hb2⟩) (Heap.get?_push_of_some _ (Heap.get?_push_of_some _ e))

      · cases r₂ with
        | error e => exact hr₂
        | ok fl₂ =>
          cases fl₂ with
          | ret r =>
            obtain ⟨rfl, h', tk, c', rfl, hS', hc', hk'⟩ := hr₂
            repeat (any_goals (first | assumption | wp_step))
            exact h _ _ _ hS' hc' hk'
          | _ => exact hr₂.elim
    | _ => exact hr.elim

end
end L2
namespace L2
open PySem PySem.Spec PyProof.Rows
section
variable {X : Cx}
/-- set(xs), xs a list of ints -/
def rSetOfL (K : PySem.W.Frag) (w : World) : List V → Hp → VK → Prop := fun vs H Q => ∃ (l : Addr) (ns : List Int), vs = [V.ref l] ∧ SqL K H l (ns.map V.int) ∧ ns.length ≤ 60 ∧
  ∀ (p : Addr) (c : Nat), H p = none → c ≤ ns.length → Q (.ref p) (upd H p (SetO w p (fun j => decide (j ∈ ns)) c))
theorem cr_setOfL (hc : X.calm = true) : CallR X (.type "set") (rSetOfL X.K X.w) := by
  intro pins s σ H vs us Q I r h
  obtain ⟨l, ns, rfl, hq, hl, q⟩ := h
  rw [Vals.ref1 r]
  obtain ⟨its, rv, p, hz⟩ := I.list hq
  have h60 : ns.length + 1 < scanBound := Nat.lt_of_le_of_lt (Nat.succ_le_succ hl) (by decide)
  refine call_set_listI ns (I.ok.hd hc) (show s.heap.IsList l its.toArray from p.isList) (by rw [List.toList_toArray]; exact intsAre_of rv) h60 fun h' tk c R hc2 k => ?_
  exact ⟨.ref _, _, I.laid (t' := tk) k (Nat.le_refl _) (setO_new R), rfl, q _ c (I.hok.fresh (Nat.le_refl _)) hc2⟩
end
end L2
namespace Fl
open PySem PySem.W L2
/-- the ints of a list, ascending, each once -/
def insU (x : Int) : List Int → List Int
  | [] => [x]
  | y :: ys => if x < y then x :: y :: ys else if x = y then y :: ys else y :: insU x ys
def uniqI : List Int → List Int
  | [] => []
  | x :: xs => insU x (uniqI xs)
theorem insU_mem {x z : Int} : ∀ {ys : List Int}, z ∈ insU x ys ↔ z = x ∨ z ∈ ys
  | [] => by simp [insU]
  | y :: ys => by
    unfold insU
    split
    · simp
    · split
      · rename_i h; simp [h]
      · rw [List.mem_cons, insU_mem, List.mem_cons]
        constructor
        · rintro (h | h | h)
          · exact .inr (.inl h)
          · exact .inl h
          · exact .inr (.inr h)
        · rintro (h | h | h)
          · exact .inr (.inl h)
          · exact .inl h
          · exact .inr (.inr h)
theorem uniqI_mem {z : Int} : ∀ {xs : List Int}, z ∈ uniqI xs ↔ z ∈ xs
  | [] => by simp [uniqI]
  | x :: xs => by rw [uniqI, insU_mem, uniqI_mem, List.mem_cons]
theorem insU_asc {x : Int} : ∀ {ys : List Int}, ys.Pairwise (· < ·) → (insU x ys).Pairwise (· < ·)
  | [], _ => by simp [insU]
  | y :: ys, h => by
    have h1 := List.pairwise_cons.mp h
    unfold insU
    split
    · rename_i hl
      refine List.pairwise_cons.mpr ⟨fun z hz => ?_, h⟩
      rcases List.mem_cons.mp hz with rfl | hz
      · exact hl
      · exact Int.lt_trans hl (h1.1 z hz)
    · split
      · exact h
      · rename_i a b
        refine List.pairwise_cons.mpr ⟨fun z hz => ?_, insU_asc h1.2⟩
        rcases insU_mem.mp hz with rfl | hz
        · omega
        · exact h1.1 z hz
theorem uniqI_asc : ∀ xs : List Int, (uniqI xs).Pairwise (· < ·)
  | [] => List.Pairwise.nil
  | x :: xs => insU_asc (uniqI_asc xs)
theorem asc_eq : ∀ {xs ys : List Int}, xs.Pairwise (· < ·) → ys.Pairwise (· < ·) → (∀ z, z ∈ xs ↔ z ∈ ys) → xs = ys
  | [], [], _, _, _ => rfl
  | [], y :: ys, _, _, h => absurd ((h y).mpr (by simp)) (by simp)
  | x :: xs, [], _, _, h => absurd ((h x).mp (by simp)) (by simp)
  | x :: xs, y :: ys, h1, h2, h => by
    have a := List.pairwise_cons.mp h1
    have b := List.pairwise_cons.mp h2
    have e : x = y := by
      rcases List.mem_cons.mp ((h x).mp (by simp)) with e | e
      · exact e
      · rcases List.mem_cons.mp ((h y).mpr (by simp)) with e2 | e2
        · exact e2.symm
        · have := a.1 y e2; have := b.1 x e; omega
    subst e
    congr 1
    refine asc_eq a.2 b.2 fun z => ⟨fun hz => ?_, fun hz => ?_⟩
    · rcases List.mem_cons.mp ((h z).mp (List.mem_cons_of_mem _ hz)) with e | e
      · have := a.1 z hz; omega
      · exact e
    · rcases List.mem_cons.mp ((h z).mpr (List.mem_cons_of_mem _ hz)) with e | e
      · have := b.1 z hz; omega
      · exact e
def intsD : List D → Option (List Int)
  | [] => some []
  | .int i :: xs => match intsD xs with
    | some is => some (i :: is)
    | none => none
  | _ => none
theorem intsD_some : ∀ {xs : List D} {is : List Int}, intsD xs = some is → xs = is.map D.int
  | [], is, h => by cases h; rfl
  | x :: xs, is, h => by
    cases x with
    | int i =>
      cases e : intsD xs with
      | none => simp [intsD, e] at h
      | some js => simp [intsD, e] at h; subst h; rw [intsD_some e]; rfl
    | _ => simp [intsD] at h
theorem intsD_of (is : List Int) : intsD (is.map D.int) = some is := by
  induction is with
  | nil => rfl
  | cons i is ih => simp [intsD, ih]
section
variable {X : Cx} {e : Expr} {te : ET} {p p2 p3 pos : Pos}
def dSortSet (te : ET) : ET := fun ρ P => te ρ fun s ρ1 => ∃ xs ns, s.dat = some (.lst xs) ∧ intsD xs = some ns ∧ ns.length ≤ 60 ∧ P (.ol ((uniqI ns).map D.int)) ρ1
theorem pd_sortset (hc : X.calm = true) (he : PE X e (lift X.K te)) (hg : Gl X "sorted") (hm : X.mg "sorted" = none) (hg2 : Gl X "set") (hm2 : X.mg "set" = none) (hv : bootBuiltins "sorted" = some (.builtin "sorted")) (hv2 : bootBuiltins "set" = some (.type "set"))
    (hs : starEach [e] X.env = (false, eval e X.env) :: starEach [] X.env := by rfl) (hpl : (backTo p3 (starEach [] X.env)).any (·.1) = false := by rfl)
    (hs2 : starEach [.Call (.Name "set" p2) [e] [] p3] X.env = (false, eval (.Call (.Name "set" p2) [e] [] p3) X.env) :: starEach [] X.env := by rfl) (hpl2 : (backTo pos (starEach [] X.env)).any (·.1) = false := by rfl) :
    PE X (.Call (.Name "sorted" p) [.Call (.Name "set" p2) [e] [] p3] [] pos) (lift X.K (dSortSet te)) := by
  refine peImp (pe_callB (cr_sortedSet hc) hg hm hv (pa_cons (pe_callTy (cr_setOfL hc) hg2 hm2 hv2 (pa_cons he pa_nil hs) (by decide) (by decide) hs hpl) pa_nil hs2) (by decide) (by decide) hs2 hpl2) fun σ H Q ⟨F, G, ρ, P, r, h, k⟩ => ?_
  refine goE r h fun s ρ1 v G1 H1 ⟨xs, ns, hs, hn, h60, h1⟩ e1 r1 => ?_
  obtain ⟨G2, e2, d2, r2⟩ := r1.frz hs
  rw [intsD_some hn] at d2
  cases d2 with
  | lst g t =>
    rw [DdL.ints t] at g
    refine ⟨_, ns, rfl, .of (r2.gh _ _ g), h60, fun q c hq hcl => ⟨q, _, c, rfl, upd_same, by omega, fun ms y ha hmem hlen hy => ?_⟩⟩
    have hy0 : upd H1 q (SetO X.w q (fun j => decide (j ∈ ns)) c) y = none := hy
    have r3 := (r2.aloof (o := SetO X.w q (fun j => decide (j ∈ ns)) c) hq).lst hy0 (DdL.ofInts (K := X.K) (G := G2) ms)
    have em : ms = uniqI ns := asc_eq ha (uniqI_asc ns) fun z => by rw [hmem, uniqI_mem]; simp
    rw [em] at r3 ⊢
    exact k _ _ _ _ _ h1 (e1.tr e2) r3
end
end Fl
namespace Fl
open PySem PySem.Spec PyProof.Rows
section
variable {prog : Program} {w : World} {A : Around} {E : Value → Shared → Prop} {s : Shared} {K : PySem.W.Frag} {x C f : Addr} {ox : Obj} {od : Option Obj} {name : Str}
theorem special_K {M : Model} {Q : Option Value → Shared → Prop} (X : K.In s.heap) (I : PySem.W.InstAt s.heap x ox C od) (hs : PySem.W.findIn K (.ref C) name = some (some (.ref f))) (hf : PySem.W.isFn K (.ref f) = true)
    (h : wpAny M A (call (.ref f) [.ref x]) (fun v => Q (some v)) E s) : wpAny M A (callSpecial? (.ref x) name []) Q E s := by
  simp only [callSpecial?]
  refine wpAny_bind (wpAny_bind (I.type.here ((PySem.W.looks_findIn X hs).here ?_)))
  exact wpAny_holding (wpAny_bind ((PySem.W.bind_fn X _ (beq_iff_eq.mp hf)).here (wpAny_bind (wpAny_mono h (fun v s' z => wpAny_pure z) fun _ _ z => z))))
theorem call_lenOwn {Q : Value → Shared → Prop} (X : K.In s.heap) (I : PySem.W.InstAt s.heap x ox C od) (hs : PySem.W.findIn K (.ref C) "__len__" = some (some (.ref f))) (hf : PySem.W.isFn K (.ref f) = true)
    (h : wpAny (model prog w) A.in1 (call (.ref f) [.ref x]) (fun v s' => ∃ (n : Int) (t : Tok), v = .int n t ∧ ¬ n < 0 ∧ ¬ n ≥ 2 ^ 63 ∧ Q (.int n s'.toks) { s' with toks := s'.toks + 1 }) E s) : wpAny (model prog w) A (call (.builtin "len") [.ref x]) Q E s := by
  refine Calls.call_function_entry kind_len plain_len entry_len (args_len1 _) ?_
  unfold Builtin.«len»
  refine wpAny_bind (m := oneArg "len" _) (wpAny_pure ?_)
  refine wpAny_bind (m := callSpecial? (.ref x) (Str.ofString "__len__")) (special_K X I hs hf (wpAny_mono h (fun v s' z => ?_) fun _ _ z => z))
  obtain ⟨n, t, rfl, h0, h1, q⟩ := z
  refine wpAny_bind (wpAny_holding (wpAny_pure ?_))
  refine wpAny_bind (wpAny_letGo ?_)
  show wpAny _ _ (if n < 0 then _ else _) _ _ _
  rw [if_neg h0]
  show wpAny _ _ (if n ≥ 2 ^ 63 then _ else _) _ _ _
  rw [if_neg h1]
  exact wpAny_bind (wpAny_mkInt (wpAny_pure ⟨_, rfl, q⟩))
end
end Fl
namespace Fl
open PySem L2
section
variable {X : Cx} {k n : Nat} {fa C : Addr} {fd : FuncData} {ps : List Str} {ft : FT} {e : Expr} {te : ET} {p pos : Pos}
def rOwnLen (C : Addr) (sp : Sp) : List V → Hp → VK → Prop := fun vs H Q => ∃ a dx fs, vs = [.ref a] ∧ H a = some (.ins C dx fs) ∧ sp [.ref a] H (fun v H' => ∃ m : Int, v = .int m ∧ 0 ≤ m ∧ m < 1000000 ∧ Q (.int m) H') E0
theorem cr_ownLen {sp : Sp} (Fn : FnOk X.prog X.w X.K X.mg X.base CX0 k fa fd ps sp) (hr : Room (k + 1) X.A) (hb : Binds X.K fd ps []) (hs : PySem.W.findIn X.K (.ref C) "__len__" = some (some (.ref fa))) (hf : PySem.W.isFn X.K (.ref fa) = true) : CallR X (.builtin "len") (rOwnLen C sp) := by
  intro pins s σ H vs us Q I r h
  obtain ⟨a, dx, fs, rfl, ha, q⟩ := h
  rw [Vals.ref1 r]
  obtain ⟨od, J⟩ := inst_at I ha
  have hr1 : Room k X.A.in1 := Room.in1 hr
  have r2 : Vals [V.ref a] [Value.ref a] := .cons rfl .nil
  have hl : ([Value.ref a] : List Value).length = ps.length := Fn.len _ _ _ _ q
  refine call_lenOwn I.kIn J hs hf (wpAny_call (codeAny_mono (Fn.run X.A.in1 X.stack s H ⟨[.ref a], []⟩ [.ref a] [.ref a] _ E0 hr1 I.env0.in1 (hb s _ I.kIn (by simpa using hl)) r2 q) fun r s' hq => ?_))
  cases r with
  | error e => exact False.elim hq
  | ok fl =>
    cases fl with
    | ret z =>
      obtain ⟨v', H', I', rz, m, e, m0, m1, qz⟩ := I.after hq
      subst e
      obtain ⟨t, rfl⟩ := rz
      exact ⟨m, t, rfl, by omega, by omega, .int m, H', I'.tok _, ⟨_, rfl⟩, qz⟩
    | next => exact False.elim hq
    | brk => exact False.elim hq
    | cont => exact False.elim hq
def cOwnLen (C : Addr) (ft : FT) : RCd := fun xs P => ∃ x, xs = [x] ∧ (∃ ns vs, insOf C x = some (ns, vs)) ∧ ft [.d x] fun s => ∃ m : Int, s = .d (.int m) ∧ 0 ≤ m ∧ m < 1000000 ∧ P (.d (.int m))
theorem cd_ownLen (hft : ∀ ss P P', (∀ s, P s → P' s) → ft ss P → ft ss P') (Fn : FnOk X.prog X.w X.K X.mg X.base CX0 k fa fd ps (spD X.K 1 ft)) (hr : Room (k + 1) X.A) (hb : Binds X.K fd ps [])
    (hs : PySem.W.findIn X.K (.ref C) "__len__" = some (some (.ref fa))) (hf : PySem.W.isFn X.K (.ref fa) = true) : CallD X (.builtin "len") (cOwnLen C ft) := by
  refine CallR.ofD (cr_ownLen Fn hr hb hs hf) ?_
  intro F G H σ ρ vs xs P Q r d ⟨x, hx, ⟨ns, us, hi⟩, h⟩ k
  subst hx
  obtain ⟨v, rfl, dv⟩ := d.one
  obtain ⟨a, dx, ws, rfl, rfl, g, hl, t⟩ := dv.insOf hi
  refine ⟨a, dx, _, rfl, r.gh _ _ g, spGo (vs := [.ref a]) (ss := [.d (.ins C ns us)]) (P := fun s _ => ∃ m : Int, s = .d (.int m) ∧ 0 ≤ m ∧ m < 1000000 ∧ P (.d (.int m))) (r.push dv) rfl rfl rfl (hft _ _ _ (fun s ⟨b, e, p⟩ => ⟨by rw [e]; rfl, b, e, p⟩) h) fun s v G' H' ⟨b, e, m0, m1, p⟩ ex r' => ?_⟩
  subst e
  have e : v = .int b := r'.topInt
  exact ⟨b, e, m0, m1, k _ _ _ _ p ex (r'.pop.push (.int _))⟩
/-- x in a list or tuple of data of any depth -/
def inDeep (x : D) : D → Option Bool
  | .lst ys => if ok 60 x && ok 60 (.lst ys) then some (inD x ys) else none
  | _ => none
def dInDp (neg : Bool) : RO := fun x y P => ∃ b, inDeep x y = some b ∧ P (.d (.bl (if neg then !b else b)))
theorem any_py (x : D) : ∀ ys : List D, (toPys ys).any (fun z => PyData.eqv z (toPy x)) = inD x ys
  | [] => rfl
  | y :: ys => by
    show (PyData.eqv (toPy y) (toPy x) || _) = (eqD y x || _)
    rw [any_py x ys]; rfl
theorem inDeep_go {F : Fr} {G H : Hp} {σ : St} {ρ : Env'} {vx vy : V} {x y : D} {b : Bool} (r : R X.K F G H σ ρ) (hx : Dd X.K G vx x) (hy : Dd X.K G vy y) (h : inDeep x y = some b) :
    ∃ d ds, Dp X.K H vx d ∧ Dp X.K H vy (.list ds) ∧ SeqAt.shaped d = true ∧ SeqAt.shaped (.list ds) = true ∧ (ds.any fun z => PyData.eqv z d) = b := by
  cases y with
  | lst ys =>
    have h : (if ok 60 x && ok 60 (.lst ys) then some (inD x ys) else none) = some b := h
    split at h
    · rename_i c
      rw [Bool.and_eq_true] at c
      cases h
      obtain ⟨p1, p2, p3⟩ := hx.py r.gh c.1
      obtain ⟨q1, q2, q3⟩ := hy.py r.gh c.2
      exact ⟨_, _, p1, q1, shaped_of p2 p3 (by decide), shaped_of q2 q3 (by decide), any_py x ys⟩
    · cases h
  | _ => cases h
theorem od_inDp (hr : Room k X.A) (hk : 70 ≤ k) : OpD X (compareOp .In) (dInDp false) := by
  refine OpR.ofD (op_inD (by have := hr.un; omega)) ?_
  intro F G H σ ρ vx vy x y P Q r hx hy ⟨b, hb, h⟩ k
  obtain ⟨d, ds, a1, a2, a3, a4, a5⟩ := inDeep_go r hx hy hb
  exact ⟨d, ds, a1, a2, a3, a4, by rw [a5]; exact k _ _ _ _ h .rfl (r.push (.bl _))⟩
def dRev (te : ET) : ET := fun ρ P => te ρ fun s ρ1 => ∃ xs, s.dat = some (.lst xs) ∧ P (.ol xs.reverse) ρ1
theorem pd_rev {kk : Nat} {p1 p2 p3 : Pos} (he : PE X e (lift X.K te)) : PE X (.Subscript e (.Slice none none (some (.UnaryOp .USub (.Constant (.int 1) kk p1) p2)) p3) pos) (lift X.K (dRev te)) :=
  peImp (pe_revL he) fun σ H Q ⟨F, G, ρ, P, r, h, q⟩ => goE r h fun s ρ1 v G1 H1 ⟨xs, hs, h1⟩ e1 r1 => by
    obtain ⟨G2, e2, d2, r2⟩ := r1.frz hs
    cases d2 with
    | lst g t => exact ⟨_, _, rfl, .of (r2.gh _ _ g), fun p hp => q _ _ _ _ _ h1 (e1.tr e2) (r2.lst hp t.rev)⟩
end
structure SMet (K : PySem.W.Frag) (C : Addr) (m : Str) (p g : Addr) : Prop where
  rd : PySem.W.readsIn K C (.type "type") = true
  ga : PySem.W.specialIn K (.ref C) "__getattribute__" = some (some (.builtin "type.__getattribute__"))
  at_ : PySem.W.findCls K (.ref C) (.type "type") m = some (.get (.builtin "staticmethod.__get__") (.ref p) .none (.ref C))
  rc : ∃ rest, PySem.W.recIn K p "staticmethod" = some (.ref g :: rest)
  kp : PySem.W.keepIn K (.ref g) = true
section
variable {X : Cx} {k n : Nat} {fa C q : Addr} {fd : FuncData} {ps : List Str} {ft : FT} {e : Expr} {es : List Expr} {tb : BT} {x m : Str} {p pos apos : Pos}
theorem pd_static {pl : Sem Bool} (S : SMet X.K C m q fa) (Fn : FnOk X.prog X.w X.K X.mg X.base CX0 k fa fd ps (spD X.K n ft)) (hr : Room k X.A) (hg : Gl X x) (hm : X.mg x = some (.ref C)) (hb : Binds X.K fd ps []) (ha : PA X (e :: es) (liftB X.K tb))
    (hn : (e :: es).length = n := by rfl) (hdb : (x == ("__debug__" : Str)) = false := by decide) (he : starEach (e :: es) X.env = (false, eval e X.env) :: starEach es X.env := by rfl) (hpl : (backTo pos (starEach es X.env)).any (·.1) = false := by rfl)
    (ht : eval (.Call (.Attribute (.Name x p) m apos) (e :: es) [] pos) X.env = (do
      let ov ← eval (.Name x p) X.env
      standAt apos.atName
      let (f, first) ← holding [ov] (getMethod ov m pl)
      callWith pos f first (backTo pos (starEach (e :: es) X.env)) (backToKw pos (keywordEach [] X.env))) := by rfl) :
    PE X (.Call (.Attribute (.Name x p) m apos) (e :: es) [] pos) (lift X.K (dFn ft fun ρ P => tb ρ fun ss ρ1 => ss.length = n ∧ P ss ρ1)) := by
  refine ⟨fun pins s σ H Q I ⟨F, G, ρ, P, r, h, z⟩ => ?_⟩
  refine PySem.W.methodCall_KW (pl := pl) (thn ((pe_glob (X := X) (v := .ref C) hg hm rfl hdb).run pins s σ H (fun v H1 => v = .ref C ∧ H1 = H) I ⟨rfl, rfl⟩) fun u s1 ⟨v, H1, I1, rv, ev, eh⟩ => ?_) ht
  subst ev eh
  obtain rfl : u = Value.ref C := rv
  obtain ⟨rest, hrec⟩ := S.rc
  refine PySem.W.method_cls I1.kIn S.ga (PySem.W.cls_bind I1.kIn S.rd S.at_ (wpAny_call (PySem.W.sm_get (s := { s1 with toks := s1.toks + 1 }) I1.kIn hrec (PySem.W.handed_on rfl ?_))))
  have I2 : Inv X pins σ H1 { s1 with toks := s1.toks + 1 } := I1.tok _
  refine PySem.W.callWith_K (h₀ := X.base) I2.ok.mod.kin S.kp (thn (ha.run pos pins _ σ H1 (fun vs H2 => spD X.K n ft vs H2 Q E0) I2 ⟨F, G, ρ, _, r, h, fun ss ρ1 vs G1 H2 ⟨hl, h0, h1⟩ e1 r1 l1 => ?_⟩) fun us s2 ⟨vs, H2, I3, rv, q2⟩ => ⟨I3.kIn, ?_⟩) he hpl
  · exact spGo r1 l1 hl h0 h1 fun s v G' H' p e3 r3 => z _ _ _ _ _ p (e1.tr e3) r3
  · exact run_fn Fn hr hb .nil pass0 I3 rv (by rw [List.append_nil]; exact q2)
end
end Fl
namespace Tr
open PySem L2 Fl
/-- which classes' instances may stand beside an instance of C in == -/
structure NF (K : PySem.W.Frag) (C : Addr) : Prop where
  me : PySem.W.notFirst K C (.ref C) = true
  no : ∀ T ∈ ["NoneType", "bool", "int", "str", "list", "tuple", "dict"], PySem.W.notFirst K C (.type T) = true
def iEnA' (f : A') : A' := fun ρ => (f ρ).bind2 fun ys ρ1 => T.ofO ((cp ys).bind seqD) fun xs => .ret (numbered xs, ρ1)
def iSq' (f : E') : A' := fun ρ => (f ρ).bind2 fun s ρ1 => T.ofO (s.dat.bind itemsD) fun xs => .ret (xs, ρ1)
def eFnP (n m N : Nat) (is : List Nat) (t : M) (f g : B') : E' := fun ρ => (f ρ).bind2 fun ss ρ1 => T.need (ss.all argOk) ((g ρ1).bind2 fun zs ρ2 => T.need (zs.all argOk && ((ss.length == n) && ((zs.length == m) && ((pk is (ss ++ zs)).length == N)))) (back (t (pk is (ss ++ zs))) ρ2))
def eMethP (C : Addr) (x : Str) (m N : Nat) (is : List Nat) (t : M) (f : E') (g : B') : E' := fun ρ => (f ρ).bind2 fun s ρ1 => T.ofO s.dat fun d => T.ofO (insOf C d) fun q => T.need (lkF q.1 q.2 x).isNone
  ((g ρ1).bind2 fun ss ρ2 => T.need ((ss.length == m) && (ss.all argOk && ((pk is ss).length + 1 == N))) (back (t (.d d :: pk is ss)) ρ2))
def eMakeP (C : Addr) (n m N : Nat) (is : List Nat) (t : MI) (f g : B') : E' := fun ρ => (f ρ).bind2 fun ss ρ1 => T.need (ss.all argOk) ((g ρ1).bind2 fun zs ρ2 => T.need (zs.all argOk && ((ss.length == n) && ((zs.length == m) && ((pk is (ss ++ zs)).length + 1 == N)))) ((t (pk is (ss ++ zs))).bind2 fun ns vs => .ret (.oi C ns vs, ρ2)))
def eSortSet (f : E') : E' := fun ρ => (f ρ).bind2 fun s ρ1 => T.ofO (s.dat.bind dlst) fun xs => T.ofO (intsD xs) fun ns => T.need (decide (ns.length ≤ 60)) (.ret (.ol ((uniqI ns).map D.int), ρ1))
def oInDp (neg : Bool) : O' := fun x y => T.ofO (inDeep x y) fun b => .ret (.d (.bl (if neg then !b else b)))
def eRev (f : E') : E' := fun ρ => (f ρ).bind2 fun s ρ1 => T.ofO (s.dat.bind dlst) fun xs => .ret (.ol xs.reverse, ρ1)
def blT (t : T Sl) (k : Bool → T α) : T α := t.bind fun s => T.ofO (blO s) k
def oOwnEq (C : Addr) (m : M) : O' := fun x y => T.ofO (insOf C x) fun _ => T.need (!isIns y || (insOf C y).isSome) ((m [.d x, .d y]).bind fun s => T.need (noNo s) (.ret s))
def oOwnNe (C : Addr) (m : M) : O' := fun x y => T.ofO (insOf C x) fun _ => T.need (!isIns y || (insOf C y).isSome) ((m [.d x, .d y]).bind fun s => T.ofO (blO s) fun b => .ret (.d (.bl (!b))))
def fOwnLen (C : Addr) (m : M) : List D → T Sl := fun xs => T.ofO (cp xs) fun x => T.ofO (insOf C x) fun _ => (m [.d x]).bind fun s => T.ofO (intO s) fun i => T.need (decide (0 ≤ i ∧ i < 1000000)) (.ret (.d (.int i)))
section
variable {Z : Exc → Prop} {f g : E'} {ρ : Env'} {P : Sl → Env' → Prop} {fa : A'} {PA' : List D → Env' → Prop} {fb gb : B'}
theorem w_tst2 {te : ET} {PT' : Bool → Env' → Prop} (i : ∀ {ρ P}, up Z f ρ P → te ρ P) (q : upT Z (tTst f) ρ PT') : dTst te ρ PT' := i (w_tst q)
theorem w_set {i : Nat} {E : DE} (q : upS Z (sAsg f (gNm' i)) E ρ) : dAsg (up Z f) (gNm i) E ρ := by
  simp only [upS, sAsg, wp_bind2, wp_bind, wp_ret] at q
  exact wp_mono (fun a q => w_gnm q) q
theorem bind_seqD {ys : List D} {xs : List D} : (cp ys).bind seqD = some xs ↔ ∃ x, ys = [x] ∧ seqD x = some xs := by
  rw [Option.bind_eq_some_iff]
  simp only [cp_some]
theorem w_iEnA (q : upA Z (iEnA' fa) ρ PA') : iEnA (upA Z fa) ρ PA' := by
  simp only [upA, iEnA', wp_bind2, wp_ofO, wp_ret, bind_seqD] at q
  exact wp_mono (fun a ⟨xs, ⟨x, h1, h2⟩, q⟩ => ⟨x, xs, h1, h2, q⟩) q
theorem w_iSq (q : upA Z (iSq' f) ρ PA') : iSq (up Z f) ρ PA' := by
  simp only [upA, iSq', wp_bind2, wp_ofO, wp_ret, Option.bind_eq_some_iff] at q
  exact wp_mono (fun a ⟨xs, ⟨x, h1, h2⟩, q⟩ => ⟨x, xs, h1, h2, q⟩) q
theorem w_fnP {n m N : Nat} {is : List Nat} {t : M} (q : up Z (eFnP n m N is t fb gb) ρ P) : dFnP n m N is (ftM Z t) (upB Z fb) (upB Z gb) ρ P := by
  simp only [up, eFnP, wp_bind2, wp_need, Bool.and_eq_true, beq_iff_eq] at q
  exact wp_mono (fun a ⟨h1, q⟩ => ⟨h1, wp_mono (fun b ⟨⟨h2, h3, h4, h5⟩, q⟩ => ⟨h2, h3, h4, h5, w_back q⟩) q⟩) q
theorem w_fnP0 {m N : Nat} {is : List Nat} {t : M} (q : up Z (eFnP 0 m N is t bNil' gb) ρ P) : dFnP 0 m N is (ftM Z t) bNil (upB Z gb) ρ P := w_fnP q
theorem w_methP {C : Addr} {x : Str} {m N : Nat} {is : List Nat} {t : M} (q : up Z (eMethP C x m N is t f gb) ρ P) : dMethP C x m N is (ftM Z t) (up Z f) (upB Z gb) ρ P := by
  simp only [up, eMethP, wp_bind2, wp_ofO, wp_need, Bool.and_eq_true, beq_iff_eq, Option.isNone_iff_eq_none] at q
  exact wp_mono (fun a ⟨d, hd, p, hp, hl, q⟩ => ⟨d, hd, ⟨p.1, p.2, hp, hl⟩, wp_mono (fun b ⟨⟨h1, h2, h3⟩, q⟩ => ⟨h1, h2, h3, w_back q⟩) q⟩) q
theorem w_makeP {C : Addr} {n m N : Nat} {is : List Nat} {t : MI} (q : up Z (eMakeP C n m N is t fb gb) ρ P) : dMakeP C n m N is (fiM Z t) (upB Z fb) (upB Z gb) ρ P := by
  simp only [up, eMakeP, wp_bind2, wp_need, wp_ret, Bool.and_eq_true, beq_iff_eq] at q
  exact wp_mono (fun a ⟨h1, q⟩ => ⟨h1, wp_mono (fun b ⟨⟨h2, h3, h4, h5⟩, q⟩ => ⟨h2, h3, h4, h5, q⟩) q⟩) q
theorem w_makeP0 {C : Addr} {m N : Nat} {is : List Nat} {t : MI} (q : up Z (eMakeP C 0 m N is t bNil' gb) ρ P) : dMakeP C 0 m N is (fiM Z t) bNil (upB Z gb) ρ P := w_makeP q
theorem w_sortset (q : up Z (eSortSet f) ρ P) : dSortSet (up Z f) ρ P := by
  simp only [up, eSortSet, wp_bind2, wp_ofO, wp_need, wp_ret, bind_dlst, decide_eq_true_eq] at q
  exact wp_mono (fun a ⟨xs, h, ns, hn, hl, q⟩ => ⟨xs, ns, h, hn, hl, q⟩) q
theorem w_rev (q : up Z (eRev f) ρ P) : dRev (up Z f) ρ P := by
  simpa only [up, eRev, dRev, wp_bind2, wp_ofO, wp_ret, bind_dlst] using q
theorem wo_inDp {neg : Bool} (x y : D) (P : Sl → Prop) (q : roF Z (oInDp neg) x y P) : dInDp neg x y P := wp_ofO.mp q
theorem NF.of {K : PySem.W.Frag} {C : Addr} (n : NF K C) {y : D} (h : isIns y = false ∨ (insOf C y).isSome = true) : PySem.W.notFirst K C (tyV y) = true := by
  cases y with
  | ins C' ns vs =>
    rcases h with h | h
    · cases h
    · have h : (if C' = C then some (ns, vs) else none).isSome = true := h
      by_cases e : C' = C
      · rw [e]; exact n.me
      · rw [if_neg e] at h; cases h
  | _ => exact n.no _ (by simp [tyN])
theorem wo_ownEq {K : PySem.W.Frag} {C : Addr} {m : M} (n : NF K C) (x y : D) (P : Sl → Prop) (q : roF Z (oOwnEq C m) x y P) : dOwnEq K C (ftM Z m) x y P := by
  simp only [roF, oOwnEq, wp_ofO, wp_need, wp_bind, wp_ret, Bool.or_eq_true, Bool.not_eq_true'] at q
  obtain ⟨p, hp, h, q⟩ := q
  exact ⟨⟨p.1, p.2, hp⟩, n.of h, q⟩
theorem wo_ownNe {K : PySem.W.Frag} {C : Addr} {m : M} (n : NF K C) (x y : D) (P : Sl → Prop) (q : roF Z (oOwnNe C m) x y P) : dNeqOwn K C (ftM Z m) x y P := by
  simp only [roF, oOwnNe, wp_ofO, wp_need, wp_bind, wp_ret, Bool.or_eq_true, Bool.not_eq_true', blO_some] at q
  obtain ⟨p, hp, h, q⟩ := q
  exact ⟨⟨p.1, p.2, hp⟩, n.of h, q⟩
theorem ftM_mono {m : M} (ss : List Sl) (P P' : Sl → Prop) (i : ∀ s, P s → P' s) (q : ftM Z m ss P) : ftM Z m ss P' := wp_mono i q
theorem wf_ownLen {C : Addr} {m : M} (xs : List D) (P : Sl → Prop) (q : rcF Z (fOwnLen C m) xs P) : cOwnLen C (ftM Z m) xs P := by
  simp only [rcF, fOwnLen, wp_ofO, wp_need, wp_bind, wp_ret, cp_some, intO_some, decide_eq_true_eq] at q
  obtain ⟨x, rfl, p, hp, q⟩ := q
  exact ⟨x, rfl, ⟨p.1, p.2, hp⟩, wp_mono (fun s ⟨i, e, h, q⟩ => ⟨i, e, h.1, h.2, q⟩) q⟩
end
end Tr
namespace Fl
open PySem PySem.Spec PyProof.Rows L2
section
variable {X : Cx} {k : Nat}
def rInTp (K : PySem.W.Frag) : R2 := fun x y H Q => ∃ d ds, Dp K H x d ∧ Dp K H y (.tuple ds) ∧ SeqAt.shaped d = true ∧ SeqAt.shaped (.tuple ds) = true ∧ Q (.bl (ds.any fun z => PyData.eqv z d)) H
def rNotInTp (K : PySem.W.Frag) : R2 := fun x y H Q => ∃ d ds, Dp K H x d ∧ Dp K H y (.tuple ds) ∧ SeqAt.shaped d = true ∧ SeqAt.shaped (.tuple ds) = true ∧ Q (.bl (!ds.any fun z => PyData.eqv z d)) H
theorem op_inTp (hu : X.A.units + 65 < cLine) : OpR X (compareOp .In) (rInTp X.K) := by
  intro pins s σ H x y v u Q I rx ry h
  obtain ⟨d, ds, hd, he, sd, se, q⟩ := h
  obtain ⟨as, r1⟩ := Dp.reads I d x v hd rx
  obtain ⟨bs, r2⟩ := Dp.reads I (.tuple ds) y u he ry
  exact SeqAt.in_tuple_reads r2 r1 (SeqAt.canLay_of_shaped se) (SeqAt.canLay_of_shaped sd) (room_in_shaped sd hu) ⟨.bl _, H, I, rfl, q⟩
theorem op_notInTp (hu : X.A.units + 65 < cLine) : OpR X (compareOp .NotIn) (rNotInTp X.K) := by
  intro pins s σ H x y v u Q I rx ry h
  obtain ⟨d, ds, hd, he, sd, se, q⟩ := h
  obtain ⟨as, r1⟩ := Dp.reads I d x v hd rx
  obtain ⟨bs, r2⟩ := Dp.reads I (.tuple ds) y u he ry
  exact SeqAt.notIn_tuple_reads r2 r1 (SeqAt.canLay_of_shaped se) (SeqAt.canLay_of_shaped sd) (room_in_shaped sd hu) ⟨.bl _, H, I, rfl, q⟩
def inDp (x : D) : D → Option Bool
  | .lst ys => if ok 60 x && ok 60 (.lst ys) then some (inD x ys) else none
  | .tup ys => if ok 60 x && ok 60 (.tup ys) then some (inD x ys) else none
  | _ => none
def dInD (neg : Bool) : RO := fun x y P => ∃ b, inDp x y = some b ∧ P (.d (.bl (if neg then !b else b)))
theorem inDp_go {F : Fr} {G H : Hp} {σ : L2.St} {ρ : Env'} {vx vy : V} {x y : D} {b : Bool} (r : R X.K F G H σ ρ) (hx : Dd X.K G vx x) (hy : Dd X.K G vy y) (h : inDp x y = some b) :
    ∃ d ds, Dp X.K H vx d ∧ SeqAt.shaped d = true ∧ (ds.any fun z => PyData.eqv z d) = b ∧ ((Dp X.K H vy (.list ds) ∧ SeqAt.shaped (.list ds) = true) ∨ (Dp X.K H vy (.tuple ds) ∧ SeqAt.shaped (.tuple ds) = true)) := by
  cases y with
  | lst ys =>
    have h : (if ok 60 x && ok 60 (.lst ys) then some (inD x ys) else none) = some b := h
    split at h
    · rename_i c
      rw [Bool.and_eq_true] at c
      cases h
      obtain ⟨p1, p2, p3⟩ := hx.py r.gh c.1
      obtain ⟨q1, q2, q3⟩ := hy.py r.gh c.2
      exact ⟨_, _, p1, shaped_of p2 p3 (by decide), any_py x ys, .inl ⟨q1, shaped_of q2 q3 (by decide)⟩⟩
    · cases h
  | tup ys =>
    have h : (if ok 60 x && ok 60 (.tup ys) then some (inD x ys) else none) = some b := h
    split at h
    · rename_i c
      rw [Bool.and_eq_true] at c
      cases h
      obtain ⟨p1, p2, p3⟩ := hx.py r.gh c.1
      obtain ⟨q1, q2, q3⟩ := hy.py r.gh c.2
      exact ⟨_, _, p1, shaped_of p2 p3 (by decide), any_py x ys, .inr ⟨q1, shaped_of q2 q3 (by decide)⟩⟩
    · cases h
  | _ => cases h
theorem od_inD (hr : Room k X.A) : OpD X (compareOp .In) (dInD false) := by
  refine OpR.ofD (OpR.or (op_inD (by have := hr.un; omega)) (op_inTp (by have := hr.un; omega))) ?_
  intro F G H σ ρ vx vy x y P Q r hx hy ⟨b, hb, h⟩ k
  obtain ⟨d, ds, a1, a2, a3, a4 | a4⟩ := inDp_go r hx hy hb
  · exact .inl ⟨d, ds, a1, a4.1, a2, a4.2, by rw [a3]; exact k _ _ _ _ h .rfl (r.push (.bl _))⟩
  · exact .inr ⟨d, ds, a1, a4.1, a2, a4.2, by rw [a3]; exact k _ _ _ _ h .rfl (r.push (.bl _))⟩
theorem od_notInD (hr : Room k X.A) : OpD X (compareOp .NotIn) (dInD true) := by
  refine OpR.ofD (OpR.or (op_notInD (by have := hr.un; omega)) (op_notInTp (by have := hr.un; omega))) ?_
  intro F G H σ ρ vx vy x y P Q r hx hy ⟨b, hb, h⟩ k
  obtain ⟨d, ds, a1, a2, a3, a4 | a4⟩ := inDp_go r hx hy hb
  · exact .inl ⟨d, ds, a1, a4.1, a2, a4.2, by rw [a3]; exact k _ _ _ _ h .rfl (r.push (.bl _))⟩
  · exact .inr ⟨d, ds, a1, a4.1, a2, a4.2, by rw [a3]; exact k _ _ _ _ h .rfl (r.push (.bl _))⟩
end
end Fl
namespace Tr
open PySem L2 Fl
def oInD (neg : Bool) : O' := fun x y => T.ofO (inDp x y) fun b => .ret (.d (.bl (if neg then !b else b)))
theorem wo_inD {Z : Exc → Prop} {neg : Bool} (x y : D) (P : Sl → Prop) (q : roF Z (oInD neg) x y P) : dInD neg x y P := wp_ofO.mp q
end Tr
namespace Fl
open PySem L2
section
variable {X : Cx} {e : Expr} {te : ET} {p p2 pos pos2 : Pos}
theorem rg_upto (n : Int) : rgV 0 n = (List.range n.toNat).map fun i => V.int (i : Nat) := by
  unfold rgV
  rw [Int.sub_zero]
  refine List.map_congr_left fun i _ => ?_
  rw [Int.zero_add]
theorem upto_dd {K : PySem.W.Frag} {G : Hp} (n : Int) : DdL K G (rgV 0 n) (upto n) := by
  rw [rg_upto]
  have h := DdL.ofInts (K := K) (G := G) ((List.range n.toNat).map fun i => ((i : Nat) : Int))
  rw [List.map_map, List.map_map] at h
  exact h
def dListRg (te : ET) : ET := fun ρ P => te ρ fun s ρ1 => ∃ n : Int, s = .d (.int n) ∧ (-1000000 < n ∧ n < 1000000) ∧ P (.ol (upto n)) ρ1
theorem pd_listRg (hc : X.calm = true) (he : PE X e (lift X.K te)) (hg : Gl X "list") (hm : X.mg "list" = none) (hg2 : Gl X "range") (hm2 : X.mg "range" = none)
    (hs : starEach [e] X.env = (false, eval e X.env) :: starEach [] X.env := by rfl) (hs2 : starEach [.Call (.Name "range" p2) [e] [] pos2] X.env = (false, eval (.Call (.Name "range" p2) [e] [] pos2) X.env) :: starEach [] X.env := by rfl) :
    PE X (.Call (.Name "list" p) [.Call (.Name "range" p2) [e] [] pos2] [] pos) (lift X.K (dListRg te)) :=
  peImp (pe_listRg hc hg hm (prg_1 hg2 hm2 he hs) hs2) fun σ H Q ⟨F, G, ρ, P, r, h, k⟩ => goE r h fun s ρ1 v G1 H1 ⟨n, hs, hn, h1⟩ e1 r1 => by
    subst hs
    have ev : v = .int n := r1.topInt
    exact ⟨n, ev, (by unfold RgOk; omega), fun q hq => k _ _ _ _ _ h1 e1 (r1.pop.lst hq (upto_dd n))⟩
end
section
variable {X : Cx} {k n : Nat} {fa : Addr} {fd : FuncData} {ps : List Str} {ft : FT} {x : Str} {p pos : Pos} {e : Expr} {es : List Expr} {tb : BT}
theorem pd_callG (Fn : FnG X.prog X.w X.K X.mg X.base k fa fd ps (spD X.K n ft)) (hgu : X.A.guards = some []) (hr : Room k X.A) (hg : Gl X x) (hm : X.mg x = some (.ref fa)) (hk : PySem.W.keepIn X.K (.ref fa) = true) (hb : Binds X.K fd ps []) (ha : PA X (e :: es) (liftB X.K tb))
    (hn : (e :: es).length = n := by rfl) (hdb : (x == ("__debug__" : Str)) = false := by decide) (he : starEach (e :: es) X.env = (false, eval e X.env) :: starEach es X.env := by rfl) (hpl : (backTo pos (starEach es X.env)).any (·.1) = false := by rfl) :
    PE X (.Call (.Name x p) (e :: es) [] pos) (lift X.K (dFn ft fun ρ P => tb ρ fun ss ρ1 => ss.length = n ∧ P ss ρ1)) := by
  refine ⟨fun pins s σ H Q I ⟨F, G, ρ, P, r, h, z⟩ => ?_⟩
  refine wpAny_Call_Name_kw (ld_glob I hg hm ?_ hdb)
  refine PySem.W.callWith_K (h₀ := X.base) I.ok.mod.kin hk (thn (ha.run pos pins _ σ H (fun vs H2 => spD X.K n ft vs H2 Q E0) I ⟨F, G, ρ, _, r, h, fun ss ρ1 vs G1 H2 ⟨hl, h0, h1⟩ e1 r1 l1 => ?_⟩) fun us s2 ⟨vs, H2, I3, rv, q2⟩ => ⟨I3.kIn, ?_⟩) he hpl
  · exact spGo r1 l1 hl h0 h1 fun s v G' H' p e3 r3 => z _ _ _ _ _ p (e1.tr e3) r3
  · have hl : us.length = ps.length := by rw [← rv.length]; exact Fn.len _ _ _ _ q2
    refine wpAny_call (codeAny_mono (Fn.run X.A X.stack s2 H2 ⟨us, []⟩ us vs _ E0 hgu hr I3.env0 (by have := hb s2 us I3.kIn (by simpa using hl); rwa [List.append_nil] at this) rv q2) fun r s' hq => ?_)
    cases r with
    | error e => exact False.elim hq
    | ok fl =>
      cases fl with
      | ret z => exact I3.after hq
      | next => exact False.elim hq
      | brk => exact False.elim hq
      | cont => exact False.elim hq
end
end Fl
namespace Tr
open PySem L2 Fl
def eListRg (f : E') : E' := fun ρ => (f ρ).bind2 fun s ρ1 => T.ofO (intO s) fun n => T.need (decide (-1000000 < n ∧ n < 1000000)) (.ret (.ol (upto n), ρ1))
theorem w_listRg {Z : Exc → Prop} {f : E'} {ρ : Env'} {P : Sl → Env' → Prop} (q : up Z (eListRg f) ρ P) : dListRg (up Z f) ρ P := by
  simpa only [up, eListRg, dListRg, wp_bind2, wp_ofO, wp_need, wp_ret, intO_some, decide_eq_true_eq] using q
end Tr
namespace Fl
open PySem L2 Tr
section
variable {X : Cx}
def sortInI : D → Option (List Int)
  | .lst xs => intsD xs
  | .dic ks _ => ks.mapM fun x => match x with | .inl i => some i | _ => none
  | _ => none
theorem mapM_keyI {xs : List Key} : ∀ {ws : List Int}, (xs.mapM fun x => match x with | .inl i => some i | _ => none) = some ws → xs = ws.map Sum.inl := by
  induction xs with
  | nil => intro ws h; cases h; rfl
  | cons x xs ih =>
    intro ws h
    rw [List.mapM_cons] at h
    cases x with
    | inr s => cases h
    | inl i =>
      cases e : (xs.mapM fun x => match x with | .inl i => some i | _ => none) with
      | none => rw [e] at h; cases h
      | some vs => rw [e] at h; cases h; rw [ih e]; rfl
def insLe (x : Int) : List Int → List Int
  | [] => [x]
  | y :: ys => if x ≤ y then x :: y :: ys else y :: insLe x ys
def sortI : List Int → List Int
  | [] => []
  | x :: xs => insLe x (sortI xs)
theorem insLe_perm (x : Int) : ∀ ys : List Int, (insLe x ys).Perm (x :: ys)
  | [] => .refl _
  | y :: ys => by
    unfold insLe
    split
    · exact .refl _
    · exact ((insLe_perm x ys).cons y).trans (.swap x y ys)
theorem sortI_perm : ∀ xs : List Int, (sortI xs).Perm xs
  | [] => .refl _
  | x :: xs => (insLe_perm x _).trans ((sortI_perm xs).cons x)
theorem insLe_asc {x : Int} : ∀ {ys : List Int}, ys.Pairwise (· ≤ ·) → (insLe x ys).Pairwise (· ≤ ·)
  | [], _ => by simp [insLe]
  | y :: ys, h => by
    have h1 := List.pairwise_cons.mp h
    unfold insLe
    split
    · rename_i hl
      refine List.pairwise_cons.mpr ⟨fun z hz => ?_, h⟩
      rcases List.mem_cons.mp hz with rfl | hz
      · exact hl
      · exact Int.le_trans hl (h1.1 z hz)
    · rename_i hl
      refine List.pairwise_cons.mpr ⟨fun z hz => ?_, insLe_asc h1.2⟩
      rcases List.mem_cons.mp ((insLe_perm x ys).mem_iff.mp hz) with rfl | hz
      · omega
      · exact h1.1 z hz
theorem sortI_asc : ∀ xs : List Int, (sortI xs).Pairwise (· ≤ ·)
  | [] => List.Pairwise.nil
  | x :: xs => insLe_asc (sortI_asc xs)
theorem le_eq : ∀ {xs ys : List Int}, xs.Pairwise (· ≤ ·) → ys.Pairwise (· ≤ ·) → xs.Perm ys → xs = ys := fun {xs ys} h1 h2 p =>
  List.Perm.eq_of_pairwise (fun a b _ _ h1 h2 => Int.le_antisymm h1 h2) h1 h2 p
def cSortI : RCd := fun xs P => ∃ x ws, xs = [x] ∧ sortInI x = some ws ∧ ws.length < 64 ∧ P (.ol ((sortI ws).map D.int))
theorem cd_sortI (hc : X.calm = true) : CallD X (.builtin "sorted") cSortI := by
  refine CallR.ofD (CallR.or cr_sorted (call_sortedDI hc)) ?_
  intro F G H σ ρ vs xs P Q r d ⟨x, ws, hx, hs, hl, p⟩ k
  subst hx
  obtain ⟨v, rfl, dv⟩ := d.one
  have fin : ∀ (ys : List Int) (q : Addr), ys.Perm ws → ys.Pairwise (· ≤ ·) → H q = none → Q (.ref q) (upd H q (.lst (ys.map V.int))) := fun ys q h1 h2 hq => by
    have e := le_eq h2 (sortI_asc ws) (h1.trans (sortI_perm ws).symm)
    rw [e]
    exact k _ _ _ _ p .rfl (r.lst hq (DdL.ofInts _))
  cases dv with
  | lst g t =>
    have e := intsD_some hs
    subst e
    have e2 := t.ints
    subst e2
    exact .inl ⟨_, ws, rfl, .of (r.gh _ _ g), hl, fin⟩
  | dic g h1 h2 t =>
    have e := mapM_keyI hs
    subst e
    exact .inr ⟨_, _, ws, rfl, .inl (r.gh _ _ g), List.map_fst_zip (by omega), hl, fun ys q h1 h2 hq => fin ys q h1 h2 hq⟩
  | _ => cases hs
end
end Fl
namespace Tr
open PySem L2 Fl
/-- sorted of texts or ints -/
def fSort : List D → T Sl := fun xs => T.ofO (cp xs) fun x => match sortIn x with
  | some ws => T.need (decide (ws.length < 64) && ws.all sOk) (.ret (.ol ((sortS ws).map D.str)))
  | none => T.ofO (sortInI x) fun ws => T.need (decide (ws.length < 64)) (.ret (.ol ((sortI ws).map D.int)))
def cSort : RCd := fun xs P => cSortS xs P ∨ cSortI xs P
theorem cd_sort {X : Cx} (hc : X.calm = true) : CallD X (.builtin "sorted") cSort := by
  obtain ⟨r1, h1, k1⟩ := cd_sortS (X := X) hc
  obtain ⟨r2, h2, k2⟩ := cd_sortI (X := X) hc
  refine ⟨_, CallR.or h1 h2, fun r d p k => ?_⟩
  rcases p with p | p
  · exact .inl (k1 r d p k)
  · exact .inr (k2 r d p k)
theorem wf_sort {Z : Exc → Prop} (xs : List D) (P : Sl → Prop) (q : rcF Z fSort xs P) : cSort xs P := by
  have q : wp Z (fSort xs) P := q
  unfold fSort at q
  obtain ⟨x, hx, q⟩ := wp_ofO.mp q
  cases e : sortIn x with
  | some ws =>
    rw [e] at q
    refine .inl (wf_sortS (Z := Z) xs P ?_)
    show wp Z (fSortS xs) P
    unfold fSortS
    rw [hx]; show wp Z (T.ofO (sortIn x) _) P; rw [e]
    exact q
  | none =>
    rw [e] at q
    obtain ⟨ws, h2, q⟩ := wp_ofO.mp q
    obtain ⟨h3, q⟩ := wp_need.mp q
    exact .inr ⟨x, ws, cp_some.mp hx, h2, of_decide_eq_true h3, q⟩
end Tr
namespace Fl
open PySem L2
section
variable {X : Cx}
/-- small powers: the bound of the exponent is far below the kit's -/
def dPow : RO := fun x y P => match x, y with
  | .int i, .int j => (0 ≤ j ∧ j ≤ 1000 ∧ -1000000000000 < i ∧ i < 1000000000000) ∧ P (.d (.int (i ^ j.toNat)))
  | _, _ => False
theorem od_pow : OpD X (binaryOp .Pow) dPow := by
  refine OpR.ofD op_pow ?_
  intro F G H σ ρ vx vy x y P Q r hx hy h k
  cases hx with
  | int i =>
    cases hy with
    | int j => exact ⟨i, j, rfl, rfl, ⟨h.1.1, by have := h.1.2.1; omega, by have := h.1.2.2; omega⟩, k _ _ _ _ h.2 .rfl (r.push (.int _))⟩
    | _ => exact h.elim
  | _ => exact h.elim
def cAbs : RCd := fun xs P => ∃ i : Int, xs = [.int i] ∧ P (.d (.int (if i < 0 then -i else i)))
theorem cd_abs : CallD X (.builtin "abs") cAbs := by
  refine CallR.ofD call_abs ?_
  intro F G H σ ρ vs xs P Q r d ⟨i, hx, p⟩ k
  subst hx
  obtain ⟨v, rfl, dv⟩ := d.one
  cases dv
  exact ⟨i, rfl, k _ _ _ _ p .rfl (r.push (.int _))⟩
end
end Fl
namespace Tr
open PySem L2 Fl
def oPow : O' := fun x y => match x, y with
  | .int i, .int j => T.need (decide (0 ≤ j ∧ j ≤ 1000 ∧ -1000000000000 < i ∧ i < 1000000000000)) (.ret (.d (.int (i ^ j.toNat))))
  | _, _ => .fail
theorem wo_pow {Z : Exc → Prop} (x y : D) (P : Sl → Prop) (q : roF Z oPow x y P) : dPow x y P := by
  have go : ∀ {b : Prop} [Decidable b] {s : Sl}, wp Z (T.need (decide b) (.ret s)) P → b ∧ P s := fun q => let h := wp_need.mp q; ⟨of_decide_eq_true h.1, h.2⟩
  cases x <;> cases y <;> first | exact q | exact go q
def fAbs : List D → T Sl := fun xs => match xs with
  | [.int i] => .ret (.d (.int (if i < 0 then -i else i)))
  | _ => .fail
theorem wf_abs {Z : Exc → Prop} (xs : List D) (P : Sl → Prop) (q : rcF Z fAbs xs P) : cAbs xs P := by
  have q : wp Z (fAbs xs) P := q
  unfold fAbs at q
  split at q
  · exact ⟨_, rfl, q⟩
  · exact q.elim
theorem oPow_ii {i j : Int} : oPow (.int i) (.int j) = T.need (decide (0 ≤ j ∧ j ≤ 1000 ∧ -1000000000000 < i ∧ i < 1000000000000)) (.ret (.d (.int (i ^ j.toNat)))) := id rfl
theorem fAbs_i {i : Int} : fAbs [.int i] = .ret (.d (.int (if i < 0 then -i else i))) := id rfl
end Tr
namespace Fl
open PySem L2
mutual
def noDic : D → Bool
  | .lst xs => noDics xs
  | .tup xs => noDics xs
  | .dic _ _ => false
  | .ins _ _ vs => noDics vs
  | _ => true
def noDics : List D → Bool
  | [] => true
  | x :: xs => noDic x && noDics xs
end
def Sl.lk : Sl → Sl
  | .d x => if noDic x = true then .d x else .no
  | .ol xs => if noDics xs = true then .ol xs else .no
  | .od ks vs => if noDics vs = true then .od ks vs else .no
  | .oi C ns vs => if noDics vs = true then .oi C ns vs else .no
  | .bi _ _ _ => .no
  | .src => .src
  | .ld _ => .no
  | .no => .no
def dl (G : Hp) (d : Addr) : Hp := fun b => if b = d then none else G b
theorem dl_ne {G : Hp} {d b : Addr} (h : b ≠ d) : dl G d b = G b := if_neg h
theorem dl_same {G : Hp} {d : Addr} : dl G d d = none := if_pos rfl
section
variable {K : PySem.W.Frag} {F : Fr} {G G' H H' : Hp} {σ σ' : St} {ρ ρ' : Env'} {d : Addr} {kvs : List (Key × V)} {od : Obj}
theorem ne_dK {a : Addr} {o : HO} (g : G d = some (.dK kvs)) (h : G a = some o) (no : o ≠ .dK kvs) : a ≠ d := fun e => by
  rw [e, g] at h; cases h; exact no rfl
theorem sqT_dl {a : Addr} {us : List V} (g : G d = some (.dK kvs)) (h : SqT K G a us) : SqT K (dl G d) a us := by
  rcases h with (h | ⟨o, h⟩) | h
  · exact .inl (.inl ((dl_ne (ne_dK g h (by intro z; cases z))).trans h))
  · exact .inl (.inr ⟨o, (dl_ne (ne_dK g h (by intro z; cases z))).trans h⟩)
  · exact .inr h
mutual
theorem Dd.dl (g : G d = some (.dK kvs)) : ∀ {v : V} {x : D}, Dd K G v x → noDic x = true → Dd K (dl G d) v x
  | _, _, .non, _ => .non
  | _, _, .bl b, _ => .bl b
  | _, _, .int i, _ => .int i
  | _, _, .str x h, _ => .str x h
  | _, _, .lst h t, n => .lst ((dl_ne (ne_dK g h (by intro z; cases z))).trans h) (DdL.dl g t n)
  | _, _, .tup h t, n => .tup (sqT_dl g h) (DdL.dl g t n)
  | _, _, .dic h l nd t, n => by exact absurd n (by simp [noDic])
  | _, _, .ins h l o t, n => .ins ((dl_ne (ne_dK g h (by intro z; cases z))).trans h) l ((dl_ne (ne_dK g o (by intro z; cases z))).trans o) (DdL.dl g t n)
theorem DdL.dl (g : G d = some (.dK kvs)) : ∀ {us : List V} {xs : List D}, DdL K G us xs → noDics xs = true → DdL K (dl G d) us xs
  | _, _, .nil, _ => .nil
  | _, _, .cons a t, n => by
    have n : (noDic _ && noDics _) = true := n
    rw [Bool.and_eq_true] at n
    exact .cons (Dd.dl g a n.1) (DdL.dl g t n.2)
end
def lkd (od : Obj) (kvs : List (Key × V)) : HO := .frz od (.dK kvs)
def Fr.lk (F : Fr) (d : Addr) (od : Obj) (kvs : List (Key × V)) : Fr := { F with G0 := Fl.dl F.G0 d, ks := (d, lkd od kvs) :: F.ks }
theorem SlOk.lk {v : Option V} {s : Sl} {os : List Addr} (g : G d = some (.dK kvs)) (no : ∀ p ∈ os, G p = none) (h : SlOk K F G H v s os) :
    ∃ os', SlOk K (F.lk d od kvs) (dl G d) (upd H d (lkd od kvs)) v s.lk os' ∧ os'.Sublist os := by
  have ne : ∀ p ∈ os, p ≠ d := fun p hp e => by rw [e] at hp; rw [no d hp] at g; cases g
  have emp : ∃ os', SlOk K (F.lk d od kvs) (dl G d) (upd H d (lkd od kvs)) v .no os' ∧ os'.Sublist os := ⟨[], .no _, by simp⟩
  cases h with
  | no => exact ⟨_, .no _, .refl _⟩
  | @d _ x t =>
    by_cases n : noDic x = true
    · exact ⟨_, by show SlOk _ _ _ _ _ (if _ then _ else _) _; rw [if_pos n]; exact .d (t.dl g n), .refl _⟩
    · exact ⟨[], by show SlOk _ _ _ _ _ (if _ then _ else _) _; rw [if_neg n]; exact .no _, by simp⟩
  | @ol p us xs h1 h2 h3 =>
    by_cases n : noDics xs = true
    · exact ⟨_, by show SlOk _ _ _ _ _ (if _ then _ else _) _; rw [if_pos n]; exact .ol ((upd_ne (ne p (by simp))).trans h1) (h2.dl g n) h3, .refl _⟩
    · exact ⟨[], by show SlOk _ _ _ _ _ (if _ then _ else _) _; rw [if_neg n]; exact .no _, by simp⟩
  | @od p ks us vs h1 h2 h4 h3 h5 =>
    by_cases n : noDics vs = true
    · exact ⟨_, by show SlOk _ _ _ _ _ (if _ then _ else _) _; rw [if_pos n]; exact .od ((upd_ne (ne p (by simp))).trans h1) h2 h4 (h3.dl g n) h5, .refl _⟩
    · exact ⟨[], by show SlOk _ _ _ _ _ (if _ then _ else _) _; rw [if_neg n]; exact .no _, by simp⟩
  | @oi p C dx ns us vs h1 h2 h3 h4 h5 h6 =>
    by_cases n : noDics vs = true
    · exact ⟨_, by show SlOk _ _ _ _ _ (if _ then _ else _) _; rw [if_pos n]; exact .oi ((upd_ne (ne p (by simp))).trans h1) h2 ((upd_ne (ne dx (by simp))).trans h3) (h4.dl g n) h5 h6, .refl _⟩
    · exact ⟨[], by show SlOk _ _ _ _ _ (if _ then _ else _) _; rw [if_neg n]; exact .no _, by simp⟩
  | bi => exact ⟨[], .no _, by simp⟩
  | ld => exact ⟨[], .no _, by simp⟩
  | src h => exact ⟨_, .src h, .refl _⟩
theorem Sls.lk {os : List Addr} (g : G d = some (.dK kvs)) (h : Sls K F G H σ ρ os) : (∀ p ∈ os, G p = none) → ∃ os', Sls K (F.lk d od kvs) (dl G d) (upd H d (lkd od kvs)) σ (ρ.map Sl.lk) os' ∧ os'.Sublist os := by
  induction h with
  | nil => exact fun _ => ⟨[], .nil, .refl _⟩
  | cons a t ih =>
    intro no
    obtain ⟨o1, a', s1⟩ := a.lk (od := od) g fun p hp => no p (List.mem_append_left _ hp)
    obtain ⟨o2, t', s2⟩ := ih fun p hp => no p (List.mem_append_right _ hp)
    exact ⟨o1 ++ o2, .cons a' t', s1.append s2⟩
theorem inSrc_lk {b : Addr} (h : b ≠ d) : InSrc (F.lk d od kvs) b ↔ InSrc F b := by
  constructor
  · rintro (m | ⟨o, m⟩)
    · exact .inl m
    · rcases List.mem_cons.mp m with e | m
      · cases e; exact absurd rfl h
      · exact .inr ⟨o, m⟩
  · rintro (m | ⟨o, m⟩)
    · exact .inl m
    · exact .inr ⟨o, List.mem_cons_of_mem _ m⟩
theorem inSrc_lkd : InSrc (F.lk d od kvs) d := .inr ⟨_, List.mem_cons_self⟩
theorem R.notSrc (r : R K F G H σ ρ) {o : HO} (g : G d = some o) : ¬ InSrc F d := by
  rintro (⟨a, c, h, rfl | rfl⟩ | ⟨u, m⟩)
  · have := (r.sr _ _ h).2.1; rw [g] at this; cases this
  · have := (r.sr _ _ h).2.2; rw [g] at this; cases this
  · have := (r.kp _ m).2.1; rw [g] at this; cases this
theorem R.lock (r : R K F G H σ ρ) (g : G d = some (.dK kvs)) : R K (F.lk d od kvs) (dl G d) (upd H d (lkd od kvs)) σ (ρ.map Sl.lk) := by
  obtain ⟨os, hs, nd, f⟩ := r.sl
  obtain ⟨os', hs', sub⟩ := hs.lk (od := od) g fun p hp => (f p hp).1
  have nsd := r.notSrc g
  have hd := r.gh _ _ g
  refine ⟨fun b o e => ?_, fun b o e => ?_, fun b o e n1 n2 => ?_, fun b o e => ?_, fun b m => ?_, fun a c h => ?_, fun q hq => ?_, ?_, os', hs', nd.sublist sub, fun p hp => ?_⟩
  · by_cases hb : b = d
    · subst hb; rw [show (F.lk b od kvs).G0 b = none from dl_same] at e; cases e
    · rw [show (F.lk d od kvs).G0 b = F.G0 b from dl_ne hb] at e
      rw [dl_ne hb]; exact r.gg _ _ e
  · by_cases hb : b = d
    · subst hb; rw [dl_same] at e; cases e
    · rw [dl_ne hb] at e; rw [upd_ne hb]; exact r.gh _ _ e
  · have hb : b ≠ d := fun z => n1 (z ▸ inSrc_lkd)
    rw [upd_ne hb]
    exact r.fr b o e (fun m => n1 ((inSrc_lk hb).mpr m)) n2
  · by_cases hb : b = d
    · subst hb; rw [dl_same] at e; cases e
    · rw [dl_ne hb] at e
      rcases r.nw b o e with h | h
      · exact .inl ((show (F.lk d od kvs).G0 b = F.G0 b from dl_ne hb).trans h)
      · exact .inr h
  · by_cases hb : b = d
    · exact ⟨_, by rw [hb]; exact upd_same⟩
    · rw [upd_ne hb]
      exact r.th b (m.imp (inSrc_lk hb).mp id)
  · obtain ⟨h1, h2, h3⟩ := r.sr a c h
    have na : a ≠ d := fun e => by rw [e, g] at h2; cases h2
    have nc : c ≠ d := fun e => by rw [e, g] at h3; cases h3
    exact ⟨h1.keep (upd_ne na) (upd_ne nc), (dl_ne na).trans h2, (dl_ne nc).trans h3⟩
  · rcases List.mem_cons.mp hq with e | hq
    · subst e
      refine ⟨upd_same, dl_same, fun a c h => ⟨fun e => ?_, fun e => ?_⟩⟩
      · have := (r.sr a c h).2.1
        rw [← (show d = a from e), g] at this
        cases this
      · have := (r.sr a c h).2.2
        rw [← (show d = c from e), g] at this
        cases this
    · obtain ⟨h1, h2, h3⟩ := r.kp q hq
      have nq : q.1 ≠ d := fun e => by rw [e, g] at h2; cases h2
      exact ⟨(upd_ne nq).trans h1, (dl_ne nq).trans h2, h3⟩
  · obtain ⟨so, z⟩ := r.nm
    exact ⟨so, by rw [upd_ne (fun e => by rw [e, hd] at z; cases z)]; exact z⟩
  · have hp2 := sub.mem hp
    have np : p ≠ d := fun e => by have := (f p hp2).1; rw [e, g] at this; cases this
    exact ⟨(dl_ne np).trans (f p hp2).1, fun m => (f p hp2).2 ((inSrc_lk np).mp m)⟩

theorem sqT_up {a : Addr} {us : List V} (g : ∀ o, G d = some o → o = lkd od kvs) (h : SqT K G a us) : SqT K (upd G d (.dK kvs)) a us := by
  rcases h with (h | ⟨o, h⟩) | h
  · exact .inl (.inl ((upd_ne (fun e => by rw [e] at h; have := g _ h; cases this)).trans h))
  · exact .inl (.inr ⟨o, (upd_ne (fun e => by rw [e] at h; have := g _ h; cases this)).trans h⟩)
  · exact .inr h
mutual
theorem Dd.up (g : ∀ o, G d = some o → o = lkd od kvs) : ∀ {v : V} {x : D}, Dd K G v x → Dd K (upd G d (.dK kvs)) v x
  | _, _, .non => .non
  | _, _, .bl b => .bl b
  | _, _, .int i => .int i
  | _, _, .str x h => .str x h
  | _, _, .lst h t => .lst ((upd_ne (fun e => by rw [e] at h; have := g _ h; cases this)).trans h) (DdL.up g t)
  | _, _, .tup h t => .tup (sqT_up g h) (DdL.up g t)
  | _, _, .dic h l nd t => .dic ((upd_ne (fun e => by rw [e] at h; have := g _ h; cases this)).trans h) l nd (DdL.up g t)
  | _, _, .ins h l o t => .ins ((upd_ne (fun e => by rw [e] at h; have := g _ h; cases this)).trans h) l ((upd_ne (fun e => by rw [e] at o; have := g _ o; cases this)).trans o) (DdL.up g t)
theorem DdL.up (g : ∀ o, G d = some o → o = lkd od kvs) : ∀ {us : List V} {xs : List D}, DdL K G us xs → DdL K (upd G d (.dK kvs)) us xs
  | _, _, .nil => .nil
  | _, _, .cons a t => .cons (Dd.up g a) (DdL.up g t)
end
theorem SlOk.ul {v : Option V} {s : Sl} {os : List Addr} (g : ∀ o, G d = some o → o = lkd od kvs) (ne : ∀ p ∈ os, p ≠ d) (h : SlOk K (F.lk d od kvs) G H v s os) : SlOk K F (upd G d (.dK kvs)) (upd H d (.dK kvs)) v s os := by
  cases h with
  | no => exact .no _
  | d t => exact .d (t.up g)
  | ol h1 h2 h3 => exact .ol ((upd_ne (ne _ (by simp))).trans h1) (h2.up g) h3
  | od h1 h2 h4 h3 h5 => exact .od ((upd_ne (ne _ (by simp))).trans h1) h2 h4 (h3.up g) h5
  | oi h1 h2 h3 h4 h5 h6 => exact .oi ((upd_ne (ne _ (by simp))).trans h1) h2 ((upd_ne (ne _ (by simp))).trans h3) (h4.up g) h5 h6
  | bi h1 h2 h3 h4 h5 => exact .bi ((upd_ne (ne _ (by simp))).trans h1) h2 ((upd_ne (ne _ (by simp))).trans h3) (h4.up g) h5
  | src h => exact .src h
  | ld h h0 h1 h2 => exact .ld (by cases h with
    | lst t => exact .lst (t.up g)
    | dic a b t => exact .dic a b (t.up g)) h0 (fun m => h1 (m.imp id fun ⟨o, q⟩ => ⟨o, List.mem_cons_of_mem _ q⟩)) h2
theorem Sls.ul {os : List Addr} (g : ∀ o, G d = some o → o = lkd od kvs) (h : Sls K (F.lk d od kvs) G H σ ρ os) : (∀ p ∈ os, p ≠ d) → Sls K F (upd G d (.dK kvs)) (upd H d (.dK kvs)) σ ρ os := by
  induction h with
  | nil => exact fun _ => .nil
  | cons a t ih => exact fun ne => .cons (a.ul g fun p hp => ne p (List.mem_append_left _ hp)) (ih fun p hp => ne p (List.mem_append_right _ hp))
theorem R.unlock (r0 : R K F G H σ ρ) (g : G d = some (.dK kvs)) (r : R K (F.lk d od kvs) G' H' σ' ρ') (e : Ex (dl G d) G') :
    H' d = some (lkd od kvs) ∧ Ex G (upd G' d (.dK kvs)) ∧ R K F (upd G' d (.dK kvs)) (upd H' d (.dK kvs)) σ' ρ' := by
  have k0 := r.kp (d, lkd od kvs) List.mem_cons_self
  have hd : H' d = some (lkd od kvs) := k0.1
  have gd : ∀ o, G' d = some o → o = lkd od kvs := fun o h => by have := k0.2.1; rw [show G' d = none from this] at h; cases h
  obtain ⟨os, hs, nd, f⟩ := r.sl
  have ne : ∀ p ∈ os, p ≠ d := fun p hp z => (f p hp).2 (z ▸ inSrc_lkd)
  refine ⟨hd, fun b o h => ?_, fun b o h => ?_, fun b o h => ?_, fun b o h n1 n2 => ?_, fun b o h => ?_, fun b m => ?_, fun a c h => ?_, fun q hq => ?_, ?_, os, hs.ul gd ne, nd, fun p hp => ?_⟩
  · by_cases hb : b = d
    · subst hb; rw [g] at h; cases h; exact upd_same
    · rw [upd_ne hb]; exact e _ _ ((dl_ne hb).trans h)
  · by_cases hb : b = d
    · subst hb; have := r0.gg _ _ h; rw [g] at this; cases this; exact upd_same
    · rw [upd_ne hb]; exact r.gg _ _ ((show (F.lk d od kvs).G0 b = F.G0 b from dl_ne hb).trans h)
  · by_cases hb : b = d
    · subst hb; rw [upd_same] at h ⊢; exact h
    · rw [upd_ne hb] at h ⊢; exact r.gh _ _ h
  · by_cases hb : b = d
    · subst hb
      have := r0.fr _ _ h n1 n2
      rw [r0.gh _ _ g] at this
      rw [upd_same]; exact this
    · rw [upd_ne hb]
      exact r.fr b o h (fun m => n1 ((inSrc_lk hb).mp m)) n2
  · by_cases hb : b = d
    · subst hb
      rw [upd_same] at h
      cases h
      exact r0.nw _ _ g
    · rw [upd_ne hb] at h
      rcases r.nw b o h with z | z
      · exact .inl ((show (F.lk d od kvs).G0 b = F.G0 b from dl_ne hb).symm.trans z)
      · exact .inr z
  · by_cases hb : b = d
    · exact ⟨_, by rw [hb]; exact upd_same⟩
    · rw [upd_ne hb]
      exact r.th b (m.imp (inSrc_lk hb).mpr id)
  · obtain ⟨h1, h2, h3⟩ := r.sr a c h
    obtain ⟨_, h4, h5⟩ := r0.sr a c h
    have na : a ≠ d := fun e => by rw [e, g] at h4; cases h4
    have nc : c ≠ d := fun e => by rw [e, g] at h5; cases h5
    exact ⟨h1.keep (upd_ne na) (upd_ne nc), (upd_ne na).trans h2, (upd_ne nc).trans h3⟩
  · obtain ⟨h1, h2, h3⟩ := r.kp q (List.mem_cons_of_mem _ hq)
    have nq : q.1 ≠ d := fun e => by have := (r0.kp q hq).2.1; rw [e, g] at this; cases this
    exact ⟨(upd_ne nq).trans h1, (upd_ne nq).trans h2, h3⟩
  · obtain ⟨so, z⟩ := r.nm
    exact ⟨so, by rw [upd_ne (fun e => by rw [e, hd] at z; exact absurd (Option.some.inj z) (by unfold lkd sysO; intro z; cases z))]; exact z⟩
  · exact ⟨(upd_ne (ne p hp)).trans (f p hp).1, fun m => (f p hp).2 ((inSrc_lk (ne p hp)).mpr m)⟩
end
section
variable {X : Cx} {x f : Str} {p1 p2 apos cpos pos tpos : Pos} {C : Addr} {i kk : Nat} {elts : List Expr}
theorem pairD_len : ∀ {ks : List Key} {vs : List D}, ks.length = vs.length → (pairD ks vs).length = ks.length
  | [], [], _ => rfl
  | k :: ks, v :: vs, h => by
    show (pairD ks vs).length + 1 = ks.length + 1
    rw [pairD_len (by simpa using h)]
theorem pairD_at {K : PySem.W.Frag} {G : Hp} : ∀ {ks : List Key} {us : List V} {vs : List D} {i : Nat} {kv : Key × V}, ks.length = us.length → ks.all kOk = true → DdL K G us vs → (ks.zip us)[i]? = some kv →
    ∃ w, (pairD ks vs)[i]? = some (.tup [keyT kv.1, w]) ∧ kOk kv.1 = true ∧ Dd K G kv.2 w
  | k :: ks, u :: us, _, i, kv, hl, ho, .cons (x := x) (xs := xs) a t, h => by
    rw [List.all_cons, Bool.and_eq_true] at ho
    cases i with
    | zero => cases h; exact ⟨x, rfl, ho.1, a⟩
    | succ i => exact pairD_at (i := i) (by simpa using hl) ho.2 t (by simpa using h)
  | [], _, _, _, _, _, _, _, h => by simp at h
  | _ :: _, [], _, _, _, hl, _, _, _ => by simp at hl
theorem walkD_items {K : PySem.W.Frag} {G : Hp} {d : Addr} {ks : List Key} {us : List V} {vs : List D} {od : Obj} {F0 : Fr} (hl : ks.length = us.length) (ho : ks.all kOk = true) (t : DdL K G us vs) :
    Walk (Iti d od (ks.zip us)) (pairD ks vs).length (fun H => H d = some (lkd od (ks.zip us))) (YPair (fun i => (ks.zip us)[i]?.map fun kv => kV kv.1) (fun i => (ks.zip us)[i]?.map Prod.snd)) := by
  have e : (ks.zip us).length = (pairD ks vs).length := by
    have h2 := t.len
    rw [pairD_len (by omega), List.length_zip]
    omega
  rw [← e]
  exact walk_items
/-- for k, v in x.f.items() -/
def dForIt (C : Addr) (i : Nat) (f : Str) (gd : GT) (tb : ST) : ST := fun E ρ => ∃ z ns vs ks ws, ρ[i]? = some (.d z) ∧ insOf C z = some (ns, vs) ∧ lkF ns vs f = some (.dic ks ws) ∧ ks.all kOk = true ∧ noDics ws = true ∧ loopS gd tb E (pairD ks ws) (ρ.map Sl.lk)
theorem ds_forIt {body : List Stmt} {g0 : TG} {gd : GT} {is : List Nat} {tb : ST} (hp : PassesOwn (model X.prog X.w) X.A X.env X.xe) (hc : X.calm = true) (c : Cls X.K C) (nA : NoAttr X.K C f) (ho : PE X (.Name x p1) (tVar i))
    (hg : PG X (.Tuple elts kk tpos) g0) (ht : Tgt X.K g0 gd is) (hb : PSs X body (liftS X.K tb)) (hba : attributeBase (.Name x p1) f X.env (eval (.Name x p1) X.env) = eval (.Name x p1) X.env := by rfl)
    (hbase : attributeBase (.Attribute (.Name x p1) f p2) "items" X.env (eval (.Attribute (.Name x p1) f p2) X.env) = eval (.Attribute (.Name x p1) f p2) X.env := by rfl) (hline : (apos.endLine == cpos.line) = true := by rfl)
    (hs : ∀ y, foldedSetIterable (.Call (.Attribute (.Attribute (.Name x p1) f p2) "items" apos) [] [] cpos) X.env y = pure y := by intro _; rfl) :
    PS X (.For (.Tuple elts kk tpos) (.Call (.Attribute (.Attribute (.Name x p1) f p2) "items" apos) [] [] cpos) body [] pos) (liftS X.K (dForIt C i f gd tb)) :=
  psImp (ps_lock (ps_for hp hc (pi_items (pe_fld ho hba) hbase hline) hg hb hs)) fun D σ H ⟨F, G, ρ, E, r, ⟨z, ns, vs, ks, ws, h0, hi, hl, hk, hn, h⟩, w⟩ => by
    obtain ⟨os, hsl, nd, fo⟩ := r.sl
    obtain ⟨v, o1, o2, s1, s2, _, _⟩ := hsl.at h0
    cases s2 with
    | @d u _ dz =>
      obtain ⟨a, dx, us, rfl, rfl, g, hl1, t⟩ := dz.insOf hi
      obtain ⟨y, y1, y2⟩ := (lkF_of hl1 t).1 _ hl
      cases y2 with
      | @dic d _ uw _ gd' hlk hnk tw =>
        have hd := r.gh _ _ gd'
        refine ⟨d, _, hd, ?_, fun od => ?_⟩
        · exact trivial
        have rl := r.lock (od := od) gd'
        have na : a ≠ d := ne_dK gd' g (by intro z; cases z)
        have t2 : DdL X.K (dl G d) uw ws := tw.dl gd' hn
        refine ⟨.ref a, s1, a, C, dx, _, _, rfl, (upd_ne na).trans (r.gh _ _ g), c, nA, y1, d, od, _, rfl, upd_same, ?_⟩
        have back : ∀ {σ2 : St} {ρ2 : Env'} {G2 H2 : Hp}, Ex (dl G d) G2 → R X.K (F.lk d od (ks.zip uw)) G2 H2 σ2 ρ2 → _ := fun {σ2 ρ2 G2 H2} e r2 => r.unlock gd' r2 e
        refine for_it (walkD_items (F0 := F) (d := d) (od := od) hlk hk t2) (fun i σ' H' => ∃ G' ρ', Ex (dl G d) G' ∧ R X.K (F.lk d od (ks.zip uw)) G' H' σ' ρ' ∧ loopS gd tb E ((pairD ks ws).drop i) ρ') ⟨dl G d, _, .rfl, rl, h⟩
          (fun i σ' H' _ ⟨G', ρ', e, r', _⟩ => (back e r').1) (fun i x σ' H' H2 hi ⟨G', ρ', e, r', l⟩ y => ?_) fun σ' H' ⟨G', ρ', e, r', l⟩ => ?_
        · obtain ⟨T, k1, v1, q1, q2, q3, q4, q5⟩ := y
          subst q1 q3
          obtain ⟨kv, q6, rfl⟩ := Option.map_eq_some_iff.mp q4
          have q5 : ((ks.zip uw)[i]?.map Prod.snd) = some v1 := q5
          rw [q6] at q5
          cases q5
          obtain ⟨wq, e6, e7, e8⟩ := pairD_at hlk hk t2 q6
          rw [drop_cons e6] at l
          obtain ⟨e3, r3, d3⟩ := r'.tup (us := [kV kv.1, kv.2]) (xs := [keyT kv.1, wq]) q2 (.cons (.ofKey e7) (.cons (e8.ex e) .nil))
          refine ht.up (r3.push d3) l fun σ3 ρ3 G3 H3 p3 e4 r4 _ => ⟨F.lk d od (ks.zip uw), G3, ρ3, _, r4, p3, ?_⟩
          have e5 := (e.tr e3).tr e4
          exact ⟨fun σ4 ρ4 G4 H4 q e' r' => ⟨G4, ρ4, e5.tr e', r', q⟩, fun σ4 ρ4 G4 H4 q e' r' => let b := back (e5.tr e') r'; ⟨b.1, w.nx _ _ _ _ q b.2.1 b.2.2⟩, fun σ4 ρ4 G4 H4 q e' r' => ⟨G4, ρ4, e5.tr e', r', q⟩,
            fun s v σ4 ρ4 G4 H4 q e' r' => let b := r.unlock gd' r' (e5.tr e'); ⟨b.1, w.rt _ _ _ _ _ _ q b.2.1 b.2.2⟩⟩
        · rw [List.drop_length] at l
          have b := back e r'
          exact ⟨b.1, w.nx _ _ _ _ l b.2.1 b.2.2⟩
end
end Fl
namespace Fl
open PySem L2
section
variable {X : Cx} {K : PySem.W.Frag} {F : Fr} {G G' H H' : Hp} {σ : St} {ρ : Env'} {pos p : Pos} {e : Expr} {es : List Expr} {bb : BT} {k n : Nat} {C fa : Addr} {fd : FuncData} {ps : List Str} {fi : FI} {x : Str}
def dbls (bs : List Bool) : Env' := bs.map fun b => .d (.bl b)
theorem R.pushBls (r : R K F G H σ ρ) : ∀ bs : List Bool, R K F G H ((bs.map V.bl).map some ++ σ) (dbls bs ++ ρ)
  | [] => r
  | b :: bs => (R.pushBls r bs).push (.bl b)
theorem dbls_arg : ∀ bs : List Bool, (dbls bs).all argOk = true
  | [] => rfl
  | b :: bs => by
    show (argOk (.d (.bl b)) && (dbls bs).all argOk) = true
    rw [dbls_arg bs]; rfl
def dMakeD (C : Addr) (n : Nat) (bs : List Bool) (fi : FI) (tb : BT) : ET := fun ρ P => tb ρ fun ss ρ1 => ss.all argOk = true ∧ ss.length + bs.length = n ∧ fi (ss ++ dbls bs) fun ns vs => P (.oi C ns vs) ρ1
theorem pd_makeD {bs : List Bool} {ds : List Value} (M : Mk X.K C fa) (Fn : FnOk X.prog X.w X.K X.mg X.base CX0 k fa fd ps (spI X.K C (n + 1) fi)) (hr : Room (k + 1) X.A) (hg : Gl X x) (hm : X.mg x = some (.ref C)) (hb : Binds X.K fd ps ds) (hd : Vals (bs.map V.bl) ds) (ha : PA X (e :: es) (liftB X.K bb))
    (hdb : (x == ("__debug__" : Str)) = false := by decide) (he : starEach (e :: es) X.env = (false, eval e X.env) :: starEach es X.env := by rfl) (hpl : (backTo pos (starEach es X.env)).any (·.1) = false := by rfl) :
    PE X (.Call (.Name x p) (e :: es) [] pos) (lift X.K (dMakeD C n bs fi bb)) :=
  peImp (pe_make M Fn hr hg hm hb hd pass0 ha hdb he hpl) fun σ H Q ⟨F, G, ρ, P, r, h, q⟩ => ⟨F, G, ρ, _, r, h, fun ss ρ1 vs G1 H1 ⟨a1, n1, h1⟩ e1 r1 l1 => fun y dx hy hd ne => by
    have r3 := R.pendAll _ r1 l1 a1 .rfl ((r1.rest (by rw [List.length_map]; exact l1)).pushBls bs)
    refine makeGo (ws := vs) (zs := bs.map V.bl) (ss := ss) (zz := dbls bs) (σ := σ) (ρ := ρ1) (n := n + 1) (E := E0) (fi := fi) (C := C) (P := P) (Q := Q) ?_ (by simp [l1, dbls]) (by rw [List.all_append, a1, dbls_arg]; rfl) (by simp [dbls]; omega) h1 hy hd ne fun s v G' H' p e3 r4 => q _ _ _ _ _ p (e1.tr e3) r4
    rw [List.map_append, List.append_assoc, List.append_assoc]
    exact r3⟩
end
end Fl
namespace Tr
open PySem L2 Fl
section
variable {Z : Exc → Prop} {ρ : Env'} {P : Sl → Env' → Prop} {fb : B'}
def eMakeD (C : Addr) (n : Nat) (bs : List Bool) (m : MI) (f : B') : E' := fun ρ => (f ρ).bind2 fun ss ρ1 => T.need (ss.all argOk && (ss.length + bs.length == n)) ((m (ss ++ dbls bs)).bind2 fun ns vs => .ret (.oi C ns vs, ρ1))
theorem w_makeD {C : Addr} {n : Nat} {bs : List Bool} {m : MI} (q : up Z (eMakeD C n bs m fb) ρ P) : dMakeD C n bs (fiM Z m) (upB Z fb) ρ P := by
  simp only [up, eMakeD, wp_bind2, wp_need, wp_ret, Bool.and_eq_true, beq_iff_eq] at q
  exact wp_mono (fun a ⟨⟨h1, h2⟩, q⟩ => ⟨h1, h2, q⟩) q
theorem eMakeD_e {C : Addr} {n : Nat} {bs : List Bool} {m : MI} {f : B'} {s0 : Sl} {ρ0 : Env'} : eMakeD C n bs m f (s0 :: ρ0) = (f (s0 :: ρ0)).bind2 fun ss ρ1 => T.need (ss.all argOk && (ss.length + bs.length == n)) ((m (ss ++ dbls bs)).bind2 fun ns vs => .ret (.oi C ns vs, ρ1)) := id rfl
theorem dbls_cons {b : Bool} {bs : List Bool} : dbls (b :: bs) = .d (.bl b) :: dbls bs := rfl
theorem dbls_nil : dbls [] = [] := rfl
def datO (i : Nat) (ρ : Env') : Option D := match ρ[i]? with
  | some (.d z) => some z
  | _ => none
theorem datO_some {i : Nat} {ρ : Env'} {z : D} : datO i ρ = some z ↔ ρ[i]? = some (.d z) := by
  unfold datO
  constructor
  · intro h
    cases e : ρ[i]? with
    | none => rw [e] at h; cases h
    | some s => rw [e] at h; cases s <;> first | (cases h; rfl) | cases h
  · intro h; rw [h]
def sForIt (C : Addr) (i : Nat) (f : Str) (g : G') (b : S') : S' := fun ρ => T.ofO (datO i ρ) fun z => T.ofO (insOf C z) fun q => T.ofO (lkF q.1 q.2 f) fun y => T.ofO (dicO y) fun p => T.need (p.1.all kOk && noDics p.2) (loopT g b (pairD p.1 p.2) (ρ.map Sl.lk))
theorem w_forIt {E : DE} {C : Addr} {i : Nat} {f : Str} {gg : G'} {sf : S'} (q : upS Z (sForIt C i f gg sf) E ρ) : dForIt C i f (upG Z gg) (upS Z sf) E ρ := by
  simp only [upS, sForIt, wp_ofO, wp_need, datO_some, dicO_some, Bool.and_eq_true] at q
  obtain ⟨z, h0, n, h1, y, h2, p, h3, ⟨h4, h5⟩, q⟩ := q
  exact ⟨z, n.1, n.2, p.1, p.2, h0, h1, h3 ▸ h2, h4, h5, loop_up q⟩
end
end Tr
namespace Fl
open PySem PySem.Spec PyProof.Rows L2
/-- five objects behind one another -/
def zpH (h : Heap) (a b : Addr) : Heap :=
  ((((h.push ⟨.type "list_iterator", none, .fields #[.ref a, .int 0 0], #[]⟩).push ⟨.type "tuple_iterator", none, .fields #[.ref b, .int 0 0], #[]⟩).push ⟨.type "tuple", none, .seq #[.ref h.objs.size, .ref (h.objs.size + 1)] 0, #[]⟩).push
    ⟨.type "tuple", none, .seq #[.none, .none] 0, #[]⟩).push ⟨.type "zip", none, .fields #[.none, .bool false, .bool false, .ref (h.objs.size + 2), .ref (h.objs.size + 3)], #[]⟩
theorem zp_new (a b : Addr) (us ws : Array Value) : Meets (Builtin.«zip.__new__» ⟨[.type "zip", .ref a, .ref b], []⟩) (fun _ R s => (s.heap.IsList a us ∧ s.heap.IsTuple b ws) ∧ R (.ok (.ret (.ref (s.heap.objs.size + 4)))) { s with heap := zpH s.heap a b }) :=
  .of_wp fun prog w A R s hh => by
    obtain ⟨⟨ha, hb⟩, hR⟩ := hh
    obtain ⟨hp, g, d, tk, os⟩ := s
    have hsub := sub_zip
    have ha' : Heap.IsList (Shared.heap ⟨hp, g, d, tk, os⟩) a us := ha
    have hb' : Heap.IsTuple (Shared.heap ⟨hp.push ⟨.type "list_iterator", none, .fields #[.ref a, .int 0 0], #[]⟩, g, d, tk, os⟩) b ws := Heap.IsTuple.push hb _
    wp_walk using wpAny_pyIter_list ha', wpAny_pyIter_tuple hb'
    refine ⟨_, rfl, ?_⟩
    simp only [Heap.size_push]
    exact hR
section
variable {prog : Program} {w : World} {A : Around} {E : Value → Shared → Prop} {s : Shared}
theorem zp_call {a b : Addr} {us ws : Array Value} {Q : Value → Shared → Prop} (ha : s.heap.IsList a us) (hb : s.heap.IsTuple b ws)
    (k : ∀ h', IsZip h' (s.heap.objs.size + 4) (s.heap.objs.size + 2) (s.heap.objs.size + 3) .none → IsPair h' (s.heap.objs.size + 2) (.ref s.heap.objs.size) (.ref (s.heap.objs.size + 1)) → IsPair h' (s.heap.objs.size + 3) .none .none →
      h'.IsListIter s.heap.objs.size a 0 → h'.IsTupleIter (s.heap.objs.size + 1) b 0 → (∀ c o, s.heap.get? c = some o → h'.get? c = some o) → Q (.ref (s.heap.objs.size + 4)) { s with heap := h' }) :
    wpAny (model prog w) A (call (.type "zip") [.ref a, .ref b]) Q E s := by
  have up : ∀ (h : Heap) (o : Obj) (n : Nat) (x : Obj), h.get? n = some x → (h.push o).get? n = some x := fun h o n x e => Heap.get?_push_of_some _ e
  have top : ∀ (h : Heap) (o : Obj) (n : Nat), h.objs.size = n → o.isFreed = false → (h.push o).get? n = some o := fun h o n e f => e ▸ Heap.get?_push_size _ f
  refine callType_new F.called_zip (by decide) (F.typeCall_zip_2 _ _) (F.newCall_zip_2 _ _) (fun obj => F.args_object_init_3 obj _ _) F.entry_zip_new (zp_new a b us ws) ⟨⟨ha, hb⟩, ?_⟩
  have q5 : (zpH s.heap a b).get? (s.heap.objs.size + 4) = some _ := top _ _ _ (by simp only [Heap.size_push]) rfl
  have q4 : (zpH s.heap a b).get? (s.heap.objs.size + 3) = some _ := up _ _ _ _ (top _ _ _ (by simp only [Heap.size_push]) rfl)
  have q3 : (zpH s.heap a b).get? (s.heap.objs.size + 2) = some _ := up _ _ _ _ (up _ _ _ _ (top _ _ _ (by simp only [Heap.size_push]) rfl))
  have q2 : (zpH s.heap a b).get? (s.heap.objs.size + 1) = some _ := up _ _ _ _ (up _ _ _ _ (up _ _ _ _ (top _ _ _ (by simp only [Heap.size_push]) rfl)))
  have q1 : (zpH s.heap a b).get? s.heap.objs.size = some _ := up _ _ _ _ (up _ _ _ _ (up _ _ _ _ (up _ _ _ _ (top _ _ _ rfl rfl))))
  exact ⟨⟨_, q5, rfl⟩, k _ q5 q3 q4 ⟨_, q1, rfl, rfl⟩ ⟨_, q2, rfl, rfl⟩ fun c o e => up _ _ _ _ (up _ _ _ _ (up _ _ _ _ (up _ _ _ _ (up _ _ _ _ e))))⟩
end
/-- the list at a and the tuple at b, in new pairs -/
def ItzM (K : PySem.W.Frag) (a b : Addr) : It :=
  ⟨fun i H => ∃ (us ws : List V) (x y : V), (SqL K H a us ∧ us[i]? = some x) ∧ SqT K H b ws ∧ ws[i]? = some y, fun i H v H' => ∃ T x y, (v = .ref T ∧ H T = none ∧ H' = upd H T (.tup [x, y])) ∧ (∀ us, SqL K H a us → us[i]? = some x) ∧ ∀ ws, SqT K H b ws → ws[i]? = some y,
    fun i H => ∃ us ws : List V, (SqL K H a us ∧ SqT K H b ws) ∧ i = min us.length ws.length⟩
theorem zp_sep {z TI TO i1 i2 a b : Addr} (D : ZipApart z TI TO i1 i2 a b) : ZipSep2 z TI TO i1 i2 [i1, a] [i2, b] where
  TIz := D.TIz
  TOz := D.TOz
  TITO := D.TITO
  TIi1 := D.TIi1
  mem1 := by simp
  zf1 := by simp [Ne.symm D.i1z, Ne.symm D.l1z]
  Tf1 := by simp [D.TOi1, Ne.symm D.l1TO]
  TIi2 := D.TIi2
  mem2 := by simp
  zf2 := by simp [Ne.symm D.i2z, Ne.symm D.l2z]
  Tf2 := by simp [D.TOi2, Ne.symm D.l2TO]
  sep1_2 := by simp [D.i12, Ne.symm D.l2i1]
  sep2_1 := by simp [Ne.symm D.i12, Ne.symm D.l1i2]
theorem turn_zipM {P : Program} {w : World} {K : PySem.W.Frag} {elts : List Expr} {kk : Nat} {tpos : Pos} {a b z TI TO i1 i2 : Addr} (D : ZipApart z TI TO i1 i2 a b) :
    Turn P w K (.Tuple elts kk tpos) (ItzM K a b) [z, TI, TO, i1, i2] z (fun i h => (IsZip h z TI TO .none ∧ IsPair h TI (.ref i1) (.ref i2)) ∧ (∃ x y, IsPair h TO x y) ∧ h.IsListIter i1 a i ∧ h.IsTupleIter i2 b i) where
  mem := by simp
  obj := by
    rintro i h ⟨⟨g1, g2⟩, ⟨x, y, g3⟩, ⟨o1, e1, _, d1⟩, ⟨o2, e2, _, d2⟩⟩ c hc
    simp only [List.mem_cons, List.not_mem_nil, or_false] at hc
    rcases hc with rfl | rfl | rfl | rfl | rfl
    · exact ⟨_, g1, by intro v q; cases q⟩
    · exact ⟨_, g2, by intro v q; cases q⟩
    · exact ⟨_, g3, by intro v q; cases q⟩
    · exact ⟨o1, e1, by intro v q; rw [d1] at q; cases q⟩
    · exact ⟨o2, e2, by intro v q; rw [d2] at q; cases q⟩
  keep := by
    rintro i h h' ⟨⟨g1, g2⟩, ⟨x, y, g3⟩, g4, g5⟩ k
    exact ⟨⟨k z (by simp) _ g1, k TI (by simp) _ g2⟩, ⟨x, y, k TO (by simp) _ g3⟩, g4.at (k i1 (by simp)), g5.at (k i2 (by simp))⟩
  item := by
    rintro X rfl rfl rfl hc i pins s σ H E I hf ⟨⟨g1, g2⟩, ⟨x0, y0, g3⟩, g4, g5⟩ ⟨us, ws, x, y, ⟨hu, hx⟩, hw, hy⟩
    obtain ⟨its, rv, p1, _⟩ := I.list hu
    obtain ⟨jts, rw2, p2, _⟩ := I.tuple hw
    obtain ⟨u1, hu1, ru1⟩ := rv.get hx
    obtain ⟨u2, hu2, ru2⟩ := rw2.get hy
    have hh : X.A.in1.handled = none := I.ok.hd hc
    have n1 : i < its.toArray.size := by rw [List.size_toArray]; exact (List.getElem?_eq_some_iff.mp hu1).1
    have n2 : i < jts.toArray.size := by rw [List.size_toArray]; exact (List.getElem?_eq_some_iff.mp hu2).1
    have zl : z < s.heap.objs.size := Heap.lt_size g1
    have L : ∀ c, c ∈ [z, TI, TO, i1, i2] → c < s.heap.objs.size := by
      intro c hcm
      simp only [List.mem_cons, List.not_mem_nil, or_false] at hcm
      rcases hcm with rfl | rfl | rfl | rfl | rfl
      · exact zl
      · exact Heap.lt_size g2
      · exact Heap.lt_size g3
      · obtain ⟨_, e, _⟩ := g4; exact Heap.lt_size e
      · obtain ⟨_, e, _⟩ := g5; exact Heap.lt_size e
    refine wpAny_pyNext_zipD2_item (zp_sep D) (Draws.list hh i1 a D.l1i1 its.toArray) (Draws.tuple hh i2 b D.l2i2 jts.toArray) g1 g2 g3 ⟨g4, p1.isList⟩ ⟨g5, p2⟩ n1 n2 fun v1 v2 h1 tk1 e1 e2 z1 z2 z3 z4 z5 z6 keep => ?_
    have e1 : its.toArray[i]? = some v1 := e1
    have e2 : jts.toArray[i]? = some v2 := e2
    rw [List.getElem?_toArray, hu1] at e1
    rw [List.getElem?_toArray, hu2] at e2
    cases e1; cases e2
    refine ⟨_, rfl, wpAny_letOwnedTupleGo_zip (s := ⟨h1, s.gens, s.drawn, tk1, s.os⟩) z1 fun h2 zz sb => ?_⟩
    have hT : h2.get? s.heap.objs.size = some ⟨.type "tuple", none, .seq #[u1, u2] 0, #[]⟩ := (sb.2 _ (Nat.ne_of_gt zl)).trans z5
    have new : ObjOk X.prog X.w (upd H s.heap.objs.size (.tup [x, y])) h2 s.heap.objs.size (.tup [x, y]) := ⟨by show 2 ≤ sizeLine; decide, [u1, u2], .cons ru1 (.cons ru2 .nil), ⟨_, hT, rfl, _, rfl⟩⟩
    have J : Inv X pins σ (upd H s.heap.objs.size (.tup [x, y])) ⟨h2, s.gens, s.drawn, tk1, s.os⟩ := I.turnedNew (t' := tk1) (ch := [z, TI, TO, i1, i2]) (fun c o nc q => by
      simp only [List.mem_cons, List.not_mem_nil, or_false, not_or] at nc
      exact (sb.2 c nc.1).trans (keep c o nc.1 nc.2.2.1 nc.2.2.2.1 nc.2.2.2.2 q)) hf (Nat.le_refl _) new
    refine ⟨.ref s.heap.objs.size, _, J, rfl, ⟨_, x, y, ⟨rfl, I.hok.fresh (Nat.le_refl _), rfl⟩, fun l hl => by rw [I.list_inj hl hu]; exact hx, fun l hl => by rw [I.tuple_inj hl hw]; exact hy⟩, ⟨⟨zz, ?_⟩, ⟨u1, u2, ?_⟩, ?_, ?_⟩, fun c hcm => ?_⟩
    · exact (sb.2 _ D.TIz).trans (keep _ _ D.TIz D.TITO D.TIi1 D.TIi2 g2)
    · exact (sb.2 _ D.TOz).trans z2
    · exact z3.1.at fun o q => (sb.2 _ D.i1z).trans q
    · exact z4.1.at fun o q => (sb.2 _ D.i2z).trans q
    · rw [upd_ne (Nat.ne_of_lt (L c hcm))]
      exact (hf c hcm).1
  done := by
    rintro X rfl rfl rfl hc i pins s σ H E I hf ⟨⟨g1, g2⟩, ⟨x0, y0, g3⟩, g4, g5⟩ ⟨us, ws, ⟨hu, hw⟩, hi⟩
    obtain ⟨its, rv, p1, _⟩ := I.list hu
    obtain ⟨jts, rw2, p2, _⟩ := I.tuple hw
    have l1 := rv.length
    have l2 := rw2.length
    have hh : X.A.in1.handled = none := I.ok.hd hc
    exact wpAny_pyNext_zipD2_end (zp_sep D) (Draws.list hh i1 a D.l1i1 its.toArray) (Draws.tuple hh i2 b D.l2i2 jts.toArray) g1 g2 g3 ⟨g4, p1.isList⟩ ⟨g5, p2⟩ (by rw [List.size_toArray]; omega) (by rw [List.size_toArray]; omega)
      (by rw [List.size_toArray, List.size_toArray]; omega) fun h1 tk1 keep => ⟨rfl, I.turnedL (t' := tk1) (ch := [z, TI, TO, i1, i2]) (fun c o nc q => by
        simp only [List.mem_cons, List.not_mem_nil, or_false, not_or] at nc
        exact keep c o nc.1 nc.2.2.1 nc.2.2.2.1 nc.2.2.2.2 q) hf⟩
  self := fun A i s Q E st h => wpAny_pyIter_zip st.1.1 h
def iZpM (K : PySem.W.Frag) (ta : TA) : TI := fun σ H R => ta σ H fun vs H1 => ∃ a b us ws, vs = [.ref a, .ref b] ∧
  ((SqL K H1 a us ∧ SqT K H1 b ws ∧ R (ItzM K a b) H1) ∨ (SqL K H1 a us ∧ SqL K H1 b ws ∧ R (Itz K a b) H1) ∨ (SqT K H1 a us ∧ SqT K H1 b ws ∧ R (RZ.ItzT K a b) H1))
section
variable {X : Cx} {e e2 : Expr} {ta : TA} {p pos tpos : Pos} {elts : List Expr} {kk : Nat}
theorem pi_zipM (hg : Gl X "zip") (hm : X.mg "zip" = none) (ha : PA X [e, e2] ta) (hs : starEach [e, e2] X.env = (false, eval e X.env) :: starEach [e2] X.env := by rfl) (hpl : (backTo pos (starEach [e2] X.env)).any (·.1) = false := by rfl) :
    PI X (.Tuple elts kk tpos) (.Call (.Name "zip" p) [e, e2] [] pos) (iZpM X.K ta) := by
  refine ⟨fun pins s σ H R I h => ?_⟩
  refine Call_ (ld_blt I hg hm PyProof.Rows.boot_zip (PyProof.Rows.callWith_type1 (thn (ha.run pos pins s σ H _ I h) fun us s1 ⟨vs, H1, I1, r1, a, b, xs, ys, ex, q1⟩ => ?_) hs hpl))
  subst ex
  cases r1 with | cons r rr =>
  cases rr with | cons r' rr =>
  cases rr; cases r; cases r'
  have fr : ∀ c, c ∈ [s1.heap.objs.size + 4, s1.heap.objs.size + 2, s1.heap.objs.size + 3, s1.heap.objs.size, s1.heap.objs.size + 1] → FpOk X pins H1 c := fun c hcm => by
    have hle : s1.heap.objs.size ≤ c := by
      simp only [List.mem_cons, List.not_mem_nil, or_false] at hcm
      rcases hcm with rfl | rfl | rfl | rfl | rfl <;> first | exact Nat.le_add_right _ _ | exact Nat.le_refl _
    exact I1.fpOk hle (I1.hok.fresh hle)
  rcases q1 with ⟨hx, hy, q⟩ | ⟨hx, hy, q⟩ | ⟨hx, hy, q⟩
  · obtain ⟨its, _, p1, _⟩ := I1.list hx
    obtain ⟨jts, _, p2, _⟩ := I1.tuple hy
    have bl : b < s1.heap.objs.size := by obtain ⟨_, e, _⟩ := id p2; exact Heap.lt_size e
    exact zp_call p1.isList p2 fun h1 y1 y2 y3 y4 y5 up => wpAny_pyIter_zip y1 ⟨_, _, _, _, H1, rfl, I1.kept (t' := s1.toks) up, turn_zipM (PySem.W.ktu_apart s1.heap.objs.size a b p1.lt bl), ⟨⟨y1, y2⟩, ⟨_, _, y3⟩, y4, y5⟩, fr, q⟩
  · obtain ⟨its, _, p1, _⟩ := I1.list hx
    obtain ⟨jts, _, p2, _⟩ := I1.list hy
    exact call_zip_2 p1.isList p2.isList fun h1 y1 y2 y3 y4 y5 _ up => wpAny_pyIter_zip y1 ⟨_, _, _, _, H1, rfl, I1.kept (t' := s1.toks) up, turn_zip (PySem.W.ktu_apart s1.heap.objs.size a b p1.lt p2.lt), ⟨y1, y2, ⟨_, _, y3⟩, y4, y5⟩, fr, q⟩
  · obtain ⟨its, _, p1, _⟩ := I1.tuple hx
    obtain ⟨jts, _, p2, _⟩ := I1.tuple hy
    have al : a < s1.heap.objs.size := by obtain ⟨_, e, _⟩ := id p1; exact Heap.lt_size e
    have bl : b < s1.heap.objs.size := by obtain ⟨_, e, _⟩ := id p2; exact Heap.lt_size e
    exact RZ.call_zipT (show s1.heap.IsTuple a its.toArray from p1) (show s1.heap.IsTuple b jts.toArray from p2) fun h1 y1 y2 y3 y4 y5 _ up => wpAny_pyIter_zip y1 ⟨_, _, _, _, H1, rfl, I1.kept (t' := s1.toks) up, RZ.turn_zipT (PySem.W.ktu_apart s1.heap.objs.size a b al bl), ⟨y1, y2, ⟨_, _, y3⟩, y4, y5⟩, fr, q⟩
end
end Fl
namespace Fl
open PySem L2
section
variable {X : Cx} {K : PySem.W.Frag} {F : Fr} {G G' H H' : Hp} {σ : St} {ρ : Env'} {pos p : Pos} {e e2 : Expr} {es : List Expr} {te : ET} {ta : AT}
def dStar (te : ET) (ta : AT) : AT := fun ρ P => te ρ fun s ρ1 => ∃ x, s.dat = some x ∧ ∃ xs, seqD x = some xs ∧ ta ρ1 fun ys ρ2 => P (xs ++ ys) ρ2
theorem pda_star {q : Pos} (he : PE X e (lift X.K te)) (hr : PA X es (liftA X.K ta)) (hs : starEach (.Starred e q :: es) X.env = (true, eval e X.env) :: starEach es X.env := by rfl) : PA X (.Starred e q :: es) (liftA X.K (dStar te ta)) :=
  paImp (StX.pa_star he hr hs) fun σ H Q ⟨F, G, ρ, P, r, h, k⟩ => goD r h fun x ρ1 v G1 H1 ⟨xs, hx, h1⟩ e1 r1 d1 => by
    have fin : ∀ {a : Addr} {us : List V}, (SqT X.K H1 a us ∨ SqL X.K H1 a us) → DdL X.K G1 us xs → ∃ p ws, V.ref a = V.ref p ∧ (SqT X.K H1 p ws ∨ SqL X.K H1 p ws) ∧ liftA X.K ta σ H1 fun ys H2 => Q (ws ++ ys) H2 := fun {a us} hq t =>
      ⟨a, us, rfl, hq, goA r1 h1 fun ys ρ2 vs G2 H2 h2 e2 r2 d2 => k _ _ _ _ _ h2 (e1.tr e2) r2 ((t.ex e2).app d2)⟩
    cases d1 with
    | lst g t => cases hx; exact fin (.inr (.of (r1.gh _ _ g))) t
    | tup g t => cases hx; exact fin (.inl (sqT_ex r1.gh g)) t
    | _ => cases hx
/-- str(n), str(s) -/
def strD : D → Option Str
  | .int i => if -100000 < i ∧ i < 100000 then some (Str.ofString (toString i)) else none
  | .str s => some s
  | _ => none
def cStr : RCd := fun xs P => ∃ x s, xs = [x] ∧ strD x = some s ∧ P (.d (.str s))
theorem sOk_int {i : Int} (h : -100000 < i ∧ i < 100000) : sOk (Str.ofString (toString i)) = true := by
  refine sOk_of (sok_of _) ?_
  have := wt_int i
  omega
theorem cd_str : CallD X (.type "str") cStr := by
  have both : CallR X (.type "str") (fun xs H Q => (∃ i, xs = [.int i] ∧ i.natAbs.log2 < 1920 ∧ Q (.str (toString i)) H) ∨ ∃ a, xs = [.str a] ∧ Q (.str a) H) :=
    fun pins s σ H us vs Q I r h => h.elim (call_str_int pins s σ H us vs Q I r) (SkE.call_str_str pins s σ H us vs Q I r)
  refine CallR.ofD both ?_
  intro F G H σ ρ vs xs P Q r d ⟨x, s, hx, hs, p⟩ k
  subst hx
  obtain ⟨v, rfl, dv⟩ := d.one
  cases dv with
  | int i =>
    have hs : (if -100000 < i ∧ i < 100000 then some (Str.ofString (toString i)) else none) = some s := hs
    by_cases h : -100000 < i ∧ i < 100000
    · rw [if_pos h] at hs
      cases hs
      refine .inl ⟨i, rfl, ?_, k _ _ _ _ p .rfl (r.push (.str _ (sOk_int h)))⟩
      by_cases hz : i.natAbs = 0
      · rw [hz]; decide
      · exact Nat.lt_trans ((Nat.log2_lt hz).mpr (show i.natAbs < 2 ^ 30 by omega)) (by decide)
    · rw [if_neg h] at hs; cases hs
  | str a ha => cases hs; exact .inr ⟨_, rfl, k _ _ _ _ p .rfl (r.push (.str _ ha))⟩
  | _ => cases hs
/-- zip -/
def zipD : List D → List D → List D
  | x :: xs, y :: ys => .tup [x, y] :: zipD xs ys
  | _, _ => []
theorem zipD_len : ∀ {xs ys : List D}, (zipD xs ys).length = min xs.length ys.length
  | [], ys => by simp [zipD]
  | x :: xs, [] => by simp [zipD]
  | x :: xs, y :: ys => by simp [zipD, zipD_len]
theorem zipD_at : ∀ {xs ys : List D} {i : Nat} {x y : D}, xs[i]? = some x → ys[i]? = some y → (zipD xs ys)[i]? = some (.tup [x, y])
  | x :: xs, y :: ys, 0, _, _, h1, h2 => by cases h1; cases h2; rfl
  | x :: xs, y :: ys, i + 1, _, _, h1, h2 => zipD_at (i := i) (by simpa using h1) (by simpa using h2)
  | [], _, _, _, _, h1, _ => by simp at h1
  | _ :: _, [], _, _, _, _, h2 => by simp at h2
theorem walkD_pair {J : It} {us ws : List V} {xs ys : List D} {Gp : Hp → Prop} (W : Walk J (min us.length ws.length) Gp (YPair (fun i => us[i]?) (fun i => ws[i]?))) (gp : ∀ {F G' H σ ρ}, Ex G G' → R K F G' H σ ρ → Gp H) (d1 : DdL K G us xs) (d2 : DdL K G ws ys) : WalkD K J G (zipD xs ys) :=
  ⟨Gp, YPair (fun i => us[i]?) (fun i => ws[i]?), by rw [zipD_len, ← d1.len, ← d2.len]; exact W, gp, fun {F G' H H' σ ρ i x} e r ⟨T, y, z, y1, y2, y3, y4, y5⟩ hi => by
    subst y1 y3
    obtain ⟨w1, e1, e2⟩ := d1.get' y4
    obtain ⟨w2, e3, e4⟩ := d2.get' y5
    obtain ⟨e5, r3, d3⟩ := r.tup (us := [y, z]) (xs := [w1, w2]) y2 (.cons (e2.ex e) (.cons (e4.ex e) .nil))
    exact ⟨.tup [w1, w2], _, zipD_at e1 e3, e5, r3.push d3⟩⟩
theorem walk_zipM {a b : Addr} {us ws : List V} : Walk (ItzM K a b) (min us.length ws.length) (fun H => SqL K H a us ∧ SqT K H b ws) (YPair (fun i => us[i]?) (fun i => ws[i]?)) :=
  ⟨fun i H hi q => ⟨us, ws, us[i]'(by omega), ws[i]'(by omega), ⟨q.1, by simp⟩, q.2, by simp⟩, fun _ q => ⟨us, ws, q, rfl⟩, fun i H v H' _ q ⟨T, x, y, ⟨h1, h2, h3⟩, h4, h5⟩ => ⟨T, x, y, h1, h2, h3, h4 us q.1, h5 ws q.2⟩⟩
theorem walk_zipT {a b : Addr} {us ws : List V} : Walk (RZ.ItzT K a b) (min us.length ws.length) (fun H => SqT K H a us ∧ SqT K H b ws) (YPair (fun i => us[i]?) (fun i => ws[i]?)) :=
  ⟨fun i H hi q => ⟨us, ws, us[i]'(by omega), ws[i]'(by omega), q.1, q.2, by simp, by simp⟩, fun _ q => ⟨us, ws, q.1, q.2, by omega⟩, fun i H v H' _ q ⟨T, x, y, h1, h2, h3, h4, h5⟩ => ⟨T, x, y, h1, h2, h3, h4 us q.1, h5 ws q.2⟩⟩
def zipO (x y : D) : Option (List D) := match x, y with
  | .lst xs, .tup ys => some (zipD xs ys)
  | .lst xs, .lst ys => some (zipD xs ys)
  | .tup xs, .tup ys => some (zipD xs ys)
  | _, _ => none
def iZp (ta : AT) : AT := fun ρ P => ta ρ fun zs ρ1 => ∃ x y, zs = [x, y] ∧ ∃ xs, zipO x y = some xs ∧ P xs ρ1
theorem di_zip {tpos : Pos} {elts : List Expr} {kk : Nat} (hg : Gl X "zip") (hm : X.mg "zip" = none) (ha : PA X [e, e2] (liftA X.K ta)) (hs : starEach [e, e2] X.env = (false, eval e X.env) :: starEach [e2] X.env := by rfl) (hpl : (backTo pos (starEach [e2] X.env)).any (·.1) = false := by rfl) :
    PI X (.Tuple elts kk tpos) (.Call (.Name "zip" p) [e, e2] [] pos) (liftI X.K (iZp ta)) :=
  piImp (pi_zipM hg hm ha hs hpl) fun σ H Q ⟨F, G, ρ, P, r, h, k⟩ => goA r h fun zs ρ1 vs G1 H1 ⟨x, y, hz, xs, hx, h1⟩ e1 r1 d1 => by
    subst hz
    cases d1 with | cons a t =>
    cases t with | cons b t =>
    cases t
    cases a with
    | lst g t =>
      cases b with
      | tup g2 t2 => cases hx; exact ⟨_, _, _, _, rfl, .inl ⟨.of (r1.gh _ _ g), sqT_ex r1.gh g2, k _ _ _ _ _ h1 e1 r1 (walkD_pair walk_zipM (fun e r => ⟨.of (r.gh _ _ (e _ _ g)), sqT_ex r.gh (sqT_ex e g2)⟩) t t2)⟩⟩
      | lst g2 t2 => cases hx; exact ⟨_, _, _, _, rfl, .inr (.inl ⟨.of (r1.gh _ _ g), .of (r1.gh _ _ g2), k _ _ _ _ _ h1 e1 r1 (walkD_pair (walk_zip rfl) (fun e r => ⟨.of (r.gh _ _ (e _ _ g)), .of (r.gh _ _ (e _ _ g2))⟩) t t2)⟩)⟩
      | _ => cases hx
    | tup g t =>
      cases b with
      | tup g2 t2 => cases hx; exact ⟨_, _, _, _, rfl, .inr (.inr ⟨sqT_ex r1.gh g, sqT_ex r1.gh g2, k _ _ _ _ _ h1 e1 r1 (walkD_pair walk_zipT (fun e r => ⟨sqT_ex r.gh (sqT_ex e g), sqT_ex r.gh (sqT_ex e g2)⟩) t t2)⟩)⟩
      | _ => cases hx
    | _ => cases hx
/-- what stands new in the heap is known from now on -/
theorem R.addG (r : R K F G H σ ρ) {os : List Addr} (hs : Sls K F G H σ ρ os) (nd : os.Nodup) (f : ∀ p ∈ os, G p = none ∧ ¬ InSrc F p) {d : Addr} {o : HO} (hd : H d = some o) (gd : G d = none) (h0 : F.H0 d = none) (ns : ¬ InSrc F d) (no : d ∉ os) : R K F (upd G d o) H σ ρ := by
  have e : Ex G (upd G d o) := .put gd
  refine ⟨r.gg.tr e, fun b u q => ?_, r.fr, fun b u q => ?_, r.th, fun a c h => ?_, fun q hq => ?_, r.nm, os, hs.keep e (fun _ _ => rfl), nd, fun p hp => ?_⟩
  · by_cases hb : b = d
    · subst hb; rw [upd_same] at q; cases q; exact hd
    · rw [upd_ne hb] at q; exact r.gh _ _ q
  · by_cases hb : b = d
    · subst hb; exact .inr h0
    · rw [upd_ne hb] at q; exact r.nw _ _ q
  · obtain ⟨h1, h2, h3⟩ := r.sr a c h
    exact ⟨h1, (upd_ne fun z => ns (.inl ⟨a, c, h, .inl z.symm⟩)).trans h2, (upd_ne fun z => ns (.inl ⟨a, c, h, .inr z.symm⟩)).trans h3⟩
  · obtain ⟨h1, h2, h3⟩ := r.kp q hq
    exact ⟨h1, (upd_ne fun z => ns (.inr ⟨q.2, by rw [← z]; exact hq⟩)).trans h2, h3⟩
  · exact ⟨(upd_ne fun z => no (by rw [← z]; exact hp)).trans (f p hp).1, (f p hp).2⟩
/-- the own dict on top is locked for good -/
theorem R.lockTop {u : V} {ks : List Key} {vs : List D} (r : R K F G H (some u :: σ) (.od ks vs :: ρ)) : ∃ d us, u = .ref d ∧ H d = some (.dK (ks.zip us)) ∧ ks.length = us.length ∧ DdL K G us vs ∧
    ∀ od, Ex G (upd G d (lkd od (ks.zip us))) ∧ R K F (upd G d (lkd od (ks.zip us))) (upd H d (lkd od (ks.zip us))) σ ρ := by
  obtain ⟨os, hs, nd, f⟩ := r.sl
  cases hs with
  | @cons _ _ _ _ o1 o2 a t =>
    cases a with
    | @od d _ us _ h1 h2 h4 h3 h5 =>
      have nd2 := List.nodup_append.mp nd
      have no : d ∉ o2 := fun m => nd2.2.2 d (by simp) d m rfl
      have fd := f d (by simp)
      have f2 : ∀ p ∈ o2, G p = none ∧ ¬ InSrc F p := fun p hp => f p (List.mem_append_right _ hp)
      refine ⟨d, us, rfl, h1, h2, h3, fun od => ⟨.put fd.1, ?_⟩⟩
      have t2 : Sls K F G (upd H d (lkd od (ks.zip us))) σ ρ o2 := t.keep .rfl fun q hq => upd_ne fun e => no (e ▸ hq)
      have r2 : R K F G (upd H d (lkd od (ks.zip us))) σ ρ := r.pop.write t nd2.2.1 f2 (qs := [d]) (fun b hb => upd_ne (by simpa using hb)) (fun b hb => by
        obtain rfl : b = d := by simpa using hb
        exact ⟨fd.1, fd.2, .inl h5, ⟨_, upd_same⟩, fun e => by obtain ⟨so, z⟩ := r.nm; rw [← e, h1] at z; cases z⟩) t2 nd2.2.1 fun q hq => .inl hq
      exact r2.addG t2 nd2.2.1 f2 upd_same fd.1 h5 fd.2 no
def tLk (td : TE) : TE := fun σ H Q => td σ H fun x H1 => ∃ d kvs, x = .ref d ∧ H1 d = some (.dK kvs) ∧ ∀ od, Q x (upd H1 d (lkd od kvs))
theorem pe_lk {td : TE} (he : PE X e td) : PE X e (tLk td) := ⟨fun pins s σ H Q I h => thn (he.run pins s σ H _ I h) fun u s1 ⟨x, H1, I1, rx, d, kvs, ex, hd, q⟩ => by
  obtain ⟨od, J⟩ := I1.lock hd trivial
  exact ⟨x, _, J, rx, q od⟩⟩
def ownD : Sl → Option (List Key × List D)
  | .od ks vs => some (ks, vs)
  | _ => none
def iItO (te : ET) : AT := fun ρ P => te ρ fun s ρ1 => ∃ q, ownD s = some q ∧ q.1.all kOk = true ∧ P (pairD q.1 q.2) ρ1
theorem di_itO {apos cpos tpos : Pos} {elts : List Expr} {kk : Nat} (he : PE X e (lift X.K te)) (hbase : attributeBase e "items" X.env (eval e X.env) = eval e X.env := by rfl) (hline : (apos.endLine == cpos.line) = true := by rfl) :
    PI X (.Tuple elts kk tpos) (.Call (.Attribute e "items" apos) [] [] cpos) (liftI X.K (iItO te)) :=
  piImp (pi_items (pe_lk he) hbase hline) fun σ H Q ⟨F, G, ρ, P, r, h, k⟩ => ⟨F, G, ρ, _, r, h, fun s ρ1 v G1 H1 ⟨q, hq, hk, h1⟩ e1 r1 => by
    cases s with
    | od ks vs =>
      cases hq
      obtain ⟨d, us, rfl, g1, g2, g3, g4⟩ := r1.lockTop
      refine ⟨d, _, rfl, g1, fun od => ⟨d, od, _, rfl, upd_same, ?_⟩⟩
      obtain ⟨e2, r2⟩ := g4 od
      refine k _ _ _ _ _ h1 (e1.tr e2) r2 ⟨_, _, walkD_items (F0 := F) g2 hk (g3.ex e2), fun {F' G' H' σ' ρ'} e r => r.gh _ _ (e _ _ upd_same), fun {F' G' H' H2 σ' ρ' i x} e r ⟨T, k1, v1, q1, q2, q3, q4, q5⟩ hi => ?_⟩
      subst q1 q3
      obtain ⟨kv, q6, rfl⟩ := Option.map_eq_some_iff.mp q4
      have q5 : ((ks.zip us)[i]?.map Prod.snd) = some v1 := q5
      rw [q6] at q5
      cases q5
      obtain ⟨wq, e6, e7, e8⟩ := pairD_at g2 hk (g3.ex e2) q6
      obtain ⟨e3, r3, d3⟩ := r.tup (us := [kV kv.1, kv.2]) (xs := [keyT kv.1, wq]) q2 (.cons (.ofKey e7) (.cons (e8.ex e) .nil))
      exact ⟨_, _, e6, e3, r3.push d3⟩
    | _ => cases hq⟩
end
end Fl
namespace Tr
open PySem L2 Fl
section
variable {Z : Exc → Prop} {ρ : Env'} {f : E'} {fa : A'} {PA' : List D → Env' → Prop}
def aStar (f : E') (g : A') : A' := fun ρ => (f ρ).bind2 fun s ρ1 => T.ofO s.dat fun x => T.ofO (seqD x) fun xs => (g ρ1).bind2 fun ys ρ2 => .ret (xs ++ ys, ρ2)
theorem w_star (q : upA Z (aStar f fa) ρ PA') : dStar (up Z f) (upA Z fa) ρ PA' := by
  simpa only [upA, up, aStar, dStar, wp_bind2, wp_ofO, wp_ret] using q
def fStr : List D → T Sl := fun xs => match xs with
  | [x] => T.ofO (strD x) fun s => .ret (.d (.str s))
  | _ => .fail
theorem wf_str (xs : List D) (P : Sl → Prop) (q : rcF Z fStr xs P) : cStr xs P := by
  have q : wp Z (fStr xs) P := q
  unfold fStr at q
  split at q
  · obtain ⟨s, h1, h2⟩ := wp_ofO.mp q
    exact ⟨_, s, rfl, h1, h2⟩
  · exact q.elim
def iZp' (f : A') : A' := fun ρ => (f ρ).bind2 fun zs ρ1 => match zs with
  | [x, y] => T.ofO (zipO x y) fun xs => .ret (xs, ρ1)
  | _ => .fail
theorem w_iZp (q : upA Z (iZp' fa) ρ PA') : iZp (upA Z fa) ρ PA' := by
  simp only [upA, iZp', wp_bind2] at q
  refine wp_mono (fun a q => ?_) q
  obtain ⟨zs, ρ1⟩ := a
  have q : wp Z (match zs with | [x, y] => T.ofO (zipO x y) fun xs => .ret (xs, ρ1) | _ => .fail) _ := q
  split at q
  · obtain ⟨xs, h1, h2⟩ := wp_ofO.mp q
    exact ⟨_, _, rfl, xs, h1, h2⟩
  · exact q.elim
def iItO' (f : E') : A' := fun ρ => (f ρ).bind2 fun s ρ1 => T.ofO (ownD s) fun q => T.need (q.1.all kOk) (.ret (pairD q.1 q.2, ρ1))
theorem w_iItO (q : upA Z (iItO' f) ρ PA') : iItO (up Z f) ρ PA' := by
  simpa only [upA, up, iItO', iItO, wp_bind2, wp_ofO, wp_need, wp_ret] using q
theorem aStar_e {f : E'} {g : A'} {s0 : Sl} {ρ0 : Env'} : aStar f g (s0 :: ρ0) = (f (s0 :: ρ0)).bind2 fun s ρ1 => T.ofO s.dat fun x => T.ofO (seqD x) fun xs => (g ρ1).bind2 fun ys ρ2 => .ret (xs ++ ys, ρ2) := id rfl
theorem fStr_x {x : D} : fStr [x] = T.ofO (strD x) fun s => .ret (.d (.str s)) := id rfl
theorem iItO_e {f : E'} {s0 : Sl} {ρ0 : Env'} : iItO' f (s0 :: ρ0) = (f (s0 :: ρ0)).bind2 fun s ρ1 => T.ofO (ownD s) fun q => T.need (q.1.all kOk) (.ret (pairD q.1 q.2, ρ1)) := id rfl
def zpT (ρ1 : Env') : List D → T (List D × Env')
  | [x, y] => T.ofO (zipO x y) fun xs => .ret (xs, ρ1)
  | _ => .fail
theorem iZp_e {f : A'} {s0 : Sl} {ρ0 : Env'} : iZp' f (s0 :: ρ0) = (f (s0 :: ρ0)).bind2 fun zs ρ1 => zpT ρ1 zs := by
  show (f (s0 :: ρ0)).bind2 _ = _
  congr 1
theorem zpT_2 {ρ1 : Env'} {x y : D} : zpT ρ1 [x, y] = T.ofO (zipO x y) fun xs => .ret (xs, ρ1) := id rfl
end
end Tr
namespace Fl
open PySem L2
def Sl.blank : Sl → Sl
  | .d x => .d x
  | .src => .src
  | .ld x => .ld x
  | _ => .no
def ownY : Sl → Option D
  | .ol xs => some (.lst xs)
  | .od ks vs => some (.dic ks vs)
  | _ => none
def showY : Sl → Option D
  | .ol xs => some (.lst xs)
  | .od ks vs => some (.dic ks vs)
  | .ld x => some x
  | _ => none
def lendO (i : Nat) (ρ : Env') : Option D := ρ[i]?.bind ownY
def showO (i : Nat) (ρ : Env') : Option D := ρ[i]?.bind showY
def ldO (i : Nat) (ρ : Env') : Option D := match ρ[i]? with
  | some (.ld y) => some y
  | _ => none
def flatO : Sl → Option D
  | .d .non => some .non
  | .d (.bl b) => some (.bl b)
  | .d (.int i) => some (.int i)
  | _ => none
def dLend (i : Nat) (te : ET) : ET := fun ρ P => ∃ y, lendO i ρ = some y ∧ te ((ρ.map Sl.blank).set i (.ld y)) fun s _ => noNo s = true ∧ P s ρ
def dShow (i : Nat) (te : ET) : ET := fun ρ P => (∃ y, showO i ρ = some y ∧ te ((ρ.map Sl.blank).set i (.d y)) fun s _ => ∃ b, flatO s = some b ∧ P (.d b) ρ) ∨ (showO i ρ = none ∧ te ρ P)
def dLd (i : Nat) : ET := fun ρ P => (∃ y, ldO i ρ = some y ∧ P (.ld y) ρ) ∨ (ldO i ρ = none ∧ dVar i ρ P)
def dDgL (i : Nat) (ty : ET) : ET := fun ρ P => (∃ q : List Key × List D, ldO i ρ = some (.dic q.1 q.2) ∧ ty ρ fun s2 ρ2 => ∃ y, s2.dat = some y ∧ ∃ j, keyD y = some j ∧ ∃ z, lkD q.1 q.2 j = some z ∧ P (.d z) ρ2) ∨ (ldO i ρ = none ∧ dDg (dVar i) ty ρ P)
section
variable {X : Cx} {K : PySem.W.Frag} {F F' : Fr} {G G' H H' : Hp} {σ : St} {ρ : Env'} {pos : Pos} {e b : Expr} {te tb : ET} {os : List Addr} {s : Sl} {v : Option V} {y : D} {i : Nat}
theorem Sls.blank (h : Sls K F G H σ ρ os) (hz : ∀ {p o}, F.H0 p = some o → ¬ InSrc F p → ¬ InSelf F p → F'.H0 p = some o ∧ ¬ InSrc F' p ∧ ¬ InSelf F' p) (hs : F'.src = F.src) (eg : Ex G G') : Sls K F' G' H σ (ρ.map Sl.blank) [] := by
  induction h with
  | nil => exact .nil
  | cons a t ih =>
    rw [List.map_cons]
    refine .cons (os := []) (ps := []) ?_ ih
    cases a with
    | d h => exact .d (h.ex eg)
    | src h => exact .src (by rw [hs]; exact h)
    | ld h h0 h1 h2 => exact .ld (h.ex eg) (hz h0 h1 h2).1 (hz h0 h1 h2).2.1 (hz h0 h1 h2).2.2
    | no => exact .no _
    | ol _ _ _ => exact .no _
    | od _ _ _ _ _ => exact .no _
    | oi _ _ _ _ _ _ => exact .no _
    | bi _ _ _ _ _ => exact .no _
theorem Sls.set0 (h : Sls K F G H σ ρ []) {s' : Sl} (hi : i < ρ.length) (a : SlOk K F G H (σ[i]?.getD none) s' []) : Sls K F G H σ (ρ.set i s') [] := by
  obtain ⟨w, o1, o2, e1, e2, e3, g⟩ := h.at (List.getElem?_eq_getElem hi)
  have z := List.append_eq_nil_iff.mp e3.nil_eq.symm
  rw [e1] at a
  obtain ⟨o3, h3, p3⟩ := g (G' := G) (H' := H) .rfl (fun _ _ => rfl) (s' := s') (v' := w) (os' := []) a
  have e4 : σ.set i w = σ := by
    obtain ⟨hl, e5⟩ := List.getElem?_eq_some_iff.mp e1
    rw [← e5]; exact List.set_getElem_self hl
  rw [e4] at h3
  rw [z.2] at p3
  have : o3 = [] := by simpa using p3
  rwa [this] at h3
/-- what a slot's own list or dict, or a lent one, is -/
theorem R.thing (r : R K F G H σ ρ) (hy : showO i ρ = some y) : i < ρ.length ∧ ∃ p o, σ[i]? = some (some (.ref p)) ∧ H p = some o ∧ LdOk K G o y ∧ ¬ InSrc F p := by
  unfold showO at hy
  cases e : ρ[i]? with
  | none => rw [e] at hy; cases hy
  | some s =>
    rw [e] at hy
    have hy : showY s = some y := hy
    obtain ⟨os, h, nd, f⟩ := r.sl
    obtain ⟨w, o1, o2, e1, e2, e3, g⟩ := h.at e
    have f1 : ∀ p ∈ o1, G p = none ∧ ¬ InSrc F p := fun p hp => f p (e3.mem_iff.mpr (List.mem_append_left _ hp))
    refine ⟨(List.getElem?_eq_some_iff.mp e).1, ?_⟩
    cases e2 with
    | ol h1 h2 h3 => cases hy; exact ⟨_, _, e1, h1, .lst h2, (f1 _ (by simp)).2⟩
    | od h1 h2 h4 h3 h5 => cases hy; exact ⟨_, _, e1, h1, .dic h2 h4 h3, (f1 _ (by simp)).2⟩
    | ld h h0 h1 h2 => cases hy; exact ⟨_, _, e1, r.fr _ _ h0 h1 h2, h, h1⟩
    | no => cases hy
    | d _ => cases hy
    | src _ => cases hy
    | oi _ _ _ _ _ _ => cases hy
    | bi _ _ _ _ _ => cases hy
theorem showO_of (h : lendO i ρ = some y) : showO i ρ = some y := by
  unfold lendO at h
  unfold showO
  cases e : ρ[i]? with
  | none => rw [e] at h; cases h
  | some s =>
    rw [e] at h
    have h : ownY s = some y := h
    show showY s = some y
    cases s <;> first | exact h | cases h
theorem inSrc_new {G0 H0 : Hp} {p : Addr} (m : InSrc ⟨G0, H0, F.src, none, []⟩ p) : InSrc F p := by
  rcases m with m | ⟨o, m⟩
  · exact .inl m
  · cases m
theorem nself {G0 H0 : Hp} {p : Addr} : ¬ InSelf ⟨G0, H0, F.src, none, []⟩ p := fun ⟨_, _, z, _⟩ => by cases z
theorem R.lend (r : R K F G H σ ρ) (hy : lendO i ρ = some y) : R K ⟨G, H, F.src, none, []⟩ G H σ ((ρ.map Sl.blank).set i (.ld y)) := by
  obtain ⟨hi, p, o, e1, e2, e3, e4⟩ := r.thing (showO_of hy)
  obtain ⟨os, h, nd, f⟩ := r.sl
  have h1 : Sls K ⟨G, H, F.src, none, []⟩ G H σ (ρ.map Sl.blank) [] := h.blank (fun z0 z1 z2 => ⟨r.fr _ _ z0 z1 z2, fun m => z1 (inSrc_new m), nself⟩) rfl .rfl
  refine ⟨.rfl, r.gh, fun b o e _ _ => e, fun b o e => .inl e, fun b hb => ?_, fun a c e => r.sr a c e, fun q hq => (by cases hq), r.nm, [], h1.set0 (by simpa using hi) ?_, List.nodup_nil, by simp⟩
  · rcases hb with hb | hb
    · exact r.th b (.inl (inSrc_new hb))
    · exact absurd hb nself
  · rw [e1]
    exact .ld e3 e2 (fun m => e4 (inSrc_new m)) nself
theorem LdOk.dd {p : Addr} {o : HO} (h : LdOk K G o y) (g : G p = some o) : Dd K G (.ref p) y := by
  cases h with
  | lst t => exact .lst g t
  | dic a b t => exact .dic g a b t
theorem R.show (r : R K F G H σ ρ) (hy : showO i ρ = some y) : ∃ G1, Ex G G1 ∧ R K ⟨G1, H, F.src, none, []⟩ G1 H σ ((ρ.map Sl.blank).set i (.d y)) := by
  obtain ⟨hi, p, o, e1, e2, e3, e4⟩ := r.thing hy
  obtain ⟨os, h, nd, f⟩ := r.sl
  have eg : Ex G (upd G p o) := fun b u q => by
    by_cases hb : b = p
    · subst hb; have := r.gh _ _ q; rw [e2] at this; cases this; exact upd_same
    · rw [upd_ne hb]; exact q
  have gh : Ex (upd G p o) H := fun b u q => by
    by_cases hb : b = p
    · subst hb; rw [upd_same] at q; cases q; exact e2
    · rw [upd_ne hb] at q; exact r.gh _ _ q
  have h1 : Sls K ⟨upd G p o, H, F.src, none, []⟩ (upd G p o) H σ (ρ.map Sl.blank) [] := h.blank (fun z0 z1 z2 => ⟨r.fr _ _ z0 z1 z2, fun m => z1 (inSrc_new m), nself⟩) rfl eg
  refine ⟨_, eg, .rfl, gh, fun b o e _ _ => e, fun b o e => .inl e, fun b hb => ?_, fun a c e => ?_, fun q hq => (by cases hq), r.nm, [], h1.set0 (by simpa using hi) ?_, List.nodup_nil, by simp⟩
  · rcases hb with hb | hb
    · exact r.th b (.inl (inSrc_new hb))
    · exact absurd hb nself
  · obtain ⟨z1, z2, z3⟩ := r.sr a c e
    exact ⟨z1, (upd_ne fun z => e4 (.inl ⟨a, c, e, .inl z.symm⟩)).trans z2, (upd_ne fun z => e4 (.inl ⟨a, c, e, .inr z.symm⟩)).trans z3⟩
  · rw [e1]
    exact .d ((e3.ex eg).dd upd_same)
theorem flat_dd {G2 : Hp} {w : V} {x : D} {F2 : Fr} {os : List Addr} (h : SlOk K F2 G2 H (some w) s os) (hf : flatO s = some x) : s = .d x ∧ ∀ G3, Dd K G3 w x := by
  cases h with
  | d h =>
    cases h with
    | non => cases hf; exact ⟨rfl, fun _ => .non⟩
    | bl _ => cases hf; exact ⟨rfl, fun _ => .bl _⟩
    | int _ => cases hf; exact ⟨rfl, fun _ => .int _⟩
    | _ => cases hf
  | _ => cases hf
theorem R.shown (r : R K F G H σ ρ) {G1 : Hp} (eg : Ex G G1) {w : V} {x : D} (c : R K ⟨G1, H, F.src, none, []⟩ G' H' [some w] [s]) (hf : flatO s = some x) : R K F G H' (some w :: σ) (.d x :: ρ) := by
  obtain ⟨os, h, nd, f⟩ := c.sl
  cases h with
  | cons a t =>
    obtain ⟨rfl, dd⟩ := flat_dd a hf
    refine r.leave ⟨.rfl, (eg.tr c.gg).tr c.gh, fun b o e n1 n2 => c.fr b o e (fun m => n1 m) nself, fun b o e => .inl e, fun b hb => ?_, fun a c' e => ⟨(c.sr a c' e).1, (r.sr a c' e).2⟩, fun q hq => (by cases hq), c.nm, [], .cons (os := []) (ps := []) (.d (dd G)) .nil, List.nodup_nil, by simp⟩ (by intro z; cases z) (by intro x z; cases z)
    rcases hb with hb | hb
    · exact c.th b (.inl hb)
    · exact absurd hb nself
theorem pd_lend (i : Nat) (h : PE X e (lift X.K te)) : PE X e (lift X.K (dLend i te)) :=
  peImp h fun σ H Q ⟨F, G, ρ, P, r, ⟨y, hy, q⟩, k⟩ => ⟨_, G, _, _, r.lend hy, q, fun s ρ' v G' H' ⟨hn, p⟩ e c => k _ _ _ _ _ p e (r.leave c.top (fun z => by rw [z] at hn; cases hn) (fun x z => by rw [z] at hn; cases hn))⟩
theorem pd_show (i : Nat) (h : PE X e (lift X.K te)) : PE X e (lift X.K (dShow i te)) :=
  peImp h fun σ H Q ⟨F, G, ρ, P, r, q, k⟩ => by
    rcases q with ⟨y, hy, q⟩ | ⟨_, q⟩
    · obtain ⟨G1, eg, r1⟩ := r.show hy
      exact ⟨_, G1, _, _, r1, q, fun s ρ' v G' H' ⟨b, hb, p⟩ e c => k _ _ _ _ _ p .rfl (r.shown eg c.top hb)⟩
    · exact ⟨F, G, ρ, P, r, q, k⟩
theorem R.ldAt (r : R K F G H σ ρ) (hy : ldO i ρ = some y) : ∃ p o, σ[i]? = some (some (.ref p)) ∧ F.H0 p = some o ∧ LdOk K G o y ∧ ¬ InSrc F p ∧ ¬ InSelf F p := by
  unfold ldO at hy
  cases e : ρ[i]? with
  | none => rw [e] at hy; cases hy
  | some s =>
    rw [e] at hy
    obtain ⟨os, h, nd, f⟩ := r.sl
    obtain ⟨w, o1, o2, e1, e2, e3, g⟩ := h.at e
    cases e2 with
    | ld h h0 h1 h2 => cases hy; exact ⟨_, _, e1, h0, h, h1, h2⟩
    | _ => cases hy
theorem pd_ld (i : Nat) {x : Str} (hN : X.N[i]? = some x := by rfl) (hv : Vis X.env.scope x := by first | exact Or.inl rfl | exact Or.inr (Or.inl rfl) | exact Or.inr (Or.inr rfl)) (hd : (x == ("__debug__" : Str)) = false := by decide)
    (hcd : (x == ("__classdict__" : Str)) = false := by decide) : PE X (.Name x pos) (lift X.K (dLd i)) := by
  have A := pd_var (X := X) (pos := pos) i hN hv hd hcd
  refine ⟨fun pins s σ H Q I ⟨F, G, ρ, P, r, q, k⟩ => ?_⟩
  rcases q with ⟨y, hy, q⟩ | ⟨_, q⟩
  · obtain ⟨p, o, e1, e2, e3, e4, e5⟩ := r.ldAt hy
    exact (pe_var hN hv hd hcd).run pins s σ H Q I ⟨_, e1, k _ _ _ _ _ q .rfl (r.pushLd e3 e2 e4 e5)⟩
  · exact A.run pins s σ H Q I ⟨F, G, ρ, P, r, q, k⟩
theorem pd_dgL (i : Nat) {k : Nat} {x : Str} {p : Pos} (hr : Room k X.A) (hb : PE X b (lift X.K tb)) (hN : X.N[i]? = some x := by rfl) (hv : Vis X.env.scope x := by first | exact Or.inl rfl | exact Or.inr (Or.inl rfl) | exact Or.inr (Or.inr rfl)) (hd : (x == ("__debug__" : Str)) = false := by decide)
    (hcd : (x == ("__classdict__" : Str)) = false := by decide) (hs : NoSl b := by exact fun _ _ => rfl) : PE X (.Subscript (.Name x p) b pos) (lift X.K (dDgL i tb)) := by
  have A := pd_dg (pos := pos) hr (pd_var (X := X) (pos := p) i hN hv hd hcd) hb hs
  refine ⟨fun pins s σ H Q I ⟨F, G, ρ, P, r, q, k⟩ => ?_⟩
  rcases q with ⟨y, hy, q⟩ | ⟨_, q⟩
  · obtain ⟨p, o, e1, e2, e3, e4, e5⟩ := r.ldAt hy
    refine (pe_dget (pos := pos) (hu_of hr) (pe_var (pos := _) hN hv hd hcd) hb hs).run pins s σ H Q I ⟨_, e1, ?_⟩
    refine goD r q fun z ρ1 u G1 H1 ⟨j, hj, w, hw, q1⟩ eg r1 d1 => ?_
    have e3 := e3.ex eg
    cases e3 with
    | dic hl hn t =>
      obtain ⟨w1, w2, w3⟩ := (lk_of hl t).1 w hw
      rw [d1.key hj]
      refine ⟨_, w1, rfl, ?_, k _ _ _ _ _ q1 eg (r1.push w3)⟩
      rw [← w2]
      exact DGet.k (r1.fr _ _ e2 e4 e5)
  · exact A.run pins s σ H Q I ⟨F, G, ρ, P, r, q, k⟩
/-- an own thing leaves its slot -/
def movY : Sl → Bool
  | .ol _ => true
  | .od _ _ => true
  | .oi _ _ _ => true
  | _ => false
def movO (i : Nat) (ρ : Env') : Option Sl := match ρ[i]? with
  | some s => if movY s = true then some s else none
  | none => none
def dMov (i : Nat) : ET := fun ρ P => ∃ s, movO i ρ = some s ∧ P s (ρ.set i .no)
theorem R.mov (r : R K F G H σ ρ) (h : movO i ρ = some s) : ∃ u, σ[i]? = some (some u) ∧ R K F G H (some u :: σ) (s :: ρ.set i .no) := by
  unfold movO at h
  cases e : ρ[i]? with
  | none => rw [e] at h; cases h
  | some s' =>
    rw [e] at h
    have h : (if movY s' = true then some s' else none) = some s := h
    by_cases m : movY s' = true
    case neg => rw [if_neg m] at h; cases h
    rw [if_pos m] at h
    cases h
    obtain ⟨os, hs, nd, f⟩ := r.sl
    obtain ⟨w, o1, o2, e1, e2, e3, g⟩ := hs.at e
    obtain ⟨u, rfl⟩ : ∃ u, w = some u := by cases e2 <;> first | exact ⟨_, rfl⟩ | cases m
    obtain ⟨o3, t, pm⟩ := g (G' := G) (H' := H) .rfl (fun _ _ => rfl) (.no (some u))
    have e4 : σ.set i (some u) = σ := by
      obtain ⟨hl, e5⟩ := List.getElem?_eq_some_iff.mp e1
      rw [← e5]; exact List.set_getElem_self hl
    rw [e4] at t
    have pm2 : os.Perm (o1 ++ o3) := e3.trans (List.Perm.append_left o1 (by simpa using pm.symm))
    exact ⟨u, e1, r.gg, r.gh, r.fr, r.nw, r.th, r.sr, r.kp, r.nm, _, .cons e2 t, pm2.nodup_iff.mp nd, fun p hp => f p (pm2.mem_iff.mpr hp)⟩
theorem pd_mov (i : Nat) {x : Str} (hN : X.N[i]? = some x := by rfl) (hv : Vis X.env.scope x := by first | exact Or.inl rfl | exact Or.inr (Or.inl rfl) | exact Or.inr (Or.inr rfl)) (hd : (x == ("__debug__" : Str)) = false := by decide)
    (hcd : (x == ("__classdict__" : Str)) = false := by decide) : PE X (.Name x pos) (lift X.K (dMov i)) :=
  peImp (pe_var hN hv hd hcd) fun σ H Q ⟨F, G, ρ, P, r, ⟨s, hs, q⟩, k⟩ => by
    obtain ⟨u, e1, r1⟩ := r.mov hs
    exact ⟨u, e1, k _ _ _ _ _ q .rfl r1⟩
end
end Fl
namespace Tr
open PySem L2 Fl
section
variable {Z : Exc → Prop} {ρ : Env'} {f : E'} {P : Sl → Env' → Prop} {i : Nat}
def eLend (i : Nat) (f : E') : E' := fun ρ => T.ofO (lendO i ρ) fun y => (f ((ρ.map Sl.blank).set i (.ld y))).bind2 fun s _ => T.need (noNo s) (.ret (s, ρ))
def eShow (i : Nat) (f : E') : E' := fun ρ => match showO i ρ with
  | some y => (f ((ρ.map Sl.blank).set i (.d y))).bind2 fun s _ => T.ofO (flatO s) fun b => .ret (.d b, ρ)
  | none => f ρ
def eLd (i : Nat) : E' := fun ρ => match ldO i ρ with
  | some y => .ret (.ld y, ρ)
  | none => eVar i ρ
def eDgL (i : Nat) (g : E') : E' := fun ρ => match ldO i ρ with
  | some x => T.ofO (dicO x) fun q => (g ρ).bind2 fun s2 ρ2 => T.ofO s2.dat fun y => T.ofO (keyD y) fun j => T.ofO (lkD q.1 q.2 j) fun z => .ret (.d z, ρ2)
  | none => eDg (eVar i) g ρ
def eMov (i : Nat) : E' := fun ρ => T.ofO (movO i ρ) fun s => .ret (s, ρ.set i .no)
theorem w_mov (q : up Z (eMov i) ρ P) : dMov i ρ P := by
  simpa only [up, eMov, dMov, wp_ofO, wp_ret] using q
theorem w_lend (q : up Z (eLend i f) ρ P) : dLend i (up Z f) ρ P := by
  simpa only [up, eLend, dLend, wp_bind2, wp_ofO, wp_need, wp_ret] using q
theorem w_show (q : up Z (eShow i f) ρ P) : dShow i (up Z f) ρ P := by
  have q : wp Z (eShow i f ρ) _ := q
  unfold eShow at q
  cases e : showO i ρ with
  | none => rw [e] at q; exact .inr ⟨e, q⟩
  | some y =>
    rw [e] at q
    refine .inl ⟨y, e, ?_⟩
    simpa only [up, wp_bind2, wp_ofO, wp_need, wp_ret] using q
theorem w_ld (q : up Z (eLd i) ρ P) : dLd i ρ P := by
  have q : wp Z (eLd i ρ) _ := q
  unfold eLd at q
  cases e : ldO i ρ with
  | none => rw [e] at q; exact .inr ⟨e, w_var q⟩
  | some y => rw [e] at q; exact .inl ⟨y, e, q⟩
theorem w_dgL {g : E'} (q : up Z (eDgL i g) ρ P) : dDgL i (up Z g) ρ P := by
  have q : wp Z (eDgL i g ρ) _ := q
  unfold eDgL at q
  cases e : ldO i ρ with
  | none =>
    rw [e] at q
    refine .inr ⟨e, ?_⟩
    obtain z := w_dg q
    exact w_var (wp_mono (fun a h => h) z)
  | some x =>
    rw [e] at q
    obtain ⟨w, hw, q⟩ := wp_ofO.mp q
    obtain rfl := dicO_some.mp hw
    refine .inl ⟨w, e, ?_⟩
    simp only [up, wp_bind2, wp_ofO, wp_need, wp_ret] at q ⊢
    obtain ⟨a, ha, q⟩ := q
    cases ha
    exact q
end
end Tr
namespace Fl
open PySem L2
def eqK (ks : List Key) (vs : List D) (js : List Key) (ws : List D) (k : Key) : Bool := match lkD ks vs k, lkD js ws k with
  | some v, some w => eqD v w
  | _, _ => false
def eqE : D → D → Option Bool
  | .dic ks vs, .dic js ws => if (vs.all (ok 8) && ws.all (ok 8)) = true then some (ks.length == js.length && ks.all (eqK ks vs js ws)) else none
  | x, y => if (ok 8 x && ok 8 y) = true then some (eqD x y) else none
def eqEs : List D → List D → Option Bool
  | [], [] => some true
  | x :: xs, y :: ys => (eqE x y).bind fun b => (eqEs xs ys).map fun c => b && c
  | _, _ => none
section
variable {X : Cx} {K : PySem.W.Frag} {F : Fr} {G G' H H' : Hp} {σ : St} {ρ : Env'} {pins : List (Addr × Obj)} {s : Shared}
theorem lkD_at : ∀ {ks : List Key} {vs : List D} {i : Nat} {k : Key} {d : D}, ks.Nodup → ks[i]? = some k → vs[i]? = some d → lkD ks vs k = some d
  | [], _, _, _, _, _, h, _ => by simp at h
  | _ :: _, [], _, _, _, _, _, h => by simp at h
  | j :: ks, v :: vs, 0, k, d, _, h1, h2 => by
    cases h1; cases h2
    exact if_pos rfl
  | j :: ks, v :: vs, i + 1, k, d, hn, h1, h2 => by
    have nd := List.nodup_cons.mp hn
    have h1 : ks[i]? = some k := by simpa using h1
    have h2 : vs[i]? = some d := by simpa using h2
    have ne : ¬ j = k := fun e => nd.1 (e ▸ List.mem_of_getElem? h1)
    show (if j = k then some v else lkD ks vs k) = some d
    rw [if_neg ne]
    exact lkD_at nd.2 h1 h2
theorem leafE (I : Inv X pins σ H s) (gh : Ex G H) {x y : V} {a b : D} {u w : Value} (h1 : Dd X.K G x a) (h2 : Dd X.K G y b) (o1 : ok 8 a = true) (o2 : ok 8 b = true) (r1 : RelV x u) (r2 : RelV y w) (n : Nat) (hn : 64 ≤ n) :
    PySem.W.EqTree X.prog X.w s n u w (eqD a b) := by
  obtain ⟨p1, p2, p3⟩ := h1.py gh o1
  obtain ⟨q1, q2, q3⟩ := h2.py gh o2
  obtain ⟨as, ra⟩ := Dp.reads I _ _ _ p1 r1
  obtain ⟨bs, rb⟩ := Dp.reads I _ _ _ q1 r2
  have sa := shaped_of p2 p3 (by decide)
  have sb := shaped_of q2 q3 (by decide)
  exact .leaf fun A hu => SeqAt.eqAt_reads _ _ A s u w as bs ra rb (SeqAt.canLay_of_shaped sa) (SeqAt.canLay_of_shaped sb) (SeqAt.room_of_shaped sa (by omega))
theorem eqD_same (I : Inv X pins σ H s) (gh : Ex G H) {x : V} {a b : D} {u : Value} (h1 : Dd X.K G x a) (h2 : Dd X.K G x b) (o1 : ok 8 a = true) (o2 : ok 8 b = true) (r1 : RelV x u) : eqD a b = true := by
  obtain ⟨p1, p2, p3⟩ := h1.py gh o1
  obtain ⟨q1, q2, q3⟩ := h2.py gh o2
  obtain ⟨as, ra⟩ := Dp.reads I _ _ _ p1 r1
  obtain ⟨bs, rb⟩ := Dp.reads I _ _ _ q1 r1
  have e := SeqAt.Reads.unique _ _ _ _ _ p2 ra rb
  unfold eqD
  rw [e]
  exact SeqAt.eqv_refl _ q2
theorem all_map_fst {α β : Type} (f : α → Bool) : ∀ (l : List (α × β)), (l.all fun p => f p.1) = (l.map (·.1)).all f
  | [] => rfl
  | p :: l => by rw [List.all_cons, List.map_cons, List.all_cons, all_map_fst f l]
theorem treeE (I : Inv X pins σ H s) (gh : Ex G H) {x y : V} {a b : D} {u w : Value} {c : Bool} (h1 : Dd X.K G x a) (h2 : Dd X.K G y b) (hc : eqE a b = some c) (r1 : RelV x u) (r2 : RelV y w) : PySem.W.EqTree X.prog X.w s 65 u w c := by
  have flat : (ok 8 a && ok 8 b) = true → eqD a b = c → PySem.W.EqTree X.prog X.w s 65 u w c := fun h e => by
    rw [Bool.and_eq_true] at h
    rw [← e]
    exact leafE I gh h1 h2 h.1 h.2 r1 r2 65 (by decide)
  have gen : ∀ (h : (if (ok 8 a && ok 8 b) = true then some (eqD a b) else none) = some c), PySem.W.EqTree X.prog X.w s 65 u w c := fun h => by
    by_cases q : (ok 8 a && ok 8 b) = true
    · rw [if_pos q] at h; cases h; exact flat q rfl
    · rw [if_neg q] at h; cases h
  cases h1 with
  | @dic p ks us vs g1 l1 n1 t1 =>
    have h1 : Dd X.K G (.ref p) (.dic ks vs) := .dic g1 l1 n1 t1
    cases h2 with
    | @dic q js us' ws g2 l2 n2 t2 =>
      have hc : (if (vs.all (ok 8) && ws.all (ok 8)) = true then some (ks.length == js.length && ks.all (eqK ks vs js ws)) else none) = some c := hc
      by_cases ho : (vs.all (ok 8) && ws.all (ok 8)) = true
      case neg => rw [if_neg ho] at hc; cases hc
      rw [if_pos ho] at hc
      have hc := Option.some.inj hc
      rw [Bool.and_eq_true] at ho
      have oa : ∀ d ∈ vs, ok 8 d = true := List.all_eq_true.mp ho.1
      have ob : ∀ d ∈ ws, ok 8 d = true := List.all_eq_true.mp ho.2
      have mem : ∀ {ks : List Key} {vs : List D} {k : Key} {d : D}, lkD ks vs k = some d → d ∈ vs := fun {ks} => by
        induction ks with
        | nil => intro vs k d h; cases h
        | cons j ks ih =>
          intro vs k d h
          cases vs with
          | nil => cases h
          | cons v vs =>
            have h : (if j = k then some v else lkD ks vs k) = some d := h
            by_cases e : j = k
            · rw [if_pos e] at h; cases h; exact List.mem_cons_self
            · rw [if_neg e] at h; exact List.mem_cons_of_mem _ (ih h)
      cases (show u = Value.ref p from r1)
      cases (show w = Value.ref q from r2)
      obtain ⟨_, na, ka, kva, da⟩ := dk_of I.hok (gh _ _ g1)
      obtain ⟨_, nb, kb, kvb, db⟩ := dk_of I.hok (gh _ _ g2)
      have eka : ka.map (·.1) = ks := by
        rw [← kva.keys, List.map_fst_zip (by rw [l1]; exact Nat.le_refl _)]
      have la : ka.length = ks.length := by rw [← eka, List.length_map]
      have lb : kb.length = js.length := by
        rw [← List.length_map (f := (·.1)), ← kvb.keys, List.map_fst_zip (by rw [l2]; exact Nat.le_refl _)]
      -- a key's place
      have place : ∀ k v, (k, v) ∈ ka → ∃ x d, RelV x v ∧ lkD ks vs k = some d ∧ Dd X.K G x d := fun k v hm => by
        obtain ⟨i, hi, e⟩ := List.mem_iff_getElem.mp hm
        obtain ⟨x, e1, e2⟩ := KV.at' kva (i := i) (k := k) (v := v) (by rw [List.getElem?_eq_getElem hi, e])
        obtain ⟨e3, e4⟩ := List.getElem?_zip_eq_some.mp e1
        obtain ⟨d, e5, e6⟩ := t1.get' e4
        exact ⟨x, d, e2, lkD_at n1 e3 e5, e6⟩
      have other : ∀ k, (∀ y, valueAt kb k = some y → ∃ x d, RelV x y ∧ lkD js ws k = some d ∧ Dd X.K G x d) ∧ (valueAt kb k = none → lkD js ws k = none) := fun k => by
        have z := kvb.val k
        have zz := lk_of (i := k) l2 t2
        constructor
        · intro y hy
          rw [hy] at z
          cases e : valV (js.zip us') k with
          | none => rw [e] at z; exact z.elim
          | some x =>
            rw [e] at z
            cases f : lkD js ws k with
            | none => rw [zz.2 f] at e; cases e
            | some d =>
              obtain ⟨v, f1, f2⟩ := zz.1 d f
              rw [e] at f1; cases f1
              exact ⟨x, d, z, rfl, f2⟩
        · intro hy
          rw [hy] at z
          cases f : lkD js ws k with
          | none => rfl
          | some d =>
            obtain ⟨v, f1, f2⟩ := zz.1 d f
            rw [f1] at z; exact z.elim
      have hb : (ka.length == kb.length && ka.all fun p => (valueAt kb p.1).isSome && eqK ks vs js ws p.1) = c := by
        rw [← hc, la, lb, all_map_fst (fun k => (valueAt kb k).isSome && eqK ks vs js ws k) ka, eka]
        congr 2
        funext k
        cases e : valueAt kb k with
        | some y => rfl
        | none =>
          have f := (other k).2 e
          unfold eqK
          rw [f]
          cases lkD ks vs k <;> rfl
      by_cases ne : p = q
      · subst ne
        have g3 := g1.symm.trans g2
        have ez : ks.zip us = js.zip us' := by injection g3 with g3; injection g3
        have ek : ks = js := by
          have := congrArg (List.map Prod.fst) ez
          rwa [List.map_fst_zip (by omega), List.map_fst_zip (by omega)] at this
        have eu : us = us' := by
          have := congrArg (List.map Prod.snd) ez
          rwa [List.map_snd_zip (by omega), List.map_snd_zip (by omega)] at this
        subst ek eu
        have c1 : c = true := by
          rw [← hc, beq_self_eq_true, Bool.true_and]
          refine List.all_eq_true.mpr fun k hk => ?_
          obtain ⟨i, hi, e⟩ := List.mem_iff_getElem.mp hk
          have hiu : i < us.length := by omega
          obtain ⟨d, e1, e2⟩ := t1.get' (List.getElem?_eq_getElem hiu)
          obtain ⟨d', e3, e4⟩ := t2.get' (List.getElem?_eq_getElem hiu)
          have hk' : ks[i]? = some k := by rw [List.getElem?_eq_getElem hi, e]
          have f1 := lkD_at n1 hk' e1
          have f2 := lkD_at n1 hk' e3
          obtain ⟨v, hv⟩ : ∃ v, (k, v) ∈ ka := by
            have : k ∈ ka.map (·.1) := by rw [eka]; exact hk
            obtain ⟨⟨k', v⟩, m, e⟩ := List.mem_map.mp this
            cases e; exact ⟨v, m⟩
          obtain ⟨j, hj, ej⟩ := List.mem_iff_getElem.mp hv
          obtain ⟨x, y1, y2⟩ := KV.at' kva (i := j) (k := k) (v := v) (by rw [List.getElem?_eq_getElem hj, ej])
          obtain ⟨y3, y4⟩ := List.getElem?_zip_eq_some.mp y1
          have eji : i = j := by
            obtain ⟨hj', y5⟩ := List.getElem?_eq_some_iff.mp y3
            exact (List.getElem_inj n1).mp (e.trans y5.symm)
          subst eji
          rw [List.getElem?_eq_getElem hiu] at y4
          cases y4
          unfold eqK
          rw [f1, f2]
          exact eqD_same I gh e2 e4 (oa _ (mem f1)) (ob _ (mem f2)) y2
        rw [c1]
        exact .same
      · rw [← hb]
        refine .dicts (knd := mixKind X.prog X.w) (e := eqK ks vs js ws) ne na nb da db fun k v y hm hy => ?_
        obtain ⟨x, d, z1, z2, z3⟩ := place k v hm
        obtain ⟨x', d', w1, w2, w3⟩ := (other k).1 y hy
        have : eqK ks vs js ws k = eqD d d' := by unfold eqK; rw [z2, w2]
        rw [this]
        exact leafE I gh z3 w3 (oa _ (mem z2)) (ob _ (mem w2)) z1 w1 64 (by decide)
    | _ => exact gen hc
  | _ => cases h2 <;> exact gen hc
theorem eqEs_at : ∀ {xs ys : List D} {b : Bool}, eqEs xs ys = some b → xs.length = ys.length ∧ (∀ (i : Nat) (x y : D), xs[i]? = some x → ys[i]? = some y → ∃ c, eqE x y = some c) ∧ ((List.range xs.length).all fun i => match xs[i]?, ys[i]? with | some x, some y => (eqE x y).getD false | _, _ => false) = b
  | [], [], b, h => by cases h; exact ⟨rfl, fun i x y h _ => by simp at h, rfl⟩
  | x :: xs, y :: ys, b, h => by
    obtain ⟨c, hc, h⟩ := Option.bind_eq_some_iff.mp (show (eqE x y).bind _ = some b from h)
    obtain ⟨d, hd, h⟩ := Option.map_eq_some_iff.mp h
    obtain ⟨i1, i2, i3⟩ := eqEs_at hd
    refine ⟨by simp [i1], fun i a b h1 h2 => ?_, ?_⟩
    · cases i with
      | zero => cases h1; cases h2; exact ⟨c, hc⟩
      | succ i => exact i2 i a b (by simpa using h1) (by simpa using h2)
    · rw [List.length_cons, List.range_succ_eq_map, List.all_cons, List.all_map]
      have e1 : (match (x :: xs)[0]?, (y :: ys)[0]? with | some x, some y => (eqE x y).getD false | _, _ => false) = c := by
        show (eqE x y).getD false = c
        rw [hc]; rfl
      rw [e1, ← h, ← i3]
      congr 1
  | [], _ :: _, _, h => by cases h
  | _ :: _, [], _, h => by cases h
theorem vals_get : ∀ {vs : List V} {us : List Value}, Vals vs us → ∀ {i : Nat} {u : Value}, us[i]? = some u → ∃ v, vs[i]? = some v ∧ RelV v u
  | _, _, .nil, i, u, h => by simp at h
  | _, _, .cons a t, 0, u, h => by cases h; exact ⟨_, rfl, a⟩
  | _, _, .cons a t, i + 1, u, h => by
    obtain ⟨v, e, r⟩ := vals_get t (i := i) (by simpa using h)
    exact ⟨v, by simpa using e, r⟩
def rEqP (K : PySem.W.Frag) : R2 := fun x y H Q => ∃ G xs ys b, Ex G H ∧ Dd K G x (.tup xs) ∧ Dd K G y (.tup ys) ∧ eqEs xs ys = some b ∧ Q (.bl b) H
theorem op_eqP {k : Nat} (hr : Room k X.A) : OpR X (compareOp .Eq) (rEqP X.K) := by
  intro pins s σ H x y v u Q I rx ry ⟨G, xs, ys, b, gh, hx, hy, hb, q⟩
  cases hx with
  | @tup a us _ g1 t1 =>
    cases hy with
    | @tup a' us' _ g2 t2 =>
      cases (show v = Value.ref a from rx)
      cases (show u = Value.ref a' from ry)
      obtain ⟨i1, i2, i3⟩ := eqEs_at hb
      obtain ⟨its, rv, ht, _⟩ := I.tuple (sqT_ex gh g1)
      obtain ⟨its', rv', ht', _⟩ := I.tuple (sqT_ex gh g2)
      have n1 : its.length = xs.length := by rw [← rv.length, t1.len]
      have n2 : its'.length = ys.length := by rw [← rv'.length, t2.len]
      refine PySem.W.eq_tuplesT (n := 65) (vs := its.toArray) (vs' := its'.toArray) (e := fun i => match xs[i]?, ys[i]? with | some x, some y => (eqE x y).getD false | _, _ => false) ht ht' (fun j h1 h2 => ?_) (by have := hr.un; omega) ?_
      · have j1 : j < its.length := by simpa using h1
        have j2 : j < its'.length := by simpa using h2
        obtain ⟨w1, e1, q1⟩ := vals_get rv (i := j) (List.getElem?_eq_getElem j1)
        obtain ⟨w2, e2, q2⟩ := vals_get rv' (i := j) (List.getElem?_eq_getElem j2)
        obtain ⟨d1, e3, d3⟩ := t1.get' e1
        obtain ⟨d2, e4, d4⟩ := t2.get' e2
        obtain ⟨c, hc⟩ := i2 j d1 d2 e3 e4
        show PySem.W.EqTree X.prog X.w s 65 its[j] its'[j] (match xs[j]?, ys[j]? with | some x, some y => (eqE x y).getD false | _, _ => false)
        rw [e3, e4]
        show PySem.W.EqTree X.prog X.w s 65 its[j] its'[j] ((eqE d1 d2).getD false)
        rw [hc]
        exact treeE I gh d3 d4 hc q1 q2
      · refine ⟨.bl b, H, I, ?_, q⟩
        show Value.bool _ = Value.bool b
        have : (min its.toArray.size its'.toArray.size) = xs.length := by simp [n1, n2, i1]
        rw [this, i3]
        have : (its.toArray.size == its'.toArray.size) = true := by simp [n1, n2, i1]
        rw [this, Bool.and_true]
def dEqP : RO := fun x y P => ∃ xs ys b, x = .tup xs ∧ y = .tup ys ∧ eqEs xs ys = some b ∧ P (.d (.bl b))
theorem od_eqP {k : Nat} (hr : Room k X.A) : OpD X (compareOp .Eq) dEqP := by
  refine OpR.ofD (op_eqP hr) ?_
  intro F G H σ ρ vx vy x y P Q r hx hy ⟨xs, ys, b, e1, e2, hb, h⟩ k
  subst e1 e2
  exact ⟨G, xs, ys, b, r.gh, hx, hy, hb, k _ _ _ _ h .rfl (r.push (.bl _))⟩
end
end Fl
namespace Tr
open PySem L2 Fl
section
variable {Z : Exc → Prop}
def oEqP : O' := fun x y => match x, y with
  | .tup xs, .tup ys => T.ofO (eqEs xs ys) fun b => .ret (.d (.bl b))
  | _, _ => .fail
theorem wo_eqP (x y : D) (P : Sl → Prop) (q : roF Z oEqP x y P) : dEqP x y P := by
  have q : wp Z (oEqP x y) P := q
  unfold oEqP at q
  split at q
  · obtain ⟨b, hb, q⟩ := wp_ofO.mp q
    exact ⟨_, _, b, rfl, rfl, hb, q⟩
  · exact q.elim
end
end Tr
namespace Tr
open PySem L2 Fl
section
variable {α β γ : Type} {Z : Exc → Prop}
theorem bind_ret {a : α} {f : α → T β} : (T.ret a).bind f = f a := id rfl
theorem bind_fail {f : α → T β} : (T.fail : T α).bind f = .fail := id rfl
theorem bind_draw {m : Int} {k : Int → T α} {f : α → T β} : (T.draw m k).bind f = .draw m fun r => (k r).bind f := id rfl
theorem bind2_ret {a : α} {b : β} {f : α → β → T γ} : (T.ret (a, b)).bind2 f = f a b := id rfl
theorem bind_assoc {f : α → T β} {g : β → T γ} : ∀ {t : T α}, (t.bind f).bind g = t.bind fun a => (f a).bind g
  | .ret a => rfl
  | .fail => rfl
  | .exn e => rfl
  | .draw m k => congrArg (T.draw m) (funext fun r => bind_assoc)
theorem bind2_bind {f : α → T (β × γ)} {δ : Type} {g : β → γ → T δ} {t : T α} : (t.bind f).bind2 g = t.bind fun a => (f a).bind2 g := bind_assoc
theorem bind_bind2 {f : α → β → T γ} {δ : Type} {g : γ → T δ} {t : T (α × β)} : (t.bind2 f).bind g = t.bind2 fun a b => (f a b).bind g := bind_assoc
theorem bind2_bind2 {δ ε : Type} {f : α → β → T (γ × δ)} {g : γ → δ → T ε} {t : T (α × β)} : (t.bind2 f).bind2 g = t.bind2 fun a b => (f a b).bind2 g := bind_assoc
theorem bind_bind2' {δ : Type} {f : α → T (β × γ)} {g : β → γ → T δ} {t : T α} : (t.bind f).bind2 g = t.bind fun a => (f a).bind2 g := bind_assoc
theorem ofO_some {a : α} {f : α → T β} : T.ofO (some a) f = f a := id rfl
theorem ofO_none {f : α → T β} : T.ofO none f = .fail := id rfl
theorem need_true {t : T α} : T.need true t = t := id rfl
theorem need_false {t : T α} : T.need false t = .fail := id rfl
theorem ite_bind {c : Prop} [Decidable c] {t u : T α} {f : α → T β} : (if c then t else u).bind f = if c then t.bind f else u.bind f := by split <;> rfl
theorem ite_bind2 {c : Prop} [Decidable c] {t u : T (α × β)} {f : α → β → T γ} : (if c then t else u).bind2 f = if c then t.bind2 f else u.bind2 f := by split <;> rfl
theorem ofO_bind {o : Option α} {f : α → T β} {g : β → T γ} : (T.ofO o f).bind g = T.ofO o fun a => (f a).bind g := by cases o <;> rfl
theorem ofO_bind2 {δ : Type} {o : Option α} {f : α → T (β × γ)} {g : β → γ → T δ} : (T.ofO o f).bind2 g = T.ofO o fun a => (f a).bind2 g := by cases o <;> rfl
theorem need_bind {b : Bool} {t : T α} {g : α → T β} : (T.need b t).bind g = T.need b (t.bind g) := by cases b <;> rfl
theorem need_bind2 {b : Bool} {t : T (α × β)} {g : α → β → T γ} : (T.need b t).bind2 g = T.need b (t.bind2 g) := by cases b <;> rfl
theorem back_ret {s : Sl} {ρ : Env'} : back (.ret s) ρ = T.need (noNo s) (.ret (s, ρ)) := id rfl
theorem back_bind {f : α → T Sl} {t : T α} {ρ : Env'} : back (t.bind f) ρ = t.bind fun a => back (f a) ρ := bind_assoc
theorem back_ite {c : Prop} [Decidable c] {t u : T Sl} {ρ : Env'} : back (if c then t else u) ρ = if c then back t ρ else back u ρ := by split <;> rfl
theorem wp_draw {m : Int} {k : Int → T α} {P : α → Prop} : wp Z (.draw m k) P = ((0 < m ∧ m < 1000000000) ∧ ∀ r : Int, 0 ≤ r → r < m → wp Z (k r) P) := id rfl
theorem wp_ret' {a : α} {P : α → Prop} : wp Z (.ret a) P = P a := id rfl
/-- a slot read -/
def gt (ρ : Env') (i : Nat) : Option Sl := ρ[i]?
theorem var_d {ρ : Env'} {i : Nat} {x : D} (h : ρ[i]? = some (.d x)) : eVar i ρ = .ret (.d x, ρ) := by
  have e : ρ.set i (.d x) = ρ := by
    obtain ⟨hl, e5⟩ := List.getElem?_eq_some_iff.mp h
    rw [← e5]; exact List.set_getElem_self hl
  unfold eVar
  rw [h]
  show T.ret (Sl.d x, ρ.set i (.d x)) = _
  rw [e]
def varT (o : Option Sl) (i : Nat) (ρ : Env') : T (Sl × Env') := match o with
  | some .src => .ret (.src, ρ)
  | some (.d x) => .ret (.d x, ρ)
  | some s => match s.dat with
    | some x => .ret (.d x, ρ.set i (.d x))
    | none => .fail
  | none => .fail
theorem eVar_eq {i : Nat} {s : Sl} {ρ : Env'} : eVar i (s :: ρ) = varT ((s :: ρ)[i]?) i (s :: ρ) := by
  unfold varT
  cases e : (s :: ρ)[i]? with
  | none => unfold eVar; rw [e]
  | some x =>
    cases x with
    | d x => exact var_d e
    | src => unfold eVar; rw [e]
    | _ => (unfold eVar; rw [e]) <;> rfl
theorem varT_src {i : Nat} {ρ : Env'} : varT (some .src) i ρ = .ret (.src, ρ) := id rfl
theorem varT_d {i : Nat} {ρ : Env'} {x : D} : varT (some (.d x)) i ρ = .ret (.d x, ρ) := id rfl
theorem varT_ol {i : Nat} {ρ : Env'} {xs : List D} : varT (some (.ol xs)) i ρ = .ret (.d (.lst xs), ρ.set i (.d (.lst xs))) := id rfl
theorem varT_od {i : Nat} {ρ : Env'} {ks : List Key} {xs : List D} : varT (some (.od ks xs)) i ρ = .ret (.d (.dic ks xs), ρ.set i (.d (.dic ks xs))) := id rfl
theorem varT_oi {i : Nat} {ρ : Env'} {C : Addr} {ns : List Str} {xs : List D} : varT (some (.oi C ns xs)) i ρ = .ret (.d (.ins C ns xs), ρ.set i (.d (.ins C ns xs))) := id rfl
theorem dat_d {x : D} : (Sl.d x).dat = some x := id rfl
theorem dat_ol {xs : List D} : (Sl.ol xs).dat = some (.lst xs) := id rfl
theorem dat_od {ks : List Key} {xs : List D} : (Sl.od ks xs).dat = some (.dic ks xs) := id rfl
theorem dat_oi {C : Addr} {ns : List Str} {xs : List D} : (Sl.oi C ns xs).dat = some (.ins C ns xs) := id rfl
theorem arg_d {x : D} : (Sl.d x).arg = some (.d x) := id rfl
theorem arg_src : Sl.src.arg = some .src := id rfl
theorem arg_ol {xs : List D} : (Sl.ol xs).arg = some (.d (.lst xs)) := id rfl
theorem arg_od {ks : List Key} {xs : List D} : (Sl.od ks xs).arg = some (.d (.dic ks xs)) := id rfl
theorem arg_oi {C : Addr} {ns : List Str} {xs : List D} : (Sl.oi C ns xs).arg = some (.d (.ins C ns xs)) := id rfl
theorem noNo_d {x : D} : noNo (.d x) = true := id rfl
theorem noNo_ol {xs : List D} : noNo (.ol xs) = true := id rfl
theorem noNo_od {ks : List Key} {xs : List D} : noNo (.od ks xs) = true := id rfl
theorem noNo_oi {C : Addr} {ns : List Str} {xs : List D} : noNo (.oi C ns xs) = true := id rfl
theorem argOk_d {x : D} : argOk (.d x) = true := id rfl
theorem argOk_src : argOk .src = true := id rfl
theorem blO_bl {b : Bool} : blO (.d (.bl b)) = some b := id rfl
theorem intO_int {i : Int} : intO (.d (.int i)) = some i := id rfl
theorem endM_nx {ρ : Env'} : endM (.nx ρ) = .ret (.d .non) := id rfl
theorem endM_rt {s : Sl} : endM (.rt s) = T.need (noNo s) (.ret s) := id rfl
theorem thenS_nx {g : S'} {ρ : Env'} : thenS g (.nx ρ) = g ρ := id rfl
theorem thenS_rt {g : S'} {s : Sl} : thenS g (.rt s) = .ret (.rt s) := id rfl
theorem dlst_lst {xs : List D} : dlst (.lst xs) = some xs := id rfl
theorem dint_int {i : Int} : dint (.int i) = some i := id rfl
theorem dstr_str {i : Str} : dstr (.str i) = some i := id rfl
theorem seqD_lst {xs : List D} : seqD (.lst xs) = some xs := id rfl
theorem seqD_tup {xs : List D} : seqD (.tup xs) = some xs := id rfl
theorem itemsD_lst {xs : List D} : itemsD (.lst xs) = some xs := id rfl
theorem itemsD_tup {xs : List D} : itemsD (.tup xs) = some xs := id rfl
theorem itemsD_str {z : Str} : itemsD (.str z) = some (signs z) := id rfl
theorem cp_one {x : D} : cp [x] = some x := id rfl
theorem lst1_one {xs : List D} : lst1 [.lst xs] = some xs := id rfl
theorem int1_one {i : Int} : int1 [.int i] = some i := id rfl
theorem lenD_lst {xs : List D} : lenD (.lst xs) = some xs.length := id rfl
theorem lenD_tup {xs : List D} : lenD (.tup xs) = some xs.length := id rfl
theorem lenD_str {z : Str} : lenD (.str z) = some z.length := id rfl
theorem insOf_me {C : Addr} {ns : List Str} {vs : List D} : insOf C (.ins C ns vs) = some (ns, vs) := by simp [insOf]
theorem two_eq {a b : Sl} : two [a, b] = some (a, b) := id rfl
theorem three_eq {a b c : Sl} : three [a, b, c] = some (a, b, c) := id rfl
theorem pend_d {x : D} : pend (.d x) = true := id rfl
theorem pend_ol {xs : List D} : pend (.ol xs) = true := id rfl
theorem pend_od {ks : List Key} {xs : List D} : pend (.od ks xs) = true := id rfl
theorem tupO_eq {n : Nat} {xs : List D} : tupO n (.d (.tup xs)) = if xs.length = n then some xs else none := id rfl
theorem gsCons_eq {g : G'} {gs : Gs'} {x : D} {r : List D} {ρ : Env'} : gsCons g gs (x :: r) ρ = (g (.d x) ρ).bind fun ρ1 => gs r ρ1 := id rfl
theorem gsNil_eq {xs : List D} {ρ : Env'} : gsNil xs ρ = .ret ρ := id rfl
theorem mVal_eq {x : Str} {b : S'} {r : Str → S'} {z : Str} {ρ : Env'} : mVal' x b r z ρ = if z = x then b ρ else r z ρ := id rfl
theorem dicO_dic {ks : List Key} {vs : List D} : dicO (.dic ks vs) = some (ks, vs) := id rfl
theorem dtup_tup {xs : List D} : dtup (.tup xs) = some xs := id rfl
theorem keyD_str {s : Str} : keyD (.str s) = some (.inr s) := id rfl
theorem keyD_int {i : Int} : keyD (.int i) = some (.inl i) := id rfl
theorem ownO_eq {i : Nat} {ρ : Env'} : ownO i ρ = (match ρ[i]? with | some (.ol xs) => some xs | _ => none) := id rfl
theorem eC_e {x : D} {s0 : Sl} {ρ0 : Env'} : eC x (s0 :: ρ0) = .ret (.d x, (s0 :: ρ0)) := id rfl
theorem aNil_e {s0 : Sl} {ρ0 : Env'} : aNil (s0 :: ρ0) = .ret ([], (s0 :: ρ0)) := id rfl
theorem aCons_e {f : E'} {g : A'} {s0 : Sl} {ρ0 : Env'} : aCons f g (s0 :: ρ0) = (f (s0 :: ρ0)).bind2 fun s ρ1 => T.ofO s.dat fun d => (g ρ1).bind2 fun xs ρ2 => .ret (d :: xs, ρ2) := id rfl
theorem eTup_e {f : A'} {s0 : Sl} {ρ0 : Env'} : eTup f (s0 :: ρ0) = (f (s0 :: ρ0)).bind2 fun xs ρ1 => T.need (decide (xs.length ≤ 1000)) (.ret (.d (.tup xs), ρ1)) := id rfl
theorem eLst_e {f : A'} {s0 : Sl} {ρ0 : Env'} : eLst f (s0 :: ρ0) = (f (s0 :: ρ0)).bind2 fun xs ρ1 => T.need (decide (xs.length ≤ 1000)) (.ret (.ol xs, ρ1)) := id rfl
theorem eDic0_e {s0 : Sl} {ρ0 : Env'} : eDic0 (s0 :: ρ0) = .ret (.od [] [], (s0 :: ρ0)) := id rfl
theorem eOp_e {o : O'} {f g : E'} {s0 : Sl} {ρ0 : Env'} : eOp o f g (s0 :: ρ0) = (f (s0 :: ρ0)).bind2 fun x ρ1 => T.ofO x.dat fun dx => (g ρ1).bind2 fun y ρ2 => T.ofO y.dat fun dy => (o dx dy).bind fun z => .ret (z, ρ2) := id rfl
theorem tTru_e {f : E'} {s0 : Sl} {ρ0 : Env'} : tTru f (s0 :: ρ0) = (f (s0 :: ρ0)).bind2 fun x ρ1 => T.ofO x.dat fun d => T.ofO (tru d) fun b => .ret (b, ρ1) := id rfl
theorem tTst_e {f : E'} {s0 : Sl} {ρ0 : Env'} : tTst f (s0 :: ρ0) = (f (s0 :: ρ0)).bind2 fun x ρ1 => T.ofO (blO x) fun b => .ret (b, ρ1) := id rfl
theorem tNot_e {f : C'} {s0 : Sl} {ρ0 : Env'} : tNot' f (s0 :: ρ0) = (f (s0 :: ρ0)).bind2 fun b ρ1 => .ret (!b, ρ1) := id rfl
theorem tAnd_e {f g : C'} {s0 : Sl} {ρ0 : Env'} : tAnd' f g (s0 :: ρ0) = (f (s0 :: ρ0)).bind2 fun b ρ1 => if b = true then g ρ1 else .ret (false, ρ1) := id rfl
theorem tOr_e {f g : C'} {s0 : Sl} {ρ0 : Env'} : tOr' f g (s0 :: ρ0) = (f (s0 :: ρ0)).bind2 fun b ρ1 => if b = true then .ret (true, ρ1) else g ρ1 := id rfl
theorem eAnd_e {f g : E'} {s0 : Sl} {ρ0 : Env'} : eAnd f g (s0 :: ρ0) = (f (s0 :: ρ0)).bind2 fun x ρ1 => T.ofO (blO x) fun b => if b = true then g ρ1 else .ret (.d (.bl false), ρ1) := id rfl
theorem eOr_e {f g : E'} {s0 : Sl} {ρ0 : Env'} : eOr f g (s0 :: ρ0) = (f (s0 :: ρ0)).bind2 fun x ρ1 => T.ofO (blO x) fun b => if b = true then .ret (.d (.bl true), ρ1) else g ρ1 := id rfl
theorem eNot_e {f : E'} {s0 : Sl} {ρ0 : Env'} : eNot f (s0 :: ρ0) = (f (s0 :: ρ0)).bind2 fun x ρ1 => T.ofO (blO x) fun b => .ret (.d (.bl (!b)), ρ1) := id rfl
theorem eIf_e {c : C'} {f g : E'} {s0 : Sl} {ρ0 : Env'} : eIf c f g (s0 :: ρ0) = (c (s0 :: ρ0)).bind2 fun b ρ1 => if b = true then f ρ1 else g ρ1 := id rfl
theorem eCall_e {o : List D → T Sl} {f : A'} {s0 : Sl} {ρ0 : Env'} : eCall o f (s0 :: ρ0) = (f (s0 :: ρ0)).bind2 fun xs ρ1 => (o xs).bind fun z => .ret (z, ρ1) := id rfl
theorem eIx_e {f g : E'} {s0 : Sl} {ρ0 : Env'} : eIx f g (s0 :: ρ0) = (f (s0 :: ρ0)).bind2 fun x ρ1 => T.ofO x.dat fun dx => (g ρ1).bind2 fun y ρ2 => T.ofO y.dat fun dy => T.ofO (ixD dx dy) fun z => .ret (.d z, ρ2) := id rfl
theorem oNo_e {s0 : Sl} {ρ0 : Env'} : oNo' (s0 :: ρ0) = .ret (none, (s0 :: ρ0)) := id rfl
theorem oSome_e {f : E'} {s0 : Sl} {ρ0 : Env'} : oSome' f (s0 :: ρ0) = (f (s0 :: ρ0)).bind2 fun x ρ1 => T.ofO (intO x) fun i => .ret (some i, ρ1) := id rfl
theorem eSl_e {f : E'} {l h : O1'} {s0 : Sl} {ρ0 : Env'} : eSl f l h (s0 :: ρ0) = (f (s0 :: ρ0)).bind2 fun x ρ1 => T.ofO x.dat fun dx => (l ρ1).bind2 fun lo ρ2 => (h ρ2).bind2 fun hi ρ3 => T.ofO (slD dx lo hi) fun y => .ret (y, ρ3) := id rfl
theorem eChain_e {o1 o2 : O'} {f g h : E'} {s0 : Sl} {ρ0 : Env'} : eChain o1 o2 f g h (s0 :: ρ0) = (f (s0 :: ρ0)).bind2 fun x ρ1 => T.ofO x.dat fun dx => (g ρ1).bind2 fun y ρ2 => T.ofO y.dat fun dy => (o1 dx dy).bind fun z => T.ofO (blO z) fun b =>
 if b = true then (h ρ2).bind2 fun w ρ3 => T.ofO w.dat fun dw => (o2 dy dw).bind fun z => .ret (z, ρ3) else .ret (.d (.bl false), ρ2) := rfl
theorem eIsi_e {Ty : String} {f : E'} {s0 : Sl} {ρ0 : Env'} : eIsi Ty f (s0 :: ρ0) = (f (s0 :: ρ0)).bind2 fun s ρ1 => T.ofO s.dat fun x => T.need (!isIns x) (.ret (.d (.bl (isT Ty x)), ρ1)) := id rfl
theorem eIsi2_e {Ty Uy : String} {f : E'} {s0 : Sl} {ρ0 : Env'} : eIsi2 Ty Uy f (s0 :: ρ0) = (f (s0 :: ρ0)).bind2 fun s ρ1 => T.ofO s.dat fun x => T.need (!isIns x) (.ret (.d (.bl (isT Ty x || isT Uy x)), ρ1)) := id rfl
theorem eDg_e {f g : E'} {s0 : Sl} {ρ0 : Env'} : eDg f g (s0 :: ρ0) = (f (s0 :: ρ0)).bind2 fun s ρ1 => T.ofO s.dat fun x => (g ρ1).bind2 fun s2 ρ2 => T.ofO s2.dat fun y => T.ofO (dicO x) fun q => T.ofO (keyD y) fun j => T.ofO (lkD q.1 q.2 j) fun z => .ret (.d z, ρ2) := id rfl
theorem eDin_e {f g : E'} {s0 : Sl} {ρ0 : Env'} : eDin f g (s0 :: ρ0) = (f (s0 :: ρ0)).bind2 fun s2 ρ1 => T.ofO s2.dat fun y => (g ρ1).bind2 fun s ρ2 => T.ofO s.dat fun x => T.ofO (dicO x) fun q => T.ofO (keyD y) fun j => .ret (.d (.bl (lkD q.1 q.2 j).isSome), ρ2) := id rfl
theorem eApp_e {i : Nat} {f : E'} {s0 : Sl} {ρ0 : Env'} : eApp i f (s0 :: ρ0) = T.ofO (ownO i (s0 :: ρ0)) fun _ => (f (s0 :: ρ0)).bind2 fun s ρ1 => T.ofO s.dat fun d => T.ofO (ownO i ρ1) fun xs => T.need (decide (xs.length < 1000000)) (.ret (.d .non, ρ1.set i (.ol (xs ++ [d])))) := id rfl
theorem eExt_e {i : Nat} {f : E'} {s0 : Sl} {ρ0 : Env'} : eExt i f (s0 :: ρ0) = T.ofO (ownO i (s0 :: ρ0)) fun _ => (f (s0 :: ρ0)).bind2 fun s ρ1 => T.ofO s.dat fun d => T.ofO (dlst d) fun ys => T.ofO (ownO i ρ1) fun xs => T.need (decide (xs.length + ys.length < 1000000)) (.ret (.d .non, ρ1.set i (.ol (xs ++ ys)))) := id rfl
theorem ePop_e {i : Nat} {f : E'} {s0 : Sl} {ρ0 : Env'} : ePop i f (s0 :: ρ0) = T.ofO (ownO i (s0 :: ρ0)) fun _ => (f (s0 :: ρ0)).bind2 fun s ρ1 => T.ofO s.dat fun d => T.ofO (dint d) fun j => T.need (decide (0 ≤ j)) (T.ofO (ownO i ρ1) fun xs => T.need (decide (xs.length < 1000000)) (T.ofO xs[j.toNat]? fun y => .ret (.d y, ρ1.set i (.ol (xs.eraseIdx j.toNat))))) := id rfl
theorem eIns_e {i : Nat} {f g : E'} {s0 : Sl} {ρ0 : Env'} : eIns i f g (s0 :: ρ0) = T.ofO (ownO i (s0 :: ρ0)) fun _ => (f (s0 :: ρ0)).bind2 fun s ρ1 => T.ofO s.dat fun d => (g ρ1).bind2 fun s2 ρ2 => T.ofO s2.dat fun y => T.ofO (dint d) fun j => T.need (decide (0 ≤ j ∧ j < 1000000)) (T.ofO (ownO i ρ2) fun xs => T.need (decide (xs.length < 1000000)) (.ret (.d .non, ρ2.set i (.ol (xs.take j.toNat ++ [y] ++ xs.drop j.toNat))))) := id rfl
theorem tOwnNe_e {i : Nat} {s0 : Sl} {ρ0 : Env'} : tOwnNe i (s0 :: ρ0) = T.ofO (ownO i (s0 :: ρ0)) fun xs => T.need (xs.all (ok 50)) (.ret (!xs.isEmpty, (s0 :: ρ0))) := id rfl
theorem eOwnLen_e {i : Nat} {s0 : Sl} {ρ0 : Env'} : eOwnLen i (s0 :: ρ0) = T.ofO (ownO i (s0 :: ρ0)) fun xs => .ret (.d (.int (xs.length : Nat)), (s0 :: ρ0)) := id rfl
theorem eOwnIx_e {i : Nat} {f : E'} {s0 : Sl} {ρ0 : Env'} : eOwnIx i f (s0 :: ρ0) = T.ofO (ownO i (s0 :: ρ0)) fun _ => (f (s0 :: ρ0)).bind2 fun s ρ1 => T.ofO s.dat fun d => T.ofO (dint d) fun j => T.ofO (ownO i ρ1) fun xs => T.ofO (atI xs j) fun y => .ret (.d y, ρ1) := id rfl
theorem eOwnIn_e {neg : Bool} {i : Nat} {f : E'} {s0 : Sl} {ρ0 : Env'} : eOwnIn neg i f (s0 :: ρ0) = (f (s0 :: ρ0)).bind2 fun s ρ1 => T.ofO s.dat fun d => T.need (flat d) (T.ofO (ownO i ρ1) fun xs => T.need (xs.all flat) (.ret (.d (.bl (if neg then !inD d xs else inD d xs)), ρ1))) := id rfl
theorem eClr_e {i : Nat} {s0 : Sl} {ρ0 : Env'} : eClr i (s0 :: ρ0) = T.ofO (odO i (s0 :: ρ0)) fun _ => .ret (.d .non, (s0 :: ρ0).set i (.od [] [])) := id rfl
theorem eJoin_e {f g : E'} {s0 : Sl} {ρ0 : Env'} : eJoin f g (s0 :: ρ0) = (f (s0 :: ρ0)).bind2 fun s ρ1 => T.ofO s.dat fun d => T.ofO (dstr d) fun a => (g ρ1).bind2 fun s2 ρ2 => T.ofO s2.dat fun y => T.ofO (strsOf y) fun ws =>
 T.need (decide ((ws.map (·.length)).sum + ws.length * a.length ≤ 1000000)) (T.need (sOk (PySem.Txt.join a ws)) (.ret (.d (.str (PySem.Txt.join a ws)), ρ2))) := rfl
theorem eItems_e {f : E'} {s0 : Sl} {ρ0 : Env'} : eItems f (s0 :: ρ0) = (f (s0 :: ρ0)).bind2 fun s ρ1 => T.ofO s.dat fun x => T.ofO (dicO x) fun q => T.need (q.1.all kOk) (.ret (.d (.lst (pairD q.1 q.2)), ρ1)) := id rfl
theorem eNeg_e {f : E'} {s0 : Sl} {ρ0 : Env'} : eNeg f (s0 :: ρ0) = (f (s0 :: ρ0)).bind2 fun s ρ1 => T.ofO (intO s) fun i => .ret (.d (.int (-i)), ρ1) := id rfl
theorem eFld_e {C : Addr} {n : Str} {f : E'} {s0 : Sl} {ρ0 : Env'} : eFld C n f (s0 :: ρ0) = (f (s0 :: ρ0)).bind2 fun s ρ1 => T.ofO s.dat fun x => T.ofO (insOf C x) fun q => T.ofO (lkF q.1 q.2 n) fun y => .ret (.d y, ρ1) := id rfl
theorem bNil_e {s0 : Sl} {ρ0 : Env'} : bNil' (s0 :: ρ0) = .ret ([], (s0 :: ρ0)) := id rfl
theorem bCons_e {f : E'} {g : B'} {s0 : Sl} {ρ0 : Env'} : bCons' f g (s0 :: ρ0) = (f (s0 :: ρ0)).bind2 fun s ρ1 => T.need (pend s) ((g ρ1).bind2 fun ss ρ2 => .ret (s :: ss, ρ2)) := id rfl
theorem bArg_e {f : E'} {g : B'} {s0 : Sl} {ρ0 : Env'} : bArg' f g (s0 :: ρ0) = (f (s0 :: ρ0)).bind2 fun s ρ1 => T.ofO s.arg fun s' => (g ρ1).bind2 fun ss ρ2 => .ret (s' :: ss, ρ2) := id rfl
theorem eFn_e {n : Nat} {m : M} {f : B'} {s0 : Sl} {ρ0 : Env'} : eFn n m f (s0 :: ρ0) = (f (s0 :: ρ0)).bind2 fun ss ρ1 => T.need (ss.all argOk && (ss.length == n)) (back (m ss) ρ1) := id rfl
theorem eMeth_e {C : Addr} {x : Str} {n : Nat} {m : M} {f : E'} {g : B'} {s0 : Sl} {ρ0 : Env'} : eMeth C x n m f g (s0 :: ρ0) = (f (s0 :: ρ0)).bind2 fun s ρ1 => T.ofO s.dat fun d => T.ofO (insOf C d) fun q => T.need (lkF q.1 q.2 x).isNone
 ((g ρ1).bind2 fun ss ρ2 => T.need (ss.all argOk && (ss.length + 1 == n)) (back (m (.d d :: ss)) ρ2)) := rfl
theorem eMeth0_e {C : Addr} {x : Str} {m : M} {f : E'} {s0 : Sl} {ρ0 : Env'} : eMeth0 C x m f (s0 :: ρ0) = (f (s0 :: ρ0)).bind2 fun s ρ1 => T.ofO s.dat fun d => T.ofO (insOf C d) fun q => T.need (lkF q.1 q.2 x).isNone (back (m [.d d]) ρ1) := id rfl
theorem eProp_e {C : Addr} {m : M} {f : E'} {s0 : Sl} {ρ0 : Env'} : eProp C m f (s0 :: ρ0) = (f (s0 :: ρ0)).bind2 fun s ρ1 => T.ofO s.dat fun d => T.ofO (insOf C d) fun _ => back (m [.d d]) ρ1 := id rfl
theorem eMakeK_e {C : Addr} {n k : Nat} {m : MI} {f g : B'} {s0 : Sl} {ρ0 : Env'} : eMakeK C n k m f g (s0 :: ρ0) = (f (s0 :: ρ0)).bind2 fun ss ρ1 => T.need (ss.all argOk) ((g ρ1).bind2 fun zs ρ2 => T.need (zs.all argOk && ((ss.length == n) && (zs.length == k))) ((m (ss ++ zs)).bind2 fun ns vs => .ret (.oi C ns vs, ρ2))) := id rfl
theorem eMake_e {C : Addr} {n : Nat} {m : MI} {f : B'} {s0 : Sl} {ρ0 : Env'} : eMake C n m f (s0 :: ρ0) = (f (s0 :: ρ0)).bind2 fun ss ρ1 => T.need (ss.all argOk && (ss.length == n)) ((m ss).bind2 fun ns vs => .ret (.oi C ns vs, ρ1)) := id rfl
theorem eIsOwn_e {C : Addr} {f : E'} {s0 : Sl} {ρ0 : Env'} : eIsOwn C f (s0 :: ρ0) = (f (s0 :: ρ0)).bind2 fun s ρ1 => T.ofO s.dat fun x => T.need (!isIns x || (insOf C x).isSome) (.ret (.d (.bl (isIns x)), ρ1)) := id rfl
theorem gNm_e {i : Nat} {s : Sl} {s0 : Sl} {ρ0 : Env'} : gNm' i s (s0 :: ρ0) = T.need (decide (i < (s0 :: ρ0).length)) (.ret ((s0 :: ρ0).set i s)) := id rfl
theorem gTp_e {n : Nat} {gs : Gs'} {s : Sl} {s0 : Sl} {ρ0 : Env'} : gTp' n gs s (s0 :: ρ0) = T.ofO (tupO n s) fun xs => gs xs (s0 :: ρ0) := id rfl
theorem sNext_e {s0 : Sl} {ρ0 : Env'} : sNext (s0 :: ρ0) = .ret (.nx (s0 :: ρ0)) := id rfl
theorem sBreak_e {s0 : Sl} {ρ0 : Env'} : sBreak (s0 :: ρ0) = .ret (.bk (s0 :: ρ0)) := id rfl
theorem sCont_e {s0 : Sl} {ρ0 : Env'} : sCont (s0 :: ρ0) = .ret (.ct (s0 :: ρ0)) := id rfl
theorem sSeq_e {f g : S'} {s0 : Sl} {ρ0 : Env'} : sSeq f g (s0 :: ρ0) = (f (s0 :: ρ0)).bind (thenS g) := id rfl
theorem sExpr_e {f : E'} {s0 : Sl} {ρ0 : Env'} : sExpr f (s0 :: ρ0) = (f (s0 :: ρ0)).bind2 fun _ ρ1 => .ret (.nx ρ1) := id rfl
theorem sRet_e {f : E'} {s0 : Sl} {ρ0 : Env'} : sRet f (s0 :: ρ0) = (f (s0 :: ρ0)).bind2 fun s _ => .ret (.rt s) := id rfl
theorem sIf_e {c : C'} {f g : S'} {s0 : Sl} {ρ0 : Env'} : sIf c f g (s0 :: ρ0) = (c (s0 :: ρ0)).bind2 fun b ρ1 => if b = true then f ρ1 else g ρ1 := id rfl
theorem sAsg_e {f : E'} {g : G'} {s0 : Sl} {ρ0 : Env'} : sAsg f g (s0 :: ρ0) = (f (s0 :: ρ0)).bind2 fun s ρ1 => (g s ρ1).bind fun ρ2 => .ret (.nx ρ2) := id rfl
theorem sPar_e {i j : Nat} {f : B'} {s0 : Sl} {ρ0 : Env'} : sPar i j f (s0 :: ρ0) = (f (s0 :: ρ0)).bind2 fun ss ρ1 => T.ofO (two ss) fun q => T.need (decide (i < ρ1.length ∧ j < ρ1.length)) (.ret (.nx ((ρ1.set i q.1).set j q.2))) := id rfl
theorem sPar3_e {i j l : Nat} {f : B'} {s0 : Sl} {ρ0 : Env'} : sPar3 i j l f (s0 :: ρ0) = (f (s0 :: ρ0)).bind2 fun ss ρ1 => T.ofO (three ss) fun q => T.need (decide (i < ρ1.length ∧ j < ρ1.length ∧ l < ρ1.length)) (.ret (.nx (((ρ1.set i q.1).set j q.2.1).set l q.2.2))) := id rfl
theorem sFor_e {f : A'} {g : G'} {b : S'} {s0 : Sl} {ρ0 : Env'} : sFor f g b (s0 :: ρ0) = (f (s0 :: ρ0)).bind2 fun xs ρ1 => loopT g b xs ρ1 := id rfl
theorem sWhile_e {n : Nat} {c : C'} {b : S'} {s0 : Sl} {ρ0 : Env'} : sWhile n c b (s0 :: ρ0) = whileT c b n (s0 :: ρ0) := id rfl
theorem sSetL_e {i : Nat} {f g : E'} {s0 : Sl} {ρ0 : Env'} : sSetL i f g (s0 :: ρ0) = (f (s0 :: ρ0)).bind2 fun s ρ1 => T.ofO s.dat fun y => T.ofO (ownO i ρ1) fun _ => (g ρ1).bind2 fun s2 ρ2 => T.ofO s2.dat fun d => T.ofO (dint d) fun j => T.need (decide (0 ≤ j)) (T.ofO (ownO i ρ2) fun xs => T.need (decide (j < (xs.length : Nat))) (.ret (.nx (ρ2.set i (.ol (xs.set j.toNat y)))))) := id rfl
theorem sSetD_e {i : Nat} {f g : E'} {s0 : Sl} {ρ0 : Env'} : sSetD i f g (s0 :: ρ0) = (f (s0 :: ρ0)).bind2 fun s ρ1 => T.ofO s.dat fun y => T.ofO (odO i ρ1) fun _ => (g ρ1).bind2 fun s2 ρ2 => T.ofO s2.dat fun d => T.ofO (keyD d) fun j => T.ofO (odO i ρ2) fun q => T.need (decide (q.1.length < 1000000)) (.ret (.nx (ρ2.set i (.od (putD q.1 q.2 j y).1 (putD q.1 q.2 j y).2)))) := id rfl
theorem sSetF_e {C : Addr} {i : Nat} {n : Str} {f : E'} {s0 : Sl} {ρ0 : Env'} : sSetF C i n f (s0 :: ρ0) = (f (s0 :: ρ0)).bind2 fun s ρ1 => T.ofO s.dat fun y => T.ofO (instO C i ρ1) fun q => T.need (decide (q.2.1.length < 1000)) (.ret (.nx (ρ1.set i (q.1.withF (putN q.2.1 q.2.2 n y).1 (putN q.2.1 q.2.2 n y).2)))) := id rfl
theorem sMatch_e {f : E'} {m : Str → S'} {s0 : Sl} {ρ0 : Env'} : sMatch f m (s0 :: ρ0) = (f (s0 :: ρ0)).bind2 fun s ρ1 => T.ofO (s.dat.bind dstr) fun z => m z ρ1 := id rfl
theorem iL_e {f : E'} {s0 : Sl} {ρ0 : Env'} : iL' f (s0 :: ρ0) = (f (s0 :: ρ0)).bind2 fun s ρ1 => T.ofO (s.dat.bind dlst) fun xs => .ret (xs, ρ1) := id rfl
theorem iT_e {f : E'} {s0 : Sl} {ρ0 : Env'} : iT' f (s0 :: ρ0) = (f (s0 :: ρ0)).bind2 fun s ρ1 => T.ofO (s.dat.bind dtup) fun xs => .ret (xs, ρ1) := id rfl
theorem iS_e {f : E'} {s0 : Sl} {ρ0 : Env'} : iS' f (s0 :: ρ0) = (f (s0 :: ρ0)).bind2 fun s ρ1 => T.ofO (s.dat.bind dstr) fun z => .ret (signs z, ρ1) := id rfl
theorem iR_e {f : A'} {s0 : Sl} {ρ0 : Env'} : iR' f (s0 :: ρ0) = (f (s0 :: ρ0)).bind2 fun ys ρ1 => T.ofO (int1 ys) fun n => T.need (decide (-1000000 < n ∧ n < 1000000)) (.ret (upto n, ρ1)) := id rfl
theorem iEn_e {f : A'} {s0 : Sl} {ρ0 : Env'} : iEn' f (s0 :: ρ0) = (f (s0 :: ρ0)).bind2 fun ys ρ1 => T.ofO (lst1 ys) fun xs => .ret (numbered xs, ρ1) := id rfl
theorem eLc_e {f : A'} {g : G'} {tt : C'} {te : E'} {vs : List Nat} {s0 : Sl} {ρ0 : Env'} : eLc f g tt te vs (s0 :: ρ0) = (f (s0 :: ρ0)).bind2 fun xs ρ1 => lcT g tt te vs xs [] (wipeD ρ1 vs) := id rfl
theorem tYes_e {s0 : Sl} {ρ0 : Env'} : tYes' (s0 :: ρ0) = .ret (true, (s0 :: ρ0)) := id rfl
theorem eDc_e {f : A'} {g : G'} {tt : C'} {tk tv : E'} {vs : List Nat} {s0 : Sl} {ρ0 : Env'} : eDc f g tt tk tv vs (s0 :: ρ0) = (f (s0 :: ρ0)).bind2 fun xs ρ1 => dcT g tt tk tv vs xs [] [] (wipeD ρ1 vs) := id rfl
theorem iEnA_e {f : A'} {s0 : Sl} {ρ0 : Env'} : iEnA' f (s0 :: ρ0) = (f (s0 :: ρ0)).bind2 fun ys ρ1 => T.ofO ((cp ys).bind seqD) fun xs => .ret (numbered xs, ρ1) := id rfl
theorem iSq_e {f : E'} {s0 : Sl} {ρ0 : Env'} : iSq' f (s0 :: ρ0) = (f (s0 :: ρ0)).bind2 fun s ρ1 => T.ofO (s.dat.bind itemsD) fun xs => .ret (xs, ρ1) := id rfl
theorem eFnP_e {n m N : Nat} {is : List Nat} {t : M} {f g : B'} {s0 : Sl} {ρ0 : Env'} : eFnP n m N is t f g (s0 :: ρ0) = (f (s0 :: ρ0)).bind2 fun ss ρ1 => T.need (ss.all argOk) ((g ρ1).bind2 fun zs ρ2 => T.need (zs.all argOk && ((ss.length == n) && ((zs.length == m) && ((pk is (ss ++ zs)).length == N)))) (back (t (pk is (ss ++ zs))) ρ2)) := id rfl
theorem eMethP_e {C : Addr} {x : Str} {m N : Nat} {is : List Nat} {t : M} {f : E'} {g : B'} {s0 : Sl} {ρ0 : Env'} : eMethP C x m N is t f g (s0 :: ρ0) = (f (s0 :: ρ0)).bind2 fun s ρ1 => T.ofO s.dat fun d => T.ofO (insOf C d) fun q => T.need (lkF q.1 q.2 x).isNone
 ((g ρ1).bind2 fun ss ρ2 => T.need ((ss.length == m) && (ss.all argOk && ((pk is ss).length + 1 == N))) (back (t (.d d :: pk is ss)) ρ2)) := rfl
theorem eMakeP_e {C : Addr} {n m N : Nat} {is : List Nat} {t : MI} {f g : B'} {s0 : Sl} {ρ0 : Env'} : eMakeP C n m N is t f g (s0 :: ρ0) = (f (s0 :: ρ0)).bind2 fun ss ρ1 => T.need (ss.all argOk) ((g ρ1).bind2 fun zs ρ2 => T.need (zs.all argOk && ((ss.length == n) && ((zs.length == m) && ((pk is (ss ++ zs)).length + 1 == N)))) ((t (pk is (ss ++ zs))).bind2 fun ns vs => .ret (.oi C ns vs, ρ2))) := id rfl
theorem eSortSet_e {f : E'} {s0 : Sl} {ρ0 : Env'} : eSortSet f (s0 :: ρ0) = (f (s0 :: ρ0)).bind2 fun s ρ1 => T.ofO (s.dat.bind dlst) fun xs => T.ofO (intsD xs) fun ns => T.need (decide (ns.length ≤ 60)) (.ret (.ol ((uniqI ns).map D.int), ρ1)) := id rfl
theorem eRev_e {f : E'} {s0 : Sl} {ρ0 : Env'} : eRev f (s0 :: ρ0) = (f (s0 :: ρ0)).bind2 fun s ρ1 => T.ofO (s.dat.bind dlst) fun xs => .ret (.ol xs.reverse, ρ1) := id rfl
theorem eListRg_e {f : E'} {s0 : Sl} {ρ0 : Env'} : eListRg f (s0 :: ρ0) = (f (s0 :: ρ0)).bind2 fun s ρ1 => T.ofO (intO s) fun n => T.need (decide (-1000000 < n ∧ n < 1000000)) (.ret (.ol (upto n), ρ1)) := id rfl
theorem oAdd_ii {i j : Int} : oAdd (.int i) (.int j) = .ret (.d (.int (i + j))) := id rfl
theorem oAdd_ss {a b : Str} : oAdd (.str a) (.str b) = T.need (decide (a.length + b.length ≤ 100000)) (.ret (.d (.str (a ++ b)))) := id rfl
theorem oAdd_ll {a b : List D} : oAdd (.lst a) (.lst b) = T.need (decide (a.length + b.length ≤ 100000)) (.ret (.ol (a ++ b))) := id rfl
theorem oAdd_tt {a b : List D} : oAdd (.tup a) (.tup b) = T.need (decide (a.length + b.length ≤ 100000)) (.ret (.d (.tup (a ++ b)))) := id rfl
theorem oSub_ii {i j : Int} : oSub (.int i) (.int j) = .ret (.d (.int (i - j))) := id rfl
theorem oMul_ii {i j : Int} : oMul (.int i) (.int j) = T.need (decide (-1000000000000 < i ∧ i < 1000000000000)) (.ret (.d (.int (i * j)))) := id rfl
theorem oMul_li {a : List D} {j : Int} : oMul (.lst a) (.int j) = T.need (decide (0 ≤ j ∧ j ≤ 1000 ∧ a.length ≤ 1000)) (.ret (.ol (reps a j))) := id rfl
theorem oMod_ii {i j : Int} : oMod (.int i) (.int j) = T.need (decide (0 < j)) (.ret (.d (.int (i % j)))) := id rfl
theorem oFdv_ii {i j : Int} : oFdv (.int i) (.int j) = T.need (decide (0 < j ∧ j < 1000000000)) (.ret (.d (.int (i.fdiv j)))) := id rfl
theorem oLt_ii {i j : Int} : oLt (.int i) (.int j) = .ret (.d (.bl (decide (i < j)))) := id rfl
theorem oLe_ii {i j : Int} : oLe (.int i) (.int j) = .ret (.d (.bl (decide (i ≤ j)))) := id rfl
theorem oGt_ii {i j : Int} : oGt (.int i) (.int j) = .ret (.d (.bl (decide (j < i)))) := id rfl
theorem oGe_ii {i j : Int} : oGe (.int i) (.int j) = .ret (.d (.bl (decide (j ≤ i)))) := id rfl
theorem oEq_e {x y : D} : oEq x y = T.need (ok 60 x && ok 60 y) (.ret (.d (.bl (eqD x y)))) := id rfl
theorem oNe_e {x y : D} : oNe x y = T.need (ok 60 x && ok 60 y) (.ret (.d (.bl (!eqD x y)))) := id rfl
theorem oIsN_e {x : D} : oIsN x .non = .ret (.d (.bl (isNon x))) := id rfl
theorem oNotN_e {x : D} : oNotN x .non = .ret (.d (.bl (!isNon x))) := id rfl
theorem oIn_e {x y : D} : oIn x y = T.ofO (inSeq x y) fun b => .ret (.d (.bl b)) := id rfl
theorem oNotIn_e {x y : D} : oNotIn x y = T.ofO (inSeq x y) fun b => .ret (.d (.bl (!b))) := id rfl
theorem oInD_e {neg : Bool} {x y : D} : oInD neg x y = T.ofO (inDp x y) fun b => .ret (.d (.bl (if neg then !b else b))) := id rfl
theorem fLen_e {xs : List D} : fLen xs = T.ofO (cp xs) fun x => T.ofO (lenD x) fun n => .ret (.d (.int (n : Nat))) := id rfl
theorem fList_e {xs : List D} : fList xs = T.ofO (cp xs) fun x => T.ofO (seqD x) fun ys => .ret (.ol ys) := id rfl
theorem fTuple_e {xs : List D} : fTuple xs = T.ofO (cp xs) fun x => T.ofO (seqD x) fun ys => .ret (.d (.tup ys)) := id rfl
theorem fInt_i {i : Int} : fInt [.int i] = .ret (.d (.int i)) := id rfl
theorem fInt_b {b : Bool} : fInt [.bl b] = .ret (.d (.int (if b then 1 else 0))) := id rfl
theorem fAll_e {xs : List D} : fAll xs = T.ofO (lst1 xs) fun ys => T.ofO (bls ys) fun bs => .ret (.d (.bl (bs.all id))) := id rfl
theorem fAny_e {xs : List D} : fAny xs = T.ofO (lst1 xs) fun ys => T.ofO (bls ys) fun bs => .ret (.d (.bl (bs.any id))) := id rfl
theorem fSortS_e {xs : List D} : fSortS xs = T.ofO (cp xs) fun x => T.ofO (sortIn x) fun ws => T.need (decide (ws.length < 64) && ws.all sOk) (.ret (.ol ((sortS ws).map D.str))) := id rfl
theorem fRepr_e {xs : List D} : fRepr xs = T.ofO (cp xs) fun x => T.need (shw 60 x && decide (wt x ≤ 100000)) (.ret (.d (.str (reprD x)))) := id rfl
theorem fDict_e {xs : List D} : fDict xs = T.ofO (cp xs) fun x => T.ofO (dicO x) fun q => .ret (.od q.1 q.2) := id rfl
theorem fOwnLen_e {C : Addr} {m : M} {xs : List D} : fOwnLen C m xs = T.ofO (cp xs) fun x => T.ofO (insOf C x) fun _ => (m [.d x]).bind fun s => T.ofO (intO s) fun i => T.need (decide (0 ≤ i ∧ i < 1000000)) (.ret (.d (.int i))) := id rfl
theorem oOwnEq_e {C : Addr} {m : M} {x y : D} : oOwnEq C m x y = T.ofO (insOf C x) fun _ => T.need (!isIns y || (insOf C y).isSome) ((m [.d x, .d y]).bind fun s => T.need (noNo s) (.ret s)) := id rfl
theorem oOwnNe_e {C : Addr} {m : M} {x y : D} : oOwnNe C m x y = T.ofO (insOf C x) fun _ => T.need (!isIns y || (insOf C y).isSome) ((m [.d x, .d y]).bind fun s => T.ofO (blO s) fun b => .ret (.d (.bl (!b)))) := id rfl
theorem drawM_e {m : Int} : drawM [.src, .d (.int m)] = .draw m fun r => .ret (.d (.int r)) := id rfl
theorem aNil_e' {ρ : Env'} : aNil ρ = .ret ([], ρ) := id rfl
theorem bNil_e' {ρ : Env'} : bNil' ρ = .ret ([], ρ) := id rfl
theorem isT_strD {s : Str} : isT "str" (.str s) = true := id rfl
theorem ok_non {n : Nat} : ok n .non = true := by cases n <;> rfl
theorem ok_bl {n : Nat} {b : Bool} : ok n (.bl b) = true := by cases n <;> rfl
theorem ok_int {n : Nat} {b : Int} : ok n (.int b) = true := by cases n <;> rfl
theorem ok_str {n : Nat} {b : Str} : ok n (.str b) = true := by cases n <;> rfl
theorem ok_lst {n : Nat} {xs : List D} : ok (n + 1) (.lst xs) = xs.all (ok n) := id rfl
theorem ok_tup {n : Nat} {xs : List D} : ok (n + 1) (.tup xs) = xs.all (ok n) := id rfl
theorem ixD_tup {xs : List D} {i : Int} : ixD (.tup xs) (.int i) = atI xs i := id rfl
theorem ixD_lst {xs : List D} {i : Int} : ixD (.lst xs) (.int i) = atI xs i := id rfl
theorem atI_nn {α : Type} {xs : List α} {n : Nat} (h : n < xs.length) : atI xs (n : Int) = xs[n]? := by
  have e : ixN xs.length (n : Int) = some n := by unfold ixN; rw [if_pos (by omega), if_pos (by omega)]; simp
  unfold atI
  rw [e]; rfl
theorem atI_0 {α : Type} {a : α} {xs : List α} : atI (a :: xs) 0 = some a := atI_nn (n := 0) (by simp)
theorem atI_1 {α : Type} {a b : α} {xs : List α} : atI (a :: b :: xs) 1 = some b := atI_nn (n := 1) (by simp)
theorem atI_2 {α : Type} {a b c : α} {xs : List α} : atI (a :: b :: c :: xs) 2 = some c := atI_nn (n := 2) (by simp)
theorem atI_3 {α : Type} {a b c d : α} {xs : List α} : atI (a :: b :: c :: d :: xs) 3 = some d := atI_nn (n := 3) (by simp)
theorem atI_4 {α : Type} {a b c d e : α} {xs : List α} : atI (a :: b :: c :: d :: e :: xs) 4 = some e := atI_nn (n := 4) (by simp)
theorem atI_5 {α : Type} {a b c d e f : α} {xs : List α} : atI (a :: b :: c :: d :: e :: f :: xs) 5 = some f := atI_nn (n := 5) (by simp)
theorem atI_6 {α : Type} {a b c d e f g : α} {xs : List α} : atI (a :: b :: c :: d :: e :: f :: g :: xs) 6 = some g := atI_nn (n := 6) (by simp)
theorem atI_7 {α : Type} {a b c d e f g h : α} {xs : List α} : atI (a :: b :: c :: d :: e :: f :: g :: h :: xs) 7 = some h := atI_nn (n := 7) (by simp)
theorem eqD_bl (a b : Bool) : eqD (.bl a) (.bl b) = (a == b) := by
  cases a <;> cases b <;> rfl
theorem cast2 : ((2 : Nat) : Int) = 2 := id rfl
theorem cast0 : ((0 : Nat) : Int) = 0 := id rfl
theorem cast1 : ((1 : Nat) : Int) = 1 := id rfl
theorem cast3 : ((3 : Nat) : Int) = 3 := id rfl
theorem cast4 : ((4 : Nat) : Int) = 4 := id rfl
theorem cast5 : ((5 : Nat) : Int) = 5 := id rfl
theorem cast6 : ((6 : Nat) : Int) = 6 := id rfl
theorem cast7 : ((7 : Nat) : Int) = 7 := id rfl
theorem cast8 : ((8 : Nat) : Int) = 8 := id rfl
theorem slD_lst {xs : List D} {lo hi : Option Int} : slD (.lst xs) lo hi = some (.ol (cutD xs lo hi)) := id rfl
theorem slD_tup {xs : List D} {lo hi : Option Int} : slD (.tup xs) lo hi = some (.d (.tup (cutD xs lo hi))) := id rfl
theorem slD_str {z : Str} {lo hi : Option Int} : slD (.str z) lo hi = some (.d (.str (cutS z lo hi))) := id rfl
theorem cut_1 {a : D} {xs : List D} : cutD (a :: xs) (some 1) none = xs := by
  unfold cutD HT.sIx
  simp
theorem cut_2 {a b : D} {xs : List D} : cutD (a :: b :: xs) (some 2) none = xs := by
  unfold cutD HT.sIx
  simp
theorem cut_3 {a b c : D} {xs : List D} : cutD (a :: b :: c :: xs) (some 3) none = xs := by
  unfold cutD HT.sIx
  simp
theorem isN_non : Fl.isNon .non = true := id rfl
theorem isN_tup {xs : List D} : Fl.isNon (.tup xs) = false := id rfl
theorem isN_int {i : Int} : Fl.isNon (.int i) = false := id rfl
end
end Tr
namespace Tr
open PySem L2 Fl
section
variable {Z : Exc → Prop} {g : G'} {b : S'} {Q : Out → Prop} {vs : List Nat} {te tk tv : E'} {tt c : C'} {ρ : Env'}
/-- what a turn must bring -/
def turn (I : Env' → Prop) (Q : Out → Prop) : Out → Prop
  | .nx ρ => I ρ
  | .ct ρ => I ρ
  | .bk ρ => Q (.nx ρ)
  | .rt s => Q (.rt s)
theorem wp_loop (I : List D → Env' → Prop) : ∀ (xs pre : List D) (ρ : Env'), I pre ρ →
    (∀ p x q ρ, pre ++ xs = p ++ x :: q → I p ρ → wp Z ((g (.d x) ρ).bind b) (turn (I (p ++ [x])) Q)) → (∀ ρ, I (pre ++ xs) ρ → Q (.nx ρ)) → wp Z (loopT g b xs ρ) Q
  | [], pre, ρ, h, _, hd => hd ρ (by rw [List.append_nil]; exact h)
  | x :: xs, pre, ρ, h, hs, hd => by
    have e : pre ++ x :: xs = (pre ++ [x]) ++ xs := by simp
    have h1 := wp_bind.mp (hs pre x xs ρ rfl h)
    unfold loopT
    refine wp_bind.mpr (wp_mono (fun ρ' q => wp_bind.mpr (wp_mono (fun o q => ?_) q)) h1)
    have rec_ : ∀ ρ2, I (pre ++ [x]) ρ2 → wp Z (loopT g b xs ρ2) Q := fun ρ2 q => wp_loop I xs (pre ++ [x]) ρ2 q (fun p y r ρ3 e2 => hs p y r ρ3 (by rw [e, e2])) (by rw [← e]; exact hd)
    cases o with
    | nx ρ2 => exact rec_ ρ2 q
    | ct ρ2 => exact rec_ ρ2 q
    | bk ρ2 => exact q
    | rt s => exact q
theorem wp_loopS (I : Env' → Prop) {xs : List D} {ρ : Env'} (h : I ρ) (hs : ∀ x ∈ xs, ∀ ρ, I ρ → wp Z ((g (.d x) ρ).bind b) (turn I Q)) (hd : ∀ ρ, I ρ → Q (.nx ρ)) : wp Z (loopT g b xs ρ) Q :=
  wp_loop (fun _ => I) xs [] ρ h (fun p x q ρ e => hs x (by rw [List.nil_append] at e; rw [e]; simp) ρ) fun ρ h => hd ρ h
/-- one item of a comprehension -/
def stepC (g : G') (tt : C') (te : E') (vs : List Nat) (x : D) (ρ : Env') : T (Option D × Env') :=
  (g (.d x) ρ).bind fun ρ1 => (tt ρ1).bind2 fun b ρ2 => if b = true then (te ρ2).bind2 fun s ρ3 => T.ofO s.dat fun y => .ret (some y, wipeD ρ3 vs) else .ret (none, wipeD ρ2 vs)
def goC (g : G') (tt : C') (te : E') (vs : List Nat) (xs acc : List D) (o : Option D) (ρ : Env') : T (Sl × Env') := match o with
  | some y => T.need (decide (acc.length < 1000000)) (lcT g tt te vs xs (acc ++ [y]) ρ)
  | none => lcT g tt te vs xs acc ρ
theorem lcT_cons {x : D} {xs acc : List D} : lcT g tt te vs (x :: xs) acc ρ = (stepC g tt te vs x ρ).bind2 (goC g tt te vs xs acc) := by
  unfold stepC
  rw [bind_bind2']
  show (g (.d x) ρ).bind _ = _
  congr 1
  funext ρ1
  rw [bind2_bind2]
  congr 1
  funext b ρ2
  cases b with
  | true =>
    rw [if_pos rfl, if_pos rfl, bind2_bind2]
    congr 1
    funext s ρ3
    rw [ofO_bind2]
    congr 1
  | false => rfl
theorem lc_fmap (fo : D → Option D) : ∀ (xs acc : List D), (acc.length + xs.length) < 1000000 → (∀ x ∈ xs, stepC g tt te vs x ρ = .ret (fo x, ρ)) → lcT g tt te vs xs acc ρ = .ret (.ol (acc ++ xs.filterMap fo), ρ)
  | [], acc, _, _ => by rw [List.filterMap_nil, List.append_nil]; rfl
  | x :: xs, acc, hl, h => by
    rw [List.length_cons] at hl
    rw [lcT_cons, h x (by simp), bind2_ret, List.filterMap_cons]
    cases e : fo x with
    | none => exact lc_fmap fo xs acc (by omega) fun y hy => h y (List.mem_cons_of_mem _ hy)
    | some y =>
      show T.need (decide (acc.length < 1000000)) _ = _
      rw [decide_eq_true (by omega), need_true, lc_fmap fo xs (acc ++ [y]) (by rw [List.length_append]; simp; omega) fun y hy => h y (List.mem_cons_of_mem _ hy)]
      simp
theorem lc_map (f : D → D) (xs acc : List D) (hl : acc.length + xs.length < 1000000) (h : ∀ x ∈ xs, stepC g tt te vs x ρ = .ret (some (f x), ρ)) : lcT g tt te vs xs acc ρ = .ret (.ol (acc ++ xs.map f), ρ) := by
  rw [lc_fmap (fun x => some (f x)) xs acc hl h]
  congr 3
  rw [List.filterMap_eq_map']
theorem lc_rel (Rf : D → D → Prop) {P : Sl × Env' → Prop} : ∀ (xs acc : List D), (acc.length + xs.length) < 1000000 → (∀ x ∈ xs, wp Z (stepC g tt te vs x ρ) fun r => ∃ y, r = (some y, ρ) ∧ Rf x y) →
    (∀ ys, ys.length = xs.length → (∀ y ∈ ys, ∃ x ∈ xs, Rf x y) → P (.ol (acc ++ ys), ρ)) → wp Z (lcT g tt te vs xs acc ρ) P
  | [], acc, _, _, hd => by
    have h := hd [] rfl (by simp)
    rw [List.append_nil] at h
    exact h
  | x :: xs, acc, hl, h, hd => by
    rw [List.length_cons] at hl
    rw [lcT_cons]
    refine wp_bind2.mpr (wp_mono ?_ (h x (by simp)))
    rintro r ⟨y, rfl, hy⟩
    show wp Z (T.need (decide (acc.length < 1000000)) _) P
    rw [decide_eq_true (by omega), need_true]
    refine lc_rel Rf xs (acc ++ [y]) (by rw [List.length_append]; simp; omega) (fun z hz => h z (List.mem_cons_of_mem _ hz)) fun ys hy2 hys => ?_
    rw [List.append_assoc]
    refine hd (y :: ys) (by simp [hy2]) fun z hz => ?_
    rcases List.mem_cons.mp hz with rfl | hz
    · exact ⟨x, by simp, hy⟩
    · obtain ⟨w, hw, hr⟩ := hys z hz
      exact ⟨w, List.mem_cons_of_mem _ hw, hr⟩
/-- one item of a dict comprehension -/
def stepK (g : G') (tt : C') (tk tv : E') (vs : List Nat) (x : D) (ρ : Env') : T (Option (Key × D) × Env') :=
  (g (.d x) ρ).bind fun ρ1 => (tt ρ1).bind2 fun b ρ2 => if b = true then (tk ρ2).bind2 fun s ρ3 => T.ofO s.dat fun y => (tv ρ3).bind2 fun s2 ρ4 => T.ofO s2.dat fun z => T.ofO (keyD y) fun j => .ret (some (j, z), wipeD ρ4 vs) else .ret (none, wipeD ρ2 vs)
def goK (g : G') (tt : C') (tk tv : E') (vs : List Nat) (xs : List D) (ks : List Key) (us : List D) (o : Option (Key × D)) (ρ : Env') : T (Sl × Env') := match o with
  | some q => T.need (decide (ks.length < 1000000)) (dcT g tt tk tv vs xs (putD ks us q.1 q.2).1 (putD ks us q.1 q.2).2 ρ)
  | none => dcT g tt tk tv vs xs ks us ρ
theorem dcT_cons {x : D} {xs : List D} {ks : List Key} {us : List D} : dcT g tt tk tv vs (x :: xs) ks us ρ = (stepK g tt tk tv vs x ρ).bind2 (goK g tt tk tv vs xs ks us) := by
  unfold stepK
  rw [bind_bind2']
  show (g (.d x) ρ).bind _ = _
  congr 1
  funext ρ1
  rw [bind2_bind2]
  congr 1
  funext b ρ2
  cases b with
  | true =>
    rw [if_pos rfl, if_pos rfl, bind2_bind2]
    congr 1
    funext s ρ3
    rw [ofO_bind2]
    congr 1
    funext y
    rw [bind2_bind2]
    congr 1
    funext s2 ρ4
    rw [ofO_bind2]
    congr 1
    funext z
    rw [ofO_bind2]
    congr 1
  | false => rfl
/-- a dict comprehension with new keys -/
theorem dc_map (fk : D → Key) (fv : D → D) : ∀ (xs pre : List D), (pre.length + xs.length) < 1000000 → ((pre ++ xs).map fk).Nodup → (∀ x ∈ xs, stepK g tt tk tv vs x ρ = .ret (some (fk x, fv x), ρ)) →
    dcT g tt tk tv vs xs (pre.map fk) (pre.map fv) ρ = .ret (.od ((pre ++ xs).map fk) ((pre ++ xs).map fv), ρ)
  | [], pre, _, _, _ => by rw [List.append_nil]; rfl
  | x :: xs, pre, hl, hn, h => by
    have e : pre ++ x :: xs = (pre ++ [x]) ++ xs := by simp
    rw [List.length_cons] at hl
    rw [dcT_cons, h x (by simp), bind2_ret]
    show T.need (decide ((pre.map fk).length < 1000000)) _ = _
    have hnew : fk x ∉ pre.map fk := by
      rw [List.map_append, List.map_cons] at hn
      intro hm
      exact (List.nodup_append.mp hn).2.2 _ hm (fk x) (by simp) rfl
    rw [decide_eq_true (by rw [List.length_map]; omega), need_true, putD_new (by simp) hnew]
    have h2 := dc_map fk fv xs (pre ++ [x]) (by rw [List.length_append]; simp; omega) (by rw [← e]; exact hn) fun y hy => h y (List.mem_cons_of_mem _ hy)
    rw [List.map_append, List.map_append] at h2
    rw [e]
    exact h2
theorem dc_map0 (fk : D → Key) (fv : D → D) (xs : List D) (hl : xs.length < 1000000) (hn : (xs.map fk).Nodup) (h : ∀ x ∈ xs, stepK g tt tk tv vs x ρ = .ret (some (fk x, fv x), ρ)) :
    dcT g tt tk tv vs xs [] [] ρ = .ret (.od (xs.map fk) (xs.map fv), ρ) := dc_map fk fv xs [] (by simpa using hl) hn h
/-- a while by a number that falls -/
theorem wp_while (I : Nat → Env' → Prop) : ∀ (m n : Nat) (ρ : Env'), m < n → I m ρ → (∀ m ρ, I m ρ → wp Z (c ρ) fun t => if t.1 = true then wp Z (b t.2) (turn (fun ρ' => ∃ m', m' < m ∧ I m' ρ') Q) else Q (.nx t.2)) → wp Z (whileT c b n ρ) Q
  | m, 0, _, h, _, _ => absurd h (Nat.not_lt_zero m)
  | m, n + 1, ρ, h, hI, hs => by
    unfold whileT
    refine wp_bind2.mpr (wp_mono (fun t q => ?_) (hs m ρ hI))
    by_cases ht : t.1 = true
    · rw [if_pos ht] at q ⊢
      refine wp_bind.mpr (wp_mono (fun o q => ?_) q)
      cases o with
      | nx ρ2 => obtain ⟨m', h1, h2⟩ := q; exact wp_while I m' n ρ2 (by omega) h2 hs
      | ct ρ2 => obtain ⟨m', h1, h2⟩ := q; exact wp_while I m' n ρ2 (by omega) h2 hs
      | bk ρ2 => exact q
      | rt s => exact q
    · rw [if_neg ht] at q ⊢
      exact q
theorem stepC_e {s0 : Sl} {ρ0 : Env'} {x : D} : stepC g tt te vs x (s0 :: ρ0) = (g (.d x) (s0 :: ρ0)).bind fun ρ1 => (tt ρ1).bind2 fun b ρ2 => if b = true then (te ρ2).bind2 fun s ρ3 => T.ofO s.dat fun y => .ret (some y, wipeD ρ3 vs) else .ret (none, wipeD ρ2 vs) := id rfl
theorem stepK_e {s0 : Sl} {ρ0 : Env'} {x : D} : stepK g tt tk tv vs x (s0 :: ρ0) = (g (.d x) (s0 :: ρ0)).bind fun ρ1 => (tt ρ1).bind2 fun b ρ2 => if b = true then (tk ρ2).bind2 fun s ρ3 => T.ofO s.dat fun y => (tv ρ3).bind2 fun s2 ρ4 => T.ofO s2.dat fun z => T.ofO (keyD y) fun j => .ret (some (j, z), wipeD ρ4 vs) else .ret (none, wipeD ρ2 vs) := id rfl
/-- behind a turn -/
def thenL (g : G') (b : S') (xs : List D) : Out → T Out
  | .nx ρ => loopT g b xs ρ
  | .ct ρ => loopT g b xs ρ
  | .bk ρ => .ret (.nx ρ)
  | .rt s => .ret (.rt s)
theorem sNever_e {s0 : Sl} {ρ0 : Env'} : sNever (s0 :: ρ0) = .fail := id rfl
theorem loopT_nil {ρ : Env'} : loopT g b [] ρ = .ret (.nx ρ) := id rfl
theorem loopT_cons {x : D} {xs : List D} {ρ : Env'} : loopT g b (x :: xs) ρ = (g (.d x) ρ).bind fun ρ' => (b ρ').bind (thenL g b xs) := by
  show (g (.d x) ρ).bind _ = _
  congr 1
theorem thenL_nx {xs : List D} {ρ : Env'} : thenL g b xs (.nx ρ) = loopT g b xs ρ := id rfl
theorem thenL_rt {xs : List D} {s : Sl} : thenL g b xs (.rt s) = .ret (.rt s) := id rfl
def instS (C : Addr) : Option Sl → Option (Sl × List Str × List D)
  | some s => match s.inst with
    | some (C', ns, vs) => if C' = C then some (s, ns, vs) else none
    | none => none
  | none => none
theorem instO_e {C : Addr} {i : Nat} {ρ : Env'} : instO C i ρ = instS C ρ[i]? := by
  rfl
theorem instS_bi {C : Addr} {ns : List Str} {vs : List D} : instS C (some (.bi C ns vs)) = some (.bi C ns vs, ns, vs) := if_pos rfl
theorem instS_oi {C : Addr} {ns : List Str} {vs : List D} : instS C (some (.oi C ns vs)) = some (.oi C ns vs, ns, vs) := if_pos rfl
theorem withF_bi {C : Addr} {ns ns' : List Str} {vs vs' : List D} : (Sl.bi C ns vs).withF ns' vs' = .bi C ns' vs' := id rfl
theorem withF_oi {C : Addr} {ns ns' : List Str} {vs vs' : List D} : (Sl.oi C ns vs).withF ns' vs' = .oi C ns' vs' := id rfl
theorem biO_e {C : Addr} {ns : List Str} {vs : List D} {ρ : Env'} : biO C (.bi C ns vs :: ρ) = some (ns, vs) := if_pos rfl
theorem endI_nx {C : Addr} {ρ : Env'} : endI C (.nx ρ) = T.ofO (biO C ρ) .ret := id rfl
theorem defI_e {C : Addr} {k : Nat} {ss : List Sl} : defI C k b ss = (b (.bi C [] [] :: ss ++ List.replicate k .no)).bind (endI C) := id rfl
theorem seqD_items {x : D} {xs : List D} (h : seqD x = some xs) : itemsD x = some xs := by cases x <;> first | exact h | cases h
end
end Tr
namespace Sv
open PySem L2 Fl
def lets : List Nat := (Str.ofString "abcdefghijklmnopqrstuvwxyz").cps.toList
def nameS (s : Str) : Bool := decide (1 ≤ s.length) && (decide (s.length ≤ 8) && s.cps.toList.all fun c => decide (c ∈ lets))
def nameD : D → Bool
  | .str s => nameS s
  | _ => false
def intD : D → Bool
  | .int _ => true
  | _ => false
def indexD (n : Int) : D → Bool
  | .int i => decide (0 ≤ i) && decide (i < n)
  | _ => false
def wordD (ws : List Str) : D → Bool
  | .str s => decide (s ∈ ws)
  | _ => false
def wordsOf (y : D) (ws : List Str) : Prop := y = .tup (ws.map .str) ∨ y = .lst (ws.map .str)
def flatIns : D → Bool
  | .tup xs => xs.all fun y => !isIns y
  | x => !isIns x
def filledD (n : Int) : D → Bool
  | .tup [u, v] => indexD n u && wordD ["r", "w"] v
  | _ => false
def ftName : FT := ft1 (fun x => isIns x = false) fun x => .bl (nameD x)
def ftInteger : FT := ft1 (fun x => isIns x = false) fun x => .bl (intD x)
def ftIndex : FT := fun ss P => ∃ x n, ss = [.d x, .d (.int n)] ∧ isIns x = false ∧ P (.d (.bl (indexD n x)))
def ftWord : FT := fun ss P => ∃ x y ws, ss = [.d x, .d y] ∧ isIns x = false ∧ wordsOf y ws ∧ P (.d (.bl (wordD ws x)))
def ftFilled : FT := fun ss P => ∃ x n, ss = [.d x, .d (.int n)] ∧ flatIns x = true ∧ P (.d (.bl (filledD n x)))
/-- labels, as the law makes them -/
structure LabelsOk (ls : List Str) : Prop where
  lo : 1 ≤ ls.length
  hi : ls.length ≤ 3
  nm : ∀ s ∈ ls, nameS s = true
  so : PyProof.Rows.sortedS ls = true
  nd : ls.Nodup
def cellOk (f : Int) (x : D) : Prop := x = .non ∨ ∃ (i : Int) (s : Str), x = .tup [.int i, .str s] ∧ 0 ≤ i ∧ i < f ∧ (s = "r" ∨ s = "w")
def rowOk (p : Nat) (f : Int) (x : D) : Prop := ∃ cs : List D, x = .tup cs ∧ cs.length = p ∧ ∀ c ∈ cs, cellOk f c
structure GridOk (ls : List Str) (p : Nat) (f : Int) (ks : List Key) (vs : List D) : Prop where
  ln : ks.length = vs.length
  sz : ks.length = ls.length
  al : ∀ s ∈ ls, Sum.inr s ∈ ks
  rw_ : ∀ v ∈ vs, rowOk p f v
/-- the parts of a world -/
structure Parts where
  ls : List Str
  p : Nat
  f : Int
  ks : List Key
  vs : List D
  t : Bool
  c : Bool
  e : Bool
structure Parts.Ok (q : Parts) : Prop where
  l : LabelsOk q.ls
  p1 : 1 ≤ q.p
  p4 : q.p ≤ 4
  f1 : 1 ≤ q.f
  f4 : q.f ≤ 4
  g : GridOk q.ls q.p q.f q.ks q.vs
def Parts.lsD (q : Parts) : D := .tup (q.ls.map .str)
def Parts.rules (q : Parts) : D := .tup [.bl q.t, .bl q.c, .bl q.e]
def Parts.grid (q : Parts) : D := .dic q.ks q.vs
def Parts.d (q : Parts) : D := .tup [q.lsD, .int q.p, .int q.f, q.grid, q.rules]
def Parts.rowOf (q : Parts) (s : Str) : D := (lkD q.ks q.vs (.inr s)).getD .non
def fldN : List Str := ["own_spaces", "own_pages", "own_frames", "own_tables", "own_rules"]
def Parts.flds (q : Parts) : List D := [q.lsD, .int q.p, .int q.f, .dic (q.ls.map .inr) (q.ls.map q.rowOf), q.rules]
def ftSpaces : FT := fun ss P => ∃ ls, ss = [.d (.tup (ls.map .str))] ∧ LabelsOk ls ∧ P (.d (.bl true))
def ftTable : FT := fun ss P => ∃ x p f, ss = [.d x, .d (.int (p : Nat)), .d (.int f)] ∧ p ≤ 4 ∧ rowOk p f x ∧ P (.d (.bl true))
def ftTables : FT := fun ss P => ∃ q : Parts, ss = [.d q.grid, .d q.lsD, .d (.int q.p), .d (.int q.f)] ∧ q.Ok ∧ P (.d (.bl true))
def fiWorld : FI := fun ss P => ∃ q : Parts, ss = [.d q.lsD, .d (.int q.p), .d (.int q.f), .d q.grid, .d (.bl q.t), .d (.bl q.c), .d (.bl q.e)] ∧ q.Ok ∧ P fldN q.flds
theorem nameS_ok {s : Str} (h : nameS s = true) : sOk s = true := by
  unfold nameS at h
  simp only [Bool.and_eq_true, decide_eq_true_eq, List.all_eq_true] at h
  refine sOk_of (sok_cps.mpr fun c hc => ?_) (by omega)
  have := h.2.2 c hc
  have hz : ∀ c ∈ lets, c < 0x110000 := by decide +kernel
  exact hz c this
theorem len_signs (s : Str) : (signs s).length = s.length := by
  unfold signs Str.length
  rw [List.length_map]; simp
end Sv
namespace Sv
open PySem L2 Fl
def keyOf : D → Key
  | .str s => .inr s
  | _ => .inl 0
theorem map_keyOf (ls : List Str) : (ls.map D.str).map keyOf = ls.map Sum.inr := by rw [List.map_map]; rfl
theorem nodup_inr {ls : List Str} (h : ls.Nodup) : (ls.map (Sum.inr : Str → Key)).Nodup := by
  induction ls with
  | nil => exact List.nodup_nil
  | cons x ls ih =>
    have h := List.nodup_cons.mp h
    refine List.nodup_cons.mpr ⟨fun m => ?_, ih h.2⟩
    obtain ⟨y, hy, e⟩ := List.mem_map.mp m
    have : y = x := Sum.inr.inj e
    exact h.1 (this ▸ hy)
theorem sortIn_keys (ls : List Str) (vs : List D) : sortIn (.dic (ls.map Sum.inr) vs) = some ls := by
  show (ls.map Sum.inr).mapM _ = some ls
  induction ls with
  | nil => rfl
  | cons x ls ih => rw [List.map_cons, List.mapM_cons, ih]; rfl
theorem sortIn_strs (ls : List Str) : sortIn (.lst (ls.map D.str)) = some ls := by
  show (ls.map D.str).mapM _ = some ls
  induction ls with
  | nil => rfl
  | cons x ls ih => rw [List.map_cons, List.mapM_cons, ih]; rfl
theorem eqD_strs (xs ys : List Str) : eqD (.lst (xs.map .str)) (.lst (ys.map .str)) = decide (xs = ys) := by
  unfold eqD
  simp only [toPy, PyData.eqv]
  exact eqvAll_strs xs ys
end Sv
namespace Sv
open PySem L2 Fl
theorem insOf_self (C : Addr) (ns : List Str) (vs : List D) : insOf C (.ins C ns vs) = some (ns, vs) := by simp [insOf]
theorem flds_lk (q : Parts) : lkF fldN q.flds "own_spaces" = some q.lsD ∧ lkF fldN q.flds "own_pages" = some (.int q.p) ∧ lkF fldN q.flds "own_frames" = some (.int q.f) ∧ lkF fldN q.flds "own_rules" = some q.rules := by
  have h1 : ¬ ("own_pages" : Str) = "own_spaces" := by decide +kernel
  have h2 : ¬ ("own_frames" : Str) = "own_spaces" := by decide +kernel
  have h3 : ¬ ("own_rules" : Str) = "own_spaces" := by decide +kernel
  have h4 : ¬ ("own_frames" : Str) = "own_pages" := by decide +kernel
  have h5 : ¬ ("own_rules" : Str) = "own_pages" := by decide +kernel
  have h6 : ¬ ("own_rules" : Str) = "own_frames" := by decide +kernel
  have h7 : ¬ ("own_rules" : Str) = "own_tables" := by decide +kernel
  simp [fldN, Parts.flds, lkF, h1, h2, h3, h4, h5, h6, h7]
theorem flds_no (q : Parts) {m : Str} (h : m ∉ fldN) : lkF fldN q.flds m = none := by
  have h : ¬ (m = "own_spaces" ∨ m = "own_pages" ∨ m = "own_frames" ∨ m = "own_tables" ∨ m = "own_rules") := by simpa [fldN] using h
  simp only [not_or] at h
  simp [fldN, Parts.flds, lkF, h.1, h.2.1, h.2.2.1, h.2.2.2.1, h.2.2.2.2]
theorem flds_put (a b c d e : D) : putN [] [] "own_spaces" a = (fldN.take 1, [a]) ∧ putN (fldN.take 1) [a] "own_pages" b = (fldN.take 2, [a, b]) ∧
    putN (fldN.take 2) [a, b] "own_frames" c = (fldN.take 3, [a, b, c]) ∧ putN (fldN.take 3) [a, b, c] "own_tables" d = (fldN.take 4, [a, b, c, d]) ∧
    putN (fldN.take 4) [a, b, c, d] "own_rules" e = (fldN, [a, b, c, d, e]) := by
  have h1 : ¬ ("own_spaces" : Str) = "own_pages" := by decide +kernel
  have h2 : ¬ ("own_spaces" : Str) = "own_frames" := by decide +kernel
  have h3 : ¬ ("own_spaces" : Str) = "own_rules" := by decide +kernel
  have h4 : ¬ ("own_pages" : Str) = "own_frames" := by decide +kernel
  have h5 : ¬ ("own_pages" : Str) = "own_rules" := by decide +kernel
  have h6 : ¬ ("own_frames" : Str) = "own_rules" := by decide +kernel
  have h7 : ¬ ("own_tables" : Str) = "own_rules" := by decide +kernel
  have h8 : ¬ ("own_spaces" : Str) = "own_tables" := by decide +kernel
  have h9 : ¬ ("own_pages" : Str) = "own_tables" := by decide +kernel
  have h10 : ¬ ("own_frames" : Str) = "own_tables" := by decide +kernel
  simp [fldN, putN, h1, h2, h3, h4, h5, h6, h7, h8, h9, h10]
def Parts.obj (C : Addr) (q : Parts) : D := .ins C fldN q.flds
def ftPage (C : Addr) : FT := fun ss P => ∃ q x, ss = [.d (Parts.obj C q), .d x] ∧ isIns x = false ∧ P (.d (.bl (indexD q.p x)))
def entryD (q : Parts) : D → Bool
  | .tup [a, b, c, d] => wordD q.ls a && (indexD q.p b && filledD q.f (.tup [c, d]))
  | _ => false
def ftEntry (C : Addr) : FT := fun ss P => ∃ q x, ss = [.d (Parts.obj C q), .d x] ∧ flatIns x = true ∧ P (.d (.bl (entryD q x)))
theorem filled_cell {f : Int} {x : D} (h : cellOk f x) (n : x ≠ .non) : filledD f x = true ∧ flatIns x = true := by
  rcases h with h | ⟨i, s, rfl, h0, h1, h2⟩
  · exact absurd h n
  · refine ⟨?_, rfl⟩
    show (decide (0 ≤ i) && decide (i < f) && decide (s ∈ (["r", "w"] : List Str))) = true
    rw [decide_eq_true h0, decide_eq_true h1]
    rcases h2 with rfl | rfl <;> decide +kernel
theorem Parts.Ok.row {q : Parts} (ok : q.Ok) {s : Str} (hs : s ∈ q.ls) : lkD q.ks q.vs (.inr s) = some (q.rowOf s) ∧ rowOk q.p q.f (q.rowOf s) := by
  obtain ⟨u, h1, h2⟩ := lkD_mem ok.g.ln (ok.g.al s hs)
  have e : q.rowOf s = u := by unfold Parts.rowOf; rw [h1]; rfl
  rw [e]
  exact ⟨h1, ok.g.rw_ u h2⟩
end Sv
namespace Sv
open PySem L2 Fl
/-- what a draw's body computes -/
theorem spot_of {ns : List Int} (hn : ns ≠ []) (i : Int) : ∃ z, atI (ns.map V.int) (i % ((ns.map V.int).length : Nat)) = some (.int z) ∧ ∃ j, ixN (ns.map V.int).length (i % ((ns.map V.int).length : Nat)) = some j := by
  have hl : 0 < (ns.map V.int).length := by rw [List.length_map]; exact List.length_pos_iff.mpr hn
  have h0 : 0 ≤ i % (((ns.map V.int).length : Nat) : Int) := Int.emod_nonneg _ (by omega)
  have h1 : i % (((ns.map V.int).length : Nat) : Int) < ((ns.map V.int).length : Nat) := Int.emod_lt_of_pos _ (by omega)
  have e : ixN (ns.map V.int).length (i % ((ns.map V.int).length : Nat)) = some (i % ((ns.map V.int).length : Nat)).toNat := by
    unfold ixN
    rw [if_pos h0, if_pos h1]
  have hj : (i % ((ns.map V.int).length : Nat)).toNat < ns.length := by rw [List.length_map] at h0 h1 ⊢; omega
  refine ⟨ns[(i % ((ns.map V.int).length : Nat)).toNat], ?_, _, e⟩
  unfold atI
  rw [e]
  simp only [Option.bind_some, List.getElem?_map, List.getElem?_eq_getElem hj, Option.map_some]
end Sv
namespace Tr
open PySem L2 Fl Sv
theorem ofS_inj {a b : String} : (Str.ofString a = Str.ofString b) = (a = b) := by
  apply propext
  constructor
  · intro h
    rw [Str.ofString_eq_toList, Str.ofString_eq_toList] at h
    have h1 : a.toList.map Char.toNat = b.toList.map Char.toNat := by
      have := congrArg (fun s : Str => s.cps.toList) h
      simpa using this
    have inj : ∀ (l m : List Char), l.map Char.toNat = m.map Char.toNat → l = m := by
      intro l
      induction l with
      | nil => intro m e; cases m with
        | nil => rfl
        | cons => cases e
      | cons x l ih =>
        intro m e
        cases m with
        | nil => cases e
        | cons y m =>
          rw [List.map_cons, List.map_cons] at e
          injection e with e1 e2
          have : x = y := Char.ext (UInt32.toNat_inj.mp e1)
          rw [this, ih m e2]
    have h2 := inj _ _ h1
    exact String.toList_inj.mp h2
  · rintro rfl; rfl
theorem eqD_tnil {x : D} {xs : List D} : eqD (.tup (x :: xs)) (.tup []) = false := rfl
theorem inSeq_tup {x : D} {ys : List D} : inSeq x (.tup ys) = if flat x && ys.all flat then some (inD x ys) else none := rfl
theorem inSeq_lst {x : D} {ys : List D} : inSeq x (.lst ys) = if flat x && ys.all flat then some (inD x ys) else none := rfl
theorem flat_int {i : Int} : flat (.int i) = true := rfl
theorem flat_str {i : Str} : flat (.str i) = true := rfl
theorem flat_non : flat .non = true := rfl
theorem flat_bl {b : Bool} : flat (.bl b) = true := rfl
theorem inD_nil {x : D} : inD x [] = false := rfl
theorem inD_cons {x y : D} {ys : List D} : inD x (y :: ys) = (eqD y x || inD x ys) := rfl
theorem inDp_tup {x : D} {ys : List D} : inDp x (.tup ys) = if ok 60 x && ok 60 (.tup ys) then some (inD x ys) else none := rfl
theorem inDp_lst {x : D} {ys : List D} : inDp x (.lst ys) = if ok 60 x && ok 60 (.lst ys) then some (inD x ys) else none := rfl
theorem eqD_tcons {x y : D} {xs ys : List D} : eqD (.tup (x :: xs)) (.tup (y :: ys)) = (eqD x y && eqD (.tup xs) (.tup ys)) := by
  unfold eqD
  simp only [toPy, toPys, PyData.eqv, PyData.eqvAll]
theorem eqD_tnil2 {x : D} {xs : List D} : eqD (.tup []) (.tup (x :: xs)) = false := rfl
theorem eqD_tnn : eqD (.tup []) (.tup []) = true := rfl
/-- the world at its class -/
abbrev W (C : Addr) (q : Parts) : D := Parts.obj C q
theorem insW {C : Addr} {q : Parts} : insOf C (Parts.obj C q) = some (fldN, q.flds) := insOf_me
theorem isInsW {C : Addr} {q : Parts} : isIns (Parts.obj C q) = true := rfl
theorem lkW1 {q : Parts} : lkF fldN q.flds (Str.ofString "own_spaces") = some q.lsD := (flds_lk q).1
theorem lkW2 {q : Parts} : lkF fldN q.flds (Str.ofString "own_pages") = some (.int q.p) := (flds_lk q).2.1
theorem lkW3 {q : Parts} : lkF fldN q.flds (Str.ofString "own_frames") = some (.int q.f) := (flds_lk q).2.2.1
theorem lkW5 {q : Parts} : lkF fldN q.flds (Str.ofString "own_rules") = some q.rules := (flds_lk q).2.2.2
theorem lkW4 {q : Parts} : lkF fldN q.flds (Str.ofString "own_tables") = some (.dic (q.ls.map .inr) (q.ls.map q.rowOf)) := by
  have h : ∀ a : String, a ≠ "own_tables" → ¬ (Str.ofString "own_tables" = Str.ofString a) := fun a h e => h (ofS_inj.mp e).symm
  have h1 := h "own_spaces" (by decide)
  have h2 := h "own_pages" (by decide)
  have h3 := h "own_frames" (by decide)
  unfold fldN Parts.flds
  simp only [lkF]
  rw [if_neg h1, if_neg h2, if_neg h3]
  exact if_pos trivial
theorem lkW_no {q : Parts} {m : String} (h : m ∉ ["own_spaces", "own_pages", "own_frames", "own_tables", "own_rules"]) : lkF fldN q.flds (Str.ofString m) = none := by
  refine flds_no q fun hm => h ?_
  simp only [fldN, List.mem_cons, List.not_mem_nil, or_false] at hm ⊢
  rcases hm with e | e | e | e | e
  · exact .inl (ofS_inj.mp e)
  · exact .inr (.inl (ofS_inj.mp e))
  · exact .inr (.inr (.inl (ofS_inj.mp e)))
  · exact .inr (.inr (.inr (.inl (ofS_inj.mp e))))
  · exact .inr (.inr (.inr (.inr (ofS_inj.mp e))))
theorem lkW_page {q : Parts} : lkF fldN q.flds (Str.ofString "is_page") = none := lkW_no (by decide)
theorem lkW_frame {q : Parts} : lkF fldN q.flds (Str.ofString "is_frame") = none := lkW_no (by decide)
theorem lkW_entry {q : Parts} : lkF fldN q.flds (Str.ofString "is_entry") = none := lkW_no (by decide)
theorem lkW_parts {q : Parts} : lkF fldN q.flds (Str.ofString "parts") = none := lkW_no (by decide)
theorem lkW_entries {q : Parts} : lkF fldN q.flds (Str.ofString "entries") = none := lkW_no (by decide)
theorem lkW_need {q : Parts} : lkF fldN q.flds (Str.ofString "need_entry") = none := lkW_no (by decide)
/-- a script at its class -/
def scN : List Str := [Str.ofString "own_world", Str.ofString "own_nodes"]
def Sc (C S : Addr) (q : Parts) (ns : List D) : D := .ins S scN [Parts.obj C q, .tup ns]
theorem insSc {C S : Addr} {q : Parts} {ns : List D} : insOf S (Sc C S q ns) = some (scN, [Parts.obj C q, .tup ns]) := insOf_me
theorem isInsSc {C S : Addr} {q : Parts} {ns : List D} : isIns (Sc C S q ns) = true := rfl
theorem lkS1 {x y : D} : lkF scN [x, y] (Str.ofString "own_world") = some x := if_pos rfl
theorem lkS2 {x y : D} : lkF scN [x, y] (Str.ofString "own_nodes") = some y := by
  unfold scN
  simp only [lkF]
  rw [if_neg (fun e => absurd (ofS_inj.mp e) (by decide)), if_pos trivial]
theorem lkS_no {x y : D} {m : String} (h : m ∉ ["own_world", "own_nodes"]) : lkF scN [x, y] (Str.ofString m) = none := by
  unfold scN
  simp only [List.mem_cons, List.not_mem_nil, or_false, not_or] at h
  simp only [lkF]
  rw [if_neg (fun e => h.1 (ofS_inj.mp e)), if_neg (fun e => h.2 (ofS_inj.mp e))]
theorem lkS_guards {x y : D} : lkF scN [x, y] (Str.ofString "guards") = none := lkS_no (by decide)
theorem lkS_entries {x y : D} : lkF scN [x, y] (Str.ofString "entries") = none := lkS_no (by decide)
theorem scput1 {x : D} : putN [] [] (Str.ofString "own_world") x = ([Str.ofString "own_world"], [x]) := rfl
theorem scput2 {x y : D} : putN [Str.ofString "own_world"] [x] (Str.ofString "own_nodes") y = (scN, [x, y]) := by
  simp only [putN]
  rw [if_neg (fun e => absurd (ofS_inj.mp e) (by decide))]
  rfl
theorem scput3 {x y z : D} : putN scN [x, y] (Str.ofString "own_nodes") z = (scN, [x, z]) := by
  unfold scN
  simp only [putN]
  rw [if_neg (fun e => absurd (ofS_inj.mp e) (by decide)), if_pos trivial]
/-- a step that a world has -/
inductive StepOk (q : Parts) : D → Prop
  | map {l : Str} {i f : Int} {r : Str} : l ∈ q.ls → 0 ≤ i → i < q.p → 0 ≤ f → f < q.f → r ∈ [Str.ofString "r", Str.ofString "w"] → StepOk q (.tup [.str (Str.ofString "map"), .str l, .int i, .int f, .str r])
  | unmap {l : Str} {i : Int} : l ∈ q.ls → 0 ≤ i → i < q.p → StepOk q (.tup [.str (Str.ofString "unmap"), .str l, .int i])
  | flush {l : Str} {i : Int} : l ∈ q.ls → -1 ≤ i → i < q.p → StepOk q (.tup [.str (Str.ofString "flush"), .str l, .int i])
  | ask {l : Str} {i : Int} {r : Str} : l ∈ q.ls → -1 ≤ i → i < q.p → r ∈ [Str.ofString "all", Str.ofString "running"] → StepOk q (.tup [.str (Str.ofString "ask"), .str l, .int i, .str r])
  | raise {l : Str} : l ∈ q.ls → StepOk q (.tup [.str (Str.ofString "raise"), .str l])
  | close {f : Int} {r : Str} : 0 ≤ f → f < q.f → r ∈ [Str.ofString "any", Str.ofString "write"] → StepOk q (.tup [.str (Str.ofString "close"), .int f, .str r])
  | open_ {f : Int} : 0 ≤ f → f < q.f → StepOk q (.tup [.str (Str.ofString "open"), .int f])
  | copy {f g : Int} : 0 ≤ f → f < q.f → 0 ≤ g → g < q.f → StepOk q (.tup [.str (Str.ofString "copy"), .int f, .int g])
  | wait : StepOk q (.tup [.str (Str.ofString "wait")])
  | skip : StepOk q (.tup [.str (Str.ofString "skip")])
/-- ascending indexes below m -/
def nextOk (m : Int) (ns : List Int) : Prop := ns.Pairwise (· < ·) ∧ ∀ i ∈ ns, 0 ≤ i ∧ i < m
def nodeD (st : D) (ns : List Int) : D := .tup [st, .tup (ns.map D.int)]
def NodeOk (q : Parts) (m : Int) (x : D) : Prop := ∃ st ns, x = nodeD st ns ∧ StepOk q st ∧ nextOk m ns
mutual
theorem eqv_self : ∀ x : D, PyData.eqv (toPy x) (toPy x) = true
  | .non => rfl
  | .bl b => by simp [toPy, PyData.eqv]
  | .int i => by simp [toPy, PyData.eqv]
  | .str z => by simp [toPy, PyData.eqv]
  | .lst xs => by simp only [toPy, PyData.eqv]; exact eqvAll_self xs
  | .tup xs => by simp only [toPy, PyData.eqv]; exact eqvAll_self xs
  | .dic _ _ => rfl
  | .ins _ _ _ => rfl
theorem eqvAll_self : ∀ xs : List D, PyData.eqvAll (toPys xs) (toPys xs) = true
  | [] => rfl
  | x :: xs => by simp only [toPys, PyData.eqvAll]; rw [eqv_self x, eqvAll_self xs]; rfl
end
theorem eqD_refl (x : D) : eqD x x = true := eqv_self x
theorem fSort_keysS (ls : List Str) (vs : List D) : fSort [.dic (ls.map Sum.inr) vs] = T.need (decide (ls.length < 64) && ls.all sOk) (.ret (.ol ((sortS ls).map D.str))) := by
  unfold fSort
  rw [cp_one, ofO_some, sortIn_keys]
theorem fSort_strs (ls : List Str) : fSort [.lst (ls.map D.str)] = T.need (decide (ls.length < 64) && ls.all sOk) (.ret (.ol ((sortS ls).map D.str))) := by
  unfold fSort
  rw [cp_one, ofO_some, sortIn_strs]
theorem sortInI_keys (ns : List Int) (vs : List D) : sortInI (.dic (ns.map Sum.inl) vs) = some ns := by
  show (ns.map Sum.inl).mapM _ = some ns
  induction ns with
  | nil => rfl
  | cons x ns ih => rw [List.map_cons, List.mapM_cons, ih]; rfl
theorem fSort_keysI (ns : List Int) (vs : List D) : fSort [.dic (ns.map Sum.inl) vs] = T.need (decide (ns.length < 64)) (.ret (.ol ((sortI ns).map D.int))) := by
  unfold fSort
  rw [cp_one, ofO_some, sortInI_keys]
  cases ns with
  | nil => rfl
  | cons x ns => rfl
theorem sortI_of {ns : List Int} (h : ns.Pairwise (· < ·)) : sortI ns = ns :=
  le_eq (sortI_asc ns) (h.imp fun h => Int.le_of_lt h) (sortI_perm ns)
theorem loop_pass {g : G'} {b : S'} (I : Env' → Prop) : ∀ {xs : List D} {ρ : Env'}, I ρ → (∀ x ∈ xs, ∀ ρ, I ρ → ∃ ρ', (g (.d x) ρ).bind b = .ret (.nx ρ') ∧ I ρ') → ∃ ρ', loopT g b xs ρ = .ret (.nx ρ') ∧ I ρ'
  | [], ρ, h, _ => ⟨ρ, loopT_nil, h⟩
  | x :: xs, ρ, h, k => by
    obtain ⟨ρ1, e, i1⟩ := k x (by simp) ρ h
    obtain ⟨ρ2, e2, i2⟩ := loop_pass I i1 fun y hy => k y (List.mem_cons_of_mem _ hy)
    refine ⟨ρ2, ?_, i2⟩
    rw [loopT_cons, ← bind_assoc, e, bind_ret, thenL_nx, e2]
theorem asc_len {m : Int} : ∀ {ns : List Int} {a : Int}, ns.Pairwise (· < ·) → (∀ i ∈ ns, a ≤ i ∧ i < m) → ns.length ≤ (m - a).toNat
  | [], _, _, _ => Nat.zero_le _
  | x :: xs, a, h, k => by
    obtain ⟨h1, h2⟩ := List.pairwise_cons.mp h
    have := asc_len (a := x + 1) h2 fun i hi => ⟨h1 i hi, (k i (List.mem_cons_of_mem _ hi)).2⟩
    have hx := k x (by simp)
    rw [List.length_cons]
    omega
theorem nextOk_len {m : Int} {ns : List Int} (h : nextOk m ns) : ns.length ≤ m.toNat := by
  have := asc_len h.1 h.2
  rw [Int.sub_zero] at this; exact this
theorem nodup_inl {ns : List Int} (h : ns.Pairwise (· < ·)) : (ns.map (Sum.inl : Int → Key)).Nodup := by
  refine List.Pairwise.map _ (fun a b h e => ?_) h
  have := Sum.inl.inj e
  omega
def keyJ : D → Key
  | .int i => .inl i
  | .str s => .inr s
  | _ => .inl 0
theorem map_keyI (ns : List Int) : (ns.map D.int).map keyJ = ns.map Sum.inl := by
  rw [List.map_map]; rfl
theorem map_keyS (ns : List Str) : (ns.map D.str).map keyJ = ns.map Sum.inr := by
  rw [List.map_map]; rfl
theorem loop_bind {β : Type} {g : G'} {b : S'} {xs : List D} {ρ : Env'} {k : Out → T β} {r : T β} (I : Env' → Prop) (h : I ρ) (hs : ∀ x ∈ xs, ∀ ρ, I ρ → ∃ ρ', (g (.d x) ρ).bind b = .ret (.nx ρ') ∧ I ρ') (hk : ∀ ρ', I ρ' → k (.nx ρ') = r) : (loopT g b xs ρ).bind k = r := by
  obtain ⟨ρ', e, i⟩ := loop_pass I h hs
  rw [e]; exact hk _ i
theorem loop_wp {β : Type} {Z : Exc → Prop} {g : G'} {b : S'} {xs : List D} {ρ : Env'} {k : Out → T β} {P : β → Prop} (I : Env' → Prop) (h : I ρ) (hs : ∀ x ∈ xs, ∀ ρ, I ρ → ∃ ρ', (g (.d x) ρ).bind b = .ret (.nx ρ') ∧ I ρ') (hk : ∀ ρ', I ρ' → wp Z (k (.nx ρ')) P) : wp Z ((loopT g b xs ρ).bind k) P := by
  obtain ⟨ρ', e, i⟩ := loop_pass I h hs
  rw [e]; exact hk _ i
theorem ok_ints {n : Nat} (ns : List Int) : (ns.map D.int).all (ok n) = true := by
  rw [List.all_map]; exact List.all_eq_true.mpr fun _ _ => ok_int
theorem flat_ints (ns : List Int) : (ns.map D.int).all flat = true := by
  rw [List.all_map]; exact List.all_eq_true.mpr fun _ _ => rfl
theorem mem_numbered {xs : List D} {y : D} (h : y ∈ Fl.numbered xs) : ∃ (i : Nat) (hi : i < xs.length), y = .tup [.int (i : Nat), xs[i]] := by
  obtain ⟨i, hi, e⟩ := List.mem_mapIdx.mp h
  exact ⟨i, hi, e.symm⟩
theorem len_numbered (xs : List D) : (Fl.numbered xs).length = xs.length := by unfold Fl.numbered; simp
theorem seqD_cases {y : D} {xs : List D} (h : seqD y = some xs) : y = .lst xs ∨ y = .tup xs := by
  cases y <;> first | (cases h; simp) | cases h
theorem isI_non : isIns .non = false := rfl
theorem isI_bl {b : Bool} : isIns (.bl b) = false := rfl
theorem isI_int {b : Int} : isIns (.int b) = false := rfl
theorem isI_str {b : Str} : isIns (.str b) = false := rfl
theorem isI_lst {b : List D} : isIns (.lst b) = false := rfl
theorem isI_tup {b : List D} : isIns (.tup b) = false := rfl
theorem isI_dic {a : List Key} {b : List D} : isIns (.dic a b) = false := rfl
theorem isI_ins {C : Addr} {a : List Str} {b : List D} : isIns (.ins C a b) = true := rfl
theorem back_draw {m : Int} {k : Int → T Sl} {ρ : Env'} : back (.draw m k) ρ = .draw m fun r => back (k r) ρ := id rfl
theorem bind2_draw {α β γ : Type} {m : Int} {k : Int → T (α × β)} {f : α → β → T γ} : (T.draw m k).bind2 f = .draw m fun r => (k r).bind2 f := id rfl
theorem wdraw {α : Type} {Z : Exc → Prop} {m : Int} {k : Int → T α} {P : α → Prop} (h0 : 0 < m) (h1 : m < 1000000000) (h : ∀ r : Int, 0 ≤ r → r < m → wp Z (k r) P) : wp Z (.draw m k) P := ⟨⟨h0, h1⟩, h⟩
theorem wb {α β : Type} {Z : Exc → Prop} {t : T α} {f : α → T β} {P : β → Prop} (h : wp Z t fun a => wp Z (f a) P) : wp Z (t.bind f) P := wp_bind.mpr h
theorem wb2 {α β γ : Type} {Z : Exc → Prop} {t : T (α × β)} {f : α → β → T γ} {P : γ → Prop} (h : wp Z t fun r => wp Z (f r.1 r.2) P) : wp Z (t.bind2 f) P := wp_bind2.mpr h
theorem wcall {β : Type} {Z : Exc → Prop} {t : T Sl} {ρ : Env'} {f : Sl → Env' → T β} {P : β → Prop} (h : wp Z t fun s => wp Z (T.need (noNo s) (f s ρ)) P) : wp Z ((back t ρ).bind2 f) P := by
  refine wp_bind2.mpr (wp_bind.mpr (wp_mono (fun s q => ?_) h))
  obtain ⟨h1, h2⟩ := wp_need.mp q
  exact wp_need.mpr ⟨h1, h2⟩
end Tr
namespace Sv
open PySem L2 Fl
theorem atI_mem {α : Type} {xs : List α} {r : Int} (h0 : 0 ≤ r) (h1 : r < (xs.length : Nat)) : ∃ x, atI xs r = some x ∧ x ∈ xs := by
  have e : ixN xs.length r = some r.toNat := by unfold ixN; rw [if_pos h0, if_pos h1]
  have hj : r.toNat < xs.length := by omega
  refine ⟨xs[r.toNat], ?_, List.getElem_mem hj⟩
  unfold atI
  rw [e]
  simp only [Option.bind_some, List.getElem?_eq_getElem hj]
/-- what can be picked from -/
def pickIn (y : D) (xs : List D) : Prop := y = .lst xs ∨ y = .tup xs ∨ ∃ z, y = .str z ∧ xs = signs z
theorem pick_len {y : D} {xs : List D} (h : pickIn y xs) : lenD y = some xs.length := by
  rcases h with rfl | rfl | ⟨z, rfl, rfl⟩
  · rfl
  · rfl
  · rw [len_signs]; rfl
theorem pick_at {y : D} {xs : List D} (h : pickIn y xs) {r : Int} (h0 : 0 ≤ r) (h1 : r < (xs.length : Nat)) : ∃ x, ixD y (.int r) = some x ∧ x ∈ xs := by
  rcases h with rfl | rfl | ⟨z, rfl, rfl⟩
  · exact atI_mem h0 h1
  · exact atI_mem h0 h1
  · obtain ⟨c, h2, h3⟩ := atI_mem (xs := z.cps.toList) h0 (by rw [len_signs] at h1; simpa [Str.length] using h1)
    refine ⟨.str ⟨#[c]⟩, ?_, List.mem_map.mpr ⟨c, h3, rfl⟩⟩
    show (atI z.cps.toList r).map _ = _
    rw [h2]; rfl
def ftPick : FT := fun ss P => ∃ y xs, ss = [.src, .d y] ∧ pickIn y xs ∧ xs ≠ [] ∧ xs.length < 1000000 ∧ ∀ x ∈ xs, P (.d x)
def ftShuffled : FT := fun ss P => ∃ y xs, ss = [.src, .d y] ∧ seqD y = some xs ∧ xs.length ≤ 1000 ∧ xs.all (ok 50) = true ∧ ∀ ys : List D, ys.Perm xs → P (.d (.lst ys))
def ftCell : FT := fun ss P => ∃ n : Int, ss = [.src, .d (.int n)] ∧ 0 < n ∧ n < 1000000 ∧ ∀ x, cellOk n x → P (.d x)
def numD (lo hi : Int) : D → Bool
  | .int i => decide (lo ≤ i) && decide (i ≤ hi)
  | _ => false
def ftNumber : FT := fun ss P => ∃ x lo hi, ss = [.d x, .d (.int lo), .d (.int hi)] ∧ isIns x = false ∧ P (.d (.bl (numD lo hi x)))
theorem num_index (n : Int) (x : D) : numD 0 (n - 1) x = indexD n x := by
  cases x with
  | int i =>
    show (decide (0 ≤ i) && decide (i ≤ n - 1)) = (decide (0 ≤ i) && decide (i < n))
    rw [Bool.eq_iff_iff]
    simp only [Bool.and_eq_true, decide_eq_true_eq]
    omega
  | _ => rfl
def ftLawEntry : FT := fun ss P => ∃ q x, ss = [.d (Parts.d q), .d x] ∧ flatIns x = true ∧ P (.d (.bl (entryD q x)))
def ftString : FT := fun ss P => ss = [.src] ∧ ∀ s : Str, sOk s = true → s.length ≤ 9 → P (.d (.str s))
theorem perm_pop {l f : List D} {j : Nat} {y : D} (h : l[j]? = some y) : (l.eraseIdx j ++ (f ++ [y])).Perm (l ++ f) := by
  obtain ⟨hl, e⟩ := List.getElem?_eq_some_iff.mp h
  have p : (y :: l.eraseIdx j).Perm l := by
    rw [← e, List.eraseIdx_eq_take_drop_succ]
    refine List.perm_middle.symm.trans (List.Perm.of_eq ?_)
    rw [List.getElem_cons_drop, List.take_append_drop]
  refine List.Perm.trans ?_ (p.append_right f)
  rw [← List.append_assoc]
  exact List.perm_append_comm.trans (by simp)
theorem join_cps : ∀ ws : List Str, (Str.join ("" : Str) ws).cps.toList = (ws.map fun w => w.cps.toList).flatten
  | [] => rfl
  | [x] => by show x.cps.toList = _; simp
  | x :: y :: r => by
    have ih := join_cps (y :: r)
    have e : (Str.join ("" : Str) (x :: y :: r)) = x ++ ("" : Str) ++ Str.join ("" : Str) (y :: r) := rfl
    rw [e]
    show ((x.cps ++ ("" : Str).cps) ++ (Str.join ("" : Str) (y :: r)).cps).toList = _
    have e0 : ("" : Str).cps.toList = [] := rfl
    rw [Array.toList_append, Array.toList_append, ih, e0, List.append_nil]
    simp
theorem txt_join (ws : List Str) : PySem.Txt.join ("" : Str) ws = Str.join ("" : Str) ws := by
  have := PyProof.Rows.join_plain_closes ("" : Str) ws
  exact beq_iff_eq.mp this
theorem ones_len : ∀ {ws : List Str}, (∀ w ∈ ws, w.length = 1) → (ws.map fun w => w.cps.toList).flatten.length = ws.length ∧ (ws.map (·.length)).sum = ws.length
  | [], _ => ⟨rfl, rfl⟩
  | w :: ws, h => by
    obtain ⟨a, b⟩ := ones_len (ws := ws) fun x hx => h x (List.mem_cons_of_mem _ hx)
    have e : w.cps.toList.length = 1 := by have := h w (by simp); simpa [Str.length] using this
    constructor
    · rw [List.map_cons, List.flatten_cons, List.length_append, a, e, List.length_cons]; omega
    · rw [List.map_cons, List.sum_cons, b, h w (by simp), List.length_cons]; omega
/-- one-sign texts joined -/
theorem join_ones {ws : List Str} (h : ∀ w ∈ ws, sOk w = true ∧ w.length = 1) (hl : ws.length ≤ 1000) :
    (ws.map (·.length)).sum + ws.length * ("" : Str).length ≤ 1000000 ∧ sOk (PySem.Txt.join ("" : Str) ws) = true ∧ (PySem.Txt.join ("" : Str) ws).length = ws.length ∧ ∀ c ∈ (PySem.Txt.join ("" : Str) ws).cps.toList, ∃ w ∈ ws, c ∈ w.cps.toList := by
  obtain ⟨a, b⟩ := ones_len fun w hw => (h w hw).2
  have hlen : (PySem.Txt.join ("" : Str) ws).length = ws.length := by
    rw [txt_join]
    have := congrArg List.length (join_cps ws)
    rw [a] at this
    simpa [Str.length] using this
  have e0 : ("" : Str).length = 0 := rfl
  refine ⟨by rw [b, e0]; omega, ?_, hlen, fun c hc => ?_⟩
  · refine sOk_of ?_ (by rw [hlen]; omega)
    rw [txt_join]
    exact sok_join (by decide +kernel) ws fun w hw => sOk_1 (h w hw).1
  · rw [txt_join, join_cps] at hc
    obtain ⟨l, hl, hc⟩ := List.mem_flatten.mp hc
    obtain ⟨w, hw, rfl⟩ := List.mem_map.mp hl
    exact ⟨w, hw, hc⟩
end Sv
namespace Sv
open PySem L2 Fl
/-- what follows is looked at through I alone -/
theorem seq_by {t u : ST} {E : DE} {ρ : Env'} (I : Env' → Prop) (h2 : ∀ ρ, I ρ → u E ρ) (h1 : ∀ N : Env' → Prop, (∀ ρ, I ρ → N ρ) → t { E with nx := N } ρ) : dSeq t u E ρ := h1 (u E) h2
theorem nameS_iff (s : Str) : nameS s = true ↔ 1 ≤ s.length ∧ s.length ≤ 8 ∧ ∀ c ∈ s.cps.toList, c ∈ lets := by
  unfold nameS
  simp only [Bool.and_eq_true, decide_eq_true_eq, List.all_eq_true]
theorem cut6 (w : Str) : (cutS w none (some 6)).cps.toList = w.cps.toList.take 6 := by
  unfold cutS
  have h0 : HT.sIx w.length 0 none = 0 := rfl
  have h6 : HT.sIx w.length w.length (some 6) = min 6 w.length := HT.sIx_nat _ _ 6
  rw [h0, h6]
  show (List.toArray _).toList = _
  simp only [List.drop_zero, Nat.sub_zero]
  rw [List.take_eq_take_iff]
  have : w.cps.toList.length = w.length := by simp [Str.length]
  omega
def other (w : Str) (c : Nat) : Str := cutS w none (some 6) ++ "x" ++ ⟨#[c]⟩
theorem other_cps (w : Str) (c : Nat) : (other w c).cps.toList = w.cps.toList.take 6 ++ [120] ++ [c] := by
  unfold other
  show (((cutS w none (some 6)).cps ++ ("x" : Str).cps) ++ #[c]).toList = _
  rw [Array.toList_append, Array.toList_append, cut6]
  rfl
theorem other_name {w : Str} {c : Nat} (h : nameS w = true) (hc : c ∈ lets) : nameS (other w c) = true := by
  rw [nameS_iff] at h ⊢
  have hl : (other w c).length = (other w c).cps.toList.length := by simp [Str.length]
  have h6 : (w.cps.toList.take 6).length ≤ 6 := by rw [List.length_take]; omega
  refine ⟨?_, ?_, fun d hd => ?_⟩
  · rw [hl, other_cps]; simp
  · rw [hl, other_cps]; simp only [List.length_append, List.length_cons, List.length_nil]; omega
  · rw [other_cps] at hd
    rcases List.mem_append.mp hd with hd | hd
    · rcases List.mem_append.mp hd with hd | hd
      · exact h.2.2 d (List.mem_of_mem_take hd)
      · have : d = 120 := by simpa using hd
        rw [this]; decide +kernel
    · have : d = c := by simpa using hd
      rw [this]; exact hc
theorem other_inj {w : Str} {c d : Nat} (h : other w c = other w d) : c = d := by
  have := congrArg (fun s : Str => s.cps.toList) h
  simp only [other_cps] at this
  have := List.append_cancel_left this
  simpa using this
theorem letD : signs ("abcdefghijklmnopqrstuvwxyz" : Str) = lets.map fun c => D.str ⟨#[c]⟩ := rfl
/-- one of the candidates is new -/
theorem cand_new {f : List Str} {w : Str} (hf : f.length ≤ 2) : ∃ c ∈ lets, other w c ∉ f := by
  have h97 : (97 : Nat) ∈ lets := by decide +kernel
  have h98 : (98 : Nat) ∈ lets := by decide +kernel
  have h99 : (99 : Nat) ∈ lets := by decide +kernel
  refine Classical.byContradiction fun hn => ?_
  have all : ∀ c ∈ lets, other w c ∈ f := fun c hc => Classical.byContradiction fun q => hn ⟨c, hc, q⟩
  have a := all 97 h97
  have b := all 98 h98
  have c := all 99 h99
  have n1 : other w 97 ≠ other w 98 := fun e => by have := other_inj e; omega
  have n2 : other w 97 ≠ other w 99 := fun e => by have := other_inj e; omega
  have n3 : other w 98 ≠ other w 99 := fun e => by have := other_inj e; omega
  match f, hf, a, b, c with
  | [], _, a, _, _ => cases a
  | [p], _, a, b, _ =>
    have a : other w 97 = p := by simpa using a
    have b : other w 98 = p := by simpa using b
    exact n1 (a.trans b.symm)
  | [p, q], _, a, b, c =>
    have a : other w 97 = p ∨ other w 97 = q := by simpa using a
    have b : other w 98 = p ∨ other w 98 = q := by simpa using b
    have c : other w 99 = p ∨ other w 99 = q := by simpa using c
    rcases a with a | a <;> rcases b with b | b <;> rcases c with c | c <;> first | exact n1 (a.trans b.symm) | exact n2 (a.trans c.symm) | exact n3 (b.trans c.symm)
theorem strs_of {p : Str → Prop} : ∀ {ys : List D}, (∀ y ∈ ys, ∃ w, y = .str w ∧ p w) → ∃ ws : List Str, ys = ws.map .str ∧ ∀ w ∈ ws, p w
  | [], _ => ⟨[], rfl, by simp⟩
  | y :: ys, h => by
    obtain ⟨ws, h1, h2⟩ := strs_of (ys := ys) fun z hz => h z (List.mem_cons_of_mem _ hz)
    obtain ⟨w, h3, h4⟩ := h y (by simp)
    exact ⟨w :: ws, by rw [h1, h3]; rfl, fun z hz => by rcases List.mem_cons.mp hz with e | e; rw [e]; exact h4; exact h2 z e⟩
theorem strsOf_strs (ws : List Str) : strsOf (.lst (ws.map .str)) = some ws := by
  show (ws.map D.str).mapM _ = some ws
  induction ws with
  | nil => rfl
  | cons x ls ih => rw [List.map_cons, List.mapM_cons, ih]; rfl
theorem upto_len (n : Int) : (upto n).length = n.toNat := by unfold upto; simp
def ftLabels : FT := fun ss P => ∃ m : Int, ss = [.src, .d (.int m)] ∧ 0 ≤ m ∧ m ≤ 3 ∧ ∀ ls : List Str, ls.length = m.toNat → ls.Nodup → (∀ s ∈ ls, nameS s = true) → P (.d (.lst (ls.map .str)))
def ownL : List Str := ["a", "b", "c", "all", "running", "node", "wait", "any", "abcdefgh"]
theorem ownL_ok : ∀ s ∈ ownL, nameS s = true := by decide +kernel
theorem name_sign {c : Nat} (hc : c ∈ lets) : sOk ⟨#[c]⟩ = true ∧ (⟨#[c]⟩ : Str).length = 1 := by
  have hz : ∀ c ∈ lets, c < 0x110000 := by decide +kernel
  refine ⟨sOk_of (sok_cps.mpr fun d hd => ?_) (by show 1 ≤ _; decide), rfl⟩
  have : d = c := by simpa using hd
  rw [this]; exact hz c hc
end Sv
namespace Tr
open PySem L2 Fl Sv
theorem inD_ints {i : Int} : ∀ (ns : List Int), inD (.int i) (ns.map D.int) = decide (i ∈ ns)
  | [] => rfl
  | x :: ns => by
    rw [List.map_cons, inD_cons, eqD_int, inD_ints ns]
    by_cases h : x = i
    · subst h; simp
    · have : ¬ i = x := fun e => h e.symm
      simp [h, this]
def uptoI (n : Nat) : List Int := (List.range n).map fun i => ((i : Nat) : Int)
theorem upto_ints (n : Nat) : upto (n : Int) = (uptoI n).map D.int := by
  unfold upto uptoI
  rw [List.map_map, Int.toNat_natCast]; rfl
theorem mem_uptoI {n : Nat} {i : Int} : i ∈ uptoI n ↔ 0 ≤ i ∧ i < n := by
  unfold uptoI
  rw [List.mem_map]
  constructor
  · rintro ⟨j, hj, rfl⟩
    have := List.mem_range.mp hj
    omega
  · rintro ⟨h0, h1⟩
    exact ⟨i.toNat, List.mem_range.mpr (by omega), by omega⟩
theorem nodup_uptoI (n : Nat) : (uptoI n).Nodup := by
  unfold uptoI
  refine List.Pairwise.map _ (fun a b h e => h ?_) List.nodup_range
  omega
theorem len_uptoI (n : Nat) : (uptoI n).length = n := by unfold uptoI; simp
theorem cut_to {xs : List D} {k : Nat} (h : k ≤ xs.length) : cutD xs none (some (k : Int)) = xs.take k := by
  have h1 : HT.sIx xs.length 0 none = 0 := rfl
  have h2 : HT.sIx xs.length xs.length (some (k : Int)) = k := by
    unfold HT.sIx
    simp only
    split <;> omega
  unfold cutD
  rw [h1, h2]
  simp
theorem ok_row {p : Nat} {f : Int} {x : D} (h : rowOk p f x) (n : Nat) : ok (n + 2) x = true := by
  obtain ⟨cs, rfl, _, hc⟩ := h
  rw [ok_tup]
  refine List.all_eq_true.mpr fun y hy => ?_
  rcases hc y hy with rfl | ⟨i, s, rfl, _⟩
  · exact ok_non
  · rw [ok_tup, List.all_cons, List.all_cons, ok_int, ok_str]; rfl
theorem pairD_mem {f : Str → D} {x : D} : ∀ {ls : List Str}, x ∈ pairD (ls.map .inr) (ls.map f) → ∃ s ∈ ls, x = .tup [.str s, f s]
  | [], h => by cases h
  | s :: ls, h => by
    rcases List.mem_cons.mp h with rfl | h
    · exact ⟨s, by simp, rfl⟩
    · obtain ⟨t, ht, e⟩ := pairD_mem (ls := ls) h
      exact ⟨t, List.mem_cons_of_mem _ ht, e⟩
theorem parts_ok {q : Parts} (hq : q.Ok) : ok 60 (.tup [q.lsD, .int q.p, .int q.f, .lst (pairD (q.ls.map .inr) (q.ls.map q.rowOf)), q.rules]) = true := by
  have h1 : ok 59 q.lsD = true := by
    unfold Parts.lsD
    rw [ok_tup, List.all_map]; exact List.all_eq_true.mpr fun _ _ => ok_str
  have h2 : ok 59 (.lst (pairD (q.ls.map .inr) (q.ls.map q.rowOf))) = true := by
    rw [ok_lst]
    refine List.all_eq_true.mpr fun x hx => ?_
    obtain ⟨t, ht, rfl⟩ := pairD_mem hx
    rw [ok_tup, List.all_cons, List.all_cons, ok_row (hq.row ht).2, ok_str]; rfl
  have h3 : ok 59 q.rules = true := by
    unfold Parts.rules
    rw [ok_tup, List.all_cons, List.all_cons, List.all_cons, ok_bl, ok_bl, ok_bl]; rfl
  rw [ok_tup, List.all_cons, List.all_cons, List.all_cons, List.all_cons, List.all_cons, h1, h2, h3, ok_int, ok_int]
  rfl
def partsD (q : Parts) : D := .tup [q.lsD, .int q.p, .int q.f, .lst (pairD (q.ls.map .inr) (q.ls.map q.rowOf)), q.rules]
theorem partsD_ok {q : Parts} (hq : q.Ok) : ok 60 (partsD q) = true := parts_ok hq
theorem StepOk.ok' {q : Parts} {x : D} (h : StepOk q x) (n : Nat) : ok (n + 1) x = true := by
  cases h <;> simp only [ok_tup, List.all_cons, List.all_nil, ok_str, ok_int, Bool.and_self, Bool.and_true]
theorem StepOk.head {q : Parts} {x : D} (h : StepOk q x) : ∃ s xs, x = .tup (.str s :: xs) := by
  cases h <;> exact ⟨_, _, rfl⟩
theorem NodeOk.ok' {q : Parts} {m : Int} {x : D} (h : NodeOk q m x) (n : Nat) : ok (n + 2) x = true := by
  obtain ⟨st, ns, rfl, h1, _⟩ := h
  unfold nodeD
  rw [ok_tup, List.all_cons, List.all_cons, h1.ok', ok_tup, ok_ints]; rfl
theorem nodes_ok {q : Parts} {m : Int} {xs : List D} (h : ∀ x ∈ xs, NodeOk q m x) : ok 60 (.tup xs) = true := by
  rw [ok_tup]; exact List.all_eq_true.mpr fun x hx => (h x hx).ok' 57
theorem nodes_all {q : Parts} {m : Int} {xs : List D} (h : ∀ x ∈ xs, NodeOk q m x) : xs.all (ok 59) = true := List.all_eq_true.mpr fun x hx => (h x hx).ok' 57
/-- nodes with some of them a skip -/
def skipD : D := .tup [.str (Str.ofString "skip")]
def nxtD : D → D
  | .tup [_, n] => n
  | _ => .non
def woD (is : List Int) (xs : List D) : List D := xs.mapIdx fun i x => if inD (.int (i : Nat)) (is.map D.int) = true then .tup [skipD, nxtD x] else x
def woF (is : List Int) : D → D
  | .tup [i, x] => if inD i (is.map D.int) = true then .tup [skipD, nxtD x] else x
  | _ => .non
theorem woD_map (is : List Int) (xs : List D) : (Fl.numbered xs).map (woF is) = woD is xs := by
  unfold Fl.numbered woD
  refine List.ext_getElem (by simp) fun i h1 h2 => ?_
  simp [woF]
theorem woD_len (is : List Int) (xs : List D) : (woD is xs).length = xs.length := by unfold woD; simp
theorem woD_nil (xs : List D) : woD [] xs = xs := by
  unfold woD
  simp only [List.map_nil, inD_nil, Bool.false_eq_true, if_false]
  exact List.ext_getElem (by simp) fun i h1 h2 => by simp
theorem woD_get {is : List Int} {xs : List D} {i : Nat} (h : i < (woD is xs).length) : (woD is xs)[i] = if (i : Int) ∈ is then .tup [skipD, nxtD (xs[i]'(by rw [woD_len] at h; exact h))] else xs[i]'(by rw [woD_len] at h; exact h) := by
  unfold woD
  simp only [List.getElem_mapIdx, inD_ints, decide_eq_true_eq]
theorem nxt_of {q : Parts} {m : Int} {x : D} (h : NodeOk q m x) : NodeOk q m (.tup [skipD, nxtD x]) := by
  obtain ⟨st, ns, rfl, h1, h2⟩ := h
  exact ⟨_, ns, rfl, .skip, h2⟩
theorem woD_ok {q : Parts} {m : Int} {is : List Int} {xs : List D} (h : ∀ x ∈ xs, NodeOk q m x) : ∀ x ∈ woD is xs, NodeOk q m x := by
  intro x hx
  obtain ⟨i, hi, rfl⟩ := List.getElem_of_mem hx
  rw [woD_get]
  have hi' : i < xs.length := by rw [woD_len] at hi; exact hi
  split
  · exact nxt_of (h _ (List.getElem_mem hi'))
  · exact h _ (List.getElem_mem hi')
theorem woD_perm {is js : List Int} (h : ∀ i, i ∈ is ↔ i ∈ js) (xs : List D) : woD is xs = woD js xs := by
  refine List.ext_getElem (by rw [woD_len, woD_len]) fun i h1 h2 => ?_
  rw [woD_get, woD_get]
  simp only [h]
theorem woD_step (is : List Int) (j : Int) (xs : List D) : woD [j] (woD is xs) = woD (is ++ [j]) xs := by
  refine List.ext_getElem (by rw [woD_len, woD_len, woD_len]) fun i h1 h2 => ?_
  rw [woD_get, woD_get, woD_get]
  simp only [List.mem_append, List.mem_singleton]
  by_cases a : (i : Int) = j <;> by_cases b : (i : Int) ∈ is <;> simp [a, b]
  all_goals simp [nxtD, skipD, ← a, b]
end Tr
namespace Tr
open PySem L2 Fl Sv
theorem reps_1 {xs : List D} : reps xs 1 = xs := by simp [reps]
theorem reps_0 {xs : List D} : reps xs 0 = [] := by simp [reps]
theorem shws_ints {n : Nat} : ∀ ns : List Int, shws n (ns.map D.int) = true
  | [] => by simp [shws]
  | x :: ns => by
    rw [List.map_cons]
    simp only [shws, shws_ints ns, Bool.and_true]
    cases n <;> rfl
theorem wts_ints {m : Nat} : ∀ {ns : List Int}, (∀ i ∈ ns, 0 ≤ i ∧ i < m) → wts (ns.map D.int) ≤ ns.length * (m + 4)
  | [], _ => by simp [wts]
  | x :: ns, h => by
    have h1 := h x (by simp)
    have h2 := wts_ints (ns := ns) fun i hi => h i (List.mem_cons_of_mem _ hi)
    rw [List.map_cons, List.length_cons, Nat.succ_mul]
    simp only [wts, wt]
    omega
theorem mem_upto {k : Int} {x : D} (h : x ∈ upto k) : ∃ i : Int, x = .int i ∧ 0 ≤ i ∧ i < k := by
  unfold upto at h
  obtain ⟨i, hi, rfl⟩ := List.mem_map.mp h
  have := List.mem_range.mp hi
  exact ⟨i, rfl, by omega, by omega⟩
theorem Sc_fold {C S : Addr} {q : Parts} {ns : List D} : D.ins S scN [Parts.obj C q, .tup ns] = Sc C S q ns := id rfl
theorem W_fold {C : Addr} {q : Parts} : D.ins C fldN q.flds = Parts.obj C q := id rfl
theorem lc_map2 {g : G'} {tt : C'} {te : E'} {vs : List Nat} (f : D → D) {xs : List D} {ρ ρ1 : Env'} (hx : xs ≠ []) (hl : xs.length < 1000000) (h0 : ∀ x ∈ xs, stepC g tt te vs x ρ = .ret (some (f x), ρ1)) (h1 : ∀ x ∈ xs, stepC g tt te vs x ρ1 = .ret (some (f x), ρ1)) :
    lcT g tt te vs xs [] ρ = .ret (.ol (xs.map f), ρ1) := by
  cases xs with
  | nil => exact absurd rfl hx
  | cons x xs =>
    rw [lcT_cons, h0 x (by simp)]
    show T.need (decide (([] : List D).length < 1000000)) (lcT g tt te vs xs ([] ++ [f x]) ρ1) = _
    rw [decide_eq_true (show ([] : List D).length < 1000000 by simp), need_true]
    rw [List.length_cons] at hl
    rw [lc_map f xs _ (by simp; omega) fun y hy => h1 y (List.mem_cons_of_mem _ hy)]
    rfl
end Tr
namespace Tr
open PySem L2 Fl Sv
structure V {α : Type} (Z : Exc → Prop) (t : T α) (P : α → Prop) : Prop where
  mk' ::
  get : wp Z t P
section
variable {α β γ : Type} {Z : Exc → Prop}
theorem v_ret {a : α} {P : α → Prop} : V Z (.ret a) P = P a := propext ⟨fun h => h.get, fun h => ⟨h⟩⟩
theorem v_draw {m : Int} {k : Int → T α} {P : α → Prop} (h0 : 0 < m) (h1 : m < 1000000000) (h : ∀ r : Int, 0 ≤ r → r < m → V Z (k r) P) : V Z (.draw m k) P := ⟨⟨⟨h0, h1⟩, fun r a b => (h r a b).get⟩⟩
theorem v_b {t : T α} {f : α → T β} {P : β → Prop} (h : V Z t fun a => V Z (f a) P) : V Z (t.bind f) P := ⟨wb (wp_mono (fun _ q => q.get) h.get)⟩
theorem v_b2 {t : T (α × β)} {f : α → β → T γ} {P : γ → Prop} (h : V Z t fun r => V Z (f r.1 r.2) P) : V Z (t.bind2 f) P := ⟨wb2 (wp_mono (fun _ q => q.get) h.get)⟩
theorem v_call {t : T Sl} {ρ : Env'} {f : Sl → Env' → T β} {P : β → Prop} (h : V Z t fun s => V Z (T.need (noNo s) (f s ρ)) P) : V Z ((back t ρ).bind2 f) P := ⟨wcall (wp_mono (fun _ q => q.get) h.get)⟩
theorem v_mono {t : T α} {P Q : α → Prop} (i : ∀ a, P a → Q a) (h : V Z t P) : V Z t Q := ⟨wp_mono i h.get⟩
theorem v_loop {g : G'} {b : S'} {Q : Out → Prop} (I : List D → Env' → Prop) (xs pre : List D) (ρ : Env') (h : I pre ρ)
    (hs : ∀ p x q ρ, pre ++ xs = p ++ x :: q → I p ρ → V Z ((g (.d x) ρ).bind b) (turn (I (p ++ [x])) Q)) (hd : ∀ ρ, I (pre ++ xs) ρ → Q (.nx ρ)) : V Z (loopT g b xs ρ) Q :=
  ⟨wp_loop I xs pre ρ h (fun p x q ρ e i => (hs p x q ρ e i).get) hd⟩
theorem v_while {c : C'} {b : S'} {Q : Out → Prop} (I : Nat → Env' → Prop) (m n : Nat) (ρ : Env') (hm : m < n) (h : I m ρ)
    (hs : ∀ m ρ, I m ρ → V Z (c ρ) fun t => if t.1 = true then V Z (b t.2) (turn (fun ρ' => ∃ m', m' < m ∧ I m' ρ') Q) else Q (.nx t.2)) : V Z (whileT c b n ρ) Q :=
  ⟨wp_while I m n ρ hm h fun m ρ i => wp_mono (fun t q => by
    by_cases ht : t.1 = true
    · rw [if_pos ht] at q ⊢; exact q.get
    · rw [if_neg ht] at q ⊢; exact q) (hs m ρ i).get⟩
theorem v_rel {g : G'} {tt : C'} {te : E'} {vs : List Nat} {ρ : Env'} (Rf : D → D → Prop) {P : Sl × Env' → Prop} (xs acc : List D) (hl : (acc.length + xs.length) < 1000000) (hs : ∀ x ∈ xs, V Z (stepC g tt te vs x ρ) fun r => ∃ y, r = (some y, ρ) ∧ Rf x y)
    (hd : ∀ ys, ys.length = xs.length → (∀ y ∈ ys, ∃ x ∈ xs, Rf x y) → P (.ol (acc ++ ys), ρ)) : V Z (lcT g tt te vs xs acc ρ) P :=
  ⟨lc_rel Rf xs acc hl (fun x hx => (hs x hx).get) hd⟩
end
theorem odO_eq {i : Nat} {ρ : Env'} : odO i ρ = (match ρ[i]? with | some (.od ks vs) => some (ks, vs) | _ => none) := rfl
end Tr
namespace Tr
open PySem L2 Fl Sv
theorem tb_assoc {α β γ : Type} (t : T α) (f : α → T β) (h : β → T γ) : (t.bind f).bind h = t.bind fun a => (f a).bind h := by
  induction t with
  | ret a => rfl
  | fail => rfl
  | exn e => rfl
  | draw m k ih =>
    show T.draw m _ = T.draw m _
    congr 1
    funext r
    exact ih r
theorem loop_pre {g : G'} {b : S'} (I : List D → Env' → Prop) : ∀ {xs pre : List D} {ρ : Env'}, I pre ρ → (∀ p x q ρ, pre ++ xs = p ++ x :: q → I p ρ → ∃ ρ', (g (.d x) ρ).bind b = .ret (.nx ρ') ∧ I (p ++ [x]) ρ') → ∃ ρ', loopT g b xs ρ = .ret (.nx ρ') ∧ I (pre ++ xs) ρ'
  | [], pre, ρ, h, _ => ⟨ρ, rfl, by rw [List.append_nil]; exact h⟩
  | x :: xs, pre, ρ, h, hs => by
    obtain ⟨ρ1, e1, i1⟩ := hs pre x xs ρ rfl h
    obtain ⟨ρ2, e2, i2⟩ := loop_pre I (xs := xs) (pre := pre ++ [x]) (ρ := ρ1) i1 fun p y q ρ e i => hs p y q ρ (by rw [← e]; simp) i
    refine ⟨ρ2, ?_, by rw [List.append_cons]; exact i2⟩
    rw [loopT_cons]
    have e3 := tb_assoc (g (.d x) ρ) b (thenL g b xs)
    rw [← e3, e1]
    exact e2
theorem loop_acc {β : Type} {g : G'} {b : S'} {xs : List D} {ρ : Env'} {k : Out → T β} {r : T β} (I : List D → Env' → Prop) (h : I [] ρ) (hs : ∀ p x q ρ, xs = p ++ x :: q → I p ρ → ∃ ρ', (g (.d x) ρ).bind b = .ret (.nx ρ') ∧ I (p ++ [x]) ρ')
    (hk : ∀ ρ', I xs ρ' → k (.nx ρ') = r) : (loopT g b xs ρ).bind k = r := by
  obtain ⟨ρ', e, i⟩ := loop_pre I (xs := xs) (pre := []) h hs
  rw [e]
  exact hk ρ' i
theorem strJoin_len (a : Str) : ∀ ws : List Str, (Str.join a ws).length ≤ (ws.map (·.length)).sum + ws.length * a.length
  | [] => by show (0 : Nat) ≤ _; exact Nat.zero_le _
  | [x] => by show x.length ≤ _; simp
  | x :: y :: r => by
    have ih := strJoin_len a (y :: r)
    show (x ++ a ++ Str.join a (y :: r)).length ≤ _
    rw [app_len, app_len, List.map_cons, List.sum_cons, List.length_cons, Nat.succ_mul]
    omega
theorem sum_le {ws : List Str} {B : Nat} (h : ∀ w ∈ ws, w.length ≤ B) : (ws.map (·.length)).sum ≤ ws.length * B := by
  induction ws with
  | nil => simp
  | cons w ws ih =>
    have h1 := h w (by simp)
    have h2 := ih fun x hx => h x (List.mem_cons_of_mem _ hx)
    rw [List.map_cons, List.sum_cons, List.length_cons, Nat.succ_mul]
    omega
theorem txtJoin (a : Str) (ws : List Str) : PySem.Txt.join a ws = Str.join a ws := beq_iff_eq.mp (PyProof.Rows.join_plain_closes a ws)
/-- texts joined: not too many, not too long -/
theorem joinB {a : Str} {ws : List Str} (N B : Nat) (ha : sOk a = true) (hal : a.length ≤ 1) (hw : ∀ w ∈ ws, sOk w = true ∧ w.length ≤ B) (hn : ws.length ≤ N) (hb : N * (B + 1) ≤ 1000000) :
    (ws.map (·.length)).sum + ws.length * a.length ≤ 1000000 ∧ sOk (PySem.Txt.join a ws) = true ∧ (PySem.Txt.join a ws).length ≤ N * (B + 1) := by
  have h1 := sum_le fun w m => (hw w m).2
  have h2 : ws.length * a.length ≤ ws.length := by
    have := Nat.mul_le_mul_left ws.length hal
    omega
  have h3 : ws.length * (B + 1) ≤ N * (B + 1) := Nat.mul_le_mul_right _ hn
  rw [Nat.mul_succ] at h3
  have h4 := strJoin_len a ws
  rw [← txtJoin] at h4
  refine ⟨by omega, sOk_of ?_ (by omega), by omega⟩
  rw [txtJoin]
  exact sok_join (sOk_1 ha) ws fun w m => sOk_1 (hw w m).1
theorem sOk_app {a b : Str} (ha : sOk a = true) (hb : sOk b = true) (h : a.length + b.length ≤ 1000000) : sOk (a ++ b) = true := sOk_of (sok_app (sOk_1 ha) (sOk_1 hb)) (by rw [app_len]; omega)
def intT (i : Int) : Str := Str.ofString (toString i)
theorem intT_ok {i : Int} (h : -100000 < i ∧ i < 100000) : sOk (intT i) = true := sOk_int h
theorem intT_len (i : Int) : (intT i).length ≤ i.natAbs + 2 := wt_int i
theorem strD_int {i : Int} : strD (.int i) = if -100000 < i ∧ i < 100000 then some (intT i) else none := rfl
theorem strD_intOk {i : Int} (h : -100000 < i ∧ i < 100000) : strD (.int i) = some (intT i) := by rw [strD_int, if_pos h]
theorem strD_str {s : Str} : strD (.str s) = some s := rfl
theorem sOk_lit (s : String) (h : sOk (Str.ofString s) = true := by decide +kernel) : sOk (Str.ofString s) = true := h
def cellT : D → Str
  | .tup [.int i, .str s] => intT i ++ s
  | _ => "-"
def nextT (ns : List Int) : Str := if ns = [] then "-" else PySem.Txt.join "," (ns.map intT)
def itemT (x : D) : Str := (strD x).getD ""
def wOk (w : Str) : Prop := sOk w = true ∧ w.length ≤ 200
theorem wOk_name {s : Str} (h : nameS s = true) : wOk s := ⟨nameS_ok h, by have := ((nameS_iff s).mp h).2.1; omega⟩
theorem wOk_int {i : Int} (h : -100 < i ∧ i < 100) : wOk (intT i) := ⟨intT_ok (by omega), by have := intT_len i; omega⟩
theorem cell_int {f : Int} {x : D} (f4 : f ≤ 4) (h : cellOk f x) (n : x ≠ .non) : ∃ (i : Int) (s : Str), x = .tup [.int i, .str s] ∧ (0 ≤ i ∧ i < 4) ∧ (s = "r" ∨ s = "w") := by
  rcases h with h | ⟨i, s, rfl, h0, h1, h2⟩
  · exact absurd h n
  · exact ⟨i, s, rfl, by omega, h2⟩
theorem rw_ok {s : Str} (h : s = "r" ∨ s = "w") : sOk s = true ∧ s.length = 1 := by rcases h with rfl | rfl <;> exact ⟨by decide +kernel, rfl⟩
theorem wOk_dash : wOk "-" := ⟨by decide +kernel, by decide⟩
theorem wOk_cell {f : Int} {x : D} (f4 : f ≤ 4) (h : cellOk f x) : wOk (cellT x) := by
  by_cases n : x = .non
  · subst n; exact wOk_dash
  · obtain ⟨i, s, rfl, hi, hs⟩ := cell_int f4 h n
    have h1 := rw_ok hs
    have h2 := intT_len i
    refine ⟨sOk_app (intT_ok (by omega)) h1.1 (by omega), ?_⟩
    show (intT i ++ s).length ≤ 200
    rw [app_len]; omega
theorem next_join {m : Int} {ns : List Int} (hm : m ≤ 12) (h : nextOk m ns) : ((ns.map intT).map (·.length)).sum + (ns.map intT).length * (Str.ofString ",").length ≤ 1000000 ∧ sOk (PySem.Txt.join (Str.ofString ",") (ns.map intT)) = true ∧ (PySem.Txt.join (Str.ofString ",") (ns.map intT)).length ≤ 12 * (14 + 1) := by
  have hl := nextOk_len h
  refine joinB 12 14 (by decide +kernel) (by decide) (fun w hw => ?_) (by rw [List.length_map]; omega) (by omega)
  obtain ⟨i, hi, rfl⟩ := List.mem_map.mp hw
  have := h.2 i hi
  have := intT_len i
  exact ⟨intT_ok (by omega), by omega⟩
theorem wOk_next {m : Int} {ns : List Int} (hm : m ≤ 12) (h : nextOk m ns) : wOk (nextT ns) := by
  unfold nextT
  by_cases e : ns = []
  · rw [if_pos e]; exact wOk_dash
  · rw [if_neg e]
    have := next_join hm h
    exact ⟨this.2.1, by have := this.2.2; show (PySem.Txt.join (Str.ofString ",") _).length ≤ 200; omega⟩
def itemOk (x : D) : Prop := (∃ i : Int, x = .int i ∧ -100 < i ∧ i < 100) ∨ ∃ s, x = .str s ∧ wOk s
theorem wOk_item {x : D} (h : itemOk x) : strD x = some (itemT x) ∧ wOk (itemT x) := by
  rcases h with ⟨i, rfl, h1⟩ | ⟨s, rfl, h1⟩
  · have e : strD (.int i) = some (intT i) := strD_intOk (by omega)
    have e2 : itemT (.int i) = intT i := by unfold itemT; rw [e]; rfl
    rw [e2]; exact ⟨e, wOk_int h1⟩
  · exact ⟨rfl, h1⟩
theorem two_wOk {s a b : Str} (h : s = a ∨ s = b) (ha : wOk a) (hb : wOk b) : wOk s := by rcases h with rfl | rfl <;> assumption
theorem ownD_od {ks : List Key} {vs : List D} : ownD (.od ks vs) = some (ks, vs) := rfl
theorem zipO_lt {xs ys : List D} : zipO (.lst xs) (.tup ys) = some (zipD xs ys) := rfl
theorem zipO_ll {xs ys : List D} : zipO (.lst xs) (.lst ys) = some (zipD xs ys) := rfl
theorem zipO_tt {xs ys : List D} : zipO (.tup xs) (.tup ys) = some (zipD xs ys) := rfl
theorem zipD_c {x y : D} {xs ys : List D} : zipD (x :: xs) (y :: ys) = .tup [x, y] :: zipD xs ys := rfl
theorem zipD_n {ys : List D} : zipD [] ys = [] := rfl
theorem zipD_n2 {xs : List D} : zipD xs [] = [] := by cases xs <;> rfl
theorem seqD_l {xs : List D} : seqD (.lst xs) = some xs := rfl
theorem seqD_t {xs : List D} : seqD (.tup xs) = some xs := rfl
theorem pairD_map {f : Str → D} : ∀ ls : List Str, pairD (ls.map .inr) (ls.map f) = ls.map fun s => .tup [.str s, f s]
  | [] => rfl
  | s :: ls => by
    show D.tup [keyT (.inr s), f s] :: pairD (ls.map .inr) (ls.map f) = _
    rw [pairD_map ls]; rfl
def RowOk (r : D) : Prop := ∃ ws : List Str, r = .lst (ws.map .str) ∧ ws.length ≤ 14 ∧ ∀ w ∈ ws, wOk w
def lineT : D → Str
  | .lst ws => PySem.Txt.join (Str.ofString " ") ((strsOf (.lst ws)).getD []) ++ Str.ofString "\n"
  | _ => ""
theorem lineT_ws (ws : List Str) : lineT (.lst (ws.map .str)) = PySem.Txt.join (Str.ofString " ") ws ++ Str.ofString "\n" := by
  show PySem.Txt.join (Str.ofString " ") ((strsOf (.lst (ws.map .str))).getD []) ++ Str.ofString "\n" = _
  rw [strsOf_strs ws]; rfl
theorem row_join {ws : List Str} (hl : ws.length ≤ 14) (hw : ∀ w ∈ ws, wOk w) : (ws.map (·.length)).sum + ws.length * (Str.ofString " ").length ≤ 1000000 ∧ sOk (PySem.Txt.join (Str.ofString " ") ws) = true ∧ (PySem.Txt.join (Str.ofString " ") ws).length ≤ 14 * (200 + 1) :=
  joinB 14 200 (by decide +kernel) (by decide) hw hl (by omega)
theorem line_ok {r : D} (h : RowOk r) : sOk (lineT r) = true ∧ (lineT r).length ≤ 3000 := by
  obtain ⟨ws, rfl, hl, hw⟩ := h
  have := row_join hl hw
  have e : (Str.ofString "\n").length = 1 := rfl
  rw [lineT_ws]
  exact ⟨sOk_app this.2.1 (by decide +kernel) (by omega), by rw [app_len]; omega⟩
theorem lines_join {rs : List D} (hn : rs.length ≤ 30) (h : ∀ r ∈ rs, RowOk r) : (((rs.map lineT)).map (·.length)).sum + (rs.map lineT).length * (Str.ofString "").length ≤ 1000000 ∧ sOk (PySem.Txt.join (Str.ofString "") (rs.map lineT)) = true := by
  have := joinB (a := Str.ofString "") (ws := rs.map lineT) 30 3000 (by decide +kernel) (by decide) (fun w hw => by
    obtain ⟨r, hr, rfl⟩ := List.mem_map.mp hw
    exact line_ok (h r hr)) (by rw [List.length_map]; exact hn) (by omega)
  exact ⟨this.1, this.2.1⟩
def fz : D → Option D
  | .tup [w, .bl true] => some w
  | _ => none
def rulesW (q : Parts) : List D := (zipD [.str (Str.ofString "tags"), .str (Str.ofString "checks"), .str (Str.ofString "early")] [.bl q.t, .bl q.c, .bl q.e]).filterMap fz
theorem rulesW_ok (q : Parts) : ∃ ws : List Str, rulesW q = ws.map .str ∧ ws.length ≤ 3 ∧ ∀ w ∈ ws, wOk w := by
  have k1 : wOk (Str.ofString "tags") := ⟨by decide +kernel, by decide⟩
  have k2 : wOk (Str.ofString "checks") := ⟨by decide +kernel, by decide⟩
  have k3 : wOk (Str.ofString "early") := ⟨by decide +kernel, by decide⟩
  obtain ⟨_, _, _, _, _, t, c, e⟩ := q
  unfold rulesW
  cases t <;> cases c <;> cases e
  · exact ⟨[], rfl, by simp, by simp⟩
  · exact ⟨[Str.ofString "early"], rfl, by simp, by simp [k3]⟩
  · exact ⟨[Str.ofString "checks"], rfl, by simp, by simp [k2]⟩
  · exact ⟨[Str.ofString "checks", Str.ofString "early"], rfl, by simp, by simp [k2, k3]⟩
  · exact ⟨[Str.ofString "tags"], rfl, by simp, by simp [k1]⟩
  · exact ⟨[Str.ofString "tags", Str.ofString "early"], rfl, by simp, by simp [k1, k3]⟩
  · exact ⟨[Str.ofString "tags", Str.ofString "checks"], rfl, by simp, by simp [k1, k2]⟩
  · exact ⟨[Str.ofString "tags", Str.ofString "checks", Str.ofString "early"], rfl, by simp, by simp [k1, k2, k3]⟩
def hdRows (q : Parts) : List D := [.lst (.str (Str.ofString "spaces") :: q.ls.map .str), .lst [.str (Str.ofString "pages"), .str (intT q.p), .str (Str.ofString "frames"), .str (intT q.f)], .lst (.str (Str.ofString "rules") :: rulesW q)]
def cellsD (q : Parts) (s : Str) : List D := match q.rowOf s with
  | .tup cs => cs.map fun x => .str (cellT x)
  | _ => []
def tabRow (q : Parts) (s : Str) : D := .lst (.str (Str.ofString "table") :: .str s :: cellsD q s)
def dints (xs : List D) : List Int := xs.map fun x => match x with | .int i => i | _ => 0
theorem dints_map (ns : List Int) : dints (ns.map D.int) = ns := by unfold dints; rw [List.map_map]; exact List.map_id' ns
def nodeRow : D → D
  | .tup [.tup its, .tup ns] => .lst (.str (Str.ofString "node") :: .str (nextT (dints ns)) :: its.map fun x => .str (itemT x))
  | x => x
def textRows (q : Parts) (xs : List D) : List D := hdRows q ++ q.ls.map (tabRow q) ++ xs.map nodeRow
def textOf (q : Parts) (xs : List D) : Str := PySem.Txt.join (Str.ofString "") ((textRows q xs).map lineT)
theorem wOk_lit (s : String) (h : sOk (Str.ofString s) = true := by decide +kernel) (h2 : (Str.ofString s).length ≤ 200 := by decide) : wOk (Str.ofString s) := ⟨h, h2⟩
theorem hdRows_ok {q : Parts} (hq : q.Ok) : ∀ r ∈ hdRows q, RowOk r := by
  have p4 := hq.p4
  have f4 := hq.f4
  have f1 := hq.f1
  intro r hr
  unfold hdRows at hr
  simp only [List.mem_cons, List.not_mem_nil, or_false] at hr
  rcases hr with rfl | rfl | rfl
  · refine ⟨Str.ofString "spaces" :: q.ls, rfl, by have := hq.l.hi; simp; omega, fun w hw => ?_⟩
    rcases List.mem_cons.mp hw with rfl | hw
    · exact wOk_lit "spaces"
    · exact wOk_name (hq.l.nm w hw)
  · refine ⟨[Str.ofString "pages", intT q.p, Str.ofString "frames", intT q.f], rfl, by simp, fun w hw => ?_⟩
    simp only [List.mem_cons, List.not_mem_nil, or_false] at hw
    rcases hw with rfl | rfl | rfl | rfl
    · exact wOk_lit "pages"
    · exact wOk_int (by omega)
    · exact wOk_lit "frames"
    · exact wOk_int (by omega)
  · obtain ⟨ws, e, hl, hw⟩ := rulesW_ok q
    refine ⟨Str.ofString "rules" :: ws, by rw [e]; rfl, by simp; omega, fun w h => ?_⟩
    rcases List.mem_cons.mp h with rfl | h
    · exact wOk_lit "rules"
    · exact hw w h
theorem tabRow_ok {q : Parts} (hq : q.Ok) {s : Str} (hs : s ∈ q.ls) : RowOk (tabRow q s) := by
  obtain ⟨_, cs, e, hl, hc⟩ := hq.row hs
  have p4 := hq.p4
  refine ⟨Str.ofString "table" :: s :: cs.map cellT, ?_, by simp; omega, fun w hw => ?_⟩
  · unfold tabRow cellsD
    rw [e]
    show D.lst (_ :: _ :: cs.map fun x => D.str (cellT x)) = D.lst (_ :: _ :: (cs.map cellT).map D.str)
    rw [List.map_map]; rfl
  · rcases List.mem_cons.mp hw with rfl | hw
    · exact wOk_lit "table"
    · rcases List.mem_cons.mp hw with rfl | hw
      · exact wOk_name (hq.l.nm _ hs)
      · obtain ⟨x, hx, rfl⟩ := List.mem_map.mp hw
        exact wOk_cell hq.f4 (hc x hx)
theorem two_lit {s : Str} {a b : String} (h : s ∈ [Str.ofString a, Str.ofString b]) (ha : wOk (Str.ofString a)) (hb : wOk (Str.ofString b)) : wOk s := by
  simp only [List.mem_cons, List.not_mem_nil, or_false] at h
  exact two_wOk h ha hb
theorem ac {α : Type} {P : α → Prop} {x : α} {xs : List α} (h : P x) (t : ∀ y ∈ xs, P y) : ∀ y ∈ x :: xs, P y := fun y hy => by
  rcases List.mem_cons.mp hy with rfl | hy
  · exact h
  · exact t y hy
theorem an {α : Type} {P : α → Prop} : ∀ y ∈ ([] : List α), P y := fun y hy => by cases hy
theorem step_items {q : Parts} (hq : q.Ok) {st : D} (h : StepOk q st) : ∃ its, st = .tup its ∧ its.length ≤ 5 ∧ ∀ x ∈ its, itemOk x := by
  have p4 := hq.p4
  have f4 := hq.f4
  have nm : ∀ {l : Str}, l ∈ q.ls → itemOk (.str l) := fun h => .inr ⟨_, rfl, wOk_name (hq.l.nm _ h)⟩
  have it : ∀ {i : Int}, -100 < i ∧ i < 100 → itemOk (.int i) := fun h => .inl ⟨_, rfl, h⟩
  have wd : ∀ {s : Str}, wOk s → itemOk (.str s) := fun h => .inr ⟨_, rfl, h⟩
  cases h with
  | map hl h0 h1 h2 h3 hr => exact ⟨_, rfl, by simp, (ac (wd (wOk_lit "map")) (ac (nm hl) (ac (it (by omega)) (ac (it (by omega)) (ac (wd (two_lit hr (wOk_lit "r") (wOk_lit "w"))) an)))))⟩
  | unmap hl h0 h1 => exact ⟨_, rfl, by simp, (ac (wd (wOk_lit "unmap")) (ac (nm hl) (ac (it (by omega)) an)))⟩
  | flush hl h0 h1 => exact ⟨_, rfl, by simp, (ac (wd (wOk_lit "flush")) (ac (nm hl) (ac (it (by omega)) an)))⟩
  | ask hl h0 h1 hr => exact ⟨_, rfl, by simp, (ac (wd (wOk_lit "ask")) (ac (nm hl) (ac (it (by omega)) (ac (wd (two_lit hr (wOk_lit "all") (wOk_lit "running"))) an))))⟩
  | raise hl => exact ⟨_, rfl, by simp, (ac (wd (wOk_lit "raise")) (ac (nm hl) an))⟩
  | close h0 h1 hr => exact ⟨_, rfl, by simp, (ac (wd (wOk_lit "close")) (ac (it (by omega)) (ac (wd (two_lit hr (wOk_lit "any") (wOk_lit "write"))) an)))⟩
  | open_ h0 h1 => exact ⟨_, rfl, by simp, (ac (wd (wOk_lit "open")) (ac (it (by omega)) an))⟩
  | copy h0 h1 h2 h3 => exact ⟨_, rfl, by simp, (ac (wd (wOk_lit "copy")) (ac (it (by omega)) (ac (it (by omega)) an)))⟩
  | wait => exact ⟨_, rfl, by simp, (ac (wd (wOk_lit "wait")) an)⟩
  | skip => exact ⟨_, rfl, by simp, (ac (wd (wOk_lit "skip")) an)⟩
theorem nodeRow_ok {q : Parts} (hq : q.Ok) {m : Int} (hm : m ≤ 12) {x : D} (h : NodeOk q m x) : ∃ its ns, x = .tup [.tup its, .tup (ns.map D.int)] ∧ its.length ≤ 5 ∧ (∀ y ∈ its, itemOk y) ∧ nextOk m ns ∧ nodeRow x = .lst (.str (Str.ofString "node") :: .str (nextT ns) :: its.map fun x => .str (itemT x)) ∧ RowOk (nodeRow x) := by
  obtain ⟨st, ns, rfl, hs, hn⟩ := h
  obtain ⟨its, rfl, hl, hi⟩ := step_items hq hs
  have e : nodeRow (nodeD (.tup its) ns) = .lst (.str (Str.ofString "node") :: .str (nextT ns) :: its.map fun x => .str (itemT x)) := by
    show D.lst (_ :: D.str (nextT (dints (ns.map D.int))) :: _) = _
    rw [dints_map]
  refine ⟨its, ns, rfl, hl, hi, hn, e, ?_⟩
  rw [e]
  refine ⟨Str.ofString "node" :: nextT ns :: its.map itemT, ?_, by simp; omega, fun w hw => ?_⟩
  · show _ = D.lst (_ :: _ :: (its.map itemT).map D.str)
    rw [List.map_map]; rfl
  · rcases List.mem_cons.mp hw with rfl | hw
    · exact wOk_lit "node"
    · rcases List.mem_cons.mp hw with rfl | hw
      · exact wOk_next hm hn
      · obtain ⟨x, hx, rfl⟩ := List.mem_map.mp hw
        exact (wOk_item (hi x hx)).2
theorem textRows_ok {q : Parts} (hq : q.Ok) {xs : List D} (h2 : xs.length ≤ 12) (hn : ∀ x ∈ xs, NodeOk q xs.length x) : (textRows q xs).length ≤ 30 ∧ ∀ r ∈ textRows q xs, RowOk r := by
  have hl := hq.l.hi
  refine ⟨by simp [textRows, hdRows]; omega, fun r hr => ?_⟩
  rcases List.mem_append.mp hr with hr | hr
  · rcases List.mem_append.mp hr with hr | hr
    · exact hdRows_ok hq r hr
    · obtain ⟨s, hs, rfl⟩ := List.mem_map.mp hr
      exact tabRow_ok hq hs
  · obtain ⟨x, hx, rfl⟩ := List.mem_map.mp hr
    obtain ⟨_, _, _, _, _, _, _, k⟩ := nodeRow_ok hq (by omega) (hn x hx)
    exact k
end Tr
namespace Tr
open PySem L2 Fl Sv
section
variable {f g : E'} {i : Nat} {s0 : Sl} {ρ0 ρ : Env'} {x : D}
def shT (o : Option Sl) (i : Nat) (f : E') (ρ : Env') : T (Sl × Env') := match o.bind showY with
  | some y => (f ((ρ.map Sl.blank).set i (.d y))).bind2 fun s _ => T.ofO (flatO s) fun b => .ret (.d b, ρ)
  | none => f ρ
theorem eShow_e : eShow i f (s0 :: ρ0) = shT ((s0 :: ρ0)[i]?) i f (s0 :: ρ0) := rfl
theorem shT_d : shT (some (.d x)) i f ρ = f ρ := id rfl
theorem shT_ld : shT (some (.ld x)) i f ρ = (f ((ρ.map Sl.blank).set i (.d x))).bind2 fun s _ => T.ofO (flatO s) fun b => .ret (.d b, ρ) := id rfl
def ldT (o : Option Sl) (i : Nat) (ρ : Env') : T (Sl × Env') := match o with
  | some (.ld y) => .ret (.ld y, ρ)
  | _ => eVar i ρ
theorem eLd_e : eLd i (s0 :: ρ0) = ldT ((s0 :: ρ0)[i]?) i (s0 :: ρ0) := by
  show (match ldO i (s0 :: ρ0) with | some y => T.ret (Sl.ld y, s0 :: ρ0) | none => eVar i (s0 :: ρ0)) = _
  unfold ldO ldT
  cases (s0 :: ρ0)[i]? with
  | none => rfl
  | some s => cases s <;> rfl
theorem ldT_d : ldT (some (.d x)) i ρ = eVar i ρ := id rfl
theorem ldT_ld : ldT (some (.ld x)) i ρ = .ret (.ld x, ρ) := id rfl
def dgT (o : Option Sl) (i : Nat) (g : E') (ρ : Env') : T (Sl × Env') := match o with
  | some (.ld x) => T.ofO (dicO x) fun q => (g ρ).bind2 fun s2 ρ2 => T.ofO s2.dat fun y => T.ofO (keyD y) fun j => T.ofO (lkD q.1 q.2 j) fun z => .ret (.d z, ρ2)
  | _ => eDg (eVar i) g ρ
theorem eDgL_e : eDgL i g (s0 :: ρ0) = dgT ((s0 :: ρ0)[i]?) i g (s0 :: ρ0) := by
  show (match ldO i (s0 :: ρ0) with | some x => _ | none => eDg (eVar i) g (s0 :: ρ0)) = _
  unfold ldO dgT
  cases (s0 :: ρ0)[i]? with
  | none => rfl
  | some s => cases s <;> rfl
theorem dgT_d : dgT (some (.d x)) i g ρ = eDg (eVar i) g ρ := id rfl
theorem dgT_ld : dgT (some (.ld x)) i g ρ = T.ofO (dicO x) fun q => (g ρ).bind2 fun s2 ρ2 => T.ofO s2.dat fun y => T.ofO (keyD y) fun j => T.ofO (lkD q.1 q.2 j) fun z => .ret (.d z, ρ2) := id rfl
def leT (o : Option Sl) (i : Nat) (f : E') (ρ : Env') : T (Sl × Env') := T.ofO (o.bind ownY) fun y => (f ((ρ.map Sl.blank).set i (.ld y))).bind2 fun s _ => T.need (noNo s) (.ret (s, ρ))
theorem eLend_e : eLend i f (s0 :: ρ0) = leT ((s0 :: ρ0)[i]?) i f (s0 :: ρ0) := rfl
theorem leT_od {ks : List Key} {vs : List D} : leT (some (.od ks vs)) i f ρ = (f ((ρ.map Sl.blank).set i (.ld (.dic ks vs)))).bind2 fun s _ => T.need (noNo s) (.ret (s, ρ)) := id rfl
theorem leT_ol {xs : List D} : leT (some (.ol xs)) i f ρ = (f ((ρ.map Sl.blank).set i (.ld (.lst xs)))).bind2 fun s _ => T.need (noNo s) (.ret (s, ρ)) := id rfl
theorem blank_d : (Sl.d x).blank = .d x := id rfl
theorem blank_src : Sl.src.blank = .src := id rfl
theorem blank_no : Sl.no.blank = .no := id rfl
theorem blank_ld : (Sl.ld x).blank = .ld x := id rfl
theorem blank_ol {xs : List D} : (Sl.ol xs).blank = .no := id rfl
theorem blank_od {ks : List Key} {vs : List D} : (Sl.od ks vs).blank = .no := id rfl
theorem blank_oi {C : Addr} {ns : List Str} {vs : List D} : (Sl.oi C ns vs).blank = .no := id rfl
theorem blank_bi {C : Addr} {ns : List Str} {vs : List D} : (Sl.bi C ns vs).blank = .no := id rfl
theorem flatO_bl {b : Bool} : flatO (.d (.bl b)) = some (.bl b) := id rfl
theorem flatO_int {j : Int} : flatO (.d (.int j)) = some (.int j) := id rfl
theorem arg_ld : (Sl.ld x).arg = some (.ld x) := id rfl
theorem argOk_ld : argOk (.ld x) = true := id rfl
theorem pend_ld : pend (.ld x) = true := id rfl
theorem eqP_e {xs ys : List D} : oEqP (.tup xs) (.tup ys) = T.ofO (eqEs xs ys) fun b => .ret (.d (.bl b)) := id rfl
theorem fListK_x {ks : List Key} {vs : List D} : fListK [.dic ks vs] = T.need (ks.all kOk) (.ret (.ol (ks.map keyT))) := id rfl
theorem fDictP_x {xs : List D} : fDictP [.lst xs] = T.ofO (prs xs) fun kxs => .ret (.od (mergeD [] [] kxs).1 (mergeD [] [] kxs).2) := id rfl
theorem sForIt_e {C : Addr} {m : Str} {gg : G'} {b : S'} : sForIt C i m gg b (s0 :: ρ0) = T.ofO (datO i (s0 :: ρ0)) fun z => T.ofO (insOf C z) fun q => T.ofO (lkF q.1 q.2 m) fun y => T.ofO (dicO y) fun p => T.need (p.1.all kOk && noDics p.2) (loopT gg b (pairD p.1 p.2) ((s0 :: ρ0).map Sl.lk)) := id rfl
def movS (o : Option Sl) : Option Sl := match o with
  | some s => if movY s = true then some s else none
  | none => none
theorem eMov_e : eMov i (s0 :: ρ0) = T.ofO (movS (s0 :: ρ0)[i]?) fun s => .ret (s, (s0 :: ρ0).set i .no) := rfl
theorem movS_ol {xs : List D} : movS (some (.ol xs)) = some (.ol xs) := id rfl
theorem movS_od {ks : List Key} {vs : List D} : movS (some (.od ks vs)) = some (.od ks vs) := id rfl
theorem movS_oi {C : Addr} {ns : List Str} {vs : List D} : movS (some (.oi C ns vs)) = some (.oi C ns vs) := id rfl
def datS (o : Option Sl) : Option D := match o with
  | some (.d z) => some z
  | _ => none
theorem datO_e : datO i ρ = datS ρ[i]? := rfl
theorem datS_d : datS (some (.d x)) = some x := id rfl
end
/-- the entries of a row -/
def rowE (s : Str) (x : D) : List D := match x with
  | .tup cs => (numbered cs).filterMap fun y => match y with
    | .tup [.int i, .tup [a, b]] => some (.tup [.str s, .int i, a, b])
    | _ => none
  | _ => []
def entsD (q : Parts) : List D := (q.ls.map fun s => rowE s (q.rowOf s)).flatten
theorem rowE_len {s : Str} {x : D} {p : Nat} {f : Int} (h : rowOk p f x) : (rowE s x).length ≤ p := by
  obtain ⟨cs, rfl, hl, _⟩ := h
  unfold rowE
  refine Nat.le_trans (List.length_filterMap_le _ _) ?_
  rw [len_numbered, hl]
  exact Nat.le_refl _
end Tr
namespace Tr
open PySem L2 Fl Sv
theorem perm_of_sub {α : Type} [DecidableEq α] : ∀ {xs ys : List α}, xs.Nodup → (∀ x ∈ xs, x ∈ ys) → ys.length ≤ xs.length → ys.Perm xs
  | [], ys, _, _, h => by
    have : ys = [] := List.length_eq_zero_iff.mp (by simpa using h)
    rw [this]
  | x :: xs, ys, hn, hs, hl => by
    have nd := List.nodup_cons.mp hn
    have hx := hs x (by simp)
    refine (List.perm_cons_erase hx).trans (List.Perm.cons x (perm_of_sub nd.2 (fun y hy => ?_) ?_))
    · have ne : y ≠ x := fun e => nd.1 (e ▸ hy)
      exact (List.mem_erase_of_ne ne).mpr (hs y (List.mem_cons_of_mem _ hy))
    · rw [List.length_erase_of_mem hx]
      rw [List.length_cons] at hl
      omega
section
variable {q q' : Parts}
theorem parts_perm (ok : q.Ok) : q.ks.Perm (q.ls.map Sum.inr) := by
  refine perm_of_sub (nodup_inr ok.l.nd) (fun x hx => ?_) ?_
  · obtain ⟨s, hs, rfl⟩ := List.mem_map.mp hx
    exact ok.g.al s hs
  · rw [List.length_map, ok.g.sz]; exact Nat.le_refl _
theorem parts_nd (ok : q.Ok) : q.ks.Nodup := (parts_perm ok).nodup_iff.mpr (nodup_inr ok.l.nd)
theorem parts_kOk (ok : q.Ok) : q.ks.all kOk = true := List.all_eq_true.mpr fun k hk => by
  obtain ⟨s, hs, rfl⟩ := List.mem_map.mp ((parts_perm ok).mem_iff.mp hk)
  exact nameS_ok (ok.l.nm s hs)
theorem prs_pair : ∀ {ks : List Key} {vs : List D}, prs (pairD ks vs) = some (ks.zip vs)
  | [], vs => by cases vs <;> rfl
  | _ :: _, [] => rfl
  | k :: ks, v :: vs => by
    have e : pairIn (.tup [keyT k, v]) = some (k, v) := by cases k <;> rfl
    show (match pairIn (.tup [keyT k, v]), prs (pairD ks vs) with | some b, some bs => some (b :: bs) | _, _ => none) = _
    rw [e, prs_pair]
    rfl
theorem prs_app : ∀ {xs ys : List D} {a b : List (Key × D)}, prs xs = some a → prs ys = some b → prs (xs ++ ys) = some (a ++ b)
  | [], ys, a, b, h1, h2 => by cases h1; exact h2
  | x :: xs, ys, a, b, h1, h2 => by
    have h1 : (match pairIn x, prs xs with | some b, some bs => some (b :: bs) | _, _ => none) = some a := h1
    show (match pairIn x, prs (xs ++ ys) with | some b, some bs => some (b :: bs) | _, _ => none) = _
    cases e1 : pairIn x with
    | none => rw [e1] at h1; cases h1
    | some p =>
      cases e2 : prs xs with
      | none => rw [e1, e2] at h1; cases h1
      | some r =>
        rw [e1, e2] at h1
        cases h1
        rw [prs_app e2 h2]
        rfl
theorem merge_app : ∀ {l1 l2 : List (Key × D)} {ks : List Key} {vs : List D}, mergeD ks vs (l1 ++ l2) = mergeD (mergeD ks vs l1).1 (mergeD ks vs l1).2 l2
  | [], _, _, _ => rfl
  | (k, x) :: l1, l2, ks, vs => merge_app (l1 := l1)
theorem merge_new : ∀ {ks : List Key} {vs : List D} {pk : List Key} {pv : List D}, pk.length = pv.length → ks.length = vs.length → (pk ++ ks).Nodup → mergeD pk pv (ks.zip vs) = (pk ++ ks, pv ++ vs)
  | [], [], pk, pv, _, _, _ => by rw [List.append_nil, List.append_nil]; rfl
  | k :: ks, v :: vs, pk, pv, h1, h2, hn => by
    have hnew : k ∉ pk := fun m => (List.nodup_append.mp hn).2.2 k m k (by simp) rfl
    show mergeD (putD pk pv k v).1 (putD pk pv k v).2 (ks.zip vs) = _
    rw [putD_new h1 hnew]
    rw [merge_new (by simp [h1]) (by simpa using h2) (by simpa using hn)]
    simp
theorem put_keys : ∀ {ks : List Key} {vs : List D} {k : Key} {x : D}, ks.length = vs.length → k ∈ ks → (putD ks vs k x).1 = ks ∧ (putD ks vs k x).2.length = vs.length ∧ ∀ v ∈ (putD ks vs k x).2, v ∈ vs ∨ v = x
  | [], _, _, _, _, h => by cases h
  | _ :: _, [], _, _, h, _ => by cases h
  | j :: ks, v :: vs, k, x, hl, hk => by
    by_cases e : j = k
    · have e1 : putD (j :: ks) (v :: vs) k x = (j :: ks, x :: vs) := if_pos e
      rw [e1]
      refine ⟨rfl, rfl, fun w hw => ?_⟩
      rcases List.mem_cons.mp hw with h | h
      · exact .inr h
      · exact .inl (List.mem_cons_of_mem _ h)
    · have e1 : putD (j :: ks) (v :: vs) k x = ((j :: (putD ks vs k x).1), (v :: (putD ks vs k x).2)) := if_neg e
      have hk : k ∈ ks := by
        rcases List.mem_cons.mp hk with h | h
        · exact absurd h.symm e
        · exact h
      obtain ⟨i1, i2, i3⟩ := put_keys (x := x) (by simpa using hl) hk
      rw [e1]
      refine ⟨by rw [i1], by simp [i2], fun w hw => ?_⟩
      rcases List.mem_cons.mp hw with h | h
      · exact .inl (by simp [h])
      · rcases i3 w h with h | h
        · exact .inl (List.mem_cons_of_mem _ h)
        · exact .inr h
theorem pairs_map {f : Str → D} : ∀ {ls : List Str}, pairD (ls.map .inr) (ls.map f) = ls.map fun s => .tup [.str s, f s]
  | [] => rfl
  | s :: ls => by
    show D.tup [.str s, f s] :: pairD (ls.map .inr) (ls.map f) = _
    rw [pairs_map]
    rfl
theorem eqD_lcons {x y : D} {xs ys : List D} : eqD (.lst (x :: xs)) (.lst (y :: ys)) = (eqD x y && eqD (.lst xs) (.lst ys)) := by
  unfold eqD
  simp only [toPy, toPys, PyData.eqv, PyData.eqvAll]
theorem eqD_pairs {f g : Str → D} : ∀ {ls : List Str}, eqD (.lst (ls.map fun s => .tup [.str s, f s])) (.lst (ls.map fun s => .tup [.str s, g s])) = ls.all fun s => eqD (f s) (g s)
  | [] => rfl
  | s :: ls => by
    rw [List.map_cons, List.map_cons, eqD_lcons, eqD_pairs, List.all_cons, eqD_tcons, eqD_refl, eqD_tcons, eqD_tnn, Bool.true_and, Bool.and_true]
theorem parts_vok (ok : q.Ok) : q.vs.all (Fl.ok 8) = true := List.all_eq_true.mpr fun v hv => ok_row (ok.g.rw_ v hv) 6
theorem eqE_lf {x y : D} (h1 : ok 8 x = true) (h2 : ok 8 y = true) : eqE x y = some (eqD x y) := by
  have h : (ok 8 x && ok 8 y) = true := by rw [h1, h2]; rfl
  cases x with
  | dic _ _ => cases h1
  | _ => exact if_pos h
theorem eqE_grid (ok : q.Ok) (ok' : q'.Ok) (e : q'.ls = q.ls) : eqE q.grid q'.grid = some (q.ls.all fun s => eqD (q.rowOf s) (q'.rowOf s)) := by
  have h : (q.vs.all (Fl.ok 8) && q'.vs.all (Fl.ok 8)) = true := by rw [parts_vok ok, parts_vok ok']; rfl
  refine (if_pos h).trans ?_
  congr 1
  have hl : (q.ks.length == q'.ks.length) = true := by rw [ok.g.sz, ok'.g.sz, e]; exact beq_self_eq_true _
  rw [hl, Bool.true_and, Bool.eq_iff_iff, List.all_eq_true, List.all_eq_true]
  have key : ∀ s ∈ q.ls, eqK q.ks q.vs q'.ks q'.vs (.inr s) = eqD (q.rowOf s) (q'.rowOf s) := fun s hs => by
    unfold eqK
    rw [(ok.row hs).1, (ok'.row (by rw [e]; exact hs)).1]
  constructor
  · intro h s hs
    rw [← key s hs]
    exact h _ ((parts_perm ok).mem_iff.mpr (List.mem_map.mpr ⟨s, hs, rfl⟩))
  · intro h k hk
    obtain ⟨s, hs, rfl⟩ := List.mem_map.mp ((parts_perm ok).mem_iff.mp hk)
    rw [key s hs]
    exact h s hs
theorem eqEs_cons {x y : D} {xs ys : List D} : eqEs (x :: xs) (y :: ys) = (eqE x y).bind fun b => (eqEs xs ys).map fun c => b && c := rfl
/-- parts as a tuple with a dict, parts as a world tells them: equal alike -/
theorem eqEs_parts (hq : q.Ok) (hq' : q'.Ok) (e : q'.ls = q.ls) : eqEs [q.lsD, .int q.p, .int q.f, q.grid, q.rules] [q'.lsD, .int q'.p, .int q'.f, q'.grid, q'.rules] = some (eqD (partsD q) (partsD q')) := by
  have l1 : ∀ q : Parts, q.Ok → ok 8 q.lsD = true := fun q hq => by
    unfold Parts.lsD
    rw [ok_tup]
    exact (ok_strs 7 q.ls).1
  have l2 : ∀ q : Parts, ok 8 q.rules = true := fun q => rfl
  have eg := eqE_grid hq hq' e
  rw [eqEs_cons, eqEs_cons, eqEs_cons, eqEs_cons, eqEs_cons, eqE_lf (l1 q hq) (l1 q' hq'), eqE_lf (ok_int ..) (ok_int ..), eqE_lf (ok_int ..) (ok_int ..), eg, eqE_lf (l2 q) (l2 q')]
  unfold partsD
  rw [eqD_tcons, eqD_tcons, eqD_tcons, eqD_tcons, eqD_tcons, eqD_tnn, pairs_map, pairs_map, e, eqD_pairs]
  rfl
theorem noDic_cell {f : Int} {x : D} (h : cellOk f x) : noDic x = true := by
  rcases h with rfl | ⟨i, s, rfl, _⟩ <;> rfl
theorem noDics_all : ∀ {xs : List D}, (∀ x ∈ xs, noDic x = true) → noDics xs = true
  | [], _ => rfl
  | x :: xs, h => by
    show (noDic x && noDics xs) = true
    rw [h x (by simp), noDics_all fun y hy => h y (List.mem_cons_of_mem _ hy)]; rfl
theorem noDic_row {p : Nat} {f : Int} {x : D} (h : rowOk p f x) : noDic x = true := by
  obtain ⟨cs, rfl, _, hc⟩ := h
  exact noDics_all fun c hc' => noDic_cell (hc c hc')
theorem parts_noDics (hq : q.Ok) : noDics (q.ls.map q.rowOf) = true := noDics_all fun x hx => by
  obtain ⟨s, hs, rfl⟩ := List.mem_map.mp hx
  exact noDic_row (hq.row hs).2
theorem wts_le {xs : List D} {B : Nat} (h : ∀ x ∈ xs, wt x ≤ B) : wts xs ≤ xs.length * (B + 2) := by
  induction xs with
  | nil => exact Nat.zero_le _
  | cons x xs ih =>
    have h1 := h x (by simp)
    have h2 := ih fun y hy => h y (List.mem_cons_of_mem _ hy)
    show wt x + 2 + wts xs ≤ _
    rw [List.length_cons, Nat.succ_mul]
    omega
theorem cell_shw {f : Int} {x : D} (f4 : f ≤ 4) (h : cellOk f x) (n : Nat) : shw (n + 1) x = true ∧ wt x ≤ 30 := by
  rcases h with rfl | ⟨i, s, rfl, h0, h1, h2⟩
  · exact ⟨rfl, by show 5 ≤ 30; decide⟩
  · have hs : PyData.strOk s = true ∧ s.length = 1 := by rcases h2 with rfl | rfl <;> exact ⟨by decide +kernel, by decide +kernel⟩
    refine ⟨?_, ?_⟩
    · show shws n [.int i, .str s] = true
      rw [shws_all, List.all_cons, List.all_cons, List.all_nil]
      have e1 : shw n (.int i) = true := by cases n <;> rfl
      have e2 : shw n (.str s) = true := by cases n <;> exact hs.1
      rw [e1, e2]; rfl
    · show 3 + (i.natAbs + 2 + 2 + (10 * s.length + 2 + 2 + 0)) ≤ 30
      rw [hs.2]
      omega
theorem row_shw {p : Nat} {f : Int} {x : D} (p4 : p ≤ 4) (f4 : f ≤ 4) (h : rowOk p f x) (n : Nat) : shw (n + 2) x = true ∧ wt x ≤ 131 := by
  obtain ⟨cs, rfl, hl, hc⟩ := h
  refine ⟨?_, ?_⟩
  · show shws (n + 1) cs = true
    rw [shws_all]
    exact List.all_eq_true.mpr fun c hc' => (cell_shw f4 (hc c hc') n).1
  · show 3 + wts cs ≤ 131
    have h1 := wts_le (B := 30) fun c hc' => (cell_shw f4 (hc c hc') 0).2
    have h2 : cs.length * (30 + 2) ≤ 4 * (30 + 2) := Nat.mul_le_mul_right _ (by omega)
    omega
theorem name_shw {s : Str} (h : nameS s = true) (n : Nat) : shw n (.str s) = true ∧ wt (.str s) ≤ 82 := by
  have h1 := sOk_1 (nameS_ok h)
  have h2 := ((nameS_iff s).mp h).2.1
  refine ⟨by cases n <;> exact h1, ?_⟩
  show 10 * s.length + 2 ≤ 82
  omega
/-- what a world tells -/
def toldD (q : Parts) : D := .lst [q.lsD, .int q.p, .int q.f, .lst (q.ls.map fun s => .tup [.str s, q.rowOf s]), .bl q.t, .bl q.c, .bl q.e]
theorem told_shw (hq : q.Ok) : shw 60 (toldD q) = true ∧ wt (toldD q) ≤ 100000 := by
  have h3 := hq.l.hi
  have a1 : shws 58 (q.ls.map D.str) = true := by
    rw [shws_all]
    refine List.all_eq_true.mpr fun x hx => ?_
    obtain ⟨s, hs, rfl⟩ := List.mem_map.mp hx
    exact (name_shw (hq.l.nm s hs) 58).1
  have a2 : wts (q.ls.map D.str) ≤ (q.ls.map D.str).length * (82 + 2) := wts_le fun x hx => by
    obtain ⟨s, hs, rfl⟩ := List.mem_map.mp hx
    exact (name_shw (hq.l.nm s hs) 58).2
  have b1 : shws 58 (q.ls.map fun s => .tup [.str s, q.rowOf s]) = true := by
    rw [shws_all]
    refine List.all_eq_true.mpr fun x hx => ?_
    obtain ⟨s, hs, rfl⟩ := List.mem_map.mp hx
    show shws 57 [.str s, q.rowOf s] = true
    rw [shws_all, List.all_cons, List.all_cons, List.all_nil, (name_shw (hq.l.nm s hs) 57).1, (row_shw hq.p4 hq.f4 (hq.row hs).2 55).1]
    rfl
  have b2 : wts (q.ls.map fun s => D.tup [.str s, q.rowOf s]) ≤ (q.ls.map fun s => D.tup [.str s, q.rowOf s]).length * (220 + 2) := wts_le fun x hx => by
    obtain ⟨s, hs, rfl⟩ := List.mem_map.mp hx
    have c1 := (name_shw (hq.l.nm s hs) 57).2
    have c2 := (row_shw hq.p4 hq.f4 (hq.row hs).2 55).2
    show 3 + (wt (.str s) + 2 + (wt (q.rowOf s) + 2 + 0)) ≤ 220
    omega
  rw [List.length_map] at a2 b2
  have p4 := hq.p4
  have f1 := hq.f1
  have f4 := hq.f4
  refine ⟨?_, ?_⟩
  · show (shws 58 (q.ls.map D.str) && (true && (true && (shws 58 (q.ls.map fun s => .tup [.str s, q.rowOf s]) && (true && (true && (true && true))))))) = true
    rw [a1, b1]; rfl
  · show 3 + (3 + wts (q.ls.map D.str) + 2 + (((q.p : Nat) : Int).natAbs + 2 + 2 + (q.f.natAbs + 2 + 2 + (3 + wts (q.ls.map fun s => D.tup [.str s, q.rowOf s]) + 2 + (5 + 2 + (5 + 2 + (5 + 2 + 0))))))) ≤ 100000
    omega
end
end Tr
namespace K02
open PySem L2 Fl Tr
/-- the classes -/
structure Cs where
  World : Addr
def m__law_draw (c : Cs) : M := drawM
theorem draw_e {c : Cs} {m : Int} : m__law_draw c [.src, .d (.int m)] = .draw m fun r => .ret (.d (.int r)) := id rfl
def b_is_name (c : Cs) : S' := (sSeq (sIf (tOr' (tNot' (tTst (eIsi "str" (eVar 0)))) (tNot' (tTst (eChain oLe oLe (eC (.int 1)) (eCall fLen (aCons (eVar 0) aNil)) (eC (.int 8)))))) (sRet (eC (.bl false))) sNext) (sRet (eCall fAll (aCons (eLc (iSq' (eVar 0)) (gNm' 1) tYes' (eOp oIn (eVar 1) (eC (.str "abcdefghijklmnopqrstuvwxyz"))) [1]) aNil))))
def m_is_name (c : Cs) : M := defM 1 (b_is_name c)
def b_is_integer (c : Cs) : S' := (sRet (eAnd (eIsi "int" (eVar 0)) (eNot (eIsi "bool" (eVar 0)))))
def m_is_integer (c : Cs) : M := defM 0 (b_is_integer c)
def b_is_index (c : Cs) : S' := (sRet (eAnd (eFn 1 (m_is_integer c) (bArg' (eVar 0) bNil')) (eChain oLe oLt (eC (.int 0)) (eVar 0) (eVar 1))))
def m_is_index (c : Cs) : M := defM 0 (b_is_index c)
def b_is_word (c : Cs) : S' := (sRet (eAnd (eIsi "str" (eVar 0)) (eOp oIn (eVar 0) (eVar 1))))
def m_is_word (c : Cs) : M := defM 0 (b_is_word c)
def b_are_spaces (c : Cs) : S' := (sSeq (sIf (tOr' (tNot' (tTst (eIsi "tuple" (eVar 0)))) (tNot' (tTst (eChain oLe oLe (eC (.int 1)) (eCall fLen (aCons (eVar 0) aNil)) (eC (.int 3)))))) (sRet (eC (.bl false))) sNext) (sRet (eAnd (eCall fAll (aCons (eLc (iSq' (eVar 0)) (gNm' 1) tYes' (eFn 1 (m_is_name c) (bArg' (eVar 1) bNil')) [1]) aNil)) (eOp oEq (eCall fList (aCons (eVar 0) aNil)) (eCall fSort (aCons (eDc (iSq' (eVar 0)) (gNm' 1) tYes' (eVar 1) (eC (.bl true)) [1]) aNil))))))
def m_are_spaces (c : Cs) : M := defM 1 (b_are_spaces c)
def b_is_filled (c : Cs) : S' := (sSeq (sIf (tOr' (tNot' (tTst (eIsi "tuple" (eVar 0)))) (tTst (eOp oNe (eCall fLen (aCons (eVar 0) aNil)) (eC (.int 2))))) (sRet (eC (.bl false))) sNext) (sRet (eAnd (eFn 2 (m_is_index c) (bArg' (eIx (eVar 0) (eC (.int 0))) (bArg' (eVar 1) bNil'))) (eFn 2 (m_is_word c) (bArg' (eIx (eVar 0) (eC (.int 1))) (bArg' (eC (.tup [(.str "r"), (.str "w")])) bNil'))))))
def m_is_filled (c : Cs) : M := defM 0 (b_is_filled c)
def b_is_table (c : Cs) : S' := (sSeq (sIf (tOr' (tNot' (tTst (eIsi "tuple" (eVar 0)))) (tTst (eOp oNe (eCall fLen (aCons (eVar 0) aNil)) (eVar 1)))) (sRet (eC (.bl false))) sNext) (sRet (eCall fAll (aCons (eLc (iSq' (eVar 0)) (gNm' 3) tYes' (eOr (eOp oIsN (eVar 3) (eC .non)) (eFn 2 (m_is_filled c) (bArg' (eVar 3) (bArg' (eVar 2) bNil')))) [3]) aNil))))
def m_is_table (c : Cs) : M := defM 1 (b_is_table c)
def b_are_tables (c : Cs) : S' := (sSeq (sIf (tOr' (tNot' (tTst (eIsi "dict" (eVar 0)))) (tTst (eOp oNe (eCall fLen (aCons (eVar 0) aNil)) (eCall fLen (aCons (eVar 1) aNil))))) (sRet (eC (.bl false))) sNext) (sRet (eCall fAll (aCons (eLc (iSq' (eVar 1)) (gNm' 4) tYes' (eAnd (eDin (eVar 4) (eVar 0)) (eFn 3 (m_is_table c) (bArg' (eDg (eVar 0) (eVar 4)) (bArg' (eVar 2) (bArg' (eVar 3) bNil'))))) [4]) aNil))))
def m_are_tables (c : Cs) : M := defM 1 (b_are_tables c)
def b_World_init (c : Cs) : S' := (sSeq (sIf (tNot' (tTst (eFn 1 (m_are_spaces c) (bArg' (eVar 1) bNil')))) sNever sNext) (sSeq (sIf (tOr' (tNot' (tTst (eFn 1 (m_is_integer c) (bArg' (eVar 2) bNil')))) (tNot' (tTst (eChain oLe oLe (eC (.int 1)) (eVar 2) (eC (.int 4)))))) sNever sNext) (sSeq (sIf (tOr' (tNot' (tTst (eFn 1 (m_is_integer c) (bArg' (eVar 3) bNil')))) (tNot' (tTst (eChain oLe oLe (eC (.int 1)) (eVar 3) (eC (.int 4)))))) sNever sNext) (sSeq (sIf (tNot' (tTst (eShow 4 (eFn 4 (m_are_tables c) (bArg' (eLd 4) (bArg' (eVar 1) (bArg' (eVar 2) (bArg' (eVar 3) bNil')))))))) sNever sNext) (sSeq (sFor (iSq' (eLst (aCons (eTup (aCons (eC (.str "tags")) (aCons (eVar 5) aNil))) (aCons (eTup (aCons (eC (.str "checks")) (aCons (eVar 6) aNil))) (aCons (eTup (aCons (eC (.str "early")) (aCons (eVar 7) aNil))) aNil))))) (gTp' 2 (gsCons (gNm' 8) (gsCons (gNm' 9) gsNil))) (sIf (tNot' (tTst (eIsi "bool" (eVar 9)))) sNever sNext)) (sSeq (sSetF c.World 0 "own_spaces" (eVar 1)) (sSeq (sSetF c.World 0 "own_pages" (eVar 2)) (sSeq (sSetF c.World 0 "own_frames" (eVar 3)) (sSeq (sSetF c.World 0 "own_tables" (eDc (iSq' (eVar 1)) (gNm' 10) tYes' (eVar 10) (eDgL 4 (eVar 10)) [10])) (sSetF c.World 0 "own_rules" (eTup (aCons (eVar 5) (aCons (eVar 6) (aCons (eVar 7) aNil))))))))))))))
def m_World_init (c : Cs) : MI := defI c.World 3 (b_World_init c)
def b_World_spaces (c : Cs) : S' := (sRet (eFld c.World "own_spaces" (eVar 0)))
def m_World_spaces (c : Cs) : M := defM 0 (b_World_spaces c)
def b_World_pages (c : Cs) : S' := (sRet (eFld c.World "own_pages" (eVar 0)))
def m_World_pages (c : Cs) : M := defM 0 (b_World_pages c)
def b_World_frames (c : Cs) : S' := (sRet (eFld c.World "own_frames" (eVar 0)))
def m_World_frames (c : Cs) : M := defM 0 (b_World_frames c)
def b_World_tables (c : Cs) : S' := (sRet (eCall fDict (aCons (eFld c.World "own_tables" (eVar 0)) aNil)))
def m_World_tables (c : Cs) : M := defM 0 (b_World_tables c)
def b_World_tags (c : Cs) : S' := (sRet (eIx (eFld c.World "own_rules" (eVar 0)) (eC (.int 0))))
def m_World_tags (c : Cs) : M := defM 0 (b_World_tags c)
def b_World_checks (c : Cs) : S' := (sRet (eIx (eFld c.World "own_rules" (eVar 0)) (eC (.int 1))))
def m_World_checks (c : Cs) : M := defM 0 (b_World_checks c)
def b_World_early (c : Cs) : S' := (sRet (eIx (eFld c.World "own_rules" (eVar 0)) (eC (.int 2))))
def m_World_early (c : Cs) : M := defM 0 (b_World_early c)
def b_World_parts (c : Cs) : S' := (sRet (eTup (aCons (eFld c.World "own_spaces" (eVar 0)) (aCons (eFld c.World "own_pages" (eVar 0)) (aCons (eFld c.World "own_frames" (eVar 0)) (aCons (eItems (eFld c.World "own_tables" (eVar 0))) (aCons (eFld c.World "own_rules" (eVar 0)) aNil)))))))
def m_World_parts (c : Cs) : M := defM 0 (b_World_parts c)
def b_World___eq__ (c : Cs) : S' := (sRet (eAnd (eIsOwn c.World (eVar 1)) (eOp oEq (eMeth0 c.World "parts" (m_World_parts c) (eVar 0)) (eMeth0 c.World "parts" (m_World_parts c) (eVar 1)))))
def m_World___eq__ (c : Cs) : M := defM 0 (b_World___eq__ c)
def b_World_entries (c : Cs) : S' := (sSeq (sAsg (eLst aNil) (gNm' 1)) (sSeq (sForIt c.World 0 "own_tables" (gTp' 2 (gsCons (gNm' 2) (gsCons (gNm' 3) gsNil))) (sExpr (eExt 1 (eLc (iEnA' (aCons (eVar 3) aNil)) (gTp' 2 (gsCons (gNm' 4) (gsCons (gNm' 5) gsNil))) (tTst (eOp oNotN (eVar 5) (eC .non))) (eOp oAdd (eTup (aCons (eVar 2) (aCons (eVar 4) aNil))) (eVar 5)) [4, 5])))) (sRet (eMov 1))))
def m_World_entries (c : Cs) : M := defM 5 (b_World_entries c)
def b__law_pick (c : Cs) : S' := (sRet (eIx (eVar 1) (eFn 2 (m__law_draw c) (bArg' (eVar 0) (bArg' (eCall fLen (aCons (eVar 1) aNil)) bNil')))))
def m__law_pick (c : Cs) : M := defM 0 (b__law_pick c)
def b__law_shuffled (c : Cs) : S' := (sSeq (sPar 2 3 (bCons' (eCall fList (aCons (eVar 1) aNil)) (bCons' (eLst aNil) bNil'))) (sSeq (sWhile big (tOwnNe 2) (sExpr (eApp 3 (ePop 2 (eFn 2 (m__law_draw c) (bArg' (eVar 0) (bArg' (eOwnLen 2) bNil'))))))) (sRet (eVar 3))))
def m__law_shuffled (c : Cs) : M := defM 2 (b__law_shuffled c)
def b__law_labels (c : Cs) : S' := (sSeq (sPar 2 3 (bCons' (eC (.str "abcdefghijklmnopqrstuvwxyz")) (bCons' (eLst aNil) bNil'))) (sSeq (sAsg (eLst (aCons (eC (.str "a")) (aCons (eC (.str "b")) (aCons (eC (.str "c")) (aCons (eC (.str "all")) (aCons (eC (.str "running")) (aCons (eC (.str "node")) (aCons (eC (.str "wait")) (aCons (eC (.str "any")) (aCons (eC (.str "abcdefgh")) aNil)))))))))) (gNm' 4)) (sSeq (sFor (iR' (aCons (eVar 1) aNil)) (gNm' 5) (sSeq (sAsg (eFn 2 (m__law_pick c) (bArg' (eVar 0) (bArg' (eVar 4) bNil'))) (gNm' 6)) (sSeq (sIf (tTst (eOp oGt (eFn 2 (m__law_draw c) (bArg' (eVar 0) (bArg' (eC (.int 3)) bNil'))) (eC (.int 0)))) (sAsg (eJoin (eC (.str "")) (eLc (iR' (aCons (eFn 2 (m__law_pick c) (bArg' (eVar 0) (bArg' (eLst (aCons (eC (.int 1)) (aCons (eC (.int 1)) (aCons (eC (.int 2)) (aCons (eC (.int 8)) aNil))))) bNil'))) aNil)) (gNm' 7) tYes' (eFn 2 (m__law_pick c) (bArg' (eVar 0) (bArg' (eVar 2) bNil'))) [7])) (gNm' 6)) sNext) (sSeq (sAsg (eLc (iSq' (eVar 2)) (gNm' 9) tYes' (eOp oAdd (eOp oAdd (eSl (eVar 6) oNo' (oSome' (eC (.int 6)))) (eC (.str "x"))) (eVar 9)) [9]) (gNm' 8)) (sExpr (eApp 3 (eIx (eLc (iSq' (eOp oAdd (eLst (aCons (eVar 6) aNil)) (eVar 8))) (gNm' 10) (tTst (eOwnIn true 3 (eVar 10))) (eVar 10) [10]) (eC (.int 0))))))))) (sRet (eVar 3)))))
def m__law_labels (c : Cs) : M := defM 9 (b__law_labels c)
def b__law_cell (c : Cs) : S' := (sSeq (sIf (tTst (eOp oEq (eFn 2 (m__law_draw c) (bArg' (eVar 0) (bArg' (eC (.int 3)) bNil'))) (eC (.int 0)))) (sRet (eC .non)) sNext) (sRet (eTup (aCons (eFn 2 (m__law_draw c) (bArg' (eVar 0) (bArg' (eVar 1) bNil'))) (aCons (eFn 2 (m__law_pick c) (bArg' (eVar 0) (bArg' (eLst (aCons (eC (.str "r")) (aCons (eC (.str "w")) aNil))) bNil'))) aNil)))))
def m__law_cell (c : Cs) : M := defM 0 (b__law_cell c)
def b__law_parts (c : Cs) : S' := (sSeq (sAsg (eCall fTuple (aCons (eCall fSort (aCons (eFn 2 (m__law_labels c) (bArg' (eVar 0) (bArg' (eOp oAdd (eC (.int 1)) (eFn 2 (m__law_draw c) (bArg' (eVar 0) (bArg' (eVar 1) bNil')))) bNil'))) aNil)) aNil)) (gNm' 2)) (sSeq (sPar3 3 4 5 (bCons' (eOp oAdd (eC (.int 1)) (eFn 2 (m__law_draw c) (bArg' (eVar 0) (bArg' (eC (.int 4)) bNil')))) (bCons' (eOp oAdd (eC (.int 1)) (eFn 2 (m__law_draw c) (bArg' (eVar 0) (bArg' (eC (.int 4)) bNil')))) (bCons' eDic0 bNil')))) (sSeq (sFor (iSq' (eFn 2 (m__law_shuffled c) (bArg' (eVar 0) (bArg' (eVar 2) bNil')))) (gNm' 6) (sSetD 5 (eCall fTuple (aCons (eLc (iR' (aCons (eVar 3) aNil)) (gNm' 7) tYes' (eFn 2 (m__law_cell c) (bArg' (eVar 0) (bArg' (eVar 4) bNil'))) [7]) aNil)) (eVar 6))) (sRet (eTup (aCons (eVar 2) (aCons (eVar 3) (aCons (eVar 4) (aCons (eVar 5) (aCons (eCall fTuple (aCons (eLc (iR' (aCons (eC (.int 3)) aNil)) (gNm' 7) tYes' (eOp oEq (eFn 2 (m__law_draw c) (bArg' (eVar 0) (bArg' (eC (.int 2)) bNil'))) (eC (.int 0))) [7]) aNil)) aNil))))))))))
def m__law_parts (c : Cs) : M := defM 6 (b__law_parts c)
def b__law_base (c : Cs) : S' := (sSeq (sAsg (eVar 0) (gTp' 5 (gsCons (gNm' 1) (gsCons (gNm' 2) (gsCons (gNm' 3) (gsCons (gNm' 4) (gsCons (gNm' 5) gsNil))))))) (sRet (eMakeP c.World 4 3 8 [0, 1, 2, 3, 4, 5, 6] (m_World_init c) (bArg' (eVar 1) (bArg' (eVar 2) (bArg' (eVar 3) (bArg' (eVar 4) bNil')))) (bArg' (eIx (eVar 5) (eC (.int 0))) (bArg' (eIx (eVar 5) (eC (.int 1))) (bArg' (eIx (eVar 5) (eC (.int 2))) bNil'))))))
def m__law_base (c : Cs) : M := defM 5 (b__law_base c)
def b__law_other (c : Cs) : S' := (sSeq (sAsg (eVar 1) (gTp' 5 (gsCons (gNm' 2) (gsCons (gNm' 3) (gsCons (gNm' 4) (gsCons (gNm' 5) (gsCons (gNm' 6) gsNil))))))) (sSeq (sPar3 7 8 9 (bCons' (eFn 2 (m__law_draw c) (bArg' (eVar 0) (bArg' (eC (.int 6)) bNil'))) (bCons' (eFn 2 (m__law_pick c) (bArg' (eVar 0) (bArg' (eVar 2) bNil'))) (bCons' (eFn 2 (m__law_draw c) (bArg' (eVar 0) (bArg' (eVar 3) bNil'))) bNil')))) (sSeq (sIf (tTst (eOp oLt (eVar 7) (eC (.int 3)))) (sRet (eTup (aCons (eVar 2) (aCons (eVar 3) (aCons (eVar 4) (aCons (eVar 5) (aCons (eOp oAdd (eOp oAdd (eSl (eVar 6) oNo' (oSome' (eVar 7))) (eTup (aCons (eNot (eIx (eVar 6) (eVar 7))) aNil))) (eSl (eVar 6) (oSome' (eOp oAdd (eVar 7) (eC (.int 1)))) oNo')) aNil))))))) sNext) (sSeq (sIf (tAnd' (tTst (eOp oEq (eVar 7) (eC (.int 3)))) (tTst (eOp oLt (eVar 4) (eC (.int 4))))) (sRet (eTup (aCons (eVar 2) (aCons (eVar 3) (aCons (eOp oAdd (eVar 4) (eC (.int 1))) (aCons (eVar 5) (aCons (eVar 6) aNil))))))) sNext) (sSeq (sIf (tAnd' (tTst (eOp oEq (eVar 7) (eC (.int 4)))) (tTst (eOp oLt (eVar 3) (eC (.int 4))))) (sRet (eTup (aCons (eVar 2) (aCons (eOp oAdd (eVar 3) (eC (.int 1))) (aCons (eVar 4) (aCons (eCall fDictP (aCons (eLc (iSq' (eVar 2)) (gNm' 10) tYes' (eTup (aCons (eVar 10) (aCons (eOp oAdd (eDg (eVar 5) (eVar 10)) (eTup (aCons (eC .non) aNil))) aNil))) [10]) aNil)) (aCons (eVar 6) aNil))))))) sNext) (sSeq (sAsg (eDg (eVar 5) (eVar 8)) (gNm' 11)) (sSeq (sAsg (eFn 2 (m__law_pick c) (bArg' (eVar 0) (bArg' (eLst (aCons (eC .non) (aCons (eTup (aCons (eC (.int 0)) (aCons (eC (.str "r")) aNil))) (aCons (eTup (aCons (eC (.int 0)) (aCons (eC (.str "w")) aNil))) (aCons (eTup (aCons (eOp oSub (eVar 4) (eC (.int 1))) (aCons (eC (.str "r")) aNil))) aNil))))) bNil'))) (gNm' 12)) (sSeq (sAsg (eCall fDictP (aCons (eOp oAdd (eItems (eVar 5)) (eLst (aCons (eTup (aCons (eVar 8) (aCons (eOp oAdd (eOp oAdd (eSl (eVar 11) oNo' (oSome' (eVar 9))) (eTup (aCons (eVar 12) aNil))) (eSl (eVar 11) (oSome' (eOp oAdd (eVar 9) (eC (.int 1)))) oNo')) aNil))) aNil))) aNil)) (gNm' 13)) (sRet (eTup (aCons (eVar 2) (aCons (eVar 3) (aCons (eVar 4) (aCons (eVar 13) (aCons (eVar 6) aNil)))))))))))))))
def m__law_other (c : Cs) : M := defM 12 (b__law_other c)
def b__law_right (c : Cs) : S' := (sSeq (sAsg (eVar 1) (gTp' 5 (gsCons (gNm' 2) (gsCons (gNm' 3) (gsCons (gNm' 4) (gsCons (gNm' 5) (gsCons (gNm' 6) gsNil))))))) (sSeq (sAsg (eLst aNil) (gNm' 7)) (sSeq (sFor (iSq' (eVar 2)) (gNm' 8) (sAsg (eOp oAdd (eVar 7) (eLc (iEnA' (aCons (eDg (eVar 5) (eVar 8)) aNil)) (gTp' 2 (gsCons (gNm' 9) (gsCons (gNm' 10) gsNil))) (tTst (eOp oNotN (eVar 10) (eC .non))) (eOp oAdd (eTup (aCons (eVar 8) (aCons (eVar 9) aNil))) (eVar 10)) [9, 10])) (gNm' 7))) (sSeq (sAsg (eLst (aCons (eProp c.World (m_World_spaces c) (eVar 0)) (aCons (eProp c.World (m_World_pages c) (eVar 0)) (aCons (eProp c.World (m_World_frames c) (eVar 0)) (aCons (eItems (eProp c.World (m_World_tables c) (eVar 0))) aNil))))) (gNm' 11)) (sSeq (sAsg (eOp oAdd (eVar 11) (eLst (aCons (eProp c.World (m_World_tags c) (eVar 0)) (aCons (eProp c.World (m_World_checks c) (eVar 0)) (aCons (eProp c.World (m_World_early c) (eVar 0)) aNil))))) (gNm' 11)) (sSeq (sIf (tTst (eOp oNe (eCall fRepr (aCons (eVar 11) aNil)) (eCall fRepr (aCons (eOp oAdd (eLst (aCons (eVar 2) (aCons (eVar 3) (aCons (eVar 4) (aCons (eLc (iSq' (eVar 2)) (gNm' 8) tYes' (eTup (aCons (eVar 8) (aCons (eDg (eVar 5) (eVar 8)) aNil))) [8]) aNil))))) (eCall fList (aCons (eVar 6) aNil))) aNil)))) (sRet (eC (.bl false))) sNext) (sSeq (sPar 12 13 (bCons' (eProp c.World (m_World_tables c) (eVar 0)) (bCons' (eMeth0 c.World "entries" (m_World_entries c) (eVar 0)) bNil'))) (sSeq (sExpr (eClr 12)) (sSeq (sExpr (eApp 13 (eC (.str "x")))) (sRet (eAnd (eOp oEq (eMeth0 c.World "entries" (m_World_entries c) (eVar 0)) (eVar 7)) (eOp oEq (eCall fListK (aCons (eProp c.World (m_World_tables c) (eVar 0)) aNil)) (eCall fList (aCons (eVar 2) aNil))))))))))))))
def m__law_right (c : Cs) : M := defM 12 (b__law_right c)
def b_turn (c : Cs) : S' := (sSeq (sAsg (eFn 2 (m__law_parts c) (bArg' (eVar 1) (bArg' (eC (.int 3)) bNil'))) (gNm' 3)) (sSeq (sAsg (eVar 3) (gTp' 5 (gsCons (gNm' 4) (gsCons (gNm' 5) (gsCons (gNm' 6) (gsCons (gNm' 7) (gsCons (gNm' 8) gsNil))))))) (sSeq (sAsg (eCall fDictP (aCons (eItems (eVar 7)) aNil)) (gNm' 9)) (sSeq (sAsg (eLend 9 (eMakeP c.World 4 3 8 [0, 1, 2, 3, 4, 5, 6] (m_World_init c) (bArg' (eVar 4) (bArg' (eVar 5) (bArg' (eVar 6) (bArg' (eLd 9) bNil')))) (bArg' (eIx (eVar 8) (eC (.int 0))) (bArg' (eIx (eVar 8) (eC (.int 1))) (bArg' (eIx (eVar 8) (eC (.int 2))) bNil'))))) (gNm' 10)) (sSeq (sExpr (eClr 9)) (sSeq (sAsg (eMakeP c.World 0 7 8 [6, 5, 4, 3, 2, 1, 0] (m_World_init c) bNil' (bArg' (eIx (eVar 8) (eC (.int 2))) (bArg' (eIx (eVar 8) (eC (.int 1))) (bArg' (eIx (eVar 8) (eC (.int 0))) (bArg' (eVar 7) (bArg' (eVar 6) (bArg' (eVar 5) (bArg' (eVar 4) bNil')))))))) (gNm' 11)) (sSeq (sIf (tOr' (tNot' (tTst (eFn 2 (m__law_right c) (bArg' (eVar 10) (bArg' (eVar 3) bNil'))))) (tNot' (tTst (eFn 2 (m__law_right c) (bArg' (eVar 11) (bArg' (eVar 3) bNil')))))) (sRet (eC (.bl false))) sNext) (sSeq (sIf (tOr' (tTst (eOp (oOwnNe c.World (m_World___eq__ c)) (eVar 10) (eVar 11))) (tOr' (tTst (eOp (oOwnEq c.World (m_World___eq__ c)) (eVar 10) (eC (.int 5)))) (tTst (eOp (oOwnEq c.World (m_World___eq__ c)) (eVar 10) (eVar 3))))) (sRet (eC (.bl false))) sNext) (sSeq (sAsg (eFn 2 (m__law_other c) (bArg' (eVar 1) (bArg' (eVar 3) bNil'))) (gNm' 12)) (sSeq (sIf (tTst (eOp oNe (eOp (oOwnEq c.World (m_World___eq__ c)) (eVar 10) (eFn 1 (m__law_base c) (bArg' (eVar 12) bNil'))) (eOp oEqP (eVar 3) (eVar 12)))) (sRet (eC (.bl false))) sNext) (sSeq (sAsg (eMakeD c.World 7 [false, false, true] (m_World_init c) (bArg' (eVar 4) (bArg' (eVar 5) (bArg' (eVar 6) (bArg' (eVar 7) bNil'))))) (gNm' 13)) (sSeq (sIf (tTst (eOp oNe (eLst (aCons (eProp c.World (m_World_tags c) (eVar 13)) (aCons (eProp c.World (m_World_checks c) (eVar 13)) (aCons (eProp c.World (m_World_early c) (eVar 13)) aNil)))) (eLst (aCons (eC (.bl false)) (aCons (eC (.bl false)) (aCons (eC (.bl true)) aNil)))))) (sRet (eC (.bl false))) sNext) (sIf (tTst (eOp (oOwnNe c.World (m_World___eq__ c)) (eVar 13) (eMakeP c.World 4 3 8 [0, 1, 2, 3, 4, 5, 6] (m_World_init c) (bArg' (eVar 4) (bArg' (eVar 5) (bArg' (eVar 6) (bArg' (eVar 7) bNil')))) (bArg' (eC (.bl false)) (bArg' (eC (.bl false)) (bArg' (eC (.bl true)) bNil')))))) (sRet (eC (.bl false))) sNext)))))))))))))
end K02
namespace K02
open PySem L2 Fl Tr
def top (i : Nat) : Stmt := PySem.Challenge.pw_staleview_k02_worlds_as_made.main.body.getD i (.Pass ⟨0, 0, 0, 0⟩)
abbrev s_is_name : Stmt := top 11
abbrev s_is_integer : Stmt := top 12
abbrev s_is_index : Stmt := top 13
abbrev s_is_word : Stmt := top 14
abbrev s_are_spaces : Stmt := top 15
abbrev s_is_filled : Stmt := top 16
abbrev s_is_table : Stmt := top 17
abbrev s_are_tables : Stmt := top 18
abbrev s_World_init : Stmt := inClass (top 19) 0
abbrev s_World_spaces : Stmt := inClass (top 19) 1
abbrev s_World_pages : Stmt := inClass (top 19) 2
abbrev s_World_frames : Stmt := inClass (top 19) 3
abbrev s_World_tables : Stmt := inClass (top 19) 4
abbrev s_World_tags : Stmt := inClass (top 19) 5
abbrev s_World_checks : Stmt := inClass (top 19) 6
abbrev s_World_early : Stmt := inClass (top 19) 7
abbrev s_World_parts : Stmt := inClass (top 19) 8
abbrev s_World___eq__ : Stmt := inClass (top 19) 9
abbrev s_World_entries : Stmt := inClass (top 19) 14
abbrev s__law_state : Stmt := top 21
abbrev s__law_draw : Stmt := top 22
abbrev s__law_pick : Stmt := top 23
abbrev s__law_shuffled : Stmt := top 24
abbrev s__law_labels : Stmt := top 25
abbrev s__law_cell : Stmt := top 26
abbrev s__law_parts : Stmt := top 27
abbrev s__law_base : Stmt := top 28
abbrev s__law_other : Stmt := top 29
abbrev s__law_right : Stmt := top 30
abbrev s_law : Stmt := top 31
theorem sc_is_name : FnScope ["thing", "sign"] ["thing"] (defScope s_is_name) := ⟨rfl, rfl, rfl, by decide +kernel, rfl, by decide +kernel, by decide +kernel⟩
theorem sc_is_integer : FnScope ["thing"] ["thing"] (defScope s_is_integer) := ⟨rfl, rfl, rfl, by decide +kernel, rfl, by decide +kernel, by decide +kernel⟩
theorem sc_is_index : FnScope ["thing", "size"] ["thing", "size"] (defScope s_is_index) := ⟨rfl, rfl, rfl, by decide +kernel, rfl, by decide +kernel, by decide +kernel⟩
theorem sc_is_word : FnScope ["thing", "words"] ["thing", "words"] (defScope s_is_word) := ⟨rfl, rfl, rfl, by decide +kernel, rfl, by decide +kernel, by decide +kernel⟩
theorem sc_are_spaces : FnScope ["thing", "one"] ["thing"] (defScope s_are_spaces) := ⟨rfl, rfl, rfl, by decide +kernel, rfl, by decide +kernel, by decide +kernel⟩
theorem sc_is_filled : FnScope ["thing", "frames"] ["thing", "frames"] (defScope s_is_filled) := ⟨rfl, rfl, rfl, by decide +kernel, rfl, by decide +kernel, by decide +kernel⟩
theorem sc_is_table : FnScope ["thing", "pages", "frames", "one"] ["thing", "pages", "frames"] (defScope s_is_table) := ⟨rfl, rfl, rfl, by decide +kernel, rfl, by decide +kernel, by decide +kernel⟩
theorem sc_are_tables : FnScope ["thing", "spaces", "pages", "frames", "space"] ["thing", "spaces", "pages", "frames"] (defScope s_are_tables) := ⟨rfl, rfl, rfl, by decide +kernel, rfl, by decide +kernel, by decide +kernel⟩
theorem sc_World_init : FnScope ["self", "spaces", "pages", "frames", "tables", "tags", "checks", "early", "word", "rule", "space"] ["self", "spaces", "pages", "frames", "tables", "tags", "checks", "early"] (defScope s_World_init) := ⟨rfl, rfl, rfl, by decide +kernel, rfl, by decide +kernel, by decide +kernel⟩
theorem sc_World_spaces : FnScope ["self"] ["self"] (defScope s_World_spaces) := ⟨rfl, rfl, rfl, by decide +kernel, rfl, by decide +kernel, by decide +kernel⟩
theorem sc_World_pages : FnScope ["self"] ["self"] (defScope s_World_pages) := ⟨rfl, rfl, rfl, by decide +kernel, rfl, by decide +kernel, by decide +kernel⟩
theorem sc_World_frames : FnScope ["self"] ["self"] (defScope s_World_frames) := ⟨rfl, rfl, rfl, by decide +kernel, rfl, by decide +kernel, by decide +kernel⟩
theorem sc_World_tables : FnScope ["self"] ["self"] (defScope s_World_tables) := ⟨rfl, rfl, rfl, by decide +kernel, rfl, by decide +kernel, by decide +kernel⟩
theorem sc_World_tags : FnScope ["self"] ["self"] (defScope s_World_tags) := ⟨rfl, rfl, rfl, by decide +kernel, rfl, by decide +kernel, by decide +kernel⟩
theorem sc_World_checks : FnScope ["self"] ["self"] (defScope s_World_checks) := ⟨rfl, rfl, rfl, by decide +kernel, rfl, by decide +kernel, by decide +kernel⟩
theorem sc_World_early : FnScope ["self"] ["self"] (defScope s_World_early) := ⟨rfl, rfl, rfl, by decide +kernel, rfl, by decide +kernel, by decide +kernel⟩
theorem sc_World_parts : FnScope ["self"] ["self"] (defScope s_World_parts) := ⟨rfl, rfl, rfl, by decide +kernel, rfl, by decide +kernel, by decide +kernel⟩
theorem sc_World___eq__ : FnScope ["self", "other"] ["self", "other"] (defScope s_World___eq__) := ⟨rfl, rfl, rfl, by decide +kernel, rfl, by decide +kernel, by decide +kernel⟩
theorem sc_World_entries : FnScope ["self", "found", "space", "table", "page", "item"] ["self"] (defScope s_World_entries) := ⟨rfl, rfl, rfl, by decide +kernel, rfl, by decide +kernel, by decide +kernel⟩
theorem sc__law_state : FnScope ["_law_script", "_law_cell_here"] ["_law_script"] (defScope s__law_state) := ⟨rfl, rfl, rfl, by decide +kernel, rfl, by decide +kernel, by decide +kernel⟩
theorem sc__law_draw : FnScope ["_law_draws", "_law_many", "_law_cells", "_law_spot", "_law_cell_here", "_law_mixed"] ["_law_draws", "_law_many"] (defScope s__law_draw) := ⟨rfl, rfl, rfl, by decide +kernel, rfl, by decide +kernel, by decide +kernel⟩
theorem sc__law_pick : FnScope ["_law_draws", "_law_some"] ["_law_draws", "_law_some"] (defScope s__law_pick) := ⟨rfl, rfl, rfl, by decide +kernel, rfl, by decide +kernel, by decide +kernel⟩
theorem sc__law_shuffled : FnScope ["_law_draws", "_law_some", "_law_left", "_law_found"] ["_law_draws", "_law_some"] (defScope s__law_shuffled) := ⟨rfl, rfl, rfl, by decide +kernel, rfl, by decide +kernel, by decide +kernel⟩
theorem sc__law_labels : FnScope ["_law_draws", "_law_many", "_law_letters", "_law_found", "_law_own", "_law_k", "_law_label", "_law_j", "_law_others", "_law_sign", "_law_one"] ["_law_draws", "_law_many"] (defScope s__law_labels) := ⟨rfl, rfl, rfl, by decide +kernel, rfl, by decide +kernel, by decide +kernel⟩
theorem sc__law_cell : FnScope ["_law_draws", "_law_count"] ["_law_draws", "_law_count"] (defScope s__law_cell) := ⟨rfl, rfl, rfl, by decide +kernel, rfl, by decide +kernel, by decide +kernel⟩
theorem sc__law_parts : FnScope ["_law_draws", "_law_most", "_law_labels_here", "_law_size", "_law_count", "_law_grid", "_law_label", "_law_k"] ["_law_draws", "_law_most"] (defScope s__law_parts) := ⟨rfl, rfl, rfl, by decide +kernel, rfl, by decide +kernel, by decide +kernel⟩
theorem sc__law_base : FnScope ["_law_parts_here", "_law_labels_here", "_law_size", "_law_count", "_law_grid", "_law_rules"] ["_law_parts_here"] (defScope s__law_base) := ⟨rfl, rfl, rfl, by decide +kernel, rfl, by decide +kernel, by decide +kernel⟩
theorem sc__law_other : FnScope ["_law_draws", "_law_parts_here", "_law_labels_here", "_law_size", "_law_count", "_law_grid", "_law_rules", "_law_way", "_law_label", "_law_spot", "_law_one", "_law_row", "_law_cell_here", "_law_wider"] ["_law_draws", "_law_parts_here"] (defScope s__law_other) := ⟨rfl, rfl, rfl, by decide +kernel, rfl, by decide +kernel, by decide +kernel⟩
theorem sc__law_right : FnScope ["_law_base_here", "_law_parts_here", "_law_labels_here", "_law_size", "_law_count", "_law_grid", "_law_rules", "_law_due", "_law_label", "_law_at", "_law_cell_here", "_law_told", "_law_heard", "_law_rows"] ["_law_base_here", "_law_parts_here"] (defScope s__law_right) := ⟨rfl, rfl, rfl, by decide +kernel, rfl, by decide +kernel, by decide +kernel⟩
theorem sc_law : FnScope ["_law_script", "_law_draws", "_law_turn", "_law_parts_here", "_law_labels_here", "_law_size", "_law_count", "_law_grid", "_law_rules", "_law_handed", "_law_base_here", "_law_same", "_law_other_here", "_law_plain"] ["_law_script"] (defScope s_law) := ⟨rfl, rfl, rfl, by decide +kernel, rfl, by decide +kernel, by decide +kernel⟩
structure Ad where
  cs : Cs
  is_name : Addr
  fd_is_name : FuncData
  is_integer : Addr
  fd_is_integer : FuncData
  is_index : Addr
  fd_is_index : FuncData
  is_word : Addr
  fd_is_word : FuncData
  are_spaces : Addr
  fd_are_spaces : FuncData
  is_filled : Addr
  fd_is_filled : FuncData
  is_table : Addr
  fd_is_table : FuncData
  are_tables : Addr
  fd_are_tables : FuncData
  World_init : Addr
  fd_World_init : FuncData
  World_spaces : Addr
  fd_World_spaces : FuncData
  World_pages : Addr
  fd_World_pages : FuncData
  World_frames : Addr
  fd_World_frames : FuncData
  World_tables : Addr
  fd_World_tables : FuncData
  World_tags : Addr
  fd_World_tags : FuncData
  World_checks : Addr
  fd_World_checks : FuncData
  World_early : Addr
  fd_World_early : FuncData
  World_parts : Addr
  fd_World_parts : FuncData
  World___eq__ : Addr
  fd_World___eq__ : FuncData
  World_entries : Addr
  fd_World_entries : FuncData
  _law_state : Addr
  fd__law_state : FuncData
  _law_draw : Addr
  fd__law_draw : FuncData
  _law_pick : Addr
  fd__law_pick : FuncData
  _law_shuffled : Addr
  fd__law_shuffled : FuncData
  _law_labels : Addr
  fd__law_labels : FuncData
  _law_cell : Addr
  fd__law_cell : FuncData
  _law_parts : Addr
  fd__law_parts : FuncData
  _law_base : Addr
  fd__law_base : FuncData
  _law_other : Addr
  fd__law_other : FuncData
  _law_right : Addr
  fd__law_right : FuncData
  law : Addr
  fd_law : FuncData
  pa_World_checks : Addr
  pa_World_early : Addr
  pa_World_frames : Addr
  pa_World_pages : Addr
  pa_World_spaces : Addr
  pa_World_tables : Addr
  pa_World_tags : Addr
  ds_World : List Value
structure Txt (K : PySem.W.Frag) (mg : Str → Option Value) (a : Ad) : Prop where
  z_abs : mg "abs" = none
  z_all : mg "all" = none
  z_bool : mg "bool" = none
  z_dict : mg "dict" = none
  z_enumerate : mg "enumerate" = none
  z_int : mg "int" = none
  z_isinstance : mg "isinstance" = none
  z_len : mg "len" = none
  z_list : mg "list" = none
  z_min : mg "min" = none
  z_range : mg "range" = none
  z_repr : mg "repr" = none
  z_sorted : mg "sorted" = none
  z_str : mg "str" = none
  z_tuple : mg "tuple" = none
  v_LETTERS : ∃ t, mg "LETTERS" = some (.str "abcdefghijklmnopqrstuvwxyz" t)
  v_MOST_FRAMES : ∃ t, mg "MOST_FRAMES" = some (.int 4 t)
  v_MOST_LETTERS : ∃ t, mg "MOST_LETTERS" = some (.int 8 t)
  v_MOST_PAGES : ∃ t, mg "MOST_PAGES" = some (.int 4 t)
  v_MOST_SPACES : ∃ t, mg "MOST_SPACES" = some (.int 3 t)
  v_RIGHTS : ∃ r, mg "RIGHTS" = some (.ref r) ∧ ∀ G, SqT K G r [.str "r", .str "w"]
  c_World : Cls K a.cs.World
  g_World : mg "World" = some (.ref a.cs.World)
  n_World_own_frames : NoAttr K a.cs.World "own_frames"
  n_World_own_pages : NoAttr K a.cs.World "own_pages"
  n_World_own_rules : NoAttr K a.cs.World "own_rules"
  n_World_own_spaces : NoAttr K a.cs.World "own_spaces"
  n_World_own_tables : NoAttr K a.cs.World "own_tables"
  io_World : IsOwn K a.cs.World
  nf_World : NF K a.cs.World
  qe_World : PySem.W.findIn K (.ref a.cs.World) "__eq__" = some (some (.ref a.World___eq__))
  qf_World : PySem.W.isFn K (.ref a.World___eq__) = true
  qn_World : PySem.W.findIn K (.ref a.cs.World) "__ne__" = some (some (.builtin "object.__ne__"))
  qo_World : PySem.W.mroIn K a.cs.World (.type "object") = some true
  F_is_name : Fun K "is_name" "is_name" s_is_name a.is_name a.fd_is_name
  g_is_name : mg "is_name" = some (.ref a.is_name)
  k_is_name : PySem.W.keepIn K (.ref a.is_name) = true
  b_is_name : Binds K a.fd_is_name ["thing"] []
  F_is_integer : Fun K "is_integer" "is_integer" s_is_integer a.is_integer a.fd_is_integer
  g_is_integer : mg "is_integer" = some (.ref a.is_integer)
  k_is_integer : PySem.W.keepIn K (.ref a.is_integer) = true
  b_is_integer : Binds K a.fd_is_integer ["thing"] []
  F_is_index : Fun K "is_index" "is_index" s_is_index a.is_index a.fd_is_index
  g_is_index : mg "is_index" = some (.ref a.is_index)
  k_is_index : PySem.W.keepIn K (.ref a.is_index) = true
  b_is_index : Binds K a.fd_is_index ["thing", "size"] []
  F_is_word : Fun K "is_word" "is_word" s_is_word a.is_word a.fd_is_word
  g_is_word : mg "is_word" = some (.ref a.is_word)
  k_is_word : PySem.W.keepIn K (.ref a.is_word) = true
  b_is_word : Binds K a.fd_is_word ["thing", "words"] []
  F_are_spaces : Fun K "are_spaces" "are_spaces" s_are_spaces a.are_spaces a.fd_are_spaces
  g_are_spaces : mg "are_spaces" = some (.ref a.are_spaces)
  k_are_spaces : PySem.W.keepIn K (.ref a.are_spaces) = true
  b_are_spaces : Binds K a.fd_are_spaces ["thing"] []
  F_is_filled : Fun K "is_filled" "is_filled" s_is_filled a.is_filled a.fd_is_filled
  g_is_filled : mg "is_filled" = some (.ref a.is_filled)
  k_is_filled : PySem.W.keepIn K (.ref a.is_filled) = true
  b_is_filled : Binds K a.fd_is_filled ["thing", "frames"] []
  F_is_table : Fun K "is_table" "is_table" s_is_table a.is_table a.fd_is_table
  g_is_table : mg "is_table" = some (.ref a.is_table)
  k_is_table : PySem.W.keepIn K (.ref a.is_table) = true
  b_is_table : Binds K a.fd_is_table ["thing", "pages", "frames"] []
  F_are_tables : Fun K "are_tables" "are_tables" s_are_tables a.are_tables a.fd_are_tables
  g_are_tables : mg "are_tables" = some (.ref a.are_tables)
  k_are_tables : PySem.W.keepIn K (.ref a.are_tables) = true
  b_are_tables : Binds K a.fd_are_tables ["thing", "spaces", "pages", "frames"] []
  F_World_init : Fun K "__init__" "World.__init__" s_World_init a.World_init a.fd_World_init
  m_World : Mk K a.cs.World a.World_init
  b_World_init : Binds K a.fd_World_init ["self", "spaces", "pages", "frames", "tables", "tags", "checks", "early"] a.ds_World
  kd_World : Vals (([false, false, true] : List Bool).map V.bl) a.ds_World
  F_World_spaces : Fun K "spaces" "World.spaces" s_World_spaces a.World_spaces a.fd_World_spaces
  pr_World_spaces : PropOf K a.cs.World "spaces" a.pa_World_spaces a.World_spaces
  b_World_spaces : Binds K a.fd_World_spaces ["self"] []
  F_World_pages : Fun K "pages" "World.pages" s_World_pages a.World_pages a.fd_World_pages
  pr_World_pages : PropOf K a.cs.World "pages" a.pa_World_pages a.World_pages
  b_World_pages : Binds K a.fd_World_pages ["self"] []
  F_World_frames : Fun K "frames" "World.frames" s_World_frames a.World_frames a.fd_World_frames
  pr_World_frames : PropOf K a.cs.World "frames" a.pa_World_frames a.World_frames
  b_World_frames : Binds K a.fd_World_frames ["self"] []
  F_World_tables : Fun K "tables" "World.tables" s_World_tables a.World_tables a.fd_World_tables
  pr_World_tables : PropOf K a.cs.World "tables" a.pa_World_tables a.World_tables
  b_World_tables : Binds K a.fd_World_tables ["self"] []
  F_World_tags : Fun K "tags" "World.tags" s_World_tags a.World_tags a.fd_World_tags
  pr_World_tags : PropOf K a.cs.World "tags" a.pa_World_tags a.World_tags
  b_World_tags : Binds K a.fd_World_tags ["self"] []
  F_World_checks : Fun K "checks" "World.checks" s_World_checks a.World_checks a.fd_World_checks
  pr_World_checks : PropOf K a.cs.World "checks" a.pa_World_checks a.World_checks
  b_World_checks : Binds K a.fd_World_checks ["self"] []
  F_World_early : Fun K "early" "World.early" s_World_early a.World_early a.fd_World_early
  pr_World_early : PropOf K a.cs.World "early" a.pa_World_early a.World_early
  b_World_early : Binds K a.fd_World_early ["self"] []
  F_World_parts : Fun K "parts" "World.parts" s_World_parts a.World_parts a.fd_World_parts
  me_World_parts : Meth K a.cs.World "parts" a.World_parts
  b_World_parts : Binds K a.fd_World_parts ["self"] []
  F_World___eq__ : Fun K "__eq__" "World.__eq__" s_World___eq__ a.World___eq__ a.fd_World___eq__
  b_World___eq__ : Binds K a.fd_World___eq__ ["self", "other"] []
  F_World_entries : Fun K "entries" "World.entries" s_World_entries a.World_entries a.fd_World_entries
  me_World_entries : Meth K a.cs.World "entries" a.World_entries
  b_World_entries : Binds K a.fd_World_entries ["self"] []
  F__law_state : Fun K "_law_state" "_law_state" s__law_state a._law_state a.fd__law_state
  g__law_state : mg "_law_state" = some (.ref a._law_state)
  k__law_state : PySem.W.keepIn K (.ref a._law_state) = true
  b__law_state : Binds K a.fd__law_state ["_law_script"] []
  F__law_draw : Fun K "_law_draw" "_law_draw" s__law_draw a._law_draw a.fd__law_draw
  g__law_draw : mg "_law_draw" = some (.ref a._law_draw)
  k__law_draw : PySem.W.keepIn K (.ref a._law_draw) = true
  b__law_draw : Binds K a.fd__law_draw ["_law_draws", "_law_many"] []
  F__law_pick : Fun K "_law_pick" "_law_pick" s__law_pick a._law_pick a.fd__law_pick
  g__law_pick : mg "_law_pick" = some (.ref a._law_pick)
  k__law_pick : PySem.W.keepIn K (.ref a._law_pick) = true
  b__law_pick : Binds K a.fd__law_pick ["_law_draws", "_law_some"] []
  F__law_shuffled : Fun K "_law_shuffled" "_law_shuffled" s__law_shuffled a._law_shuffled a.fd__law_shuffled
  g__law_shuffled : mg "_law_shuffled" = some (.ref a._law_shuffled)
  k__law_shuffled : PySem.W.keepIn K (.ref a._law_shuffled) = true
  b__law_shuffled : Binds K a.fd__law_shuffled ["_law_draws", "_law_some"] []
  F__law_labels : Fun K "_law_labels" "_law_labels" s__law_labels a._law_labels a.fd__law_labels
  g__law_labels : mg "_law_labels" = some (.ref a._law_labels)
  k__law_labels : PySem.W.keepIn K (.ref a._law_labels) = true
  b__law_labels : Binds K a.fd__law_labels ["_law_draws", "_law_many"] []
  F__law_cell : Fun K "_law_cell" "_law_cell" s__law_cell a._law_cell a.fd__law_cell
  g__law_cell : mg "_law_cell" = some (.ref a._law_cell)
  k__law_cell : PySem.W.keepIn K (.ref a._law_cell) = true
  b__law_cell : Binds K a.fd__law_cell ["_law_draws", "_law_count"] []
  F__law_parts : Fun K "_law_parts" "_law_parts" s__law_parts a._law_parts a.fd__law_parts
  g__law_parts : mg "_law_parts" = some (.ref a._law_parts)
  k__law_parts : PySem.W.keepIn K (.ref a._law_parts) = true
  b__law_parts : Binds K a.fd__law_parts ["_law_draws", "_law_most"] []
  F__law_base : Fun K "_law_base" "_law_base" s__law_base a._law_base a.fd__law_base
  g__law_base : mg "_law_base" = some (.ref a._law_base)
  k__law_base : PySem.W.keepIn K (.ref a._law_base) = true
  b__law_base : Binds K a.fd__law_base ["_law_parts_here"] []
  F__law_other : Fun K "_law_other" "_law_other" s__law_other a._law_other a.fd__law_other
  g__law_other : mg "_law_other" = some (.ref a._law_other)
  k__law_other : PySem.W.keepIn K (.ref a._law_other) = true
  b__law_other : Binds K a.fd__law_other ["_law_draws", "_law_parts_here"] []
  F__law_right : Fun K "_law_right" "_law_right" s__law_right a._law_right a.fd__law_right
  g__law_right : mg "_law_right" = some (.ref a._law_right)
  k__law_right : PySem.W.keepIn K (.ref a._law_right) = true
  b__law_right : Binds K a.fd__law_right ["_law_base_here", "_law_parts_here"] []
  F_law : Fun K "law" "law" s_law a.law a.fd_law
  g_law : mg "law" = some (.ref a.law)
  k_law : PySem.W.keepIn K (.ref a.law) = true
  kb_World_init_0 : KBn K a.fd_World_init ["self", "spaces", "pages", "frames", "tables", "tags", "checks", "early"] 5 ["tags", "checks", "early"] (gI [0, 1, 2, 3, 4, 5, 6]) (gI [0, 1, 2, 3, 4, 5, 6])
  kb_World_init_1 : KBn K a.fd_World_init ["self", "spaces", "pages", "frames", "tables", "tags", "checks", "early"] 1 ["early", "checks", "tags", "tables", "frames", "pages", "spaces"] (gI [6, 5, 4, 3, 2, 1, 0]) (gI [6, 5, 4, 3, 2, 1, 0])
theorem g_LETTERS {a : Ad} {X : Cx} {pos : Pos} (T : Txt X.K X.mg a) (hg : Gl X "LETTERS") : PE X (.Name "LETTERS" pos) (lift X.K (dC (.str "abcdefghijklmnopqrstuvwxyz"))) := by
  obtain ⟨t, h⟩ := T.v_LETTERS
  exact pd_glob (v := .str "abcdefghijklmnopqrstuvwxyz") hg h ⟨t, rfl⟩ fun G => .str _ (by decide +kernel)
theorem g_MOST_FRAMES {a : Ad} {X : Cx} {pos : Pos} (T : Txt X.K X.mg a) (hg : Gl X "MOST_FRAMES") : PE X (.Name "MOST_FRAMES" pos) (lift X.K (dC (.int 4))) := by
  obtain ⟨t, h⟩ := T.v_MOST_FRAMES
  exact pd_glob (v := .int 4) hg h ⟨t, rfl⟩ fun G => .int _
theorem g_MOST_LETTERS {a : Ad} {X : Cx} {pos : Pos} (T : Txt X.K X.mg a) (hg : Gl X "MOST_LETTERS") : PE X (.Name "MOST_LETTERS" pos) (lift X.K (dC (.int 8))) := by
  obtain ⟨t, h⟩ := T.v_MOST_LETTERS
  exact pd_glob (v := .int 8) hg h ⟨t, rfl⟩ fun G => .int _
theorem g_MOST_PAGES {a : Ad} {X : Cx} {pos : Pos} (T : Txt X.K X.mg a) (hg : Gl X "MOST_PAGES") : PE X (.Name "MOST_PAGES" pos) (lift X.K (dC (.int 4))) := by
  obtain ⟨t, h⟩ := T.v_MOST_PAGES
  exact pd_glob (v := .int 4) hg h ⟨t, rfl⟩ fun G => .int _
theorem g_MOST_SPACES {a : Ad} {X : Cx} {pos : Pos} (T : Txt X.K X.mg a) (hg : Gl X "MOST_SPACES") : PE X (.Name "MOST_SPACES" pos) (lift X.K (dC (.int 3))) := by
  obtain ⟨t, h⟩ := T.v_MOST_SPACES
  exact pd_glob (v := .int 3) hg h ⟨t, rfl⟩ fun G => .int _
theorem g_RIGHTS {a : Ad} {X : Cx} {pos : Pos} (T : Txt X.K X.mg a) (hg : Gl X "RIGHTS") : PE X (.Name "RIGHTS" pos) (lift X.K (dC (.tup [(.str "r"), (.str "w")]))) := by
  obtain ⟨r, h, q⟩ := T.v_RIGHTS
  exact pd_glob (v := .ref r) hg h rfl fun G => .tup (q G) (.cons (.str _ (by decide +kernel)) (.cons (.str _ (by decide +kernel)) .nil))
end K02
namespace K02
open PySem L2 Fl Tr
open Sv
section
variable {P : Program} {w : World} {K : PySem.W.Frag} {mg : Str → Option Value} {base : Heap} {a : Ad}
theorem f__law_draw0 (T : Txt K mg a) : FnOk P w K mg base CX0 1 a._law_draw a.fd__law_draw ["_law_draws", "_law_many"] (spD K 2 ftDraw) := by
  refine T.F__law_draw.ok sc__law_draw (fun vs H Q E h => spD_len h) (fun cdv A outer s H vs Q E hr h => ?_)
  obtain ⟨a1, c, m, i, j, ns, rfl, m0, m1, nac, h1, h2, hn, h63, k⟩ := draw_of h
  refine ⟨_, (pss_cons (ps_set sc__law_draw.nd (i := 2) rfl (by first | exact .inl rfl | exact .inr rfl) (pe_ix ix_list (pv 0) pe_int (fun _ _ => rfl)))
    (pss_cons (ps_set sc__law_draw.nd (i := 3) rfl (by first | exact .inl rfl | exact .inr rfl) (pe_op op_mod (pe_callTy call_int1 rfl T.z_int (by decide +kernel) (pa_cons (pe_ix ix_list (pv 0) pe_int (fun _ _ => rfl)) pa_nil)) (pe_callB call_len_seq rfl T.z_len (by decide +kernel) (pa_cons (pv 2) pa_nil))))
    (pss_cons (ps_set sc__law_draw.nd (i := 4) rfl (by first | exact .inl rfl | exact .inr rfl) (pe_ix ix_list (pv 2) (pv 3) (fun _ _ => rfl)))
    (pss_cons (ps_if (pt_cmpR op_ge (pv 4) (pe_op op_pow pe_int pe_int) rfl) (pss_cons (ps_asg (pe_op op_fdivN (pv 4) (pv 1)) (pg_sub (pv 2) (pv 3) set_list)) (pss_one (ps_ret (pe_op op_mod (pe_callTy call_int1 rfl T.z_int (by decide +kernel) (pa_cons (pv 4) pa_nil)) (pv 1))))) pss_nil)
    (pss_cons (ps_asg (pe_op op_add (pe_ix ix_list (pv 0) pe_int (fun _ _ => rfl)) pe_int) (pg_sub (pv 0) pe_int set_list))
    (pss_cons (ps_asg (pe_op op_mod (pe_callTy call_int1 rfl T.z_int (by decide +kernel) (pa_cons (pe_op op_add (pe_op op_add (pe_op op_add (pe_op op_mul (pe_ix ix_list (pv 0) pe_int (fun _ _ => rfl)) pe_int) (pv 4)) (pe_op op_mul pe_int (pe_ix ix_list (pv 0) pe_int (fun _ _ => rfl)))) pe_int) pa_nil)) pe_int) (pg_sub (pv 0) pe_int set_list))
    (pss_cons (ps_set sc__law_draw.nd (i := 5) rfl (by first | exact .inl rfl | exact .inr rfl) (pe_op op_mod (pe_callTy call_int1 rfl T.z_int (by decide +kernel) (pa_cons (pe_op op_mul (pe_ix ix_list (pv 0) pe_int (fun _ _ => rfl)) (pe_ix ix_list (pv 0) pe_int (fun _ _ => rfl))) pa_nil)) pe_int))
    (pss_one (ps_ret (pe_op op_mod (pe_callTy call_int1 rfl T.z_int (by decide +kernel) (pa_cons (pe_op op_fdivN (pv 5) pe_int) pa_nil)) (pv 1))))))))))), ?_⟩
  obtain ⟨z, hz, jn, hj⟩ := spot_of hn i
  have fin : ∀ (y : Int) (H' : Hp) (i' j' : Int) (ms : List Int), H' a1 = some (.lst [.ref c, .int i', .int j']) → H' c = some (.lst (ms.map V.int)) → ms ≠ [] → ms.length ≤ 63 → (∀ b, b ≠ a1 → b ≠ c → H' b = H b) → Q (.int (y % m)) H' := fun y H' i' j' ms e1 e2 e3 e4 e5 =>
    k _ _ (Int.emod_nonneg _ (by omega)) (Int.emod_lt_of_pos _ m0) e5 ⟨i', j', ms, e1, e2, e3, e4⟩
  refine ⟨_, rfl, a1, _, 0, .ref c, rfl, rfl, .of h1, rfl, ?_⟩
  refine ⟨_, rfl, a1, _, 1, .int i, rfl, rfl, .of h1, rfl, .inl ⟨i, rfl, ?_⟩⟩
  refine ⟨_, rfl, c, ns.map V.int, rfl, .inl (.of h2), i, _, rfl, rfl, ?_, ?_⟩
  · show (0 : Int) < ((ns.map V.int).length : Nat)
    rw [List.length_map]; have := List.length_pos_iff.mpr hn; omega
  refine ⟨_, rfl, _, rfl, c, _, _, .int z, rfl, rfl, .of h2, hz, ?_⟩
  refine ⟨_, rfl, 10, 18, rfl, rfl, ⟨by decide, by decide, by decide⟩, z, _, rfl, rfl, _, rfl, ?_⟩
  refine ifB (fun hb => ?_) (fun hb => ?_)
  · refine ⟨_, rfl, _, rfl, z, m, rfl, rfl, ⟨by omega, by omega⟩, _, rfl, _, rfl, c, _, _, jn, rfl, rfl, h2, hj, ?_⟩
    refine ⟨_, rfl, .inl ⟨z, rfl, _, rfl, z, m, rfl, rfl, m0, ?_⟩⟩
    refine fin z _ i j (ns.set jn (z.fdiv m)) (by rw [upd_ne nac]; exact h1) (by rw [upd_same, List.map_set]) (fun q => hn ?_) (by rw [List.length_set]; exact h63) fun b n1 n2 => upd_ne n2
    have := congrArg List.length q
    rw [List.length_set] at this
    exact List.length_eq_zero_iff.mp this
  · refine ⟨_, rfl, a1, _, 1, .int i, rfl, rfl, .of h1, rfl, i, 1, rfl, rfl, _, rfl, a1, _, 1, 1, rfl, rfl, h1, rfl, ?_⟩
    generalize hH1 : upd H a1 _ = H1
    have g1 : H1 a1 = some (.lst [.ref c, .int (i + 1), .int j]) := by rw [← hH1, upd_same]; rfl
    have g2 : ∀ b, b ≠ a1 → H1 b = H b := fun b n => by rw [← hH1, upd_ne n]
    refine ⟨_, rfl, a1, _, 2, .int j, rfl, rfl, .of g1, rfl, j, 48271, rfl, rfl, .inr ⟨by decide, by decide⟩, _, rfl, _, z, rfl, rfl, _, rfl, a1, _, 1, .int (i + 1), rfl, rfl, .of g1, rfl, 7919, _, rfl, rfl, .inl ⟨by decide, by decide⟩, _, _, rfl, rfl, _, _, rfl, rfl, .inl ⟨_, rfl, _, 2147483647, rfl, rfl, (by show (0 : Int) < 2147483647; decide), _, rfl, a1, _, 2, 2, rfl, rfl, g1, rfl, ?_⟩⟩
    generalize hJ : (j * 48271 + z + 7919 * (i + 1) + 12345) % 2147483647 = J
    have j0 : 0 ≤ J := by rw [← hJ]; exact Int.emod_nonneg _ (by decide)
    have j1 : J < 2147483647 := by rw [← hJ]; exact Int.emod_lt_of_pos _ (by decide)
    generalize hH2 : upd H1 a1 _ = H2
    have k1 : H2 a1 = some (.lst [.ref c, .int (i + 1), .int J]) := by rw [← hH2, upd_same, ← hJ]; rfl
    have k2 : ∀ b, b ≠ a1 → H2 b = H b := fun b n => by rw [← hH2, upd_ne n, g2 b n]
    refine ⟨_, rfl, a1, _, 2, .int J, rfl, rfl, .of k1, rfl, _, rfl, a1, _, 2, .int J, rfl, rfl, .of k1, rfl, J, J, rfl, rfl, .inl ⟨by omega, by omega⟩, .inl ⟨_, rfl, _, 2147483629, rfl, rfl, (by show (0 : Int) < 2147483629; decide), ?_⟩⟩
    refine ⟨_, rfl, _, 16, rfl, rfl, ⟨by decide, by decide⟩, .inl ⟨_, rfl, _, rfl, _, m, rfl, rfl, m0, ?_⟩⟩
    exact fin _ _ (i + 1) J ns k1 (by rw [k2 c nac.symm]; exact h2) hn h63 fun b n1 _ => k2 b n1
theorem f__law_draw (T : Txt K mg a) : FnOk P w K mg base CX0 1 a._law_draw a.fd__law_draw ["_law_draws", "_law_many"] (spD K 2 (ftM Z0 (m__law_draw a.cs))) := FnOk.ft (f__law_draw0 T) ft_draw
theorem f__law_state (T : Txt K mg a) : FnOk P w K mg base CX0 1 a._law_state a.fd__law_state ["_law_script"] (spState K) := by
  refine T.F__law_state.ok sc__law_state (fun vs H Q E h => ?_) (fun cdv A outer s H vs Q E hr h => ?_)
  · obtain ⟨a1, ns, rfl, _⟩ := h
    rfl
  obtain ⟨a1, ns, rfl, hS, h63, k⟩ := h
  refine ⟨_, (pss_one (ps_ret (pe_lst (pa_cons (pe_orT (pe_lc (own := [("_law_cell_here", 1)]) rfl sc__law_state.nd (pi_list (pe_slice sl_list (pv 0) po_none (po_some pe_int))) (blkOk_by (by rfl)) (fun _ _ _ _ _ => (pg_name (i := 1) sc__law_state.nd rfl (by first | exact .inl rfl | exact .inr rfl))) (fun _ _ _ _ _ => pts_nil) (fun _ _ _ _ _ => (pe_callB call_abs rfl T.z_abs (by decide +kernel) (pa_cons (pv 1) pa_nil))) (by intro _; rfl)) (pe_one (pe_lst (pa_cons pe_int pa_nil)))) (pa_cons pe_int (pa_cons pe_int pa_nil)))))), ?_⟩
  have fin : ∀ (c : Addr) (H1 : Hp) (ms : List Int), H c = none → H1 c = some (.lst (ms.map V.int)) → ms ≠ [] → ms.length ≤ 63 → (∀ b o, H b = some o → H1 b = some o) → 3 ≤ sizeLine ∧ ∀ p, H1 p = none → Q (.ref p) (upd H1 p (.lst [.ref c, .int 0, .int 1])) := fun c H1 ms h1 h2 h3 h4 h5 => ⟨by decide, fun p hp => by
    have ne : c ≠ p := fun e => by rw [e, hp] at h2; cases h2
    have hpn : H p = none := by
      cases e : H p with
      | none => rfl
      | some o => rw [h5 p o e] at hp; cases hp
    exact k p c _ ms hpn h1 ne.symm upd_same (by rw [upd_ne ne]; exact h2) h3 h4 fun b o e => by rw [upd_ne (fun q => by rw [q, hpn] at e; cases e)]; exact h5 b o e⟩
  refine ⟨_, rfl, 63, rfl, a1, ns.map V.int, rfl, hS, fun q hq => ⟨q, rfl, ⟨_, .of upd_same⟩, fun Dl hD => ?_⟩⟩
  have nqD : q ≠ Dl := fun e => by rw [e, upd_same] at hD; cases hD
  have hD0 : H Dl = none := by rw [upd_ne nqD.symm] at hD; exact hD
  have cl := cut_len (ns.map V.int) none (some 63)
  rw [List.length_map] at cl
  refine lc_list (a := q) (xs := cutV (ns.map V.int) none (some 63)) (fun i H' => ∃ ms : List Int, H' Dl = some (.lst (ms.map V.int)) ∧ ms.length = i ∧ H' q = some (.lst (cutV (ns.map V.int) none (some 63))) ∧ ∀ b o, H b = some o → H' b = some o) ?_ (fun i H' _ ⟨ms, _, _, h3, _⟩ => .of h3) ?_ ?_
  · refine ⟨[], upd_same, rfl, by rw [upd_ne nqD, upd_same], fun b o e => ?_⟩
    rw [upd_ne (fun z => by rw [z, hD0] at e; cases e), upd_ne (fun z => by rw [z, hq] at e; cases e)]; exact e
  · rintro i x H' hx ⟨ms, g1, g2, g3, g4⟩
    obtain ⟨z, rfl⟩ := cut_ints hx
    have hi : i < (cutV (ns.map V.int) none (some 63)).length := (List.getElem?_eq_some_iff.mp hx).1
    refine ⟨rfl, _, rfl, z, rfl, ms.map V.int, g1, Nat.lt_of_le_of_lt (show (ms.map V.int).length ≤ 1000 by rw [List.length_map]; omega) (by decide), ms ++ [if z < 0 then -z else z], by rw [upd_same, List.map_append]; rfl, by rw [List.length_append, g2]; rfl, by rw [upd_ne nqD]; exact g3, fun b o e => ?_⟩
    rw [upd_ne (fun y => by rw [y, hD0] at e; cases e)]; exact g4 b o e
  · rintro H' ⟨ms, g1, g2, g3, g4⟩
    refine ⟨!(ms.map V.int).isEmpty, .inl ⟨_, .of g1, rfl⟩, ?_⟩
    cases ms with
    | cons m ms => exact ifB (fun _ => fin Dl H' (m :: ms) hD0 g1 (by simp) (by omega) g4) fun h => by cases h
    | nil =>
      refine ifB (fun h => by cases h) fun _ => ⟨by decide, fun D2 hD2 => ?_⟩
      have hD20 : H D2 = none := by
        cases e : H D2 with
        | none => rfl
        | some o => rw [g4 D2 o e] at hD2; cases hD2
      exact fin D2 _ [1] hD20 upd_same (by simp) (by decide) fun b o e => by rw [upd_ne (fun y => by rw [y, hD20] at e; cases e)]; exact g4 b o e
theorem f_is_name (T : Txt K mg a) : FnOk P w K mg base CX0 1 a.is_name a.fd_is_name ["thing"] (spD K 1 (ftM Z0 (m_is_name a.cs))) :=
  fun_M (k := 0) (b := b_is_name a.cs) T.F_is_name sc_is_name rfl rfl fun cdv A outer s H E hr => (dnSs (dss_cons (dnS (ds_if (PW.pt (dnW (pwd_or (dnT (pt_notD (dnT (pt_valD (dnE (pd_isi askT_str (dnE (pd_var 0) fun _ _ => w_var) rfl T.z_isinstance rfl T.z_str) fun _ _ => w_isi)) fun _ _ => w_tst)) fun _ _ => w_not) (pwd_or1 (dnT (pt_notD (dnT (pt_chainD od_le od_le (dnE pd_int fun _ _ => w_c) (dnE (pd_callB cd_len rfl T.z_len (by decide +kernel) (dnA (pda_cons (dnE (pd_var 0) fun _ _ => w_var) (dnA pda_nil fun _ _ => w_nil)) fun _ _ => w_cons)) fun _ _ => w_call wf_len) (dnE (g_MOST_LETTERS T rfl) fun _ _ => w_c)) fun _ _ q => w_tst2 (w_chain wo_le wo_le) q)) fun _ _ => w_not))) fun _ _ => w_or)) (dss_one (dnS (ds_ret (dnE pd_bl fun _ _ => w_c)) fun _ _ => w_ret)) (dnSs dss_nil fun _ _ => w_next)) fun _ _ => w_ifS) (dss_one (dnS (ds_ret (dnE (pd_callB (cd_all rfl) rfl T.z_all (by decide +kernel) (dnA (pda_cons (dnE (pd_lc (own := [("sign", 1)]) rfl sc_is_name.nd (dnI (di_seq (dnE (pd_var 0) fun _ _ => w_var)) fun _ _ => w_iSq) (blkOk_by (by rfl)) (fun _ _ _ _ _ => (pg_name (i := 1) sc_is_name.nd rfl (by first | exact .inl rfl | exact .inr rfl))) (dnG (tgt_name 1) fun _ _ _ => w_gnm) (by decide) (fun _ _ _ _ _ => (dnTs dts_nil fun _ _ => w_yes)) (fun _ _ _ _ _ => (dnE (pd_cmp od_in (dnE (pd_var 1) fun _ _ => w_var) (dnE (g_LETTERS T rfl) fun _ _ => w_c)) fun _ _ => w_op wo_in))) fun _ _ => w_lc) (dnA pda_nil fun _ _ => w_nil)) fun _ _ => w_cons)) fun _ _ => w_call wf_all)) fun _ _ => w_ret))) fun _ _ => w_seq)
theorem f_is_integer (T : Txt K mg a) : FnOk P w K mg base CX0 1 a.is_integer a.fd_is_integer ["thing"] (spD K 1 (ftM Z0 (m_is_integer a.cs))) :=
  fun_M (k := 0) (b := b_is_integer a.cs) T.F_is_integer sc_is_integer rfl rfl fun cdv A outer s H E hr => (dss_one (dnS (ds_ret (dnE (pd_and (dnE (pd_isi askT_int (dnE (pd_var 0) fun _ _ => w_var) rfl T.z_isinstance rfl T.z_int) fun _ _ => w_isi) (pd_one (dnE (pd_not (dnE (pd_isi askT_bool (dnE (pd_var 0) fun _ _ => w_var) rfl T.z_isinstance rfl T.z_bool) fun _ _ => w_isi)) fun _ _ => w_notV))) fun _ _ => w_andV)) fun _ _ => w_ret))
theorem f_is_index (T : Txt K mg a) : FnOk P w K mg base CX0 2 a.is_index a.fd_is_index ["thing", "size"] (spD K 2 (ftM Z0 (m_is_index a.cs))) :=
  fun_M (k := 1) (b := b_is_index a.cs) T.F_is_index sc_is_index rfl rfl fun cdv A outer s H E hr => (dss_one (dnS (ds_ret (dnE (pd_and (dnE (pd_call (f_is_integer T) (hr.mono (by decide)) rfl T.g_is_integer T.k_is_integer T.b_is_integer (dnB (dab_arg (dnE (pd_var 0) fun _ _ => w_var) (dnB dab_nil fun _ _ => w_bnil)) fun _ _ => w_barg)) fun _ _ => w_fn) (pd_one (dnE (pd_chain od_le od_lt (dnE pd_int fun _ _ => w_c) (dnE (pd_var 0) fun _ _ => w_var) (dnE (pd_var 1) fun _ _ => w_var)) fun _ _ => w_chain wo_le wo_lt))) fun _ _ => w_andV)) fun _ _ => w_ret))
theorem f_is_word (T : Txt K mg a) : FnOk P w K mg base CX0 1 a.is_word a.fd_is_word ["thing", "words"] (spD K 2 (ftM Z0 (m_is_word a.cs))) :=
  fun_M (k := 0) (b := b_is_word a.cs) T.F_is_word sc_is_word rfl rfl fun cdv A outer s H E hr => (dss_one (dnS (ds_ret (dnE (pd_and (dnE (pd_isi askT_str (dnE (pd_var 0) fun _ _ => w_var) rfl T.z_isinstance rfl T.z_str) fun _ _ => w_isi) (pd_one (dnE (pd_cmp od_in (dnE (pd_var 0) fun _ _ => w_var) (dnE (pd_var 1) fun _ _ => w_var)) fun _ _ => w_op wo_in))) fun _ _ => w_andV)) fun _ _ => w_ret))
theorem f_are_spaces (T : Txt K mg a) : FnOk P w K mg base CX0 2 a.are_spaces a.fd_are_spaces ["thing"] (spD K 1 (ftM Z0 (m_are_spaces a.cs))) :=
  fun_M (k := 1) (b := b_are_spaces a.cs) T.F_are_spaces sc_are_spaces rfl rfl fun cdv A outer s H E hr => (dnSs (dss_cons (dnS (ds_if (PW.pt (dnW (pwd_or (dnT (pt_notD (dnT (pt_valD (dnE (pd_isi askT_tuple (dnE (pd_var 0) fun _ _ => w_var) rfl T.z_isinstance rfl T.z_tuple) fun _ _ => w_isi)) fun _ _ => w_tst)) fun _ _ => w_not) (pwd_or1 (dnT (pt_notD (dnT (pt_chainD od_le od_le (dnE pd_int fun _ _ => w_c) (dnE (pd_callB cd_len rfl T.z_len (by decide +kernel) (dnA (pda_cons (dnE (pd_var 0) fun _ _ => w_var) (dnA pda_nil fun _ _ => w_nil)) fun _ _ => w_cons)) fun _ _ => w_call wf_len) (dnE (g_MOST_SPACES T rfl) fun _ _ => w_c)) fun _ _ q => w_tst2 (w_chain wo_le wo_le) q)) fun _ _ => w_not))) fun _ _ => w_or)) (dss_one (dnS (ds_ret (dnE pd_bl fun _ _ => w_c)) fun _ _ => w_ret)) (dnSs dss_nil fun _ _ => w_next)) fun _ _ => w_ifS) (dss_one (dnS (ds_ret (dnE (pd_and (dnE (pd_callB (cd_all rfl) rfl T.z_all (by decide +kernel) (dnA (pda_cons (dnE (pd_lc (own := [("one", 1)]) rfl sc_are_spaces.nd (dnI (di_seq (dnE (pd_var 0) fun _ _ => w_var)) fun _ _ => w_iSq) (blkOk_by (by rfl)) (fun _ _ _ _ _ => (pg_name (i := 1) sc_are_spaces.nd rfl (by first | exact .inl rfl | exact .inr rfl))) (dnG (tgt_name 1) fun _ _ _ => w_gnm) (by decide) (fun _ _ _ _ _ => (dnTs dts_nil fun _ _ => w_yes)) (fun _ _ _ _ _ => (dnE (pd_call (f_is_name T) (hr.mono (by decide)) rfl T.g_is_name T.k_is_name T.b_is_name (dnB (dab_arg (dnE (pd_var 1) fun _ _ => w_var) (dnB dab_nil fun _ _ => w_bnil)) fun _ _ => w_barg)) fun _ _ => w_fn))) fun _ _ => w_lc) (dnA pda_nil fun _ _ => w_nil)) fun _ _ => w_cons)) fun _ _ => w_call wf_all) (pd_one (dnE (pd_cmp (od_eq hr) (dnE (pd_callTy cd_list rfl T.z_list (by decide +kernel) (dnA (pda_cons (dnE (pd_var 0) fun _ _ => w_var) (dnA pda_nil fun _ _ => w_nil)) fun _ _ => w_cons)) fun _ _ => w_call wf_list) (dnE (pd_callB (cd_sort rfl) rfl T.z_sorted (by decide +kernel) (dnA (pda_cons (dnE (pd_dc (own := [("one", 1)]) rfl sc_are_spaces.nd (dnI (di_seq (dnE (pd_var 0) fun _ _ => w_var)) fun _ _ => w_iSq) (blkOk_by (by rfl)) (fun _ _ _ _ _ => (pg_name (i := 1) sc_are_spaces.nd rfl (by first | exact .inl rfl | exact .inr rfl))) (dnG (tgt_name 1) fun _ _ _ => w_gnm) (by decide) (fun _ _ _ _ _ => (dnTs dts_nil fun _ _ => w_yes)) (fun _ _ _ _ _ => (dnE (pd_var 1) fun _ _ => w_var)) (fun _ _ _ _ _ => (dnE pd_bl fun _ _ => w_c))) fun _ _ => w_dc) (dnA pda_nil fun _ _ => w_nil)) fun _ _ => w_cons)) fun _ _ => w_call wf_sort)) fun _ _ => w_op wo_eq))) fun _ _ => w_andV)) fun _ _ => w_ret))) fun _ _ => w_seq)
theorem f_is_filled (T : Txt K mg a) : FnOk P w K mg base CX0 3 a.is_filled a.fd_is_filled ["thing", "frames"] (spD K 2 (ftM Z0 (m_is_filled a.cs))) :=
  fun_M (k := 2) (b := b_is_filled a.cs) T.F_is_filled sc_is_filled rfl rfl fun cdv A outer s H E hr => (dnSs (dss_cons (dnS (ds_if (PW.pt (dnW (pwd_or (dnT (pt_notD (dnT (pt_valD (dnE (pd_isi askT_tuple (dnE (pd_var 0) fun _ _ => w_var) rfl T.z_isinstance rfl T.z_tuple) fun _ _ => w_isi)) fun _ _ => w_tst)) fun _ _ => w_not) (pwd_or1 (dnT (pt_cmpD (od_ne hr) (dnE (pd_callB cd_len rfl T.z_len (by decide +kernel) (dnA (pda_cons (dnE (pd_var 0) fun _ _ => w_var) (dnA pda_nil fun _ _ => w_nil)) fun _ _ => w_cons)) fun _ _ => w_call wf_len) (dnE pd_int fun _ _ => w_c)) fun _ _ q => w_tst2 (w_op wo_ne) q))) fun _ _ => w_or)) (dss_one (dnS (ds_ret (dnE pd_bl fun _ _ => w_c)) fun _ _ => w_ret)) (dnSs dss_nil fun _ _ => w_next)) fun _ _ => w_ifS) (dss_one (dnS (ds_ret (dnE (pd_and (dnE (pd_call (f_is_index T) (hr.mono (by decide)) rfl T.g_is_index T.k_is_index T.b_is_index (dnB (dab_arg (dnE (pd_ix (dnE (pd_var 0) fun _ _ => w_var) (dnE pd_int fun _ _ => w_c)) fun _ _ => w_ix) (dnB (dab_arg (dnE (pd_var 1) fun _ _ => w_var) (dnB dab_nil fun _ _ => w_bnil)) fun _ _ => w_barg)) fun _ _ => w_barg)) fun _ _ => w_fn) (pd_one (dnE (pd_call (f_is_word T) (hr.mono (by decide)) rfl T.g_is_word T.k_is_word T.b_is_word (dnB (dab_arg (dnE (pd_ix (dnE (pd_var 0) fun _ _ => w_var) (dnE pd_int fun _ _ => w_c)) fun _ _ => w_ix) (dnB (dab_arg (dnE (g_RIGHTS T rfl) fun _ _ => w_c) (dnB dab_nil fun _ _ => w_bnil)) fun _ _ => w_barg)) fun _ _ => w_barg)) fun _ _ => w_fn))) fun _ _ => w_andV)) fun _ _ => w_ret))) fun _ _ => w_seq)
theorem f_is_table (T : Txt K mg a) : FnOk P w K mg base CX0 4 a.is_table a.fd_is_table ["thing", "pages", "frames"] (spD K 3 (ftM Z0 (m_is_table a.cs))) :=
  fun_M (k := 3) (b := b_is_table a.cs) T.F_is_table sc_is_table rfl rfl fun cdv A outer s H E hr => (dnSs (dss_cons (dnS (ds_if (PW.pt (dnW (pwd_or (dnT (pt_notD (dnT (pt_valD (dnE (pd_isi askT_tuple (dnE (pd_var 0) fun _ _ => w_var) rfl T.z_isinstance rfl T.z_tuple) fun _ _ => w_isi)) fun _ _ => w_tst)) fun _ _ => w_not) (pwd_or1 (dnT (pt_cmpD (od_ne hr) (dnE (pd_callB cd_len rfl T.z_len (by decide +kernel) (dnA (pda_cons (dnE (pd_var 0) fun _ _ => w_var) (dnA pda_nil fun _ _ => w_nil)) fun _ _ => w_cons)) fun _ _ => w_call wf_len) (dnE (pd_var 1) fun _ _ => w_var)) fun _ _ q => w_tst2 (w_op wo_ne) q))) fun _ _ => w_or)) (dss_one (dnS (ds_ret (dnE pd_bl fun _ _ => w_c)) fun _ _ => w_ret)) (dnSs dss_nil fun _ _ => w_next)) fun _ _ => w_ifS) (dss_one (dnS (ds_ret (dnE (pd_callB (cd_all rfl) rfl T.z_all (by decide +kernel) (dnA (pda_cons (dnE (pd_lc (own := [("one", 3)]) rfl sc_is_table.nd (dnI (di_seq (dnE (pd_var 0) fun _ _ => w_var)) fun _ _ => w_iSq) (blkOk_by (by rfl)) (fun _ _ _ _ _ => (pg_name (i := 3) sc_is_table.nd rfl (by first | exact .inl rfl | exact .inr rfl))) (dnG (tgt_name 3) fun _ _ _ => w_gnm) (by decide) (fun _ _ _ _ _ => (dnTs dts_nil fun _ _ => w_yes)) (fun _ _ _ _ _ => (dnE (pd_or (dnE (pd_cmp od_isN (dnE (pd_var 3) fun _ _ => w_var) (dnE pd_non fun _ _ => w_c)) fun _ _ => w_op wo_isN) (pd_one (dnE (pd_call (f_is_filled T) (hr.mono (by decide)) rfl T.g_is_filled T.k_is_filled T.b_is_filled (dnB (dab_arg (dnE (pd_var 3) fun _ _ => w_var) (dnB (dab_arg (dnE (pd_var 2) fun _ _ => w_var) (dnB dab_nil fun _ _ => w_bnil)) fun _ _ => w_barg)) fun _ _ => w_barg)) fun _ _ => w_fn))) fun _ _ => w_orV))) fun _ _ => w_lc) (dnA pda_nil fun _ _ => w_nil)) fun _ _ => w_cons)) fun _ _ => w_call wf_all)) fun _ _ => w_ret))) fun _ _ => w_seq)
theorem f_are_tables (T : Txt K mg a) : FnOk P w K mg base CX0 5 a.are_tables a.fd_are_tables ["thing", "spaces", "pages", "frames"] (spD K 4 (ftM Z0 (m_are_tables a.cs))) :=
  fun_M (k := 4) (b := b_are_tables a.cs) T.F_are_tables sc_are_tables rfl rfl fun cdv A outer s H E hr => (dnSs (dss_cons (dnS (ds_if (PW.pt (dnW (pwd_or (dnT (pt_notD (dnT (pt_valD (dnE (pd_isi askT_dict (dnE (pd_var 0) fun _ _ => w_var) rfl T.z_isinstance rfl T.z_dict) fun _ _ => w_isi)) fun _ _ => w_tst)) fun _ _ => w_not) (pwd_or1 (dnT (pt_cmpD (od_ne hr) (dnE (pd_callB cd_len rfl T.z_len (by decide +kernel) (dnA (pda_cons (dnE (pd_var 0) fun _ _ => w_var) (dnA pda_nil fun _ _ => w_nil)) fun _ _ => w_cons)) fun _ _ => w_call wf_len) (dnE (pd_callB cd_len rfl T.z_len (by decide +kernel) (dnA (pda_cons (dnE (pd_var 1) fun _ _ => w_var) (dnA pda_nil fun _ _ => w_nil)) fun _ _ => w_cons)) fun _ _ => w_call wf_len)) fun _ _ q => w_tst2 (w_op wo_ne) q))) fun _ _ => w_or)) (dss_one (dnS (ds_ret (dnE pd_bl fun _ _ => w_c)) fun _ _ => w_ret)) (dnSs dss_nil fun _ _ => w_next)) fun _ _ => w_ifS) (dss_one (dnS (ds_ret (dnE (pd_callB (cd_all rfl) rfl T.z_all (by decide +kernel) (dnA (pda_cons (dnE (pd_lc (own := [("space", 4)]) rfl sc_are_tables.nd (dnI (di_seq (dnE (pd_var 1) fun _ _ => w_var)) fun _ _ => w_iSq) (blkOk_by (by rfl)) (fun _ _ _ _ _ => (pg_name (i := 4) sc_are_tables.nd rfl (by first | exact .inl rfl | exact .inr rfl))) (dnG (tgt_name 4) fun _ _ _ => w_gnm) (by decide) (fun _ _ _ _ _ => (dnTs dts_nil fun _ _ => w_yes)) (fun _ _ _ _ _ => (dnE (pd_and (dnE (pd_din hr (dnE (pd_var 4) fun _ _ => w_var) (dnE (pd_var 0) fun _ _ => w_var)) fun _ _ => w_din) (pd_one (dnE (pd_call (f_is_table T) (hr.mono (by decide)) rfl T.g_is_table T.k_is_table T.b_is_table (dnB (dab_arg (dnE (pd_dg hr (dnE (pd_var 0) fun _ _ => w_var) (dnE (pd_var 4) fun _ _ => w_var)) fun _ _ => w_dg) (dnB (dab_arg (dnE (pd_var 2) fun _ _ => w_var) (dnB (dab_arg (dnE (pd_var 3) fun _ _ => w_var) (dnB dab_nil fun _ _ => w_bnil)) fun _ _ => w_barg)) fun _ _ => w_barg)) fun _ _ => w_barg)) fun _ _ => w_fn))) fun _ _ => w_andV))) fun _ _ => w_lc) (dnA pda_nil fun _ _ => w_nil)) fun _ _ => w_cons)) fun _ _ => w_call wf_all)) fun _ _ => w_ret))) fun _ _ => w_seq)
theorem f_World_init (T : Txt K mg a) : FnOk P w K mg base CX0 6 a.World_init a.fd_World_init ["self", "spaces", "pages", "frames", "tables", "tags", "checks", "early"] (spI K a.cs.World 8 (fiM Z0 (m_World_init a.cs))) :=
  fun_MI (k := 5) (b := b_World_init a.cs) T.F_World_init sc_World_init rfl rfl fun cdv A outer s H E hr => (dnSs (dss_cons (dnS (ds_if (dnT (pt_notD (dnT (pt_valD (dnE (pd_call (f_are_spaces T) (hr.mono (by decide)) rfl T.g_are_spaces T.k_are_spaces T.b_are_spaces (dnB (dab_arg (dnE (pd_var 1) fun _ _ => w_var) (dnB dab_nil fun _ _ => w_bnil)) fun _ _ => w_barg)) fun _ _ => w_fn)) fun _ _ => w_tst)) fun _ _ => w_not) (dss_one (dnS ds_never fun _ _ => w_never)) (dnSs dss_nil fun _ _ => w_next)) fun _ _ => w_ifS) (dnSs (dss_cons (dnS (ds_if (PW.pt (dnW (pwd_or (dnT (pt_notD (dnT (pt_valD (dnE (pd_call (f_is_integer T) (hr.mono (by decide)) rfl T.g_is_integer T.k_is_integer T.b_is_integer (dnB (dab_arg (dnE (pd_var 2) fun _ _ => w_var) (dnB dab_nil fun _ _ => w_bnil)) fun _ _ => w_barg)) fun _ _ => w_fn)) fun _ _ => w_tst)) fun _ _ => w_not) (pwd_or1 (dnT (pt_notD (dnT (pt_chainD od_le od_le (dnE pd_int fun _ _ => w_c) (dnE (pd_var 2) fun _ _ => w_var) (dnE (g_MOST_PAGES T rfl) fun _ _ => w_c)) fun _ _ q => w_tst2 (w_chain wo_le wo_le) q)) fun _ _ => w_not))) fun _ _ => w_or)) (dss_one (dnS ds_never fun _ _ => w_never)) (dnSs dss_nil fun _ _ => w_next)) fun _ _ => w_ifS) (dnSs (dss_cons (dnS (ds_if (PW.pt (dnW (pwd_or (dnT (pt_notD (dnT (pt_valD (dnE (pd_call (f_is_integer T) (hr.mono (by decide)) rfl T.g_is_integer T.k_is_integer T.b_is_integer (dnB (dab_arg (dnE (pd_var 3) fun _ _ => w_var) (dnB dab_nil fun _ _ => w_bnil)) fun _ _ => w_barg)) fun _ _ => w_fn)) fun _ _ => w_tst)) fun _ _ => w_not) (pwd_or1 (dnT (pt_notD (dnT (pt_chainD od_le od_le (dnE pd_int fun _ _ => w_c) (dnE (pd_var 3) fun _ _ => w_var) (dnE (g_MOST_FRAMES T rfl) fun _ _ => w_c)) fun _ _ q => w_tst2 (w_chain wo_le wo_le) q)) fun _ _ => w_not))) fun _ _ => w_or)) (dss_one (dnS ds_never fun _ _ => w_never)) (dnSs dss_nil fun _ _ => w_next)) fun _ _ => w_ifS) (dnSs (dss_cons (dnS (ds_if (dnT (pt_notD (dnT (pt_valD (dnE (pd_show 4 (dnE (pd_call (f_are_tables T) (hr.mono (by decide)) rfl T.g_are_tables T.k_are_tables T.b_are_tables (dnB (dab_arg (dnE (pd_ld 4) fun _ _ => w_ld) (dnB (dab_arg (dnE (pd_var 1) fun _ _ => w_var) (dnB (dab_arg (dnE (pd_var 2) fun _ _ => w_var) (dnB (dab_arg (dnE (pd_var 3) fun _ _ => w_var) (dnB dab_nil fun _ _ => w_bnil)) fun _ _ => w_barg)) fun _ _ => w_barg)) fun _ _ => w_barg)) fun _ _ => w_barg)) fun _ _ => w_fn)) fun _ _ => w_show)) fun _ _ => w_tst)) fun _ _ => w_not) (dss_one (dnS ds_never fun _ _ => w_never)) (dnSs dss_nil fun _ _ => w_next)) fun _ _ => w_ifS) (dnSs (dss_cons (dnS (ds_for PassesOwn.never rfl (dnI (di_seq (dnE (pd_lst (dnA (pda_cons (dnE (pd_tup (dnA (pda_cons (dnE pd_str fun _ _ => w_c) (dnA (pda_cons (dnE (pd_var 5) fun _ _ => w_var) (dnA pda_nil fun _ _ => w_nil)) fun _ _ => w_cons)) fun _ _ => w_cons)) fun _ _ => w_tup) (dnA (pda_cons (dnE (pd_tup (dnA (pda_cons (dnE pd_str fun _ _ => w_c) (dnA (pda_cons (dnE (pd_var 6) fun _ _ => w_var) (dnA pda_nil fun _ _ => w_nil)) fun _ _ => w_cons)) fun _ _ => w_cons)) fun _ _ => w_tup) (dnA (pda_cons (dnE (pd_tup (dnA (pda_cons (dnE pd_str fun _ _ => w_c) (dnA (pda_cons (dnE (pd_var 7) fun _ _ => w_var) (dnA pda_nil fun _ _ => w_nil)) fun _ _ => w_cons)) fun _ _ => w_cons)) fun _ _ => w_tup) (dnA pda_nil fun _ _ => w_nil)) fun _ _ => w_cons)) fun _ _ => w_cons)) fun _ _ => w_cons)) fun _ _ => w_lst)) fun _ _ => w_iSq) (pg_tup rfl (pgs_cons (pg_name (i := 8) sc_World_init.nd rfl (by first | exact .inl rfl | exact .inr rfl)) (pgs_cons (pg_name (i := 9) sc_World_init.nd rfl (by first | exact .inl rfl | exact .inr rfl)) pgs_nil))) (dnG (tgt_tup (dnGs (tgts_cons (dnG (tgt_name 8) fun _ _ _ => w_gnm) (dnGs (tgts_cons (dnG (tgt_name 9) fun _ _ _ => w_gnm) (dnGs tgts_nil fun _ _ _ => w_gsnil)) fun _ _ _ => w_gscons)) fun _ _ _ => w_gscons)) fun _ _ _ => w_gtp) (dss_one (dnS (ds_if (dnT (pt_notD (dnT (pt_valD (dnE (pd_isi askT_bool (dnE (pd_var 9) fun _ _ => w_var) rfl T.z_isinstance rfl T.z_bool) fun _ _ => w_isi)) fun _ _ => w_tst)) fun _ _ => w_not) (dss_one (dnS ds_never fun _ _ => w_never)) (dnSs dss_nil fun _ _ => w_next)) fun _ _ => w_ifS))) fun _ _ => w_for) (dnSs (dss_cons (dnS (ds_fld (i := 0) T.c_World T.n_World_own_spaces (pv 0) (dnE (pd_var 1) fun _ _ => w_var)) fun _ _ => w_setF) (dnSs (dss_cons (dnS (ds_fld (i := 0) T.c_World T.n_World_own_pages (pv 0) (dnE (pd_var 2) fun _ _ => w_var)) fun _ _ => w_setF) (dnSs (dss_cons (dnS (ds_fld (i := 0) T.c_World T.n_World_own_frames (pv 0) (dnE (pd_var 3) fun _ _ => w_var)) fun _ _ => w_setF) (dnSs (dss_cons (dnS (ds_fld (i := 0) T.c_World T.n_World_own_tables (pv 0) (dnE (pd_dc (own := [("space", 10)]) rfl sc_World_init.nd (dnI (di_seq (dnE (pd_var 1) fun _ _ => w_var)) fun _ _ => w_iSq) (blkOk_by (by rfl)) (fun _ _ _ _ _ => (pg_name (i := 10) sc_World_init.nd rfl (by first | exact .inl rfl | exact .inr rfl))) (dnG (tgt_name 10) fun _ _ _ => w_gnm) (by decide) (fun _ _ _ _ _ => (dnTs dts_nil fun _ _ => w_yes)) (fun _ _ _ _ _ => (dnE (pd_var 10) fun _ _ => w_var)) (fun _ _ _ _ _ => (dnE (pd_dgL 4 hr (dnE (pd_var 10) fun _ _ => w_var)) fun _ _ => w_dgL))) fun _ _ => w_dc)) fun _ _ => w_setF) (dss_one (dnS (ds_fld (i := 0) T.c_World T.n_World_own_rules (pv 0) (dnE (pd_tup (dnA (pda_cons (dnE (pd_var 5) fun _ _ => w_var) (dnA (pda_cons (dnE (pd_var 6) fun _ _ => w_var) (dnA (pda_cons (dnE (pd_var 7) fun _ _ => w_var) (dnA pda_nil fun _ _ => w_nil)) fun _ _ => w_cons)) fun _ _ => w_cons)) fun _ _ => w_cons)) fun _ _ => w_tup)) fun _ _ => w_setF))) fun _ _ => w_seq)) fun _ _ => w_seq)) fun _ _ => w_seq)) fun _ _ => w_seq)) fun _ _ => w_seq)) fun _ _ => w_seq)) fun _ _ => w_seq)) fun _ _ => w_seq)) fun _ _ => w_seq)
theorem f_World_spaces (T : Txt K mg a) : FnOk P w K mg base CX0 1 a.World_spaces a.fd_World_spaces ["self"] (spD K 1 (ftM Z0 (m_World_spaces a.cs))) :=
  fun_M (k := 0) (b := b_World_spaces a.cs) T.F_World_spaces sc_World_spaces rfl rfl fun cdv A outer s H E hr => (dss_one (dnS (ds_ret (dnE (pd_fld T.c_World T.n_World_own_spaces (dnE (pd_var 0) fun _ _ => w_var)) fun _ _ => w_fld)) fun _ _ => w_ret))
theorem f_World_pages (T : Txt K mg a) : FnOk P w K mg base CX0 1 a.World_pages a.fd_World_pages ["self"] (spD K 1 (ftM Z0 (m_World_pages a.cs))) :=
  fun_M (k := 0) (b := b_World_pages a.cs) T.F_World_pages sc_World_pages rfl rfl fun cdv A outer s H E hr => (dss_one (dnS (ds_ret (dnE (pd_fld T.c_World T.n_World_own_pages (dnE (pd_var 0) fun _ _ => w_var)) fun _ _ => w_fld)) fun _ _ => w_ret))
theorem f_World_frames (T : Txt K mg a) : FnOk P w K mg base CX0 1 a.World_frames a.fd_World_frames ["self"] (spD K 1 (ftM Z0 (m_World_frames a.cs))) :=
  fun_M (k := 0) (b := b_World_frames a.cs) T.F_World_frames sc_World_frames rfl rfl fun cdv A outer s H E hr => (dss_one (dnS (ds_ret (dnE (pd_fld T.c_World T.n_World_own_frames (dnE (pd_var 0) fun _ _ => w_var)) fun _ _ => w_fld)) fun _ _ => w_ret))
theorem f_World_tables (T : Txt K mg a) : FnOk P w K mg base CX0 1 a.World_tables a.fd_World_tables ["self"] (spD K 1 (ftM Z0 (m_World_tables a.cs))) :=
  fun_M (k := 0) (b := b_World_tables a.cs) T.F_World_tables sc_World_tables rfl rfl fun cdv A outer s H E hr => (dss_one (dnS (ds_ret (dnE (pd_callTy cd_dict rfl T.z_dict (by decide +kernel) (dnA (pda_cons (dnE (pd_fld T.c_World T.n_World_own_tables (dnE (pd_var 0) fun _ _ => w_var)) fun _ _ => w_fld) (dnA pda_nil fun _ _ => w_nil)) fun _ _ => w_cons)) fun _ _ => w_call wf_dict)) fun _ _ => w_ret))
theorem f_World_tags (T : Txt K mg a) : FnOk P w K mg base CX0 1 a.World_tags a.fd_World_tags ["self"] (spD K 1 (ftM Z0 (m_World_tags a.cs))) :=
  fun_M (k := 0) (b := b_World_tags a.cs) T.F_World_tags sc_World_tags rfl rfl fun cdv A outer s H E hr => (dss_one (dnS (ds_ret (dnE (pd_ix (dnE (pd_fld T.c_World T.n_World_own_rules (dnE (pd_var 0) fun _ _ => w_var)) fun _ _ => w_fld) (dnE pd_int fun _ _ => w_c)) fun _ _ => w_ix)) fun _ _ => w_ret))
theorem f_World_checks (T : Txt K mg a) : FnOk P w K mg base CX0 1 a.World_checks a.fd_World_checks ["self"] (spD K 1 (ftM Z0 (m_World_checks a.cs))) :=
  fun_M (k := 0) (b := b_World_checks a.cs) T.F_World_checks sc_World_checks rfl rfl fun cdv A outer s H E hr => (dss_one (dnS (ds_ret (dnE (pd_ix (dnE (pd_fld T.c_World T.n_World_own_rules (dnE (pd_var 0) fun _ _ => w_var)) fun _ _ => w_fld) (dnE pd_int fun _ _ => w_c)) fun _ _ => w_ix)) fun _ _ => w_ret))
theorem f_World_early (T : Txt K mg a) : FnOk P w K mg base CX0 1 a.World_early a.fd_World_early ["self"] (spD K 1 (ftM Z0 (m_World_early a.cs))) :=
  fun_M (k := 0) (b := b_World_early a.cs) T.F_World_early sc_World_early rfl rfl fun cdv A outer s H E hr => (dss_one (dnS (ds_ret (dnE (pd_ix (dnE (pd_fld T.c_World T.n_World_own_rules (dnE (pd_var 0) fun _ _ => w_var)) fun _ _ => w_fld) (dnE pd_int fun _ _ => w_c)) fun _ _ => w_ix)) fun _ _ => w_ret))
theorem f_World_parts (T : Txt K mg a) : FnOk P w K mg base CX0 1 a.World_parts a.fd_World_parts ["self"] (spD K 1 (ftM Z0 (m_World_parts a.cs))) :=
  fun_M (k := 0) (b := b_World_parts a.cs) T.F_World_parts sc_World_parts rfl rfl fun cdv A outer s H E hr => (dss_one (dnS (ds_ret (dnE (pd_tup (dnA (pda_cons (dnE (pd_fld T.c_World T.n_World_own_spaces (dnE (pd_var 0) fun _ _ => w_var)) fun _ _ => w_fld) (dnA (pda_cons (dnE (pd_fld T.c_World T.n_World_own_pages (dnE (pd_var 0) fun _ _ => w_var)) fun _ _ => w_fld) (dnA (pda_cons (dnE (pd_fld T.c_World T.n_World_own_frames (dnE (pd_var 0) fun _ _ => w_var)) fun _ _ => w_fld) (dnA (pda_cons (dnE (pd_items rfl (dnE (pd_fld T.c_World T.n_World_own_tables (dnE (pd_var 0) fun _ _ => w_var)) fun _ _ => w_fld) rfl T.z_list (by decide +kernel)) fun _ _ => w_items) (dnA (pda_cons (dnE (pd_fld T.c_World T.n_World_own_rules (dnE (pd_var 0) fun _ _ => w_var)) fun _ _ => w_fld) (dnA pda_nil fun _ _ => w_nil)) fun _ _ => w_cons)) fun _ _ => w_cons)) fun _ _ => w_cons)) fun _ _ => w_cons)) fun _ _ => w_cons)) fun _ _ => w_tup)) fun _ _ => w_ret))
theorem f_World___eq__ (T : Txt K mg a) : FnOk P w K mg base CX0 2 a.World___eq__ a.fd_World___eq__ ["self", "other"] (spD K 2 (ftM Z0 (m_World___eq__ a.cs))) :=
  fun_M (k := 1) (b := b_World___eq__ a.cs) T.F_World___eq__ sc_World___eq__ rfl rfl fun cdv A outer s H E hr => (dss_one (dnS (ds_ret (dnE (pd_and (dnE (pd_isOwn T.io_World (dnE (pd_var 1) fun _ _ => w_var) rfl T.z_isinstance rfl T.g_World) fun _ _ => w_isOwn) (pd_one (dnE (pd_cmp (od_eq hr) (dnE (pd_meth0 T.c_World T.me_World_parts (f_World_parts T) (hr.mono (by decide)) T.b_World_parts (dnE (pd_var 0) fun _ _ => w_var)) fun _ _ => w_meth0) (dnE (pd_meth0 T.c_World T.me_World_parts (f_World_parts T) (hr.mono (by decide)) T.b_World_parts (dnE (pd_var 1) fun _ _ => w_var)) fun _ _ => w_meth0)) fun _ _ => w_op wo_eq))) fun _ _ => w_andV)) fun _ _ => w_ret))
theorem f_World_entries (T : Txt K mg a) : FnOk P w K mg base CX0 1 a.World_entries a.fd_World_entries ["self"] (spD K 1 (ftM Z0 (m_World_entries a.cs))) :=
  fun_M (k := 0) (b := b_World_entries a.cs) T.F_World_entries sc_World_entries rfl rfl fun cdv A outer s H E hr => (dnSs (dss_cons (dnS (ds_set sc_World_entries.nd (i := 1) rfl (by first | exact .inl rfl | exact .inr rfl) (dnE (pd_lst (dnA pda_nil fun _ _ => w_nil)) fun _ _ => w_lst)) fun _ _ => w_set) (dnSs (dss_cons (dnS (ds_forIt PassesOwn.never rfl T.c_World T.n_World_own_tables (pv 0) (pg_tup rfl (pgs_cons (pg_name (i := 2) sc_World_entries.nd rfl (by first | exact .inl rfl | exact .inr rfl)) (pgs_cons (pg_name (i := 3) sc_World_entries.nd rfl (by first | exact .inl rfl | exact .inr rfl)) pgs_nil))) (dnG (tgt_tup (dnGs (tgts_cons (dnG (tgt_name 2) fun _ _ _ => w_gnm) (dnGs (tgts_cons (dnG (tgt_name 3) fun _ _ _ => w_gnm) (dnGs tgts_nil fun _ _ _ => w_gsnil)) fun _ _ _ => w_gscons)) fun _ _ _ => w_gscons)) fun _ _ _ => w_gtp) (dss_one (dnS (ds_expr (dnE (pd_extend (pv 1) (dnE (pd_lc (own := [("page", 4), ("item", 5)]) rfl sc_World_entries.nd (dnI (di_enumA rfl T.z_enumerate (dnA (pda_cons (dnE (pd_var 3) fun _ _ => w_var) (dnA pda_nil fun _ _ => w_nil)) fun _ _ => w_cons)) fun _ _ => w_iEnA) (blkOk_by (by rfl)) (fun _ _ _ _ _ => (pg_tup rfl (pgs_cons (pg_name (i := 4) sc_World_entries.nd rfl (by first | exact .inl rfl | exact .inr rfl)) (pgs_cons (pg_name (i := 5) sc_World_entries.nd rfl (by first | exact .inl rfl | exact .inr rfl)) pgs_nil)))) (dnG (tgt_tup (dnGs (tgts_cons (dnG (tgt_name 4) fun _ _ _ => w_gnm) (dnGs (tgts_cons (dnG (tgt_name 5) fun _ _ _ => w_gnm) (dnGs tgts_nil fun _ _ _ => w_gsnil)) fun _ _ _ => w_gscons)) fun _ _ _ => w_gscons)) fun _ _ _ => w_gtp) (by decide) (fun _ _ _ _ _ => (dts_one (dnT (pt_cmpD od_notN (dnE (pd_var 5) fun _ _ => w_var) (dnE pd_non fun _ _ => w_c)) fun _ _ q => w_tst2 (w_op wo_notN) q))) (fun _ _ _ _ _ => (dnE (pd_op od_add (dnE (pd_tup (dnA (pda_cons (dnE (pd_var 2) fun _ _ => w_var) (dnA (pda_cons (dnE (pd_var 4) fun _ _ => w_var) (dnA pda_nil fun _ _ => w_nil)) fun _ _ => w_cons)) fun _ _ => w_cons)) fun _ _ => w_tup) (dnE (pd_var 5) fun _ _ => w_var)) fun _ _ => w_op wo_add))) fun _ _ => w_lc)) fun _ _ => w_ext)) fun _ _ => w_expr))) fun _ _ => w_forIt) (dss_one (dnS (ds_ret (dnE (pd_mov 1) fun _ _ => w_mov)) fun _ _ => w_ret))) fun _ _ => w_seq)) fun _ _ => w_seq)
theorem f__law_pick (T : Txt K mg a) : FnOk P w K mg base CX0 2 a._law_pick a.fd__law_pick ["_law_draws", "_law_some"] (spD K 2 (ftM Z0 (m__law_pick a.cs))) :=
  fun_M (k := 1) (b := b__law_pick a.cs) T.F__law_pick sc__law_pick rfl rfl fun cdv A outer s H E hr => (dss_one (dnS (ds_ret (dnE (pd_ix (dnE (pd_var 1) fun _ _ => w_var) (dnE (pd_call (f__law_draw T) (hr.mono (by decide)) rfl T.g__law_draw T.k__law_draw T.b__law_draw (dnB (dab_arg (dnE (pd_var 0) fun _ _ => w_var) (dnB (dab_arg (dnE (pd_callB cd_len rfl T.z_len (by decide +kernel) (dnA (pda_cons (dnE (pd_var 1) fun _ _ => w_var) (dnA pda_nil fun _ _ => w_nil)) fun _ _ => w_cons)) fun _ _ => w_call wf_len) (dnB dab_nil fun _ _ => w_bnil)) fun _ _ => w_barg)) fun _ _ => w_barg)) fun _ _ => w_fn)) fun _ _ => w_ix)) fun _ _ => w_ret))
theorem f__law_shuffled (T : Txt K mg a) : FnOk P w K mg base CX0 2 a._law_shuffled a.fd__law_shuffled ["_law_draws", "_law_some"] (spD K 2 (ftM Z0 (m__law_shuffled a.cs))) :=
  fun_M (k := 1) (b := b__law_shuffled a.cs) T.F__law_shuffled sc__law_shuffled rfl rfl fun cdv A outer s H E hr => (dnSs (dss_cons (dnS (ds_par (i := 2) (j := 3) rfl sc__law_shuffled.nd rfl rfl (by decide) rfl rfl (dnB (dab_cons (dnE (pd_callTy cd_list rfl T.z_list (by decide +kernel) (dnA (pda_cons (dnE (pd_var 1) fun _ _ => w_var) (dnA pda_nil fun _ _ => w_nil)) fun _ _ => w_cons)) fun _ _ => w_call wf_list) (dnB (dab_cons (dnE (pd_lst (dnA pda_nil fun _ _ => w_nil)) fun _ _ => w_lst) (dnB dab_nil fun _ _ => w_bnil)) fun _ _ => w_bcons)) fun _ _ => w_bcons)) fun _ _ => w_par) (dnSs (dss_cons (dnS (ds_while PassesOwn.never (dnT (pt_ownNe hr (pv 2)) fun _ _ => w_ownNe) (dss_one (dnS (ds_expr (dnE (pd_append (pv 3) (dnE (pd_pop (pv 2) (dnE (pd_call (f__law_draw T) (hr.mono (by decide)) rfl T.g__law_draw T.k__law_draw T.b__law_draw (dnB (dab_arg (dnE (pd_var 0) fun _ _ => w_var) (dnB (dab_arg (dnE (pd_ownLen (pv 2) rfl T.z_len) fun _ _ => w_ownLen) (dnB dab_nil fun _ _ => w_bnil)) fun _ _ => w_barg)) fun _ _ => w_barg)) fun _ _ => w_fn)) fun _ _ => w_pop)) fun _ _ => w_app)) fun _ _ => w_expr))) fun _ _ => w_while) (dss_one (dnS (ds_ret (dnE (pd_var 3) fun _ _ => w_var)) fun _ _ => w_ret))) fun _ _ => w_seq)) fun _ _ => w_seq)
theorem f__law_labels (T : Txt K mg a) : FnOk P w K mg base CX0 3 a._law_labels a.fd__law_labels ["_law_draws", "_law_many"] (spD K 2 (ftM Z0 (m__law_labels a.cs))) :=
  fun_M (k := 2) (b := b__law_labels a.cs) T.F__law_labels sc__law_labels rfl rfl fun cdv A outer s H E hr => (dnSs (dss_cons (dnS (ds_parT rfl (pg_name (i := 2) sc__law_labels.nd rfl (by first | exact .inl rfl | exact .inr rfl)) (pg_name (i := 3) sc__law_labels.nd rfl (by first | exact .inl rfl | exact .inr rfl)) (dnB (dab_cons (dnE pd_str fun _ _ => w_c) (dnB (dab_cons (dnE (pd_lst (dnA pda_nil fun _ _ => w_nil)) fun _ _ => w_lst) (dnB dab_nil fun _ _ => w_bnil)) fun _ _ => w_bcons)) fun _ _ => w_bcons)) fun _ _ => w_par) (dnSs (dss_cons (dnS (ds_set sc__law_labels.nd (i := 4) rfl (by first | exact .inl rfl | exact .inr rfl) (dnE (pd_lst (dnA (pda_cons (dnE pd_str fun _ _ => w_c) (dnA (pda_cons (dnE pd_str fun _ _ => w_c) (dnA (pda_cons (dnE pd_str fun _ _ => w_c) (dnA (pda_cons (dnE pd_str fun _ _ => w_c) (dnA (pda_cons (dnE pd_str fun _ _ => w_c) (dnA (pda_cons (dnE pd_str fun _ _ => w_c) (dnA (pda_cons (dnE pd_str fun _ _ => w_c) (dnA (pda_cons (dnE pd_str fun _ _ => w_c) (dnA (pda_cons (dnE pd_str fun _ _ => w_c) (dnA pda_nil fun _ _ => w_nil)) fun _ _ => w_cons)) fun _ _ => w_cons)) fun _ _ => w_cons)) fun _ _ => w_cons)) fun _ _ => w_cons)) fun _ _ => w_cons)) fun _ _ => w_cons)) fun _ _ => w_cons)) fun _ _ => w_cons)) fun _ _ => w_lst)) fun _ _ => w_set) (dnSs (dss_cons (dnS (ds_for PassesOwn.never rfl (dnI (di_range rfl T.z_range (dnA (pda_cons (dnE (pd_var 1) fun _ _ => w_var) (dnA pda_nil fun _ _ => w_nil)) fun _ _ => w_cons)) fun _ _ => w_iR) (pg_name (i := 5) sc__law_labels.nd rfl (by first | exact .inl rfl | exact .inr rfl)) (dnG (tgt_name 5) fun _ _ _ => w_gnm) (dnSs (dss_cons (dnS (ds_set sc__law_labels.nd (i := 6) rfl (by first | exact .inl rfl | exact .inr rfl) (dnE (pd_call (f__law_pick T) (hr.mono (by decide)) rfl T.g__law_pick T.k__law_pick T.b__law_pick (dnB (dab_arg (dnE (pd_var 0) fun _ _ => w_var) (dnB (dab_arg (dnE (pd_var 4) fun _ _ => w_var) (dnB dab_nil fun _ _ => w_bnil)) fun _ _ => w_barg)) fun _ _ => w_barg)) fun _ _ => w_fn)) fun _ _ => w_set) (dnSs (dss_cons (dnS (ds_if (dnT (pt_cmpD od_gt (dnE (pd_call (f__law_draw T) (hr.mono (by decide)) rfl T.g__law_draw T.k__law_draw T.b__law_draw (dnB (dab_arg (dnE (pd_var 0) fun _ _ => w_var) (dnB (dab_arg (dnE pd_int fun _ _ => w_c) (dnB dab_nil fun _ _ => w_bnil)) fun _ _ => w_barg)) fun _ _ => w_barg)) fun _ _ => w_fn) (dnE pd_int fun _ _ => w_c)) fun _ _ q => w_tst2 (w_op wo_gt) q) (dss_one (dnS (ds_set sc__law_labels.nd (i := 6) rfl (by first | exact .inl rfl | exact .inr rfl) (dnE (pd_join (dnE pd_str fun _ _ => w_c) (dnE (pd_lc (own := [("_law_j", 7)]) rfl sc__law_labels.nd (dnI (di_range rfl T.z_range (dnA (pda_cons (dnE (pd_call (f__law_pick T) (hr.mono (by decide)) rfl T.g__law_pick T.k__law_pick T.b__law_pick (dnB (dab_arg (dnE (pd_var 0) fun _ _ => w_var) (dnB (dab_arg (dnE (pd_lst (dnA (pda_cons (dnE pd_int fun _ _ => w_c) (dnA (pda_cons (dnE pd_int fun _ _ => w_c) (dnA (pda_cons (dnE pd_int fun _ _ => w_c) (dnA (pda_cons (dnE pd_int fun _ _ => w_c) (dnA pda_nil fun _ _ => w_nil)) fun _ _ => w_cons)) fun _ _ => w_cons)) fun _ _ => w_cons)) fun _ _ => w_cons)) fun _ _ => w_lst) (dnB dab_nil fun _ _ => w_bnil)) fun _ _ => w_barg)) fun _ _ => w_barg)) fun _ _ => w_fn) (dnA pda_nil fun _ _ => w_nil)) fun _ _ => w_cons)) fun _ _ => w_iR) (blkOk_by (by rfl)) (fun _ _ _ _ _ => (pg_name (i := 7) sc__law_labels.nd rfl (by first | exact .inl rfl | exact .inr rfl))) (dnG (tgt_name 7) fun _ _ _ => w_gnm) (by decide) (fun _ _ _ _ _ => (dnTs dts_nil fun _ _ => w_yes)) (fun _ _ _ _ _ => (dnE (pd_call (f__law_pick T) (hr.mono (by decide)) rfl T.g__law_pick T.k__law_pick T.b__law_pick (dnB (dab_arg (dnE (pd_var 0) fun _ _ => w_var) (dnB (dab_arg (dnE (pd_var 2) fun _ _ => w_var) (dnB dab_nil fun _ _ => w_bnil)) fun _ _ => w_barg)) fun _ _ => w_barg)) fun _ _ => w_fn))) fun _ _ => w_lc)) fun _ _ => w_join)) fun _ _ => w_set)) (dnSs dss_nil fun _ _ => w_next)) fun _ _ => w_ifS) (dnSs (dss_cons (dnS (ds_setLc (i := 8) (own := [("_law_sign", 9)]) rfl sc__law_labels.nd rfl rfl rfl (dnI (di_seq (dnE (pd_var 2) fun _ _ => w_var)) fun _ _ => w_iSq) (blkOk_by (by rfl)) (fun _ _ _ _ _ => (pg_name (i := 9) sc__law_labels.nd rfl (by first | exact .inl rfl | exact .inr rfl))) (dnG (tgt_name 9) fun _ _ _ => w_gnm) (by decide) (fun _ _ _ _ _ => (dnTs dts_nil fun _ _ => w_yes)) (fun _ _ _ _ _ => (dnE (pd_op od_add (dnE (pd_op od_add (dnE (pd_sl (dnE (pd_var 6) fun _ _ => w_var) (dnO do_none fun _ _ => w_oNo) (dnO (do_some (dnE pd_int fun _ _ => w_c)) fun _ _ => w_oSome)) fun _ _ => w_sl) (dnE pd_str fun _ _ => w_c)) fun _ _ => w_op wo_add) (dnE (pd_var 9) fun _ _ => w_var)) fun _ _ => w_op wo_add))) fun _ _ => w_setLc) (dss_one (dnS (ds_expr (dnE (pd_append (pv 3) (dnE (pd_ix (dnE (pd_lc (own := [("_law_one", 10)]) rfl sc__law_labels.nd (dnI (di_seq (dnE (pd_op od_add (dnE (pd_lst (dnA (pda_cons (dnE (pd_var 6) fun _ _ => w_var) (dnA pda_nil fun _ _ => w_nil)) fun _ _ => w_cons)) fun _ _ => w_lst) (dnE (pd_var 8) fun _ _ => w_var)) fun _ _ => w_op wo_add)) fun _ _ => w_iSq) (blkOk_by (by rfl)) (fun _ _ _ _ _ => (pg_name (i := 10) sc__law_labels.nd rfl (by first | exact .inl rfl | exact .inr rfl))) (dnG (tgt_name 10) fun _ _ _ => w_gnm) (by decide) (fun _ _ _ _ _ => (dts_one (dnT (pt_ownNotIn (pv 3) (dnE (pd_var 10) fun _ _ => w_var)) fun _ _ q => w_tst2 w_ownIn q))) (fun _ _ _ _ _ => (dnE (pd_var 10) fun _ _ => w_var))) fun _ _ => w_lc) (dnE pd_int fun _ _ => w_c)) fun _ _ => w_ix)) fun _ _ => w_app)) fun _ _ => w_expr))) fun _ _ => w_seq)) fun _ _ => w_seq)) fun _ _ => w_seq)) fun _ _ => w_for) (dss_one (dnS (ds_ret (dnE (pd_var 3) fun _ _ => w_var)) fun _ _ => w_ret))) fun _ _ => w_seq)) fun _ _ => w_seq)) fun _ _ => w_seq)
theorem f__law_cell (T : Txt K mg a) : FnOk P w K mg base CX0 3 a._law_cell a.fd__law_cell ["_law_draws", "_law_count"] (spD K 2 (ftM Z0 (m__law_cell a.cs))) :=
  fun_M (k := 2) (b := b__law_cell a.cs) T.F__law_cell sc__law_cell rfl rfl fun cdv A outer s H E hr => (dnSs (dss_cons (dnS (ds_if (dnT (pt_cmpD (od_eq hr) (dnE (pd_call (f__law_draw T) (hr.mono (by decide)) rfl T.g__law_draw T.k__law_draw T.b__law_draw (dnB (dab_arg (dnE (pd_var 0) fun _ _ => w_var) (dnB (dab_arg (dnE pd_int fun _ _ => w_c) (dnB dab_nil fun _ _ => w_bnil)) fun _ _ => w_barg)) fun _ _ => w_barg)) fun _ _ => w_fn) (dnE pd_int fun _ _ => w_c)) fun _ _ q => w_tst2 (w_op wo_eq) q) (dss_one (dnS (ds_ret (dnE pd_non fun _ _ => w_c)) fun _ _ => w_ret)) (dnSs dss_nil fun _ _ => w_next)) fun _ _ => w_ifS) (dss_one (dnS (ds_ret (dnE (pd_tup (dnA (pda_cons (dnE (pd_call (f__law_draw T) (hr.mono (by decide)) rfl T.g__law_draw T.k__law_draw T.b__law_draw (dnB (dab_arg (dnE (pd_var 0) fun _ _ => w_var) (dnB (dab_arg (dnE (pd_var 1) fun _ _ => w_var) (dnB dab_nil fun _ _ => w_bnil)) fun _ _ => w_barg)) fun _ _ => w_barg)) fun _ _ => w_fn) (dnA (pda_cons (dnE (pd_call (f__law_pick T) (hr.mono (by decide)) rfl T.g__law_pick T.k__law_pick T.b__law_pick (dnB (dab_arg (dnE (pd_var 0) fun _ _ => w_var) (dnB (dab_arg (dnE (pd_lst (dnA (pda_cons (dnE pd_str fun _ _ => w_c) (dnA (pda_cons (dnE pd_str fun _ _ => w_c) (dnA pda_nil fun _ _ => w_nil)) fun _ _ => w_cons)) fun _ _ => w_cons)) fun _ _ => w_lst) (dnB dab_nil fun _ _ => w_bnil)) fun _ _ => w_barg)) fun _ _ => w_barg)) fun _ _ => w_fn) (dnA pda_nil fun _ _ => w_nil)) fun _ _ => w_cons)) fun _ _ => w_cons)) fun _ _ => w_tup)) fun _ _ => w_ret))) fun _ _ => w_seq)
theorem f__law_parts (T : Txt K mg a) : FnOk P w K mg base CX0 4 a._law_parts a.fd__law_parts ["_law_draws", "_law_most"] (spD K 2 (ftM Z0 (m__law_parts a.cs))) :=
  fun_M (k := 3) (b := b__law_parts a.cs) T.F__law_parts sc__law_parts rfl rfl fun cdv A outer s H E hr => (dnSs (dss_cons (dnS (ds_set sc__law_parts.nd (i := 2) rfl (by first | exact .inl rfl | exact .inr rfl) (dnE (pd_callTy cd_tuple rfl T.z_tuple (by decide +kernel) (dnA (pda_cons (dnE (pd_callB (cd_sort rfl) rfl T.z_sorted (by decide +kernel) (dnA (pda_cons (dnE (pd_call (f__law_labels T) (hr.mono (by decide)) rfl T.g__law_labels T.k__law_labels T.b__law_labels (dnB (dab_arg (dnE (pd_var 0) fun _ _ => w_var) (dnB (dab_arg (dnE (pd_op od_add (dnE pd_int fun _ _ => w_c) (dnE (pd_call (f__law_draw T) (hr.mono (by decide)) rfl T.g__law_draw T.k__law_draw T.b__law_draw (dnB (dab_arg (dnE (pd_var 0) fun _ _ => w_var) (dnB (dab_arg (dnE (pd_var 1) fun _ _ => w_var) (dnB dab_nil fun _ _ => w_bnil)) fun _ _ => w_barg)) fun _ _ => w_barg)) fun _ _ => w_fn)) fun _ _ => w_op wo_add) (dnB dab_nil fun _ _ => w_bnil)) fun _ _ => w_barg)) fun _ _ => w_barg)) fun _ _ => w_fn) (dnA pda_nil fun _ _ => w_nil)) fun _ _ => w_cons)) fun _ _ => w_call wf_sort) (dnA pda_nil fun _ _ => w_nil)) fun _ _ => w_cons)) fun _ _ => w_call wf_tuple)) fun _ _ => w_set) (dnSs (dss_cons (dnS (ds_parT3 rfl (pg_name (i := 3) sc__law_parts.nd rfl (by first | exact .inl rfl | exact .inr rfl)) (pg_name (i := 4) sc__law_parts.nd rfl (by first | exact .inl rfl | exact .inr rfl)) (pg_name (i := 5) sc__law_parts.nd rfl (by first | exact .inl rfl | exact .inr rfl)) (dnB (dab_cons (dnE (pd_op od_add (dnE pd_int fun _ _ => w_c) (dnE (pd_call (f__law_draw T) (hr.mono (by decide)) rfl T.g__law_draw T.k__law_draw T.b__law_draw (dnB (dab_arg (dnE (pd_var 0) fun _ _ => w_var) (dnB (dab_arg (dnE pd_int fun _ _ => w_c) (dnB dab_nil fun _ _ => w_bnil)) fun _ _ => w_barg)) fun _ _ => w_barg)) fun _ _ => w_fn)) fun _ _ => w_op wo_add) (dnB (dab_cons (dnE (pd_op od_add (dnE pd_int fun _ _ => w_c) (dnE (pd_call (f__law_draw T) (hr.mono (by decide)) rfl T.g__law_draw T.k__law_draw T.b__law_draw (dnB (dab_arg (dnE (pd_var 0) fun _ _ => w_var) (dnB (dab_arg (dnE pd_int fun _ _ => w_c) (dnB dab_nil fun _ _ => w_bnil)) fun _ _ => w_barg)) fun _ _ => w_barg)) fun _ _ => w_fn)) fun _ _ => w_op wo_add) (dnB (dab_cons (dnE pd_dic0 fun _ _ => w_dic0) (dnB dab_nil fun _ _ => w_bnil)) fun _ _ => w_bcons)) fun _ _ => w_bcons)) fun _ _ => w_bcons)) fun _ _ => w_par3) (dnSs (dss_cons (dnS (ds_for PassesOwn.never rfl (dnI (di_seq (dnE (pd_call (f__law_shuffled T) (hr.mono (by decide)) rfl T.g__law_shuffled T.k__law_shuffled T.b__law_shuffled (dnB (dab_arg (dnE (pd_var 0) fun _ _ => w_var) (dnB (dab_arg (dnE (pd_var 2) fun _ _ => w_var) (dnB dab_nil fun _ _ => w_bnil)) fun _ _ => w_barg)) fun _ _ => w_barg)) fun _ _ => w_fn)) fun _ _ => w_iSq) (pg_name (i := 6) sc__law_parts.nd rfl (by first | exact .inl rfl | exact .inr rfl)) (dnG (tgt_name 6) fun _ _ _ => w_gnm) (dss_one (dnS (ds_setD hr (pv 5) (dnE (pd_var 6) fun _ _ => w_var) (dnE (pd_callTy cd_tuple rfl T.z_tuple (by decide +kernel) (dnA (pda_cons (dnE (pd_lc (own := [("_law_k", 7)]) rfl sc__law_parts.nd (dnI (di_range rfl T.z_range (dnA (pda_cons (dnE (pd_var 3) fun _ _ => w_var) (dnA pda_nil fun _ _ => w_nil)) fun _ _ => w_cons)) fun _ _ => w_iR) (blkOk_by (by rfl)) (fun _ _ _ _ _ => (pg_name (i := 7) sc__law_parts.nd rfl (by first | exact .inl rfl | exact .inr rfl))) (dnG (tgt_name 7) fun _ _ _ => w_gnm) (by decide) (fun _ _ _ _ _ => (dnTs dts_nil fun _ _ => w_yes)) (fun _ _ _ _ _ => (dnE (pd_call (f__law_cell T) (hr.mono (by decide)) rfl T.g__law_cell T.k__law_cell T.b__law_cell (dnB (dab_arg (dnE (pd_var 0) fun _ _ => w_var) (dnB (dab_arg (dnE (pd_var 4) fun _ _ => w_var) (dnB dab_nil fun _ _ => w_bnil)) fun _ _ => w_barg)) fun _ _ => w_barg)) fun _ _ => w_fn))) fun _ _ => w_lc) (dnA pda_nil fun _ _ => w_nil)) fun _ _ => w_cons)) fun _ _ => w_call wf_tuple)) fun _ _ => w_setD))) fun _ _ => w_for) (dss_one (dnS (ds_ret (dnE (pd_tup (dnA (pda_cons (dnE (pd_var 2) fun _ _ => w_var) (dnA (pda_cons (dnE (pd_var 3) fun _ _ => w_var) (dnA (pda_cons (dnE (pd_var 4) fun _ _ => w_var) (dnA (pda_cons (dnE (pd_var 5) fun _ _ => w_var) (dnA (pda_cons (dnE (pd_callTy cd_tuple rfl T.z_tuple (by decide +kernel) (dnA (pda_cons (dnE (pd_lc (own := [("_law_k", 7)]) rfl sc__law_parts.nd (dnI (di_range rfl T.z_range (dnA (pda_cons (dnE pd_int fun _ _ => w_c) (dnA pda_nil fun _ _ => w_nil)) fun _ _ => w_cons)) fun _ _ => w_iR) (blkOk_by (by rfl)) (fun _ _ _ _ _ => (pg_name (i := 7) sc__law_parts.nd rfl (by first | exact .inl rfl | exact .inr rfl))) (dnG (tgt_name 7) fun _ _ _ => w_gnm) (by decide) (fun _ _ _ _ _ => (dnTs dts_nil fun _ _ => w_yes)) (fun _ _ _ _ _ => (dnE (pd_cmp (od_eq hr) (dnE (pd_call (f__law_draw T) (hr.mono (by decide)) rfl T.g__law_draw T.k__law_draw T.b__law_draw (dnB (dab_arg (dnE (pd_var 0) fun _ _ => w_var) (dnB (dab_arg (dnE pd_int fun _ _ => w_c) (dnB dab_nil fun _ _ => w_bnil)) fun _ _ => w_barg)) fun _ _ => w_barg)) fun _ _ => w_fn) (dnE pd_int fun _ _ => w_c)) fun _ _ => w_op wo_eq))) fun _ _ => w_lc) (dnA pda_nil fun _ _ => w_nil)) fun _ _ => w_cons)) fun _ _ => w_call wf_tuple) (dnA pda_nil fun _ _ => w_nil)) fun _ _ => w_cons)) fun _ _ => w_cons)) fun _ _ => w_cons)) fun _ _ => w_cons)) fun _ _ => w_cons)) fun _ _ => w_tup)) fun _ _ => w_ret))) fun _ _ => w_seq)) fun _ _ => w_seq)) fun _ _ => w_seq)
theorem f__law_base (T : Txt K mg a) : FnOk P w K mg base CX0 8 a._law_base a.fd__law_base ["_law_parts_here"] (spD K 1 (ftM Z0 (m__law_base a.cs))) :=
  fun_M (k := 7) (b := b__law_base a.cs) T.F__law_base sc__law_base rfl rfl fun cdv A outer s H E hr => (dnSs (dss_cons (dnS (ds_asg (dnE (pd_var 0) fun _ _ => w_var) (pg_tup rfl (pgs_cons (pg_name (i := 1) sc__law_base.nd rfl (by first | exact .inl rfl | exact .inr rfl)) (pgs_cons (pg_name (i := 2) sc__law_base.nd rfl (by first | exact .inl rfl | exact .inr rfl)) (pgs_cons (pg_name (i := 3) sc__law_base.nd rfl (by first | exact .inl rfl | exact .inr rfl)) (pgs_cons (pg_name (i := 4) sc__law_base.nd rfl (by first | exact .inl rfl | exact .inr rfl)) (pgs_cons (pg_name (i := 5) sc__law_base.nd rfl (by first | exact .inl rfl | exact .inr rfl)) pgs_nil)))))) (dnG (tgt_tup (dnGs (tgts_cons (dnG (tgt_name 1) fun _ _ _ => w_gnm) (dnGs (tgts_cons (dnG (tgt_name 2) fun _ _ _ => w_gnm) (dnGs (tgts_cons (dnG (tgt_name 3) fun _ _ _ => w_gnm) (dnGs (tgts_cons (dnG (tgt_name 4) fun _ _ _ => w_gnm) (dnGs (tgts_cons (dnG (tgt_name 5) fun _ _ _ => w_gnm) (dnGs tgts_nil fun _ _ _ => w_gsnil)) fun _ _ _ => w_gscons)) fun _ _ _ => w_gscons)) fun _ _ _ => w_gscons)) fun _ _ _ => w_gscons)) fun _ _ _ => w_gscons)) fun _ _ _ => w_gtp)) fun _ _ => w_asg) (dss_one (dnS (ds_ret (dnE (pd_makeP T.m_World (f_World_init T) (hr.mono (by decide)) rfl T.g_World T.kb_World_init_0 (dnB (dab_arg (dnE (pd_var 1) fun _ _ => w_var) (dnB (dab_arg (dnE (pd_var 2) fun _ _ => w_var) (dnB (dab_arg (dnE (pd_var 3) fun _ _ => w_var) (dnB (dab_arg (dnE (pd_var 4) fun _ _ => w_var) (dnB dab_nil fun _ _ => w_bnil)) fun _ _ => w_barg)) fun _ _ => w_barg)) fun _ _ => w_barg)) fun _ _ => w_barg) (dnK (dkb_arg (dnE (pd_ix (dnE (pd_var 5) fun _ _ => w_var) (dnE pd_int fun _ _ => w_c)) fun _ _ => w_ix) (dnK (dkb_arg (dnE (pd_ix (dnE (pd_var 5) fun _ _ => w_var) (dnE pd_int fun _ _ => w_c)) fun _ _ => w_ix) (dnK (dkb_arg (dnE (pd_ix (dnE (pd_var 5) fun _ _ => w_var) (dnE pd_int fun _ _ => w_c)) fun _ _ => w_ix) (dnK dkb_nil fun _ _ => w_bnil)) fun _ _ => w_barg)) fun _ _ => w_barg)) fun _ _ => w_barg) rfl) fun _ _ => w_makeP)) fun _ _ => w_ret))) fun _ _ => w_seq)
theorem f__law_other (T : Txt K mg a) : FnOk P w K mg base CX0 3 a._law_other a.fd__law_other ["_law_draws", "_law_parts_here"] (spD K 2 (ftM Z0 (m__law_other a.cs))) :=
  fun_M (k := 2) (b := b__law_other a.cs) T.F__law_other sc__law_other rfl rfl fun cdv A outer s H E hr => (dnSs (dss_cons (dnS (ds_asg (dnE (pd_var 1) fun _ _ => w_var) (pg_tup rfl (pgs_cons (pg_name (i := 2) sc__law_other.nd rfl (by first | exact .inl rfl | exact .inr rfl)) (pgs_cons (pg_name (i := 3) sc__law_other.nd rfl (by first | exact .inl rfl | exact .inr rfl)) (pgs_cons (pg_name (i := 4) sc__law_other.nd rfl (by first | exact .inl rfl | exact .inr rfl)) (pgs_cons (pg_name (i := 5) sc__law_other.nd rfl (by first | exact .inl rfl | exact .inr rfl)) (pgs_cons (pg_name (i := 6) sc__law_other.nd rfl (by first | exact .inl rfl | exact .inr rfl)) pgs_nil)))))) (dnG (tgt_tup (dnGs (tgts_cons (dnG (tgt_name 2) fun _ _ _ => w_gnm) (dnGs (tgts_cons (dnG (tgt_name 3) fun _ _ _ => w_gnm) (dnGs (tgts_cons (dnG (tgt_name 4) fun _ _ _ => w_gnm) (dnGs (tgts_cons (dnG (tgt_name 5) fun _ _ _ => w_gnm) (dnGs (tgts_cons (dnG (tgt_name 6) fun _ _ _ => w_gnm) (dnGs tgts_nil fun _ _ _ => w_gsnil)) fun _ _ _ => w_gscons)) fun _ _ _ => w_gscons)) fun _ _ _ => w_gscons)) fun _ _ _ => w_gscons)) fun _ _ _ => w_gscons)) fun _ _ _ => w_gtp)) fun _ _ => w_asg) (dnSs (dss_cons (dnS (ds_par3 (i := 7) (j := 8) (l := 9) rfl sc__law_other.nd rfl rfl rfl (by decide) (by decide) (by decide) rfl rfl rfl (dnB (dab_cons (dnE (pd_call (f__law_draw T) (hr.mono (by decide)) rfl T.g__law_draw T.k__law_draw T.b__law_draw (dnB (dab_arg (dnE (pd_var 0) fun _ _ => w_var) (dnB (dab_arg (dnE pd_int fun _ _ => w_c) (dnB dab_nil fun _ _ => w_bnil)) fun _ _ => w_barg)) fun _ _ => w_barg)) fun _ _ => w_fn) (dnB (dab_cons (dnE (pd_call (f__law_pick T) (hr.mono (by decide)) rfl T.g__law_pick T.k__law_pick T.b__law_pick (dnB (dab_arg (dnE (pd_var 0) fun _ _ => w_var) (dnB (dab_arg (dnE (pd_var 2) fun _ _ => w_var) (dnB dab_nil fun _ _ => w_bnil)) fun _ _ => w_barg)) fun _ _ => w_barg)) fun _ _ => w_fn) (dnB (dab_cons (dnE (pd_call (f__law_draw T) (hr.mono (by decide)) rfl T.g__law_draw T.k__law_draw T.b__law_draw (dnB (dab_arg (dnE (pd_var 0) fun _ _ => w_var) (dnB (dab_arg (dnE (pd_var 3) fun _ _ => w_var) (dnB dab_nil fun _ _ => w_bnil)) fun _ _ => w_barg)) fun _ _ => w_barg)) fun _ _ => w_fn) (dnB dab_nil fun _ _ => w_bnil)) fun _ _ => w_bcons)) fun _ _ => w_bcons)) fun _ _ => w_bcons)) fun _ _ => w_par3) (dnSs (dss_cons (dnS (ds_if (dnT (pt_cmpD od_lt (dnE (pd_var 7) fun _ _ => w_var) (dnE pd_int fun _ _ => w_c)) fun _ _ q => w_tst2 (w_op wo_lt) q) (dss_one (dnS (ds_ret (dnE (pd_tup (dnA (pda_cons (dnE (pd_var 2) fun _ _ => w_var) (dnA (pda_cons (dnE (pd_var 3) fun _ _ => w_var) (dnA (pda_cons (dnE (pd_var 4) fun _ _ => w_var) (dnA (pda_cons (dnE (pd_var 5) fun _ _ => w_var) (dnA (pda_cons (dnE (pd_op od_add (dnE (pd_op od_add (dnE (pd_sl (dnE (pd_var 6) fun _ _ => w_var) (dnO do_none fun _ _ => w_oNo) (dnO (do_some (dnE (pd_var 7) fun _ _ => w_var)) fun _ _ => w_oSome)) fun _ _ => w_sl) (dnE (pd_tup (dnA (pda_cons (dnE (pd_not (dnE (pd_ix (dnE (pd_var 6) fun _ _ => w_var) (dnE (pd_var 7) fun _ _ => w_var)) fun _ _ => w_ix)) fun _ _ => w_notV) (dnA pda_nil fun _ _ => w_nil)) fun _ _ => w_cons)) fun _ _ => w_tup)) fun _ _ => w_op wo_add) (dnE (pd_sl (dnE (pd_var 6) fun _ _ => w_var) (dnO (do_some (dnE (pd_op od_add (dnE (pd_var 7) fun _ _ => w_var) (dnE pd_int fun _ _ => w_c)) fun _ _ => w_op wo_add)) fun _ _ => w_oSome) (dnO do_none fun _ _ => w_oNo)) fun _ _ => w_sl)) fun _ _ => w_op wo_add) (dnA pda_nil fun _ _ => w_nil)) fun _ _ => w_cons)) fun _ _ => w_cons)) fun _ _ => w_cons)) fun _ _ => w_cons)) fun _ _ => w_cons)) fun _ _ => w_tup)) fun _ _ => w_ret)) (dnSs dss_nil fun _ _ => w_next)) fun _ _ => w_ifS) (dnSs (dss_cons (dnS (ds_if (PW.pt (dnW (pwd_and (dnT (pt_cmpD (od_eq hr) (dnE (pd_var 7) fun _ _ => w_var) (dnE pd_int fun _ _ => w_c)) fun _ _ q => w_tst2 (w_op wo_eq) q) (pwd_and1 (dnT (pt_cmpD od_lt (dnE (pd_var 4) fun _ _ => w_var) (dnE pd_int fun _ _ => w_c)) fun _ _ q => w_tst2 (w_op wo_lt) q))) fun _ _ => w_and)) (dss_one (dnS (ds_ret (dnE (pd_tup (dnA (pda_cons (dnE (pd_var 2) fun _ _ => w_var) (dnA (pda_cons (dnE (pd_var 3) fun _ _ => w_var) (dnA (pda_cons (dnE (pd_op od_add (dnE (pd_var 4) fun _ _ => w_var) (dnE pd_int fun _ _ => w_c)) fun _ _ => w_op wo_add) (dnA (pda_cons (dnE (pd_var 5) fun _ _ => w_var) (dnA (pda_cons (dnE (pd_var 6) fun _ _ => w_var) (dnA pda_nil fun _ _ => w_nil)) fun _ _ => w_cons)) fun _ _ => w_cons)) fun _ _ => w_cons)) fun _ _ => w_cons)) fun _ _ => w_cons)) fun _ _ => w_tup)) fun _ _ => w_ret)) (dnSs dss_nil fun _ _ => w_next)) fun _ _ => w_ifS) (dnSs (dss_cons (dnS (ds_if (PW.pt (dnW (pwd_and (dnT (pt_cmpD (od_eq hr) (dnE (pd_var 7) fun _ _ => w_var) (dnE pd_int fun _ _ => w_c)) fun _ _ q => w_tst2 (w_op wo_eq) q) (pwd_and1 (dnT (pt_cmpD od_lt (dnE (pd_var 3) fun _ _ => w_var) (dnE pd_int fun _ _ => w_c)) fun _ _ q => w_tst2 (w_op wo_lt) q))) fun _ _ => w_and)) (dss_one (dnS (ds_ret (dnE (pd_tup (dnA (pda_cons (dnE (pd_var 2) fun _ _ => w_var) (dnA (pda_cons (dnE (pd_op od_add (dnE (pd_var 3) fun _ _ => w_var) (dnE pd_int fun _ _ => w_c)) fun _ _ => w_op wo_add) (dnA (pda_cons (dnE (pd_var 4) fun _ _ => w_var) (dnA (pda_cons (dnE (pd_callTy (cd_dictP rfl) rfl T.z_dict (by decide +kernel) (dnA (pda_cons (dnE (pd_lc (own := [("_law_one", 10)]) rfl sc__law_other.nd (dnI (di_seq (dnE (pd_var 2) fun _ _ => w_var)) fun _ _ => w_iSq) (blkOk_by (by rfl)) (fun _ _ _ _ _ => (pg_name (i := 10) sc__law_other.nd rfl (by first | exact .inl rfl | exact .inr rfl))) (dnG (tgt_name 10) fun _ _ _ => w_gnm) (by decide) (fun _ _ _ _ _ => (dnTs dts_nil fun _ _ => w_yes)) (fun _ _ _ _ _ => (dnE (pd_tup (dnA (pda_cons (dnE (pd_var 10) fun _ _ => w_var) (dnA (pda_cons (dnE (pd_op od_add (dnE (pd_dg hr (dnE (pd_var 5) fun _ _ => w_var) (dnE (pd_var 10) fun _ _ => w_var)) fun _ _ => w_dg) (dnE (pd_tup (dnA (pda_cons (dnE pd_non fun _ _ => w_c) (dnA pda_nil fun _ _ => w_nil)) fun _ _ => w_cons)) fun _ _ => w_tup)) fun _ _ => w_op wo_add) (dnA pda_nil fun _ _ => w_nil)) fun _ _ => w_cons)) fun _ _ => w_cons)) fun _ _ => w_tup))) fun _ _ => w_lc) (dnA pda_nil fun _ _ => w_nil)) fun _ _ => w_cons)) fun _ _ => w_call wf_dictP) (dnA (pda_cons (dnE (pd_var 6) fun _ _ => w_var) (dnA pda_nil fun _ _ => w_nil)) fun _ _ => w_cons)) fun _ _ => w_cons)) fun _ _ => w_cons)) fun _ _ => w_cons)) fun _ _ => w_cons)) fun _ _ => w_tup)) fun _ _ => w_ret)) (dnSs dss_nil fun _ _ => w_next)) fun _ _ => w_ifS) (dnSs (dss_cons (dnS (ds_set sc__law_other.nd (i := 11) rfl (by first | exact .inl rfl | exact .inr rfl) (dnE (pd_dg hr (dnE (pd_var 5) fun _ _ => w_var) (dnE (pd_var 8) fun _ _ => w_var)) fun _ _ => w_dg)) fun _ _ => w_set) (dnSs (dss_cons (dnS (ds_set sc__law_other.nd (i := 12) rfl (by first | exact .inl rfl | exact .inr rfl) (dnE (pd_call (f__law_pick T) (hr.mono (by decide)) rfl T.g__law_pick T.k__law_pick T.b__law_pick (dnB (dab_arg (dnE (pd_var 0) fun _ _ => w_var) (dnB (dab_arg (dnE (pd_lst (dnA (pda_cons (dnE pd_non fun _ _ => w_c) (dnA (pda_cons (dnE (pd_tup (dnA (pda_cons (dnE pd_int fun _ _ => w_c) (dnA (pda_cons (dnE pd_str fun _ _ => w_c) (dnA pda_nil fun _ _ => w_nil)) fun _ _ => w_cons)) fun _ _ => w_cons)) fun _ _ => w_tup) (dnA (pda_cons (dnE (pd_tup (dnA (pda_cons (dnE pd_int fun _ _ => w_c) (dnA (pda_cons (dnE pd_str fun _ _ => w_c) (dnA pda_nil fun _ _ => w_nil)) fun _ _ => w_cons)) fun _ _ => w_cons)) fun _ _ => w_tup) (dnA (pda_cons (dnE (pd_tup (dnA (pda_cons (dnE (pd_op od_sub (dnE (pd_var 4) fun _ _ => w_var) (dnE pd_int fun _ _ => w_c)) fun _ _ => w_op wo_sub) (dnA (pda_cons (dnE pd_str fun _ _ => w_c) (dnA pda_nil fun _ _ => w_nil)) fun _ _ => w_cons)) fun _ _ => w_cons)) fun _ _ => w_tup) (dnA pda_nil fun _ _ => w_nil)) fun _ _ => w_cons)) fun _ _ => w_cons)) fun _ _ => w_cons)) fun _ _ => w_cons)) fun _ _ => w_lst) (dnB dab_nil fun _ _ => w_bnil)) fun _ _ => w_barg)) fun _ _ => w_barg)) fun _ _ => w_fn)) fun _ _ => w_set) (dnSs (dss_cons (dnS (ds_set sc__law_other.nd (i := 13) rfl (by first | exact .inl rfl | exact .inr rfl) (dnE (pd_callTy (cd_dictP rfl) rfl T.z_dict (by decide +kernel) (dnA (pda_cons (dnE (pd_op od_add (dnE (pd_items rfl (dnE (pd_var 5) fun _ _ => w_var) rfl T.z_list (by decide +kernel)) fun _ _ => w_items) (dnE (pd_lst (dnA (pda_cons (dnE (pd_tup (dnA (pda_cons (dnE (pd_var 8) fun _ _ => w_var) (dnA (pda_cons (dnE (pd_op od_add (dnE (pd_op od_add (dnE (pd_sl (dnE (pd_var 11) fun _ _ => w_var) (dnO do_none fun _ _ => w_oNo) (dnO (do_some (dnE (pd_var 9) fun _ _ => w_var)) fun _ _ => w_oSome)) fun _ _ => w_sl) (dnE (pd_tup (dnA (pda_cons (dnE (pd_var 12) fun _ _ => w_var) (dnA pda_nil fun _ _ => w_nil)) fun _ _ => w_cons)) fun _ _ => w_tup)) fun _ _ => w_op wo_add) (dnE (pd_sl (dnE (pd_var 11) fun _ _ => w_var) (dnO (do_some (dnE (pd_op od_add (dnE (pd_var 9) fun _ _ => w_var) (dnE pd_int fun _ _ => w_c)) fun _ _ => w_op wo_add)) fun _ _ => w_oSome) (dnO do_none fun _ _ => w_oNo)) fun _ _ => w_sl)) fun _ _ => w_op wo_add) (dnA pda_nil fun _ _ => w_nil)) fun _ _ => w_cons)) fun _ _ => w_cons)) fun _ _ => w_tup) (dnA pda_nil fun _ _ => w_nil)) fun _ _ => w_cons)) fun _ _ => w_lst)) fun _ _ => w_op wo_add) (dnA pda_nil fun _ _ => w_nil)) fun _ _ => w_cons)) fun _ _ => w_call wf_dictP)) fun _ _ => w_set) (dss_one (dnS (ds_ret (dnE (pd_tup (dnA (pda_cons (dnE (pd_var 2) fun _ _ => w_var) (dnA (pda_cons (dnE (pd_var 3) fun _ _ => w_var) (dnA (pda_cons (dnE (pd_var 4) fun _ _ => w_var) (dnA (pda_cons (dnE (pd_var 13) fun _ _ => w_var) (dnA (pda_cons (dnE (pd_var 6) fun _ _ => w_var) (dnA pda_nil fun _ _ => w_nil)) fun _ _ => w_cons)) fun _ _ => w_cons)) fun _ _ => w_cons)) fun _ _ => w_cons)) fun _ _ => w_cons)) fun _ _ => w_tup)) fun _ _ => w_ret))) fun _ _ => w_seq)) fun _ _ => w_seq)) fun _ _ => w_seq)) fun _ _ => w_seq)) fun _ _ => w_seq)) fun _ _ => w_seq)) fun _ _ => w_seq)) fun _ _ => w_seq)
theorem f__law_right (T : Txt K mg a) : FnG P w K mg base 3 a._law_right a.fd__law_right ["_law_base_here", "_law_parts_here"] (spD K 2 (ftM Z0 (m__law_right a.cs))) :=
  fun_Mg (k := 2) (b := b__law_right a.cs) T.F__law_right sc__law_right rfl rfl fun cdv A outer s H E hg hr => (dnSs (dss_cons (dnS (ds_asg (dnE (pd_var 1) fun _ _ => w_var) (pg_tup rfl (pgs_cons (pg_name (i := 2) sc__law_right.nd rfl (by first | exact .inl rfl | exact .inr rfl)) (pgs_cons (pg_name (i := 3) sc__law_right.nd rfl (by first | exact .inl rfl | exact .inr rfl)) (pgs_cons (pg_name (i := 4) sc__law_right.nd rfl (by first | exact .inl rfl | exact .inr rfl)) (pgs_cons (pg_name (i := 5) sc__law_right.nd rfl (by first | exact .inl rfl | exact .inr rfl)) (pgs_cons (pg_name (i := 6) sc__law_right.nd rfl (by first | exact .inl rfl | exact .inr rfl)) pgs_nil)))))) (dnG (tgt_tup (dnGs (tgts_cons (dnG (tgt_name 2) fun _ _ _ => w_gnm) (dnGs (tgts_cons (dnG (tgt_name 3) fun _ _ _ => w_gnm) (dnGs (tgts_cons (dnG (tgt_name 4) fun _ _ _ => w_gnm) (dnGs (tgts_cons (dnG (tgt_name 5) fun _ _ _ => w_gnm) (dnGs (tgts_cons (dnG (tgt_name 6) fun _ _ _ => w_gnm) (dnGs tgts_nil fun _ _ _ => w_gsnil)) fun _ _ _ => w_gscons)) fun _ _ _ => w_gscons)) fun _ _ _ => w_gscons)) fun _ _ _ => w_gscons)) fun _ _ _ => w_gscons)) fun _ _ _ => w_gtp)) fun _ _ => w_asg) (dnSs (dss_cons (dnS (ds_set sc__law_right.nd (i := 7) rfl (by first | exact .inl rfl | exact .inr rfl) (dnE (pd_lst (dnA pda_nil fun _ _ => w_nil)) fun _ _ => w_lst)) fun _ _ => w_set) (dnSs (dss_cons (dnS (ds_for PassesOwn.never rfl (dnI (di_seq (dnE (pd_var 2) fun _ _ => w_var)) fun _ _ => w_iSq) (pg_name (i := 8) sc__law_right.nd rfl (by first | exact .inl rfl | exact .inr rfl)) (dnG (tgt_name 8) fun _ _ _ => w_gnm) (dss_one (dnS (ds_set sc__law_right.nd (i := 7) rfl (by first | exact .inl rfl | exact .inr rfl) (dnE (pd_op od_add (dnE (pd_var 7) fun _ _ => w_var) (dnE (pd_lc (own := [("_law_at", 9), ("_law_cell_here", 10)]) rfl sc__law_right.nd (dnI (di_enumA rfl T.z_enumerate (dnA (pda_cons (dnE (pd_dg hr (dnE (pd_var 5) fun _ _ => w_var) (dnE (pd_var 8) fun _ _ => w_var)) fun _ _ => w_dg) (dnA pda_nil fun _ _ => w_nil)) fun _ _ => w_cons)) fun _ _ => w_iEnA) (blkOk_by (by rfl)) (fun _ _ _ _ _ => (pg_tup rfl (pgs_cons (pg_name (i := 9) sc__law_right.nd rfl (by first | exact .inl rfl | exact .inr rfl)) (pgs_cons (pg_name (i := 10) sc__law_right.nd rfl (by first | exact .inl rfl | exact .inr rfl)) pgs_nil)))) (dnG (tgt_tup (dnGs (tgts_cons (dnG (tgt_name 9) fun _ _ _ => w_gnm) (dnGs (tgts_cons (dnG (tgt_name 10) fun _ _ _ => w_gnm) (dnGs tgts_nil fun _ _ _ => w_gsnil)) fun _ _ _ => w_gscons)) fun _ _ _ => w_gscons)) fun _ _ _ => w_gtp) (by decide) (fun _ _ _ _ _ => (dts_one (dnT (pt_cmpD od_notN (dnE (pd_var 10) fun _ _ => w_var) (dnE pd_non fun _ _ => w_c)) fun _ _ q => w_tst2 (w_op wo_notN) q))) (fun _ _ _ _ _ => (dnE (pd_op od_add (dnE (pd_tup (dnA (pda_cons (dnE (pd_var 8) fun _ _ => w_var) (dnA (pda_cons (dnE (pd_var 9) fun _ _ => w_var) (dnA pda_nil fun _ _ => w_nil)) fun _ _ => w_cons)) fun _ _ => w_cons)) fun _ _ => w_tup) (dnE (pd_var 10) fun _ _ => w_var)) fun _ _ => w_op wo_add))) fun _ _ => w_lc)) fun _ _ => w_op wo_add)) fun _ _ => w_set))) fun _ _ => w_for) (dnSs (dss_cons (dnS (ds_set sc__law_right.nd (i := 11) rfl (by first | exact .inl rfl | exact .inr rfl) (dnE (pd_lst (dnA (pda_cons (dnE (pd_prop T.c_World T.pr_World_spaces (f_World_spaces T) (hr.mono (by decide)) T.b_World_spaces (dnE (pd_var 0) fun _ _ => w_var)) fun _ _ => w_prop) (dnA (pda_cons (dnE (pd_prop T.c_World T.pr_World_pages (f_World_pages T) (hr.mono (by decide)) T.b_World_pages (dnE (pd_var 0) fun _ _ => w_var)) fun _ _ => w_prop) (dnA (pda_cons (dnE (pd_prop T.c_World T.pr_World_frames (f_World_frames T) (hr.mono (by decide)) T.b_World_frames (dnE (pd_var 0) fun _ _ => w_var)) fun _ _ => w_prop) (dnA (pda_cons (dnE (pd_items rfl (dnE (pd_prop T.c_World T.pr_World_tables (f_World_tables T) (hr.mono (by decide)) T.b_World_tables (dnE (pd_var 0) fun _ _ => w_var)) fun _ _ => w_prop) rfl T.z_list (by decide +kernel)) fun _ _ => w_items) (dnA pda_nil fun _ _ => w_nil)) fun _ _ => w_cons)) fun _ _ => w_cons)) fun _ _ => w_cons)) fun _ _ => w_cons)) fun _ _ => w_lst)) fun _ _ => w_set) (dnSs (dss_cons (dnS (ds_set sc__law_right.nd (i := 11) rfl (by first | exact .inl rfl | exact .inr rfl) (dnE (pd_op od_add (dnE (pd_var 11) fun _ _ => w_var) (dnE (pd_lst (dnA (pda_cons (dnE (pd_prop T.c_World T.pr_World_tags (f_World_tags T) (hr.mono (by decide)) T.b_World_tags (dnE (pd_var 0) fun _ _ => w_var)) fun _ _ => w_prop) (dnA (pda_cons (dnE (pd_prop T.c_World T.pr_World_checks (f_World_checks T) (hr.mono (by decide)) T.b_World_checks (dnE (pd_var 0) fun _ _ => w_var)) fun _ _ => w_prop) (dnA (pda_cons (dnE (pd_prop T.c_World T.pr_World_early (f_World_early T) (hr.mono (by decide)) T.b_World_early (dnE (pd_var 0) fun _ _ => w_var)) fun _ _ => w_prop) (dnA pda_nil fun _ _ => w_nil)) fun _ _ => w_cons)) fun _ _ => w_cons)) fun _ _ => w_cons)) fun _ _ => w_lst)) fun _ _ => w_op wo_add)) fun _ _ => w_set) (dnSs (dss_cons (dnS (ds_if (dnT (pt_cmpD (od_ne hr) (dnE (pd_callB (cd_repr hr hg) rfl T.z_repr (by decide +kernel) (dnA (pda_cons (dnE (pd_var 11) fun _ _ => w_var) (dnA pda_nil fun _ _ => w_nil)) fun _ _ => w_cons)) fun _ _ => w_call wf_repr) (dnE (pd_callB (cd_repr hr hg) rfl T.z_repr (by decide +kernel) (dnA (pda_cons (dnE (pd_op od_add (dnE (pd_lst (dnA (pda_cons (dnE (pd_var 2) fun _ _ => w_var) (dnA (pda_cons (dnE (pd_var 3) fun _ _ => w_var) (dnA (pda_cons (dnE (pd_var 4) fun _ _ => w_var) (dnA (pda_cons (dnE (pd_lc (own := [("_law_label", 8)]) rfl sc__law_right.nd (dnI (di_seq (dnE (pd_var 2) fun _ _ => w_var)) fun _ _ => w_iSq) (blkOk_by (by rfl)) (fun _ _ _ _ _ => (pg_name (i := 8) sc__law_right.nd rfl (by first | exact .inl rfl | exact .inr rfl))) (dnG (tgt_name 8) fun _ _ _ => w_gnm) (by decide) (fun _ _ _ _ _ => (dnTs dts_nil fun _ _ => w_yes)) (fun _ _ _ _ _ => (dnE (pd_tup (dnA (pda_cons (dnE (pd_var 8) fun _ _ => w_var) (dnA (pda_cons (dnE (pd_dg hr (dnE (pd_var 5) fun _ _ => w_var) (dnE (pd_var 8) fun _ _ => w_var)) fun _ _ => w_dg) (dnA pda_nil fun _ _ => w_nil)) fun _ _ => w_cons)) fun _ _ => w_cons)) fun _ _ => w_tup))) fun _ _ => w_lc) (dnA pda_nil fun _ _ => w_nil)) fun _ _ => w_cons)) fun _ _ => w_cons)) fun _ _ => w_cons)) fun _ _ => w_cons)) fun _ _ => w_lst) (dnE (pd_callTy cd_list rfl T.z_list (by decide +kernel) (dnA (pda_cons (dnE (pd_var 6) fun _ _ => w_var) (dnA pda_nil fun _ _ => w_nil)) fun _ _ => w_cons)) fun _ _ => w_call wf_list)) fun _ _ => w_op wo_add) (dnA pda_nil fun _ _ => w_nil)) fun _ _ => w_cons)) fun _ _ => w_call wf_repr)) fun _ _ q => w_tst2 (w_op wo_ne) q) (dss_one (dnS (ds_ret (dnE pd_bl fun _ _ => w_c)) fun _ _ => w_ret)) (dnSs dss_nil fun _ _ => w_next)) fun _ _ => w_ifS) (dnSs (dss_cons (dnS (ds_par (i := 12) (j := 13) rfl sc__law_right.nd rfl rfl (by decide) rfl rfl (dnB (dab_cons (dnE (pd_prop T.c_World T.pr_World_tables (f_World_tables T) (hr.mono (by decide)) T.b_World_tables (dnE (pd_var 0) fun _ _ => w_var)) fun _ _ => w_prop) (dnB (dab_cons (dnE (pd_meth0 T.c_World T.me_World_entries (f_World_entries T) (hr.mono (by decide)) T.b_World_entries (dnE (pd_var 0) fun _ _ => w_var)) fun _ _ => w_meth0) (dnB dab_nil fun _ _ => w_bnil)) fun _ _ => w_bcons)) fun _ _ => w_bcons)) fun _ _ => w_par) (dnSs (dss_cons (dnS (ds_expr (dnE (pd_clear (pv 12)) fun _ _ => w_clr)) fun _ _ => w_expr) (dnSs (dss_cons (dnS (ds_expr (dnE (pd_append (pv 13) (dnE pd_str fun _ _ => w_c)) fun _ _ => w_app)) fun _ _ => w_expr) (dss_one (dnS (ds_ret (dnE (pd_and (dnE (pd_cmp (od_eq hr) (dnE (pd_meth0 T.c_World T.me_World_entries (f_World_entries T) (hr.mono (by decide)) T.b_World_entries (dnE (pd_var 0) fun _ _ => w_var)) fun _ _ => w_meth0) (dnE (pd_var 7) fun _ _ => w_var)) fun _ _ => w_op wo_eq) (pd_one (dnE (pd_cmp (od_eq hr) (dnE (pd_callTy (cd_listK rfl) rfl T.z_list (by decide +kernel) (dnA (pda_cons (dnE (pd_prop T.c_World T.pr_World_tables (f_World_tables T) (hr.mono (by decide)) T.b_World_tables (dnE (pd_var 0) fun _ _ => w_var)) fun _ _ => w_prop) (dnA pda_nil fun _ _ => w_nil)) fun _ _ => w_cons)) fun _ _ => w_call wf_listK) (dnE (pd_callTy cd_list rfl T.z_list (by decide +kernel) (dnA (pda_cons (dnE (pd_var 2) fun _ _ => w_var) (dnA pda_nil fun _ _ => w_nil)) fun _ _ => w_cons)) fun _ _ => w_call wf_list)) fun _ _ => w_op wo_eq))) fun _ _ => w_andV)) fun _ _ => w_ret))) fun _ _ => w_seq)) fun _ _ => w_seq)) fun _ _ => w_seq)) fun _ _ => w_seq)) fun _ _ => w_seq)) fun _ _ => w_seq)) fun _ _ => w_seq)) fun _ _ => w_seq)) fun _ _ => w_seq)
end
end K02
namespace K02
open PySem L2 Fl Tr Sv
local macro_rules | `(tactic| walk_at "sv") => `(tactic| try simp only [bind_ret, bind_fail, bind_draw, bind2_ret, ofO_some, ofO_none, need_true, need_false, back_ret, wp_ret, varT_src, varT_d, varT_ol, varT_od, varT_oi, dat_d, dat_ol, dat_od, dat_oi, arg_d, arg_src, arg_ol, arg_od, arg_oi, noNo_d, noNo_ol, noNo_od, noNo_oi, argOk_d, argOk_src, blO_bl, intO_int, endM_nx, endM_rt, thenS_nx, thenS_rt, dlst_lst, dint_int, dstr_str, seqD_lst, seqD_tup, itemsD_lst, itemsD_tup, itemsD_str, cp_one, lst1_one, int1_one, lenD_lst, lenD_tup, lenD_str, insOf_me, two_eq, three_eq, pend_d, pend_ol, pend_od, tupO_eq, gsCons_eq, gsNil_eq, mVal_eq, dicO_dic, dtup_tup, keyD_str, keyD_int, eC_e, aNil_e, aCons_e, eTup_e, eLst_e, eDic0_e, eOp_e, tTru_e, tTst_e, tNot_e, tAnd_e, tOr_e, eAnd_e, eOr_e, eNot_e, eIf_e, eCall_e, eIx_e, oNo_e, oSome_e, eSl_e, eChain_e, eIsi_e, eIsi2_e, eDg_e, eDin_e, eApp_e, eExt_e, ePop_e, eIns_e, tOwnNe_e, eOwnLen_e, eOwnIx_e, eOwnIn_e, eClr_e, eJoin_e, eItems_e, eNeg_e, eFld_e, bNil_e, bCons_e, bArg_e, eFn_e, eMeth_e, eMeth0_e, eProp_e, eMakeK_e, eMake_e, eIsOwn_e, gNm_e, gTp_e, sNext_e, sBreak_e, sCont_e, sSeq_e, sExpr_e, sRet_e, sIf_e, sAsg_e, sPar_e, sPar3_e, sFor_e, sWhile_e, sSetL_e, sSetD_e, sSetF_e, sMatch_e, iL_e, iT_e, iS_e, iR_e, iEn_e, eLc_e, tYes_e, eDc_e, iEnA_e, iSq_e, eFnP_e, eMethP_e, eMakeP_e, eSortSet_e, eRev_e, eListRg_e, oAdd_ii, oAdd_ss, oAdd_ll, oAdd_tt, oSub_ii, oMul_ii, oMul_li, oMod_ii, oFdv_ii, oLt_ii, oLe_ii, oGt_ii, oGe_ii, oEq_e, oNe_e, oIsN_e, oNotN_e, oIn_e, oNotIn_e, oInD_e, fLen_e, fList_e, fTuple_e, fInt_i, fInt_b, fAll_e, fAny_e, fSortS_e, fRepr_e, fDict_e, fOwnLen_e, oOwnEq_e, oOwnNe_e, drawM_e, eVar_eq, ofO_bind, ofO_bind2, need_bind, need_bind2, ite_bind, ite_bind2, back_ite, ownO_eq, wp_ret', v_ret, bind2_bind, bind_bind2, bind2_bind2, Tr.bind_assoc, back_bind, defM, List.cons_append, List.nil_append, List.replicate_succ, List.replicate_zero, List.getElem?_cons_zero, List.getElem?_cons_succ, List.set_cons_zero, List.set_cons_succ, List.length_cons, List.length_nil, List.all_cons, List.all_nil, Bool.and_true, Bool.true_and, Bool.and_self, beq_self_eq_true, decide_true, decide_false, if_true, if_false, Bool.not_true, Bool.not_false, wipeD, isI_non, isI_bl, isI_int, isI_str, isI_lst, isI_tup, isI_dic, isI_ins, Option.getD_some, ite_true, ite_false, reduceCtorEq, Bool.false_eq_true, Nat.reduceAdd, Nat.reduceLeDiff, Nat.reduceLT, Nat.reduceBEq, Nat.reduceEqDiff, Option.bind_some, Option.isNone_none, Option.isNone_some, Option.isSome_some, Option.isSome_none, mNil', mAny', List.map_cons, List.map_nil, Option.map_some, Option.map_none, Int.reduceAdd, ok_non, ok_bl, ok_int, ok_str, ok_lst, ok_tup, ixD_tup, ixD_lst, atI_0, atI_1, atI_2, atI_3, atI_4, atI_5, atI_6, atI_7, eqD_bl, cast2, cast0, cast1, cast3, cast4, cast5, cast6, cast7, cast8, slD_lst, slD_tup, slD_str, cut_1, cut_2, cut_3, isN_non, stepC_e, stepK_e, isN_tup, isN_int, isT_str, isT_int, isT_bool, isT_tuple, isT_list, isT_dict, eqD_int, eqD_str, ite_bind, loopT_nil, loopT_cons, thenL_nx, thenL_rt, instO_e, instS_bi, instS_oi, withF_bi, withF_oi, biO_e, endI_nx, defI_e, sNever_e, Bool.true_or, Bool.or_true, Bool.or_false, Bool.false_or, Bool.false_and, Bool.and_false, back_draw, bind2_draw, draw_e, Int.reduceBEq, Int.reduceSub, Int.reduceNeg, Int.reduceLT, Int.reduceLE, and_self, true_and, and_true, odO_eq, aStar_e, fStr_x, iItO_e, iZp_e, zpT_2, List.append_nil, ownD_od, zipO_lt, zipO_ll, zipO_tt, zipD_c, zipD_n, zipD_n2, seqD_l, seqD_t, strD_str, eMakeD_e, dbls_cons, dbls_nil, eShow_e, shT_d, shT_ld, eLd_e, ldT_d, ldT_ld, eDgL_e, dgT_d, dgT_ld, eLend_e, leT_od, leT_ol, blank_d, blank_src, blank_no, blank_ld, blank_ol, blank_od, blank_oi, blank_bi, flatO_bl, flatO_int, arg_ld, argOk_ld, pend_ld, eqP_e, fListK_x, fDictP_x, sForIt_e, datO_e, datS_d, eMov_e, movS_ol, movS_od, movS_oi, eqD_tnil, inSeq_tup, inSeq_lst, flat_int, flat_str, flat_non, flat_bl, inD_nil, inD_cons, inDp_tup, inDp_lst, eqD_tcons, eqD_tnil2, eqD_tnn, insW, isInsW, lkW1, lkW2, lkW3, lkW5, lkW4, lkW_page, lkW_frame, lkW_entry, lkW_parts, lkW_entries, lkW_need, insSc, isInsSc, lkS1, lkS2, lkS_guards, lkS_entries, scput1, scput2, scput3, ofS_inj, String.reduceEq, eqD_refl])
local macro_rules | `(tactic| walk_at "ev") => `(tactic| try simp only [bind_ret, bind_fail, bind_draw, bind2_ret, ofO_some, ofO_none, need_true, need_false, back_ret, wp_ret, varT_src, varT_d, varT_ol, varT_od, varT_oi, dat_d, dat_ol, dat_od, dat_oi, arg_d, arg_src, arg_ol, arg_od, arg_oi, noNo_d, noNo_ol, noNo_od, noNo_oi, argOk_d, argOk_src, blO_bl, intO_int, endM_nx, endM_rt, thenS_nx, thenS_rt, dlst_lst, dint_int, dstr_str, seqD_lst, seqD_tup, itemsD_lst, itemsD_tup, itemsD_str, cp_one, lst1_one, int1_one, lenD_lst, lenD_tup, lenD_str, insOf_me, two_eq, three_eq, pend_d, pend_ol, pend_od, tupO_eq, gsCons_eq, gsNil_eq, mVal_eq, dicO_dic, dtup_tup, keyD_str, keyD_int, eC_e, aNil_e, aCons_e, eTup_e, eLst_e, eDic0_e, eOp_e, tTru_e, tTst_e, tNot_e, tAnd_e, tOr_e, eAnd_e, eOr_e, eNot_e, eIf_e, eCall_e, eIx_e, oNo_e, oSome_e, eSl_e, eChain_e, eIsi_e, eIsi2_e, eDg_e, eDin_e, eApp_e, eExt_e, ePop_e, eIns_e, tOwnNe_e, eOwnLen_e, eOwnIx_e, eOwnIn_e, eClr_e, eJoin_e, eItems_e, eNeg_e, eFld_e, bNil_e, bCons_e, bArg_e, eFn_e, eMeth_e, eMeth0_e, eProp_e, eMakeK_e, eMake_e, eIsOwn_e, gNm_e, gTp_e, sNext_e, sBreak_e, sCont_e, sSeq_e, sExpr_e, sRet_e, sIf_e, sAsg_e, sPar_e, sPar3_e, sFor_e, sWhile_e, sSetL_e, sSetD_e, sSetF_e, sMatch_e, iL_e, iT_e, iS_e, iR_e, iEn_e, eLc_e, tYes_e, eDc_e, iEnA_e, iSq_e, eFnP_e, eMethP_e, eMakeP_e, eSortSet_e, eRev_e, eListRg_e, oAdd_ii, oAdd_ss, oAdd_ll, oAdd_tt, oSub_ii, oMul_ii, oMul_li, oMod_ii, oFdv_ii, oLt_ii, oLe_ii, oGt_ii, oGe_ii, oEq_e, oNe_e, oIsN_e, oNotN_e, oIn_e, oNotIn_e, oInD_e, fLen_e, fList_e, fTuple_e, fInt_i, fInt_b, fAll_e, fAny_e, fSortS_e, fRepr_e, fDict_e, fOwnLen_e, oOwnEq_e, oOwnNe_e, drawM_e, eVar_eq, ofO_bind, ofO_bind2, need_bind, need_bind2, ite_bind, ite_bind2, back_ite, ownO_eq, wp_ret', v_ret, bind2_bind, bind_bind2, bind2_bind2, Tr.bind_assoc, back_bind, defM, List.cons_append, List.nil_append, List.replicate_succ, List.replicate_zero, List.getElem?_cons_zero, List.getElem?_cons_succ, List.set_cons_zero, List.set_cons_succ, List.length_cons, List.length_nil, List.all_cons, List.all_nil, Bool.and_true, Bool.true_and, Bool.and_self, beq_self_eq_true, decide_true, decide_false, if_true, if_false, Bool.not_true, Bool.not_false, wipeD, isI_non, isI_bl, isI_int, isI_str, isI_lst, isI_tup, isI_dic, isI_ins, Option.getD_some, ite_true, ite_false, reduceCtorEq, Bool.false_eq_true, Nat.reduceAdd, Nat.reduceLeDiff, Nat.reduceLT, Nat.reduceBEq, Nat.reduceEqDiff, Option.bind_some, Option.isNone_none, Option.isNone_some, Option.isSome_some, Option.isSome_none, mNil', mAny', List.map_cons, List.map_nil, Option.map_some, Option.map_none, Int.reduceAdd, ok_non, ok_bl, ok_int, ok_str, ok_lst, ok_tup, ixD_tup, ixD_lst, atI_0, atI_1, atI_2, atI_3, atI_4, atI_5, atI_6, atI_7, eqD_bl, cast2, cast0, cast1, cast3, cast4, cast5, cast6, cast7, cast8, slD_lst, slD_tup, slD_str, cut_1, cut_2, cut_3, isN_non, stepC_e, stepK_e, isN_tup, isN_int, isT_str, isT_int, isT_bool, isT_tuple, isT_list, isT_dict, eqD_int, eqD_str, ite_bind, loopT_nil, loopT_cons, thenL_nx, thenL_rt, instO_e, instS_bi, instS_oi, withF_bi, withF_oi, biO_e, endI_nx, defI_e, sNever_e, Bool.true_or, Bool.or_true, Bool.or_false, Bool.false_or, Bool.false_and, Bool.and_false, back_draw, bind2_draw, draw_e, Int.reduceBEq, Int.reduceSub, Int.reduceNeg, Int.reduceLT, Int.reduceLE, and_self, true_and, and_true, odO_eq, aStar_e, fStr_x, iItO_e, iZp_e, zpT_2, List.append_nil, ownD_od, zipO_lt, zipO_ll, zipO_tt, zipD_c, zipD_n, zipD_n2, seqD_l, seqD_t, strD_str, eMakeD_e, dbls_cons, dbls_nil, eShow_e, shT_d, shT_ld, eLd_e, ldT_d, ldT_ld, eDgL_e, dgT_d, dgT_ld, eLend_e, leT_od, leT_ol, blank_d, blank_src, blank_no, blank_ld, blank_ol, blank_od, blank_oi, blank_bi, flatO_bl, flatO_int, arg_ld, argOk_ld, pend_ld, eqP_e, fListK_x, fDictP_x, sForIt_e, datO_e, datS_d, eMov_e, movS_ol, movS_od, movS_oi])
local macro_rules | `(tactic| walk_at "ifs") => `(tactic| refine ifB (fun h => ?_) (fun h => ?_))
local macro_rules | `(tactic| walk_at "wd") => `(tactic| (with_reducible refine v_draw ?_ ?_ ?_; omega; omega))
local macro_rules | `(tactic| walk_at "wc") => `(tactic| with_reducible refine v_call ?_)
local macro_rules | `(tactic| walk_at "wb") => `(tactic| with_reducible refine v_b ?_)
local macro_rules | `(tactic| walk_at "w2") => `(tactic| with_reducible refine v_b2 ?_)
section
variable {c : Cs} {Z : Exc → Prop}
theorem is_integer_eq {x : D} (h : isIns x = false) : m_is_integer c [.d x] = .ret (.d (.bl (intD x))) := by
  cases x <;> first | rfl | cases h
theorem is_index_eq {x : D} {n : Int} (h : isIns x = false) : m_is_index c [.d x, .d (.int n)] = .ret (.d (.bl (indexD n x))) := by
  unfold m_is_index b_is_index
  walk_at "ev"
  rw [is_integer_eq h]
  walk_at "ev"
  cases x with
  | int i =>
    show (if true = true then _ else _) = _
    walk_at "ev"
    unfold indexD
    by_cases h0 : 0 ≤ i <;> simp [h0]
  | _ => rfl
theorem is_word_eq {x y : D} {ws : List Str} (h : isIns x = false) (hw : wordsOf y ws) : m_is_word c [.d x, .d y] = .ret (.d (.bl (wordD ws x))) := by
  unfold m_is_word b_is_word
  walk_at "ev"
  cases x with
  | str s =>
    rcases hw with rfl | rfl
    · simp only [(in_strs s ws).2, isT_str]
      walk_at "ev"
      rfl
    · simp only [(in_strs s ws).1, isT_str]
      walk_at "ev"
      rfl
  | ins _ _ _ => cases h
  | _ => rfl
theorem is_filled_eq {x : D} {n : Int} (hf : flatIns x = true) : m_is_filled c [.d x, .d (.int n)] = .ret (.d (.bl (filledD n x))) := by
  unfold m_is_filled b_is_filled
  have hi : isIns x = false := by cases x <;> first | rfl | cases hf
  cases x with
  | tup xs =>
    match xs, hf with
    | [u, v], hf =>
      have hf : (!isIns u && (!isIns v && true)) = true := hf
      rw [Bool.and_true, Bool.and_eq_true] at hf
      have h1 : isIns u = false := by simpa using hf.1
      have h2 : isIns v = false := by simpa using hf.2
      walk_at "ev"
      rw [is_index_eq h1]
      walk_at "ev"
      have hw := is_word_eq (c := c) (y := .tup [.str "r", .str "w"]) (ws := ["r", "w"]) h2 (.inl rfl)
      rw [hw]
      walk_at "ev"
      cases e : indexD n u <;> simp [filledD, e]
    | [], _ => rfl
    | [u], _ => rfl
    | u :: v :: z :: xs, _ =>
      walk_at "ev"
      have e : (!((((xs.length + 1 + 1 + 1 : Nat) : Int)) == 2)) = true := by
        have : ¬ ((xs.length + 1 + 1 + 1 : Nat) : Int) = 2 := by omega
        simpa using this
      rw [if_pos e]
      rfl
  | ins _ _ _ => cases hi
  | _ => rfl
theorem is_name_eq {x : D} (h : isIns x = false) : m_is_name c [.d x] = .ret (.d (.bl (nameD x))) := by
  unfold m_is_name b_is_name
  cases x with
  | str s =>
    have no : ¬ (1 ≤ s.length ∧ s.length ≤ 8) → nameS s = false := fun h => by
      unfold nameS
      by_cases h1 : 1 ≤ s.length
      · rw [decide_eq_false (fun q => h ⟨h1, q⟩)]; simp
      · rw [decide_eq_false h1]; rfl
    walk_at "ev"
    by_cases h1 : 1 ≤ s.length
    · rw [decide_eq_true (show (1 : Int) ≤ (s.length : Nat) by omega)]
      by_cases h2 : s.length ≤ 8
      · rw [decide_eq_true (show ((s.length : Nat) : Int) ≤ 8 by omega)]
        walk_at "ev"
        rw [lc_map (fun y => .bl ((inSeq y (.str "abcdefghijklmnopqrstuvwxyz")).getD false)) _ _ (by rw [len_signs]; simp; omega) fun y hy => ?_]
        · walk_at "ev"
          have e1 : (signs s).map (fun y => D.bl ((inSeq y (.str "abcdefghijklmnopqrstuvwxyz")).getD false)) = (s.cps.toList.map fun c => decide (c ∈ lets)).map D.bl := by
            unfold signs
            rw [List.map_map, List.map_map]; rfl
          rw [e1, bls_of]
          walk_at "ev"
          have e : nameS s = (s.cps.toList.map fun c => decide (c ∈ lets)).all id := by
            rw [List.all_map]
            unfold nameS
            rw [decide_eq_true (by omega), decide_eq_true (by omega)]; rfl
          show _ = T.ret (Sl.d (.bl (nameS s)))
          rw [e]
        · obtain ⟨d, hd, rfl⟩ := List.mem_map.mp hy
          walk_at "ev"
          rfl
      · rw [decide_eq_false (show ¬ ((s.length : Nat) : Int) ≤ 8 by omega)]
        show _ = T.ret (Sl.d (.bl (nameS s)))
        rw [no (by omega)]
        rfl
    · rw [decide_eq_false (show ¬ (1 : Int) ≤ (s.length : Nat) by omega)]
      show _ = T.ret (Sl.d (.bl (nameS s)))
      rw [no (by omega)]
      rfl
  | ins _ _ _ => cases h
  | _ => rfl
theorem all_true {α : Type} (xs : List α) : (xs.map fun _ => true).all id = true := by simp
theorem are_spaces_eq {ls : List Str} (ok : LabelsOk ls) : m_are_spaces c [.d (.tup (ls.map D.str))] = .ret (.d (.bl true)) := by
  have l1 := ok.lo
  have l3 := ok.hi
  unfold m_are_spaces b_are_spaces
  walk_at "ev"
  rw [List.length_map, decide_eq_true (show (1 : Int) ≤ (ls.length : Nat) by omega), decide_eq_true (show ((ls.length : Nat) : Int) ≤ 3 by omega)]
  walk_at "ev"
  rw [lc_map (fun _ => .bl true) _ _ (by simp; omega) fun y hy => ?_]
  · walk_at "ev"
    rw [show (ls.map D.str).map (fun _ => D.bl true) = (ls.map fun _ => true).map D.bl by rw [List.map_map, List.map_map]; rfl, bls_of]
    walk_at "ev"
    rw [all_true]
    walk_at "ev"
    rw [dc_map0 keyOf (fun _ => .bl true) _ (by simp; omega) (by rw [map_keyOf]; exact nodup_inr ok.nd) fun y hy => ?_]
    · walk_at "ev"
      rw [map_keyOf, fSort_keysS]
      walk_at "ev"
      have e1 : (ls.all sOk) = true := List.all_eq_true.mpr fun s hs => nameS_ok (ok.nm s hs)
      rw [e1, decide_eq_true (show ls.length < 64 by omega), ← ok_lst (n := 59), ← ok_lst (n := 59), (ok_strs _ ls).1, (ok_strs _ _).1, eqD_strs, decide_eq_true (sorted_eq ok.so (sortS_sorted ls) (sortS_perm ls).symm)]
      rfl
    · obtain ⟨s, hs, rfl⟩ := List.mem_map.mp hy
      walk_at "ev"
      rfl
  · obtain ⟨s, hs, rfl⟩ := List.mem_map.mp hy
    walk_at "ev"
    rw [is_name_eq rfl]
    walk_at "ev"
    show _ = T.ret (some (D.bl true), _)
    rw [show nameD (.str s) = true from ok.nm s hs]
theorem is_table_eq {x : D} {n : Nat} {f : Int} (hn : n ≤ 4) (h : rowOk n f x) : m_is_table c [.d x, .d (.int n), .d (.int f)] = .ret (.d (.bl true)) := by
  obtain ⟨cs, rfl, hc, hcell⟩ := h
  unfold m_is_table b_is_table
  walk_at "ev"
  rw [hc]
  walk_at "ev"
  rw [lc_map (fun _ => .bl true) _ _ (by simp; omega) fun y hy => ?_]
  · walk_at "ev"
    rw [show cs.map (fun _ => D.bl true) = (cs.map fun _ => true).map D.bl by rw [List.map_map]; rfl, bls_of]
    walk_at "ev"
    rw [all_true]
  · have hy := hcell y hy
    by_cases e : y = .non
    · subst e
      walk_at "ev"
    · have q := filled_cell hy e
      have hn : Fl.isNon y = false := by cases y <;> first | rfl | exact absurd rfl e
      walk_at "ev"
      rw [hn]
      walk_at "ev"
      rw [is_filled_eq q.2, q.1]
      walk_at "ev"
theorem are_tables_eq {q : Parts} (ok : q.Ok) : m_are_tables c [.d q.grid, .d q.lsD, .d (.int q.p), .d (.int q.f)] = .ret (.d (.bl true)) := by
  have l1 := ok.l.lo
  have l3 := ok.l.hi
  have hk := ok.g.sz
  unfold m_are_tables b_are_tables Parts.grid Parts.lsD
  walk_at "ev"
  rw [show lenD (.dic q.ks q.vs) = some q.ks.length from rfl]
  walk_at "ev"
  rw [hk, List.length_map]
  walk_at "ev"
  rw [lc_map (fun _ => .bl true) _ _ (by simp; omega) fun y hy => ?_]
  · walk_at "ev"
    rw [show (q.ls.map D.str).map (fun _ => D.bl true) = (q.ls.map fun _ => true).map D.bl by rw [List.map_map, List.map_map]; rfl, bls_of]
    walk_at "ev"
    rw [all_true]
  · obtain ⟨s, hs, rfl⟩ := List.mem_map.mp hy
    obtain ⟨r1, r2⟩ := ok.row hs
    walk_at "ev"
    rw [r1]
    walk_at "ev"
    rw [is_table_eq ok.p4 r2]
    walk_at "ev"
theorem intD_int {i : Int} : intD (.int i) = true := rfl
theorem World_init_eq {q : Parts} (ok : q.Ok) : m_World_init c [.d q.lsD, .d (.int q.p), .d (.int q.f), .d q.grid, .d (.bl q.t), .d (.bl q.c), .d (.bl q.e)] = .ret (fldN, q.flds) := by
  have l1 := ok.p1
  have l2 := ok.p4
  have l3 := ok.f1
  have l4 := ok.f4
  have h1 := are_spaces_eq (c := c) ok.l
  have h2 := are_tables_eq (c := c) ok
  unfold Parts.grid Parts.lsD at h2
  obtain ⟨e1, e2, e3, e4, e5⟩ := flds_put q.lsD (.int q.p) (.int q.f) (.dic (q.ls.map .inr) (q.ls.map q.rowOf)) q.rules
  unfold Parts.lsD at e1 e2 e3 e4 e5
  unfold m_World_init b_World_init Parts.lsD Parts.grid
  walk_at "ev"
  rw [h1]
  walk_at "ev"
  rw [is_integer_eq rfl, intD_int]
  walk_at "ev"
  rw [decide_eq_true (show (1 : Int) ≤ (q.p : Nat) by omega), decide_eq_true (show ((q.p : Nat) : Int) ≤ 4 by omega)]
  walk_at "ev"
  rw [is_integer_eq rfl, intD_int]
  walk_at "ev"
  rw [decide_eq_true l3, decide_eq_true l4]
  walk_at "ev"
  rw [h2]
  walk_at "ev"
  rw [e1]
  walk_at "ev"
  rw [e2]
  walk_at "ev"
  rw [e3]
  walk_at "ev"
  rw [dc_map0 keyOf (fun y => match y with | .str s => q.rowOf s | _ => .non) _ (by have := ok.l.hi; simp; omega) (by rw [map_keyOf]; exact nodup_inr ok.l.nd) fun y hy => ?_]
  · rw [map_keyOf, show ((q.ls.map D.str).map fun y => match y with | .str s => q.rowOf s | _ => .non) = q.ls.map q.rowOf by rw [List.map_map]; rfl]
    walk_at "ev"
    rw [e4]
    walk_at "ev"
    unfold Parts.rules at e5
    rw [e5]
    walk_at "ev"
    rfl
  · obtain ⟨s, hs, rfl⟩ := List.mem_map.mp hy
    obtain ⟨r1, r2⟩ := ok.row hs
    walk_at "ev"
    rw [r1]
    walk_at "ev"
    rfl
end

end K02
namespace K02
open PySem L2 Fl Tr Sv
local macro_rules | `(tactic| walk_at "sv") => `(tactic| try simp only [bind_ret, bind_fail, bind_draw, bind2_ret, ofO_some, ofO_none, need_true, need_false, back_ret, wp_ret, varT_src, varT_d, varT_ol, varT_od, varT_oi, dat_d, dat_ol, dat_od, dat_oi, arg_d, arg_src, arg_ol, arg_od, arg_oi, noNo_d, noNo_ol, noNo_od, noNo_oi, argOk_d, argOk_src, blO_bl, intO_int, endM_nx, endM_rt, thenS_nx, thenS_rt, dlst_lst, dint_int, dstr_str, seqD_lst, seqD_tup, itemsD_lst, itemsD_tup, itemsD_str, cp_one, lst1_one, int1_one, lenD_lst, lenD_tup, lenD_str, insOf_me, two_eq, three_eq, pend_d, pend_ol, pend_od, tupO_eq, gsCons_eq, gsNil_eq, mVal_eq, dicO_dic, dtup_tup, keyD_str, keyD_int, eC_e, aNil_e, aCons_e, eTup_e, eLst_e, eDic0_e, eOp_e, tTru_e, tTst_e, tNot_e, tAnd_e, tOr_e, eAnd_e, eOr_e, eNot_e, eIf_e, eCall_e, eIx_e, oNo_e, oSome_e, eSl_e, eChain_e, eIsi_e, eIsi2_e, eDg_e, eDin_e, eApp_e, eExt_e, ePop_e, eIns_e, tOwnNe_e, eOwnLen_e, eOwnIx_e, eOwnIn_e, eClr_e, eJoin_e, eItems_e, eNeg_e, eFld_e, bNil_e, bCons_e, bArg_e, eFn_e, eMeth_e, eMeth0_e, eProp_e, eMakeK_e, eMake_e, eIsOwn_e, gNm_e, gTp_e, sNext_e, sBreak_e, sCont_e, sSeq_e, sExpr_e, sRet_e, sIf_e, sAsg_e, sPar_e, sPar3_e, sFor_e, sWhile_e, sSetL_e, sSetD_e, sSetF_e, sMatch_e, iL_e, iT_e, iS_e, iR_e, iEn_e, eLc_e, tYes_e, eDc_e, iEnA_e, iSq_e, eFnP_e, eMethP_e, eMakeP_e, eSortSet_e, eRev_e, eListRg_e, oAdd_ii, oAdd_ss, oAdd_ll, oAdd_tt, oSub_ii, oMul_ii, oMul_li, oMod_ii, oFdv_ii, oLt_ii, oLe_ii, oGt_ii, oGe_ii, oEq_e, oNe_e, oIsN_e, oNotN_e, oIn_e, oNotIn_e, oInD_e, fLen_e, fList_e, fTuple_e, fInt_i, fInt_b, fAll_e, fAny_e, fSortS_e, fRepr_e, fDict_e, fOwnLen_e, oOwnEq_e, oOwnNe_e, drawM_e, eVar_eq, ofO_bind, ofO_bind2, need_bind, need_bind2, ite_bind, ite_bind2, back_ite, ownO_eq, wp_ret', v_ret, bind2_bind, bind_bind2, bind2_bind2, Tr.bind_assoc, back_bind, defM, List.cons_append, List.nil_append, List.replicate_succ, List.replicate_zero, List.getElem?_cons_zero, List.getElem?_cons_succ, List.set_cons_zero, List.set_cons_succ, List.length_cons, List.length_nil, List.all_cons, List.all_nil, Bool.and_true, Bool.true_and, Bool.and_self, beq_self_eq_true, decide_true, decide_false, if_true, if_false, Bool.not_true, Bool.not_false, wipeD, isI_non, isI_bl, isI_int, isI_str, isI_lst, isI_tup, isI_dic, isI_ins, Option.getD_some, ite_true, ite_false, reduceCtorEq, Bool.false_eq_true, Nat.reduceAdd, Nat.reduceLeDiff, Nat.reduceLT, Nat.reduceBEq, Nat.reduceEqDiff, Option.bind_some, Option.isNone_none, Option.isNone_some, Option.isSome_some, Option.isSome_none, mNil', mAny', List.map_cons, List.map_nil, Option.map_some, Option.map_none, Int.reduceAdd, ok_non, ok_bl, ok_int, ok_str, ok_lst, ok_tup, ixD_tup, ixD_lst, atI_0, atI_1, atI_2, atI_3, atI_4, atI_5, atI_6, atI_7, eqD_bl, cast2, cast0, cast1, cast3, cast4, cast5, cast6, cast7, cast8, slD_lst, slD_tup, slD_str, cut_1, cut_2, cut_3, isN_non, stepC_e, stepK_e, isN_tup, isN_int, isT_str, isT_int, isT_bool, isT_tuple, isT_list, isT_dict, eqD_int, eqD_str, ite_bind, loopT_nil, loopT_cons, thenL_nx, thenL_rt, instO_e, instS_bi, instS_oi, withF_bi, withF_oi, biO_e, endI_nx, defI_e, sNever_e, Bool.true_or, Bool.or_true, Bool.or_false, Bool.false_or, Bool.false_and, Bool.and_false, back_draw, bind2_draw, draw_e, Int.reduceBEq, Int.reduceSub, Int.reduceNeg, Int.reduceLT, Int.reduceLE, and_self, true_and, and_true, odO_eq, aStar_e, fStr_x, iItO_e, iZp_e, zpT_2, List.append_nil, ownD_od, zipO_lt, zipO_ll, zipO_tt, zipD_c, zipD_n, zipD_n2, seqD_l, seqD_t, strD_str, eMakeD_e, dbls_cons, dbls_nil, eShow_e, shT_d, shT_ld, eLd_e, ldT_d, ldT_ld, eDgL_e, dgT_d, dgT_ld, eLend_e, leT_od, leT_ol, blank_d, blank_src, blank_no, blank_ld, blank_ol, blank_od, blank_oi, blank_bi, flatO_bl, flatO_int, arg_ld, argOk_ld, pend_ld, eqP_e, fListK_x, fDictP_x, sForIt_e, datO_e, datS_d, eMov_e, movS_ol, movS_od, movS_oi, eqD_tnil, inSeq_tup, inSeq_lst, flat_int, flat_str, flat_non, flat_bl, inD_nil, inD_cons, inDp_tup, inDp_lst, eqD_tcons, eqD_tnil2, eqD_tnn, insW, isInsW, lkW1, lkW2, lkW3, lkW5, lkW4, lkW_page, lkW_frame, lkW_entry, lkW_parts, lkW_entries, lkW_need, insSc, isInsSc, lkS1, lkS2, lkS_guards, lkS_entries, scput1, scput2, scput3, ofS_inj, String.reduceEq, eqD_refl])
local macro_rules | `(tactic| walk_at "ev") => `(tactic| try simp only [bind_ret, bind_fail, bind_draw, bind2_ret, ofO_some, ofO_none, need_true, need_false, back_ret, wp_ret, varT_src, varT_d, varT_ol, varT_od, varT_oi, dat_d, dat_ol, dat_od, dat_oi, arg_d, arg_src, arg_ol, arg_od, arg_oi, noNo_d, noNo_ol, noNo_od, noNo_oi, argOk_d, argOk_src, blO_bl, intO_int, endM_nx, endM_rt, thenS_nx, thenS_rt, dlst_lst, dint_int, dstr_str, seqD_lst, seqD_tup, itemsD_lst, itemsD_tup, itemsD_str, cp_one, lst1_one, int1_one, lenD_lst, lenD_tup, lenD_str, insOf_me, two_eq, three_eq, pend_d, pend_ol, pend_od, tupO_eq, gsCons_eq, gsNil_eq, mVal_eq, dicO_dic, dtup_tup, keyD_str, keyD_int, eC_e, aNil_e, aCons_e, eTup_e, eLst_e, eDic0_e, eOp_e, tTru_e, tTst_e, tNot_e, tAnd_e, tOr_e, eAnd_e, eOr_e, eNot_e, eIf_e, eCall_e, eIx_e, oNo_e, oSome_e, eSl_e, eChain_e, eIsi_e, eIsi2_e, eDg_e, eDin_e, eApp_e, eExt_e, ePop_e, eIns_e, tOwnNe_e, eOwnLen_e, eOwnIx_e, eOwnIn_e, eClr_e, eJoin_e, eItems_e, eNeg_e, eFld_e, bNil_e, bCons_e, bArg_e, eFn_e, eMeth_e, eMeth0_e, eProp_e, eMakeK_e, eMake_e, eIsOwn_e, gNm_e, gTp_e, sNext_e, sBreak_e, sCont_e, sSeq_e, sExpr_e, sRet_e, sIf_e, sAsg_e, sPar_e, sPar3_e, sFor_e, sWhile_e, sSetL_e, sSetD_e, sSetF_e, sMatch_e, iL_e, iT_e, iS_e, iR_e, iEn_e, eLc_e, tYes_e, eDc_e, iEnA_e, iSq_e, eFnP_e, eMethP_e, eMakeP_e, eSortSet_e, eRev_e, eListRg_e, oAdd_ii, oAdd_ss, oAdd_ll, oAdd_tt, oSub_ii, oMul_ii, oMul_li, oMod_ii, oFdv_ii, oLt_ii, oLe_ii, oGt_ii, oGe_ii, oEq_e, oNe_e, oIsN_e, oNotN_e, oIn_e, oNotIn_e, oInD_e, fLen_e, fList_e, fTuple_e, fInt_i, fInt_b, fAll_e, fAny_e, fSortS_e, fRepr_e, fDict_e, fOwnLen_e, oOwnEq_e, oOwnNe_e, drawM_e, eVar_eq, ofO_bind, ofO_bind2, need_bind, need_bind2, ite_bind, ite_bind2, back_ite, ownO_eq, wp_ret', v_ret, bind2_bind, bind_bind2, bind2_bind2, Tr.bind_assoc, back_bind, defM, List.cons_append, List.nil_append, List.replicate_succ, List.replicate_zero, List.getElem?_cons_zero, List.getElem?_cons_succ, List.set_cons_zero, List.set_cons_succ, List.length_cons, List.length_nil, List.all_cons, List.all_nil, Bool.and_true, Bool.true_and, Bool.and_self, beq_self_eq_true, decide_true, decide_false, if_true, if_false, Bool.not_true, Bool.not_false, wipeD, isI_non, isI_bl, isI_int, isI_str, isI_lst, isI_tup, isI_dic, isI_ins, Option.getD_some, ite_true, ite_false, reduceCtorEq, Bool.false_eq_true, Nat.reduceAdd, Nat.reduceLeDiff, Nat.reduceLT, Nat.reduceBEq, Nat.reduceEqDiff, Option.bind_some, Option.isNone_none, Option.isNone_some, Option.isSome_some, Option.isSome_none, mNil', mAny', List.map_cons, List.map_nil, Option.map_some, Option.map_none, Int.reduceAdd, ok_non, ok_bl, ok_int, ok_str, ok_lst, ok_tup, ixD_tup, ixD_lst, atI_0, atI_1, atI_2, atI_3, atI_4, atI_5, atI_6, atI_7, eqD_bl, cast2, cast0, cast1, cast3, cast4, cast5, cast6, cast7, cast8, slD_lst, slD_tup, slD_str, cut_1, cut_2, cut_3, isN_non, stepC_e, stepK_e, isN_tup, isN_int, isT_str, isT_int, isT_bool, isT_tuple, isT_list, isT_dict, eqD_int, eqD_str, ite_bind, loopT_nil, loopT_cons, thenL_nx, thenL_rt, instO_e, instS_bi, instS_oi, withF_bi, withF_oi, biO_e, endI_nx, defI_e, sNever_e, Bool.true_or, Bool.or_true, Bool.or_false, Bool.false_or, Bool.false_and, Bool.and_false, back_draw, bind2_draw, draw_e, Int.reduceBEq, Int.reduceSub, Int.reduceNeg, Int.reduceLT, Int.reduceLE, and_self, true_and, and_true, odO_eq, aStar_e, fStr_x, iItO_e, iZp_e, zpT_2, List.append_nil, ownD_od, zipO_lt, zipO_ll, zipO_tt, zipD_c, zipD_n, zipD_n2, seqD_l, seqD_t, strD_str, eMakeD_e, dbls_cons, dbls_nil, eShow_e, shT_d, shT_ld, eLd_e, ldT_d, ldT_ld, eDgL_e, dgT_d, dgT_ld, eLend_e, leT_od, leT_ol, blank_d, blank_src, blank_no, blank_ld, blank_ol, blank_od, blank_oi, blank_bi, flatO_bl, flatO_int, arg_ld, argOk_ld, pend_ld, eqP_e, fListK_x, fDictP_x, sForIt_e, datO_e, datS_d, eMov_e, movS_ol, movS_od, movS_oi])
local macro_rules | `(tactic| walk_at "ifs") => `(tactic| refine ifB (fun h => ?_) (fun h => ?_))
local macro_rules | `(tactic| walk_at "wd") => `(tactic| (with_reducible refine v_draw ?_ ?_ ?_; omega; omega))
local macro_rules | `(tactic| walk_at "wc") => `(tactic| with_reducible refine v_call ?_)
local macro_rules | `(tactic| walk_at "wb") => `(tactic| with_reducible refine v_b ?_)
local macro_rules | `(tactic| walk_at "w2") => `(tactic| with_reducible refine v_b2 ?_)
section
variable {c : Cs} {Z : Exc → Prop}
theorem World_spaces_eq {q : Parts} : m_World_spaces c [.d (Parts.obj c.World q)] = .ret (.d q.lsD) := by
  unfold m_World_spaces b_World_spaces
  walk_at "sv"
theorem World_parts_eq {q : Parts} (ok : q.Ok) : m_World_parts c [.d (Parts.obj c.World q)] = .ret (.d (.tup [q.lsD, .int q.p, .int q.f, .lst (pairD (q.ls.map .inr) (q.ls.map q.rowOf)), q.rules])) := by
  unfold m_World_parts b_World_parts
  walk_at "sv"
  have e : (q.ls.map (Sum.inr : Str → Key)).all kOk = true := by
    rw [List.all_map]
    exact List.all_eq_true.mpr fun s hs => nameS_ok (ok.l.nm s hs)
  rw [e]
  walk_at "sv"
theorem wordD_mem {ws : List Str} {l : Str} (h : l ∈ ws) : wordD ws (.str l) = true := decide_eq_true h
theorem indexD_i {n i : Int} : indexD n (.int i) = (decide (0 ≤ i) && decide (i < n)) := rfl
theorem indexD_in {n i : Int} (h0 : 0 ≤ i) (h1 : i < n) : indexD n (.int i) = true := by
  rw [indexD_i, decide_eq_true h0, decide_eq_true h1]; rfl
end

end K02
namespace K02
open PySem L2 Fl Tr Sv
local macro_rules | `(tactic| walk_at "sv") => `(tactic| try simp only [bind_ret, bind_fail, bind_draw, bind2_ret, ofO_some, ofO_none, need_true, need_false, back_ret, wp_ret, varT_src, varT_d, varT_ol, varT_od, varT_oi, dat_d, dat_ol, dat_od, dat_oi, arg_d, arg_src, arg_ol, arg_od, arg_oi, noNo_d, noNo_ol, noNo_od, noNo_oi, argOk_d, argOk_src, blO_bl, intO_int, endM_nx, endM_rt, thenS_nx, thenS_rt, dlst_lst, dint_int, dstr_str, seqD_lst, seqD_tup, itemsD_lst, itemsD_tup, itemsD_str, cp_one, lst1_one, int1_one, lenD_lst, lenD_tup, lenD_str, insOf_me, two_eq, three_eq, pend_d, pend_ol, pend_od, tupO_eq, gsCons_eq, gsNil_eq, mVal_eq, dicO_dic, dtup_tup, keyD_str, keyD_int, eC_e, aNil_e, aCons_e, eTup_e, eLst_e, eDic0_e, eOp_e, tTru_e, tTst_e, tNot_e, tAnd_e, tOr_e, eAnd_e, eOr_e, eNot_e, eIf_e, eCall_e, eIx_e, oNo_e, oSome_e, eSl_e, eChain_e, eIsi_e, eIsi2_e, eDg_e, eDin_e, eApp_e, eExt_e, ePop_e, eIns_e, tOwnNe_e, eOwnLen_e, eOwnIx_e, eOwnIn_e, eClr_e, eJoin_e, eItems_e, eNeg_e, eFld_e, bNil_e, bCons_e, bArg_e, eFn_e, eMeth_e, eMeth0_e, eProp_e, eMakeK_e, eMake_e, eIsOwn_e, gNm_e, gTp_e, sNext_e, sBreak_e, sCont_e, sSeq_e, sExpr_e, sRet_e, sIf_e, sAsg_e, sPar_e, sPar3_e, sFor_e, sWhile_e, sSetL_e, sSetD_e, sSetF_e, sMatch_e, iL_e, iT_e, iS_e, iR_e, iEn_e, eLc_e, tYes_e, eDc_e, iEnA_e, iSq_e, eFnP_e, eMethP_e, eMakeP_e, eSortSet_e, eRev_e, eListRg_e, oAdd_ii, oAdd_ss, oAdd_ll, oAdd_tt, oSub_ii, oMul_ii, oMul_li, oMod_ii, oFdv_ii, oLt_ii, oLe_ii, oGt_ii, oGe_ii, oEq_e, oNe_e, oIsN_e, oNotN_e, oIn_e, oNotIn_e, oInD_e, fLen_e, fList_e, fTuple_e, fInt_i, fInt_b, fAll_e, fAny_e, fSortS_e, fRepr_e, fDict_e, fOwnLen_e, oOwnEq_e, oOwnNe_e, drawM_e, eVar_eq, ofO_bind, ofO_bind2, need_bind, need_bind2, ite_bind, ite_bind2, back_ite, ownO_eq, wp_ret', v_ret, bind2_bind, bind_bind2, bind2_bind2, Tr.bind_assoc, back_bind, defM, List.cons_append, List.nil_append, List.replicate_succ, List.replicate_zero, List.getElem?_cons_zero, List.getElem?_cons_succ, List.set_cons_zero, List.set_cons_succ, List.length_cons, List.length_nil, List.all_cons, List.all_nil, Bool.and_true, Bool.true_and, Bool.and_self, beq_self_eq_true, decide_true, decide_false, if_true, if_false, Bool.not_true, Bool.not_false, wipeD, isI_non, isI_bl, isI_int, isI_str, isI_lst, isI_tup, isI_dic, isI_ins, Option.getD_some, ite_true, ite_false, reduceCtorEq, Bool.false_eq_true, Nat.reduceAdd, Nat.reduceLeDiff, Nat.reduceLT, Nat.reduceBEq, Nat.reduceEqDiff, Option.bind_some, Option.isNone_none, Option.isNone_some, Option.isSome_some, Option.isSome_none, mNil', mAny', List.map_cons, List.map_nil, Option.map_some, Option.map_none, Int.reduceAdd, ok_non, ok_bl, ok_int, ok_str, ok_lst, ok_tup, ixD_tup, ixD_lst, atI_0, atI_1, atI_2, atI_3, atI_4, atI_5, atI_6, atI_7, eqD_bl, cast2, cast0, cast1, cast3, cast4, cast5, cast6, cast7, cast8, slD_lst, slD_tup, slD_str, cut_1, cut_2, cut_3, isN_non, stepC_e, stepK_e, isN_tup, isN_int, isT_str, isT_int, isT_bool, isT_tuple, isT_list, isT_dict, eqD_int, eqD_str, ite_bind, loopT_nil, loopT_cons, thenL_nx, thenL_rt, instO_e, instS_bi, instS_oi, withF_bi, withF_oi, biO_e, endI_nx, defI_e, sNever_e, Bool.true_or, Bool.or_true, Bool.or_false, Bool.false_or, Bool.false_and, Bool.and_false, back_draw, bind2_draw, draw_e, Int.reduceBEq, Int.reduceSub, Int.reduceNeg, Int.reduceLT, Int.reduceLE, and_self, true_and, and_true, odO_eq, aStar_e, fStr_x, iItO_e, iZp_e, zpT_2, List.append_nil, ownD_od, zipO_lt, zipO_ll, zipO_tt, zipD_c, zipD_n, zipD_n2, seqD_l, seqD_t, strD_str, eMakeD_e, dbls_cons, dbls_nil, eShow_e, shT_d, shT_ld, eLd_e, ldT_d, ldT_ld, eDgL_e, dgT_d, dgT_ld, eLend_e, leT_od, leT_ol, blank_d, blank_src, blank_no, blank_ld, blank_ol, blank_od, blank_oi, blank_bi, flatO_bl, flatO_int, arg_ld, argOk_ld, pend_ld, eqP_e, fListK_x, fDictP_x, sForIt_e, datO_e, datS_d, eMov_e, movS_ol, movS_od, movS_oi, eqD_tnil, inSeq_tup, inSeq_lst, flat_int, flat_str, flat_non, flat_bl, inD_nil, inD_cons, inDp_tup, inDp_lst, eqD_tcons, eqD_tnil2, eqD_tnn, insW, isInsW, lkW1, lkW2, lkW3, lkW5, lkW4, lkW_page, lkW_frame, lkW_entry, lkW_parts, lkW_entries, lkW_need, insSc, isInsSc, lkS1, lkS2, lkS_guards, lkS_entries, scput1, scput2, scput3, ofS_inj, String.reduceEq, eqD_refl])
local macro_rules | `(tactic| walk_at "ev") => `(tactic| try simp only [bind_ret, bind_fail, bind_draw, bind2_ret, ofO_some, ofO_none, need_true, need_false, back_ret, wp_ret, varT_src, varT_d, varT_ol, varT_od, varT_oi, dat_d, dat_ol, dat_od, dat_oi, arg_d, arg_src, arg_ol, arg_od, arg_oi, noNo_d, noNo_ol, noNo_od, noNo_oi, argOk_d, argOk_src, blO_bl, intO_int, endM_nx, endM_rt, thenS_nx, thenS_rt, dlst_lst, dint_int, dstr_str, seqD_lst, seqD_tup, itemsD_lst, itemsD_tup, itemsD_str, cp_one, lst1_one, int1_one, lenD_lst, lenD_tup, lenD_str, insOf_me, two_eq, three_eq, pend_d, pend_ol, pend_od, tupO_eq, gsCons_eq, gsNil_eq, mVal_eq, dicO_dic, dtup_tup, keyD_str, keyD_int, eC_e, aNil_e, aCons_e, eTup_e, eLst_e, eDic0_e, eOp_e, tTru_e, tTst_e, tNot_e, tAnd_e, tOr_e, eAnd_e, eOr_e, eNot_e, eIf_e, eCall_e, eIx_e, oNo_e, oSome_e, eSl_e, eChain_e, eIsi_e, eIsi2_e, eDg_e, eDin_e, eApp_e, eExt_e, ePop_e, eIns_e, tOwnNe_e, eOwnLen_e, eOwnIx_e, eOwnIn_e, eClr_e, eJoin_e, eItems_e, eNeg_e, eFld_e, bNil_e, bCons_e, bArg_e, eFn_e, eMeth_e, eMeth0_e, eProp_e, eMakeK_e, eMake_e, eIsOwn_e, gNm_e, gTp_e, sNext_e, sBreak_e, sCont_e, sSeq_e, sExpr_e, sRet_e, sIf_e, sAsg_e, sPar_e, sPar3_e, sFor_e, sWhile_e, sSetL_e, sSetD_e, sSetF_e, sMatch_e, iL_e, iT_e, iS_e, iR_e, iEn_e, eLc_e, tYes_e, eDc_e, iEnA_e, iSq_e, eFnP_e, eMethP_e, eMakeP_e, eSortSet_e, eRev_e, eListRg_e, oAdd_ii, oAdd_ss, oAdd_ll, oAdd_tt, oSub_ii, oMul_ii, oMul_li, oMod_ii, oFdv_ii, oLt_ii, oLe_ii, oGt_ii, oGe_ii, oEq_e, oNe_e, oIsN_e, oNotN_e, oIn_e, oNotIn_e, oInD_e, fLen_e, fList_e, fTuple_e, fInt_i, fInt_b, fAll_e, fAny_e, fSortS_e, fRepr_e, fDict_e, fOwnLen_e, oOwnEq_e, oOwnNe_e, drawM_e, eVar_eq, ofO_bind, ofO_bind2, need_bind, need_bind2, ite_bind, ite_bind2, back_ite, ownO_eq, wp_ret', v_ret, bind2_bind, bind_bind2, bind2_bind2, Tr.bind_assoc, back_bind, defM, List.cons_append, List.nil_append, List.replicate_succ, List.replicate_zero, List.getElem?_cons_zero, List.getElem?_cons_succ, List.set_cons_zero, List.set_cons_succ, List.length_cons, List.length_nil, List.all_cons, List.all_nil, Bool.and_true, Bool.true_and, Bool.and_self, beq_self_eq_true, decide_true, decide_false, if_true, if_false, Bool.not_true, Bool.not_false, wipeD, isI_non, isI_bl, isI_int, isI_str, isI_lst, isI_tup, isI_dic, isI_ins, Option.getD_some, ite_true, ite_false, reduceCtorEq, Bool.false_eq_true, Nat.reduceAdd, Nat.reduceLeDiff, Nat.reduceLT, Nat.reduceBEq, Nat.reduceEqDiff, Option.bind_some, Option.isNone_none, Option.isNone_some, Option.isSome_some, Option.isSome_none, mNil', mAny', List.map_cons, List.map_nil, Option.map_some, Option.map_none, Int.reduceAdd, ok_non, ok_bl, ok_int, ok_str, ok_lst, ok_tup, ixD_tup, ixD_lst, atI_0, atI_1, atI_2, atI_3, atI_4, atI_5, atI_6, atI_7, eqD_bl, cast2, cast0, cast1, cast3, cast4, cast5, cast6, cast7, cast8, slD_lst, slD_tup, slD_str, cut_1, cut_2, cut_3, isN_non, stepC_e, stepK_e, isN_tup, isN_int, isT_str, isT_int, isT_bool, isT_tuple, isT_list, isT_dict, eqD_int, eqD_str, ite_bind, loopT_nil, loopT_cons, thenL_nx, thenL_rt, instO_e, instS_bi, instS_oi, withF_bi, withF_oi, biO_e, endI_nx, defI_e, sNever_e, Bool.true_or, Bool.or_true, Bool.or_false, Bool.false_or, Bool.false_and, Bool.and_false, back_draw, bind2_draw, draw_e, Int.reduceBEq, Int.reduceSub, Int.reduceNeg, Int.reduceLT, Int.reduceLE, and_self, true_and, and_true, odO_eq, aStar_e, fStr_x, iItO_e, iZp_e, zpT_2, List.append_nil, ownD_od, zipO_lt, zipO_ll, zipO_tt, zipD_c, zipD_n, zipD_n2, seqD_l, seqD_t, strD_str, eMakeD_e, dbls_cons, dbls_nil, eShow_e, shT_d, shT_ld, eLd_e, ldT_d, ldT_ld, eDgL_e, dgT_d, dgT_ld, eLend_e, leT_od, leT_ol, blank_d, blank_src, blank_no, blank_ld, blank_ol, blank_od, blank_oi, blank_bi, flatO_bl, flatO_int, arg_ld, argOk_ld, pend_ld, eqP_e, fListK_x, fDictP_x, sForIt_e, datO_e, datS_d, eMov_e, movS_ol, movS_od, movS_oi])
local macro_rules | `(tactic| walk_at "ifs") => `(tactic| refine ifB (fun h => ?_) (fun h => ?_))
local macro_rules | `(tactic| walk_at "wd") => `(tactic| (with_reducible refine v_draw ?_ ?_ ?_; omega; omega))
local macro_rules | `(tactic| walk_at "wc") => `(tactic| with_reducible refine v_call ?_)
local macro_rules | `(tactic| walk_at "wb") => `(tactic| with_reducible refine v_b ?_)
local macro_rules | `(tactic| walk_at "w2") => `(tactic| with_reducible refine v_b2 ?_)
section
variable {c : Cs} {Z : Exc → Prop}
end

end K02
namespace K02
open PySem L2 Fl Tr Sv
local macro_rules | `(tactic| walk_at "sv") => `(tactic| try simp only [bind_ret, bind_fail, bind_draw, bind2_ret, ofO_some, ofO_none, need_true, need_false, back_ret, wp_ret, varT_src, varT_d, varT_ol, varT_od, varT_oi, dat_d, dat_ol, dat_od, dat_oi, arg_d, arg_src, arg_ol, arg_od, arg_oi, noNo_d, noNo_ol, noNo_od, noNo_oi, argOk_d, argOk_src, blO_bl, intO_int, endM_nx, endM_rt, thenS_nx, thenS_rt, dlst_lst, dint_int, dstr_str, seqD_lst, seqD_tup, itemsD_lst, itemsD_tup, itemsD_str, cp_one, lst1_one, int1_one, lenD_lst, lenD_tup, lenD_str, insOf_me, two_eq, three_eq, pend_d, pend_ol, pend_od, tupO_eq, gsCons_eq, gsNil_eq, mVal_eq, dicO_dic, dtup_tup, keyD_str, keyD_int, eC_e, aNil_e, aCons_e, eTup_e, eLst_e, eDic0_e, eOp_e, tTru_e, tTst_e, tNot_e, tAnd_e, tOr_e, eAnd_e, eOr_e, eNot_e, eIf_e, eCall_e, eIx_e, oNo_e, oSome_e, eSl_e, eChain_e, eIsi_e, eIsi2_e, eDg_e, eDin_e, eApp_e, eExt_e, ePop_e, eIns_e, tOwnNe_e, eOwnLen_e, eOwnIx_e, eOwnIn_e, eClr_e, eJoin_e, eItems_e, eNeg_e, eFld_e, bNil_e, bCons_e, bArg_e, eFn_e, eMeth_e, eMeth0_e, eProp_e, eMakeK_e, eMake_e, eIsOwn_e, gNm_e, gTp_e, sNext_e, sBreak_e, sCont_e, sSeq_e, sExpr_e, sRet_e, sIf_e, sAsg_e, sPar_e, sPar3_e, sFor_e, sWhile_e, sSetL_e, sSetD_e, sSetF_e, sMatch_e, iL_e, iT_e, iS_e, iR_e, iEn_e, eLc_e, tYes_e, eDc_e, iEnA_e, iSq_e, eFnP_e, eMethP_e, eMakeP_e, eSortSet_e, eRev_e, eListRg_e, oAdd_ii, oAdd_ss, oAdd_ll, oAdd_tt, oSub_ii, oMul_ii, oMul_li, oMod_ii, oFdv_ii, oLt_ii, oLe_ii, oGt_ii, oGe_ii, oEq_e, oNe_e, oIsN_e, oNotN_e, oIn_e, oNotIn_e, oInD_e, fLen_e, fList_e, fTuple_e, fInt_i, fInt_b, fAll_e, fAny_e, fSortS_e, fRepr_e, fDict_e, fOwnLen_e, oOwnEq_e, oOwnNe_e, drawM_e, eVar_eq, ofO_bind, ofO_bind2, need_bind, need_bind2, ite_bind, ite_bind2, back_ite, ownO_eq, wp_ret', v_ret, bind2_bind, bind_bind2, bind2_bind2, Tr.bind_assoc, back_bind, defM, List.cons_append, List.nil_append, List.replicate_succ, List.replicate_zero, List.getElem?_cons_zero, List.getElem?_cons_succ, List.set_cons_zero, List.set_cons_succ, List.length_cons, List.length_nil, List.all_cons, List.all_nil, Bool.and_true, Bool.true_and, Bool.and_self, beq_self_eq_true, decide_true, decide_false, if_true, if_false, Bool.not_true, Bool.not_false, wipeD, isI_non, isI_bl, isI_int, isI_str, isI_lst, isI_tup, isI_dic, isI_ins, Option.getD_some, ite_true, ite_false, reduceCtorEq, Bool.false_eq_true, Nat.reduceAdd, Nat.reduceLeDiff, Nat.reduceLT, Nat.reduceBEq, Nat.reduceEqDiff, Option.bind_some, Option.isNone_none, Option.isNone_some, Option.isSome_some, Option.isSome_none, mNil', mAny', List.map_cons, List.map_nil, Option.map_some, Option.map_none, Int.reduceAdd, ok_non, ok_bl, ok_int, ok_str, ok_lst, ok_tup, ixD_tup, ixD_lst, atI_0, atI_1, atI_2, atI_3, atI_4, atI_5, atI_6, atI_7, eqD_bl, cast2, cast0, cast1, cast3, cast4, cast5, cast6, cast7, cast8, slD_lst, slD_tup, slD_str, cut_1, cut_2, cut_3, isN_non, stepC_e, stepK_e, isN_tup, isN_int, isT_str, isT_int, isT_bool, isT_tuple, isT_list, isT_dict, eqD_int, eqD_str, ite_bind, loopT_nil, loopT_cons, thenL_nx, thenL_rt, instO_e, instS_bi, instS_oi, withF_bi, withF_oi, biO_e, endI_nx, defI_e, sNever_e, Bool.true_or, Bool.or_true, Bool.or_false, Bool.false_or, Bool.false_and, Bool.and_false, back_draw, bind2_draw, draw_e, Int.reduceBEq, Int.reduceSub, Int.reduceNeg, Int.reduceLT, Int.reduceLE, and_self, true_and, and_true, odO_eq, aStar_e, fStr_x, iItO_e, iZp_e, zpT_2, List.append_nil, ownD_od, zipO_lt, zipO_ll, zipO_tt, zipD_c, zipD_n, zipD_n2, seqD_l, seqD_t, strD_str, eMakeD_e, dbls_cons, dbls_nil, eShow_e, shT_d, shT_ld, eLd_e, ldT_d, ldT_ld, eDgL_e, dgT_d, dgT_ld, eLend_e, leT_od, leT_ol, blank_d, blank_src, blank_no, blank_ld, blank_ol, blank_od, blank_oi, blank_bi, flatO_bl, flatO_int, arg_ld, argOk_ld, pend_ld, eqP_e, fListK_x, fDictP_x, sForIt_e, datO_e, datS_d, eMov_e, movS_ol, movS_od, movS_oi, eqD_tnil, inSeq_tup, inSeq_lst, flat_int, flat_str, flat_non, flat_bl, inD_nil, inD_cons, inDp_tup, inDp_lst, eqD_tcons, eqD_tnil2, eqD_tnn, insW, isInsW, lkW1, lkW2, lkW3, lkW5, lkW4, lkW_page, lkW_frame, lkW_entry, lkW_parts, lkW_entries, lkW_need, insSc, isInsSc, lkS1, lkS2, lkS_guards, lkS_entries, scput1, scput2, scput3, ofS_inj, String.reduceEq, eqD_refl])
local macro_rules | `(tactic| walk_at "ev") => `(tactic| try simp only [bind_ret, bind_fail, bind_draw, bind2_ret, ofO_some, ofO_none, need_true, need_false, back_ret, wp_ret, varT_src, varT_d, varT_ol, varT_od, varT_oi, dat_d, dat_ol, dat_od, dat_oi, arg_d, arg_src, arg_ol, arg_od, arg_oi, noNo_d, noNo_ol, noNo_od, noNo_oi, argOk_d, argOk_src, blO_bl, intO_int, endM_nx, endM_rt, thenS_nx, thenS_rt, dlst_lst, dint_int, dstr_str, seqD_lst, seqD_tup, itemsD_lst, itemsD_tup, itemsD_str, cp_one, lst1_one, int1_one, lenD_lst, lenD_tup, lenD_str, insOf_me, two_eq, three_eq, pend_d, pend_ol, pend_od, tupO_eq, gsCons_eq, gsNil_eq, mVal_eq, dicO_dic, dtup_tup, keyD_str, keyD_int, eC_e, aNil_e, aCons_e, eTup_e, eLst_e, eDic0_e, eOp_e, tTru_e, tTst_e, tNot_e, tAnd_e, tOr_e, eAnd_e, eOr_e, eNot_e, eIf_e, eCall_e, eIx_e, oNo_e, oSome_e, eSl_e, eChain_e, eIsi_e, eIsi2_e, eDg_e, eDin_e, eApp_e, eExt_e, ePop_e, eIns_e, tOwnNe_e, eOwnLen_e, eOwnIx_e, eOwnIn_e, eClr_e, eJoin_e, eItems_e, eNeg_e, eFld_e, bNil_e, bCons_e, bArg_e, eFn_e, eMeth_e, eMeth0_e, eProp_e, eMakeK_e, eMake_e, eIsOwn_e, gNm_e, gTp_e, sNext_e, sBreak_e, sCont_e, sSeq_e, sExpr_e, sRet_e, sIf_e, sAsg_e, sPar_e, sPar3_e, sFor_e, sWhile_e, sSetL_e, sSetD_e, sSetF_e, sMatch_e, iL_e, iT_e, iS_e, iR_e, iEn_e, eLc_e, tYes_e, eDc_e, iEnA_e, iSq_e, eFnP_e, eMethP_e, eMakeP_e, eSortSet_e, eRev_e, eListRg_e, oAdd_ii, oAdd_ss, oAdd_ll, oAdd_tt, oSub_ii, oMul_ii, oMul_li, oMod_ii, oFdv_ii, oLt_ii, oLe_ii, oGt_ii, oGe_ii, oEq_e, oNe_e, oIsN_e, oNotN_e, oIn_e, oNotIn_e, oInD_e, fLen_e, fList_e, fTuple_e, fInt_i, fInt_b, fAll_e, fAny_e, fSortS_e, fRepr_e, fDict_e, fOwnLen_e, oOwnEq_e, oOwnNe_e, drawM_e, eVar_eq, ofO_bind, ofO_bind2, need_bind, need_bind2, ite_bind, ite_bind2, back_ite, ownO_eq, wp_ret', v_ret, bind2_bind, bind_bind2, bind2_bind2, Tr.bind_assoc, back_bind, defM, List.cons_append, List.nil_append, List.replicate_succ, List.replicate_zero, List.getElem?_cons_zero, List.getElem?_cons_succ, List.set_cons_zero, List.set_cons_succ, List.length_cons, List.length_nil, List.all_cons, List.all_nil, Bool.and_true, Bool.true_and, Bool.and_self, beq_self_eq_true, decide_true, decide_false, if_true, if_false, Bool.not_true, Bool.not_false, wipeD, isI_non, isI_bl, isI_int, isI_str, isI_lst, isI_tup, isI_dic, isI_ins, Option.getD_some, ite_true, ite_false, reduceCtorEq, Bool.false_eq_true, Nat.reduceAdd, Nat.reduceLeDiff, Nat.reduceLT, Nat.reduceBEq, Nat.reduceEqDiff, Option.bind_some, Option.isNone_none, Option.isNone_some, Option.isSome_some, Option.isSome_none, mNil', mAny', List.map_cons, List.map_nil, Option.map_some, Option.map_none, Int.reduceAdd, ok_non, ok_bl, ok_int, ok_str, ok_lst, ok_tup, ixD_tup, ixD_lst, atI_0, atI_1, atI_2, atI_3, atI_4, atI_5, atI_6, atI_7, eqD_bl, cast2, cast0, cast1, cast3, cast4, cast5, cast6, cast7, cast8, slD_lst, slD_tup, slD_str, cut_1, cut_2, cut_3, isN_non, stepC_e, stepK_e, isN_tup, isN_int, isT_str, isT_int, isT_bool, isT_tuple, isT_list, isT_dict, eqD_int, eqD_str, ite_bind, loopT_nil, loopT_cons, thenL_nx, thenL_rt, instO_e, instS_bi, instS_oi, withF_bi, withF_oi, biO_e, endI_nx, defI_e, sNever_e, Bool.true_or, Bool.or_true, Bool.or_false, Bool.false_or, Bool.false_and, Bool.and_false, back_draw, bind2_draw, draw_e, Int.reduceBEq, Int.reduceSub, Int.reduceNeg, Int.reduceLT, Int.reduceLE, and_self, true_and, and_true, odO_eq, aStar_e, fStr_x, iItO_e, iZp_e, zpT_2, List.append_nil, ownD_od, zipO_lt, zipO_ll, zipO_tt, zipD_c, zipD_n, zipD_n2, seqD_l, seqD_t, strD_str, eMakeD_e, dbls_cons, dbls_nil, eShow_e, shT_d, shT_ld, eLd_e, ldT_d, ldT_ld, eDgL_e, dgT_d, dgT_ld, eLend_e, leT_od, leT_ol, blank_d, blank_src, blank_no, blank_ld, blank_ol, blank_od, blank_oi, blank_bi, flatO_bl, flatO_int, arg_ld, argOk_ld, pend_ld, eqP_e, fListK_x, fDictP_x, sForIt_e, datO_e, datS_d, eMov_e, movS_ol, movS_od, movS_oi])
local macro_rules | `(tactic| walk_at "ifs") => `(tactic| refine ifB (fun h => ?_) (fun h => ?_))
local macro_rules | `(tactic| walk_at "wd") => `(tactic| (with_reducible refine v_draw ?_ ?_ ?_; omega; omega))
local macro_rules | `(tactic| walk_at "wc") => `(tactic| with_reducible refine v_call ?_)
local macro_rules | `(tactic| walk_at "wb") => `(tactic| with_reducible refine v_b ?_)
local macro_rules | `(tactic| walk_at "w2") => `(tactic| with_reducible refine v_b2 ?_)
section
variable {c : Cs} {Z : Exc → Prop}
theorem World_eq_same {q : Parts} (hq : q.Ok) : m_World___eq__ c [.d (Parts.obj c.World q), .d (Parts.obj c.World q)] = .ret (.d (.bl true)) := by
  unfold m_World___eq__ b_World___eq__
  walk_at "sv"
  have hp : m_World_parts c [.d (Parts.obj c.World q)] = .ret (.d (partsD q)) := World_parts_eq hq
  rw [hp]
  walk_at "sv"
  rw [hp]
  walk_at "sv"
  rw [partsD_ok hq]
  walk_at "sv"
def guardW : D := .tup [(.str (Str.ofString "flush")), (.str (Str.ofString "ask")), (.str (Str.ofString "wait")), (.str (Str.ofString "raise"))]
def kindD : D → D
  | .tup (.tup (s :: _) :: _) => s
  | _ => .non
def guardF : D → Option D
  | .tup [i, x] => if (inSeq (kindD x) guardW).getD false = true then some i else none
  | _ => none
end

end K02
namespace K02
open PySem L2 Fl Tr Sv
local macro_rules | `(tactic| walk_at "sv") => `(tactic| try simp only [bind_ret, bind_fail, bind_draw, bind2_ret, ofO_some, ofO_none, need_true, need_false, back_ret, wp_ret, varT_src, varT_d, varT_ol, varT_od, varT_oi, dat_d, dat_ol, dat_od, dat_oi, arg_d, arg_src, arg_ol, arg_od, arg_oi, noNo_d, noNo_ol, noNo_od, noNo_oi, argOk_d, argOk_src, blO_bl, intO_int, endM_nx, endM_rt, thenS_nx, thenS_rt, dlst_lst, dint_int, dstr_str, seqD_lst, seqD_tup, itemsD_lst, itemsD_tup, itemsD_str, cp_one, lst1_one, int1_one, lenD_lst, lenD_tup, lenD_str, insOf_me, two_eq, three_eq, pend_d, pend_ol, pend_od, tupO_eq, gsCons_eq, gsNil_eq, mVal_eq, dicO_dic, dtup_tup, keyD_str, keyD_int, eC_e, aNil_e, aCons_e, eTup_e, eLst_e, eDic0_e, eOp_e, tTru_e, tTst_e, tNot_e, tAnd_e, tOr_e, eAnd_e, eOr_e, eNot_e, eIf_e, eCall_e, eIx_e, oNo_e, oSome_e, eSl_e, eChain_e, eIsi_e, eIsi2_e, eDg_e, eDin_e, eApp_e, eExt_e, ePop_e, eIns_e, tOwnNe_e, eOwnLen_e, eOwnIx_e, eOwnIn_e, eClr_e, eJoin_e, eItems_e, eNeg_e, eFld_e, bNil_e, bCons_e, bArg_e, eFn_e, eMeth_e, eMeth0_e, eProp_e, eMakeK_e, eMake_e, eIsOwn_e, gNm_e, gTp_e, sNext_e, sBreak_e, sCont_e, sSeq_e, sExpr_e, sRet_e, sIf_e, sAsg_e, sPar_e, sPar3_e, sFor_e, sWhile_e, sSetL_e, sSetD_e, sSetF_e, sMatch_e, iL_e, iT_e, iS_e, iR_e, iEn_e, eLc_e, tYes_e, eDc_e, iEnA_e, iSq_e, eFnP_e, eMethP_e, eMakeP_e, eSortSet_e, eRev_e, eListRg_e, oAdd_ii, oAdd_ss, oAdd_ll, oAdd_tt, oSub_ii, oMul_ii, oMul_li, oMod_ii, oFdv_ii, oLt_ii, oLe_ii, oGt_ii, oGe_ii, oEq_e, oNe_e, oIsN_e, oNotN_e, oIn_e, oNotIn_e, oInD_e, fLen_e, fList_e, fTuple_e, fInt_i, fInt_b, fAll_e, fAny_e, fSortS_e, fRepr_e, fDict_e, fOwnLen_e, oOwnEq_e, oOwnNe_e, drawM_e, eVar_eq, ofO_bind, ofO_bind2, need_bind, need_bind2, ite_bind, ite_bind2, back_ite, ownO_eq, wp_ret', v_ret, bind2_bind, bind_bind2, bind2_bind2, Tr.bind_assoc, back_bind, defM, List.cons_append, List.nil_append, List.replicate_succ, List.replicate_zero, List.getElem?_cons_zero, List.getElem?_cons_succ, List.set_cons_zero, List.set_cons_succ, List.length_cons, List.length_nil, List.all_cons, List.all_nil, Bool.and_true, Bool.true_and, Bool.and_self, beq_self_eq_true, decide_true, decide_false, if_true, if_false, Bool.not_true, Bool.not_false, wipeD, isI_non, isI_bl, isI_int, isI_str, isI_lst, isI_tup, isI_dic, isI_ins, Option.getD_some, ite_true, ite_false, reduceCtorEq, Bool.false_eq_true, Nat.reduceAdd, Nat.reduceLeDiff, Nat.reduceLT, Nat.reduceBEq, Nat.reduceEqDiff, Option.bind_some, Option.isNone_none, Option.isNone_some, Option.isSome_some, Option.isSome_none, mNil', mAny', List.map_cons, List.map_nil, Option.map_some, Option.map_none, Int.reduceAdd, ok_non, ok_bl, ok_int, ok_str, ok_lst, ok_tup, ixD_tup, ixD_lst, atI_0, atI_1, atI_2, atI_3, atI_4, atI_5, atI_6, atI_7, eqD_bl, cast2, cast0, cast1, cast3, cast4, cast5, cast6, cast7, cast8, slD_lst, slD_tup, slD_str, cut_1, cut_2, cut_3, isN_non, stepC_e, stepK_e, isN_tup, isN_int, isT_str, isT_int, isT_bool, isT_tuple, isT_list, isT_dict, eqD_int, eqD_str, ite_bind, loopT_nil, loopT_cons, thenL_nx, thenL_rt, instO_e, instS_bi, instS_oi, withF_bi, withF_oi, biO_e, endI_nx, defI_e, sNever_e, Bool.true_or, Bool.or_true, Bool.or_false, Bool.false_or, Bool.false_and, Bool.and_false, back_draw, bind2_draw, draw_e, Int.reduceBEq, Int.reduceSub, Int.reduceNeg, Int.reduceLT, Int.reduceLE, and_self, true_and, and_true, odO_eq, aStar_e, fStr_x, iItO_e, iZp_e, zpT_2, List.append_nil, ownD_od, zipO_lt, zipO_ll, zipO_tt, zipD_c, zipD_n, zipD_n2, seqD_l, seqD_t, strD_str, eMakeD_e, dbls_cons, dbls_nil, eShow_e, shT_d, shT_ld, eLd_e, ldT_d, ldT_ld, eDgL_e, dgT_d, dgT_ld, eLend_e, leT_od, leT_ol, blank_d, blank_src, blank_no, blank_ld, blank_ol, blank_od, blank_oi, blank_bi, flatO_bl, flatO_int, arg_ld, argOk_ld, pend_ld, eqP_e, fListK_x, fDictP_x, sForIt_e, datO_e, datS_d, eMov_e, movS_ol, movS_od, movS_oi, eqD_tnil, inSeq_tup, inSeq_lst, flat_int, flat_str, flat_non, flat_bl, inD_nil, inD_cons, inDp_tup, inDp_lst, eqD_tcons, eqD_tnil2, eqD_tnn, insW, isInsW, lkW1, lkW2, lkW3, lkW5, lkW4, lkW_page, lkW_frame, lkW_entry, lkW_parts, lkW_entries, lkW_need, insSc, isInsSc, lkS1, lkS2, lkS_guards, lkS_entries, scput1, scput2, scput3, ofS_inj, String.reduceEq, eqD_refl])
local macro_rules | `(tactic| walk_at "ev") => `(tactic| try simp only [bind_ret, bind_fail, bind_draw, bind2_ret, ofO_some, ofO_none, need_true, need_false, back_ret, wp_ret, varT_src, varT_d, varT_ol, varT_od, varT_oi, dat_d, dat_ol, dat_od, dat_oi, arg_d, arg_src, arg_ol, arg_od, arg_oi, noNo_d, noNo_ol, noNo_od, noNo_oi, argOk_d, argOk_src, blO_bl, intO_int, endM_nx, endM_rt, thenS_nx, thenS_rt, dlst_lst, dint_int, dstr_str, seqD_lst, seqD_tup, itemsD_lst, itemsD_tup, itemsD_str, cp_one, lst1_one, int1_one, lenD_lst, lenD_tup, lenD_str, insOf_me, two_eq, three_eq, pend_d, pend_ol, pend_od, tupO_eq, gsCons_eq, gsNil_eq, mVal_eq, dicO_dic, dtup_tup, keyD_str, keyD_int, eC_e, aNil_e, aCons_e, eTup_e, eLst_e, eDic0_e, eOp_e, tTru_e, tTst_e, tNot_e, tAnd_e, tOr_e, eAnd_e, eOr_e, eNot_e, eIf_e, eCall_e, eIx_e, oNo_e, oSome_e, eSl_e, eChain_e, eIsi_e, eIsi2_e, eDg_e, eDin_e, eApp_e, eExt_e, ePop_e, eIns_e, tOwnNe_e, eOwnLen_e, eOwnIx_e, eOwnIn_e, eClr_e, eJoin_e, eItems_e, eNeg_e, eFld_e, bNil_e, bCons_e, bArg_e, eFn_e, eMeth_e, eMeth0_e, eProp_e, eMakeK_e, eMake_e, eIsOwn_e, gNm_e, gTp_e, sNext_e, sBreak_e, sCont_e, sSeq_e, sExpr_e, sRet_e, sIf_e, sAsg_e, sPar_e, sPar3_e, sFor_e, sWhile_e, sSetL_e, sSetD_e, sSetF_e, sMatch_e, iL_e, iT_e, iS_e, iR_e, iEn_e, eLc_e, tYes_e, eDc_e, iEnA_e, iSq_e, eFnP_e, eMethP_e, eMakeP_e, eSortSet_e, eRev_e, eListRg_e, oAdd_ii, oAdd_ss, oAdd_ll, oAdd_tt, oSub_ii, oMul_ii, oMul_li, oMod_ii, oFdv_ii, oLt_ii, oLe_ii, oGt_ii, oGe_ii, oEq_e, oNe_e, oIsN_e, oNotN_e, oIn_e, oNotIn_e, oInD_e, fLen_e, fList_e, fTuple_e, fInt_i, fInt_b, fAll_e, fAny_e, fSortS_e, fRepr_e, fDict_e, fOwnLen_e, oOwnEq_e, oOwnNe_e, drawM_e, eVar_eq, ofO_bind, ofO_bind2, need_bind, need_bind2, ite_bind, ite_bind2, back_ite, ownO_eq, wp_ret', v_ret, bind2_bind, bind_bind2, bind2_bind2, Tr.bind_assoc, back_bind, defM, List.cons_append, List.nil_append, List.replicate_succ, List.replicate_zero, List.getElem?_cons_zero, List.getElem?_cons_succ, List.set_cons_zero, List.set_cons_succ, List.length_cons, List.length_nil, List.all_cons, List.all_nil, Bool.and_true, Bool.true_and, Bool.and_self, beq_self_eq_true, decide_true, decide_false, if_true, if_false, Bool.not_true, Bool.not_false, wipeD, isI_non, isI_bl, isI_int, isI_str, isI_lst, isI_tup, isI_dic, isI_ins, Option.getD_some, ite_true, ite_false, reduceCtorEq, Bool.false_eq_true, Nat.reduceAdd, Nat.reduceLeDiff, Nat.reduceLT, Nat.reduceBEq, Nat.reduceEqDiff, Option.bind_some, Option.isNone_none, Option.isNone_some, Option.isSome_some, Option.isSome_none, mNil', mAny', List.map_cons, List.map_nil, Option.map_some, Option.map_none, Int.reduceAdd, ok_non, ok_bl, ok_int, ok_str, ok_lst, ok_tup, ixD_tup, ixD_lst, atI_0, atI_1, atI_2, atI_3, atI_4, atI_5, atI_6, atI_7, eqD_bl, cast2, cast0, cast1, cast3, cast4, cast5, cast6, cast7, cast8, slD_lst, slD_tup, slD_str, cut_1, cut_2, cut_3, isN_non, stepC_e, stepK_e, isN_tup, isN_int, isT_str, isT_int, isT_bool, isT_tuple, isT_list, isT_dict, eqD_int, eqD_str, ite_bind, loopT_nil, loopT_cons, thenL_nx, thenL_rt, instO_e, instS_bi, instS_oi, withF_bi, withF_oi, biO_e, endI_nx, defI_e, sNever_e, Bool.true_or, Bool.or_true, Bool.or_false, Bool.false_or, Bool.false_and, Bool.and_false, back_draw, bind2_draw, draw_e, Int.reduceBEq, Int.reduceSub, Int.reduceNeg, Int.reduceLT, Int.reduceLE, and_self, true_and, and_true, odO_eq, aStar_e, fStr_x, iItO_e, iZp_e, zpT_2, List.append_nil, ownD_od, zipO_lt, zipO_ll, zipO_tt, zipD_c, zipD_n, zipD_n2, seqD_l, seqD_t, strD_str, eMakeD_e, dbls_cons, dbls_nil, eShow_e, shT_d, shT_ld, eLd_e, ldT_d, ldT_ld, eDgL_e, dgT_d, dgT_ld, eLend_e, leT_od, leT_ol, blank_d, blank_src, blank_no, blank_ld, blank_ol, blank_od, blank_oi, blank_bi, flatO_bl, flatO_int, arg_ld, argOk_ld, pend_ld, eqP_e, fListK_x, fDictP_x, sForIt_e, datO_e, datS_d, eMov_e, movS_ol, movS_od, movS_oi])
local macro_rules | `(tactic| walk_at "ifs") => `(tactic| refine ifB (fun h => ?_) (fun h => ?_))
local macro_rules | `(tactic| walk_at "wd") => `(tactic| (with_reducible refine v_draw ?_ ?_ ?_; omega; omega))
local macro_rules | `(tactic| walk_at "wc") => `(tactic| with_reducible refine v_call ?_)
local macro_rules | `(tactic| walk_at "wb") => `(tactic| with_reducible refine v_b ?_)
local macro_rules | `(tactic| walk_at "w2") => `(tactic| with_reducible refine v_b2 ?_)
section
variable {c : Cs} {Z : Exc → Prop} {P : Sl → Prop}
theorem pick_wp {y : D} {xs : List D} (hy : pickIn y xs) (h1 : xs ≠ []) (h2 : xs.length < 1000000) (hp : ∀ x ∈ xs, P (.d x)) : V Z (m__law_pick c [.src, .d y]) P := by
  have h0 := List.length_pos_iff.mpr h1
  unfold m__law_pick b__law_pick
  walk_at "sv"
  rw [pick_len hy]
  walk_at "sv"
  walk_at "wd"
  intro r r0 r1
  obtain ⟨x, e1, e2⟩ := pick_at hy r0 r1
  rw [e1]
  walk_at "sv"
  exact hp x e2
theorem shuffled_wp {y : D} {xs : List D} (hy : seqD y = some xs) (h2 : xs.length ≤ 1000) (hok : xs.all (ok 50) = true) (hp : ∀ ys : List D, ys.Perm xs → P (.d (.lst ys))) : V Z (m__law_shuffled c [.src, .d y]) P := by
  unfold m__law_shuffled b__law_shuffled
  walk_at "sv"
  rw [hy]
  walk_at "sv"
  walk_at "wb"
  refine v_while (fun m ρ => ∃ l f, ρ = [.src, .d y, .ol l, .ol f] ∧ l.length = m ∧ (l ++ f).Perm xs) xs.length big _ (by show xs.length < 1000000; omega) ⟨xs, [], rfl, rfl, by simp⟩ fun m ρ h => ?_
  obtain ⟨l, f, rfl, hm, hpm⟩ := h
  have hlen := hpm.length_eq
  rw [List.length_append] at hlen
  have hall : l.all (ok 50) = true := List.all_eq_true.mpr fun x hx => List.all_eq_true.mp hok x (hpm.mem_iff.mp (List.mem_append_left _ hx))
  walk_at "sv"
  rw [hall]
  walk_at "sv"
  cases hl : l with
  | nil =>
    subst hl
    rw [if_neg (by simp)]
    walk_at "sv"
    exact hp f (by simpa using hpm)
  | cons z zs =>
    rw [← hl]
    have h0 : l.length ≠ 0 := by rw [hl]; simp
    rw [if_pos (by rw [hl]; rfl)]
    walk_at "sv"
    walk_at "wd"
    intro r r0 r1
    have hj : r.toNat < l.length := by omega
    rw [decide_eq_true r0]
    walk_at "sv"
    rw [decide_eq_true (show l.length < 1000000 by omega), List.getElem?_eq_getElem hj]
    walk_at "sv"
    rw [decide_eq_true (show f.length < 1000000 by omega)]
    walk_at "sv"
    refine ⟨m - 1, by omega, l.eraseIdx r.toNat, f ++ [l[r.toNat]], rfl, ?_, (perm_pop (List.getElem?_eq_getElem hj)).trans hpm⟩
    rw [List.length_eraseIdx, if_pos hj]; omega
theorem pick2_wp {a b : Str} (hp : ∀ s : Str, s = a ∨ s = b → P (.d (.str s))) : V Z (m__law_pick c [.src, .d (.lst [.str a, .str b])]) P := by
  refine pick_wp (.inl rfl) (by simp) (by simp) fun x hx => ?_
  simp only [List.mem_cons, List.not_mem_nil, or_false] at hx
  rcases hx with rfl | rfl
  · exact hp _ (.inl rfl)
  · exact hp _ (.inr rfl)
theorem cell_wp {n : Int} (h0 : 0 < n) (h1 : n < 1000000) (hp : ∀ x, cellOk n x → P (.d x)) : V Z (m__law_cell c [.src, .d (.int n)]) P := by
  unfold m__law_cell b__law_cell
  walk_at "sv"
  walk_at "wd"
  intro r r0 r1
  cases r == 0
  · walk_at "sv"
    walk_at "wd"
    intro r r0 r1
    walk_at "wc"
    refine pick2_wp fun s hs => ?_
    walk_at "sv"
    exact hp _ (.inr ⟨r, s, rfl, r0, r1, hs⟩)
  · walk_at "sv"
    exact hp _ (.inl rfl)
end

end K02
namespace K02
open PySem L2 Fl Tr Sv
local macro_rules | `(tactic| walk_at "sv") => `(tactic| try simp only [bind_ret, bind_fail, bind_draw, bind2_ret, ofO_some, ofO_none, need_true, need_false, back_ret, wp_ret, varT_src, varT_d, varT_ol, varT_od, varT_oi, dat_d, dat_ol, dat_od, dat_oi, arg_d, arg_src, arg_ol, arg_od, arg_oi, noNo_d, noNo_ol, noNo_od, noNo_oi, argOk_d, argOk_src, blO_bl, intO_int, endM_nx, endM_rt, thenS_nx, thenS_rt, dlst_lst, dint_int, dstr_str, seqD_lst, seqD_tup, itemsD_lst, itemsD_tup, itemsD_str, cp_one, lst1_one, int1_one, lenD_lst, lenD_tup, lenD_str, insOf_me, two_eq, three_eq, pend_d, pend_ol, pend_od, tupO_eq, gsCons_eq, gsNil_eq, mVal_eq, dicO_dic, dtup_tup, keyD_str, keyD_int, eC_e, aNil_e, aCons_e, eTup_e, eLst_e, eDic0_e, eOp_e, tTru_e, tTst_e, tNot_e, tAnd_e, tOr_e, eAnd_e, eOr_e, eNot_e, eIf_e, eCall_e, eIx_e, oNo_e, oSome_e, eSl_e, eChain_e, eIsi_e, eIsi2_e, eDg_e, eDin_e, eApp_e, eExt_e, ePop_e, eIns_e, tOwnNe_e, eOwnLen_e, eOwnIx_e, eOwnIn_e, eClr_e, eJoin_e, eItems_e, eNeg_e, eFld_e, bNil_e, bCons_e, bArg_e, eFn_e, eMeth_e, eMeth0_e, eProp_e, eMakeK_e, eMake_e, eIsOwn_e, gNm_e, gTp_e, sNext_e, sBreak_e, sCont_e, sSeq_e, sExpr_e, sRet_e, sIf_e, sAsg_e, sPar_e, sPar3_e, sFor_e, sWhile_e, sSetL_e, sSetD_e, sSetF_e, sMatch_e, iL_e, iT_e, iS_e, iR_e, iEn_e, eLc_e, tYes_e, eDc_e, iEnA_e, iSq_e, eFnP_e, eMethP_e, eMakeP_e, eSortSet_e, eRev_e, eListRg_e, oAdd_ii, oAdd_ss, oAdd_ll, oAdd_tt, oSub_ii, oMul_ii, oMul_li, oMod_ii, oFdv_ii, oLt_ii, oLe_ii, oGt_ii, oGe_ii, oEq_e, oNe_e, oIsN_e, oNotN_e, oIn_e, oNotIn_e, oInD_e, fLen_e, fList_e, fTuple_e, fInt_i, fInt_b, fAll_e, fAny_e, fSortS_e, fRepr_e, fDict_e, fOwnLen_e, oOwnEq_e, oOwnNe_e, drawM_e, eVar_eq, ofO_bind, ofO_bind2, need_bind, need_bind2, ite_bind, ite_bind2, back_ite, ownO_eq, wp_ret', v_ret, bind2_bind, bind_bind2, bind2_bind2, Tr.bind_assoc, back_bind, defM, List.cons_append, List.nil_append, List.replicate_succ, List.replicate_zero, List.getElem?_cons_zero, List.getElem?_cons_succ, List.set_cons_zero, List.set_cons_succ, List.length_cons, List.length_nil, List.all_cons, List.all_nil, Bool.and_true, Bool.true_and, Bool.and_self, beq_self_eq_true, decide_true, decide_false, if_true, if_false, Bool.not_true, Bool.not_false, wipeD, isI_non, isI_bl, isI_int, isI_str, isI_lst, isI_tup, isI_dic, isI_ins, Option.getD_some, ite_true, ite_false, reduceCtorEq, Bool.false_eq_true, Nat.reduceAdd, Nat.reduceLeDiff, Nat.reduceLT, Nat.reduceBEq, Nat.reduceEqDiff, Option.bind_some, Option.isNone_none, Option.isNone_some, Option.isSome_some, Option.isSome_none, mNil', mAny', List.map_cons, List.map_nil, Option.map_some, Option.map_none, Int.reduceAdd, ok_non, ok_bl, ok_int, ok_str, ok_lst, ok_tup, ixD_tup, ixD_lst, atI_0, atI_1, atI_2, atI_3, atI_4, atI_5, atI_6, atI_7, eqD_bl, cast2, cast0, cast1, cast3, cast4, cast5, cast6, cast7, cast8, slD_lst, slD_tup, slD_str, cut_1, cut_2, cut_3, isN_non, stepC_e, stepK_e, isN_tup, isN_int, isT_str, isT_int, isT_bool, isT_tuple, isT_list, isT_dict, eqD_int, eqD_str, ite_bind, loopT_nil, loopT_cons, thenL_nx, thenL_rt, instO_e, instS_bi, instS_oi, withF_bi, withF_oi, biO_e, endI_nx, defI_e, sNever_e, Bool.true_or, Bool.or_true, Bool.or_false, Bool.false_or, Bool.false_and, Bool.and_false, back_draw, bind2_draw, draw_e, Int.reduceBEq, Int.reduceSub, Int.reduceNeg, Int.reduceLT, Int.reduceLE, and_self, true_and, and_true, odO_eq, aStar_e, fStr_x, iItO_e, iZp_e, zpT_2, List.append_nil, ownD_od, zipO_lt, zipO_ll, zipO_tt, zipD_c, zipD_n, zipD_n2, seqD_l, seqD_t, strD_str, eMakeD_e, dbls_cons, dbls_nil, eShow_e, shT_d, shT_ld, eLd_e, ldT_d, ldT_ld, eDgL_e, dgT_d, dgT_ld, eLend_e, leT_od, leT_ol, blank_d, blank_src, blank_no, blank_ld, blank_ol, blank_od, blank_oi, blank_bi, flatO_bl, flatO_int, arg_ld, argOk_ld, pend_ld, eqP_e, fListK_x, fDictP_x, sForIt_e, datO_e, datS_d, eMov_e, movS_ol, movS_od, movS_oi, eqD_tnil, inSeq_tup, inSeq_lst, flat_int, flat_str, flat_non, flat_bl, inD_nil, inD_cons, inDp_tup, inDp_lst, eqD_tcons, eqD_tnil2, eqD_tnn, insW, isInsW, lkW1, lkW2, lkW3, lkW5, lkW4, lkW_page, lkW_frame, lkW_entry, lkW_parts, lkW_entries, lkW_need, insSc, isInsSc, lkS1, lkS2, lkS_guards, lkS_entries, scput1, scput2, scput3, ofS_inj, String.reduceEq, eqD_refl])
local macro_rules | `(tactic| walk_at "ev") => `(tactic| try simp only [bind_ret, bind_fail, bind_draw, bind2_ret, ofO_some, ofO_none, need_true, need_false, back_ret, wp_ret, varT_src, varT_d, varT_ol, varT_od, varT_oi, dat_d, dat_ol, dat_od, dat_oi, arg_d, arg_src, arg_ol, arg_od, arg_oi, noNo_d, noNo_ol, noNo_od, noNo_oi, argOk_d, argOk_src, blO_bl, intO_int, endM_nx, endM_rt, thenS_nx, thenS_rt, dlst_lst, dint_int, dstr_str, seqD_lst, seqD_tup, itemsD_lst, itemsD_tup, itemsD_str, cp_one, lst1_one, int1_one, lenD_lst, lenD_tup, lenD_str, insOf_me, two_eq, three_eq, pend_d, pend_ol, pend_od, tupO_eq, gsCons_eq, gsNil_eq, mVal_eq, dicO_dic, dtup_tup, keyD_str, keyD_int, eC_e, aNil_e, aCons_e, eTup_e, eLst_e, eDic0_e, eOp_e, tTru_e, tTst_e, tNot_e, tAnd_e, tOr_e, eAnd_e, eOr_e, eNot_e, eIf_e, eCall_e, eIx_e, oNo_e, oSome_e, eSl_e, eChain_e, eIsi_e, eIsi2_e, eDg_e, eDin_e, eApp_e, eExt_e, ePop_e, eIns_e, tOwnNe_e, eOwnLen_e, eOwnIx_e, eOwnIn_e, eClr_e, eJoin_e, eItems_e, eNeg_e, eFld_e, bNil_e, bCons_e, bArg_e, eFn_e, eMeth_e, eMeth0_e, eProp_e, eMakeK_e, eMake_e, eIsOwn_e, gNm_e, gTp_e, sNext_e, sBreak_e, sCont_e, sSeq_e, sExpr_e, sRet_e, sIf_e, sAsg_e, sPar_e, sPar3_e, sFor_e, sWhile_e, sSetL_e, sSetD_e, sSetF_e, sMatch_e, iL_e, iT_e, iS_e, iR_e, iEn_e, eLc_e, tYes_e, eDc_e, iEnA_e, iSq_e, eFnP_e, eMethP_e, eMakeP_e, eSortSet_e, eRev_e, eListRg_e, oAdd_ii, oAdd_ss, oAdd_ll, oAdd_tt, oSub_ii, oMul_ii, oMul_li, oMod_ii, oFdv_ii, oLt_ii, oLe_ii, oGt_ii, oGe_ii, oEq_e, oNe_e, oIsN_e, oNotN_e, oIn_e, oNotIn_e, oInD_e, fLen_e, fList_e, fTuple_e, fInt_i, fInt_b, fAll_e, fAny_e, fSortS_e, fRepr_e, fDict_e, fOwnLen_e, oOwnEq_e, oOwnNe_e, drawM_e, eVar_eq, ofO_bind, ofO_bind2, need_bind, need_bind2, ite_bind, ite_bind2, back_ite, ownO_eq, wp_ret', v_ret, bind2_bind, bind_bind2, bind2_bind2, Tr.bind_assoc, back_bind, defM, List.cons_append, List.nil_append, List.replicate_succ, List.replicate_zero, List.getElem?_cons_zero, List.getElem?_cons_succ, List.set_cons_zero, List.set_cons_succ, List.length_cons, List.length_nil, List.all_cons, List.all_nil, Bool.and_true, Bool.true_and, Bool.and_self, beq_self_eq_true, decide_true, decide_false, if_true, if_false, Bool.not_true, Bool.not_false, wipeD, isI_non, isI_bl, isI_int, isI_str, isI_lst, isI_tup, isI_dic, isI_ins, Option.getD_some, ite_true, ite_false, reduceCtorEq, Bool.false_eq_true, Nat.reduceAdd, Nat.reduceLeDiff, Nat.reduceLT, Nat.reduceBEq, Nat.reduceEqDiff, Option.bind_some, Option.isNone_none, Option.isNone_some, Option.isSome_some, Option.isSome_none, mNil', mAny', List.map_cons, List.map_nil, Option.map_some, Option.map_none, Int.reduceAdd, ok_non, ok_bl, ok_int, ok_str, ok_lst, ok_tup, ixD_tup, ixD_lst, atI_0, atI_1, atI_2, atI_3, atI_4, atI_5, atI_6, atI_7, eqD_bl, cast2, cast0, cast1, cast3, cast4, cast5, cast6, cast7, cast8, slD_lst, slD_tup, slD_str, cut_1, cut_2, cut_3, isN_non, stepC_e, stepK_e, isN_tup, isN_int, isT_str, isT_int, isT_bool, isT_tuple, isT_list, isT_dict, eqD_int, eqD_str, ite_bind, loopT_nil, loopT_cons, thenL_nx, thenL_rt, instO_e, instS_bi, instS_oi, withF_bi, withF_oi, biO_e, endI_nx, defI_e, sNever_e, Bool.true_or, Bool.or_true, Bool.or_false, Bool.false_or, Bool.false_and, Bool.and_false, back_draw, bind2_draw, draw_e, Int.reduceBEq, Int.reduceSub, Int.reduceNeg, Int.reduceLT, Int.reduceLE, and_self, true_and, and_true, odO_eq, aStar_e, fStr_x, iItO_e, iZp_e, zpT_2, List.append_nil, ownD_od, zipO_lt, zipO_ll, zipO_tt, zipD_c, zipD_n, zipD_n2, seqD_l, seqD_t, strD_str, eMakeD_e, dbls_cons, dbls_nil, eShow_e, shT_d, shT_ld, eLd_e, ldT_d, ldT_ld, eDgL_e, dgT_d, dgT_ld, eLend_e, leT_od, leT_ol, blank_d, blank_src, blank_no, blank_ld, blank_ol, blank_od, blank_oi, blank_bi, flatO_bl, flatO_int, arg_ld, argOk_ld, pend_ld, eqP_e, fListK_x, fDictP_x, sForIt_e, datO_e, datS_d, eMov_e, movS_ol, movS_od, movS_oi])
local macro_rules | `(tactic| walk_at "ifs") => `(tactic| refine ifB (fun h => ?_) (fun h => ?_))
local macro_rules | `(tactic| walk_at "wd") => `(tactic| (with_reducible refine v_draw ?_ ?_ ?_; omega; omega))
local macro_rules | `(tactic| walk_at "wc") => `(tactic| with_reducible refine v_call ?_)
local macro_rules | `(tactic| walk_at "wb") => `(tactic| with_reducible refine v_b ?_)
local macro_rules | `(tactic| walk_at "w2") => `(tactic| with_reducible refine v_b2 ?_)
section
variable {c : Cs} {Z : Exc → Prop} {P : Sl → Prop}
def labTail (c : Cs) : S' := (sSeq (sAsg (eLc (iSq' (eVar 2)) (gNm' 9) tYes' (eOp oAdd (eOp oAdd (eSl (eVar 6) oNo' (oSome' (eC (.int 6)))) (eC (.str "x"))) (eVar 9)) [9]) (gNm' 8)) (sExpr (eApp 3 (eIx (eLc (iSq' (eOp oAdd (eLst (aCons (eVar 6) aNil)) (eVar 8))) (gNm' 10) (tTst (eOwnIn true 3 (eVar 10))) (eVar 10) [10]) (eC (.int 0))))))
theorem labels_e : m__law_labels c = defM 9 (sSeq (sPar 2 3 (bCons' (eC (.str "abcdefghijklmnopqrstuvwxyz")) (bCons' (eLst aNil) bNil'))) (sSeq (sAsg (eLst (aCons (eC (.str "a")) (aCons (eC (.str "b")) (aCons (eC (.str "c")) (aCons (eC (.str "all")) (aCons (eC (.str "running")) (aCons (eC (.str "node")) (aCons (eC (.str "wait")) (aCons (eC (.str "any")) (aCons (eC (.str "abcdefgh")) aNil)))))))))) (gNm' 4)) (sSeq (sFor (iR' (aCons (eVar 1) aNil)) (gNm' 5) (sSeq (sAsg (eFn 2 (m__law_pick c) (bArg' (eVar 0) (bArg' (eVar 4) bNil'))) (gNm' 6)) (sSeq (sIf (tTst (eOp oGt (eFn 2 (m__law_draw c) (bArg' (eVar 0) (bArg' (eC (.int 3)) bNil'))) (eC (.int 0)))) (sAsg (eJoin (eC (.str "")) (eLc (iR' (aCons (eFn 2 (m__law_pick c) (bArg' (eVar 0) (bArg' (eLst (aCons (eC (.int 1)) (aCons (eC (.int 1)) (aCons (eC (.int 2)) (aCons (eC (.int 8)) aNil))))) bNil'))) aNil)) (gNm' 7) tYes' (eFn 2 (m__law_pick c) (bArg' (eVar 0) (bArg' (eVar 2) bNil'))) [7])) (gNm' 6)) sNext) (labTail c)))) (sRet (eVar 3))))) := rfl
abbrev alph : Sl := .d (.str (Str.ofString "abcdefghijklmnopqrstuvwxyz"))
def LI (m : Int) (pre : List D) (ρ : Env') : Prop := ∃ (f : List Str) (s4 s5 s6 s8 : Sl), ρ = [.src, .d (.int m), alph, .ol (f.map .str), s4, s5, s6, .no, s8, .no, .no] ∧ (s4 = .ol (ownL.map .str) ∨ s4 = .d (.lst (ownL.map .str))) ∧ f.length = pre.length ∧ f.Nodup ∧ ∀ s ∈ f, nameS s = true
theorem labTail_wp {Q : Out → Prop} {m : Int} {w : Str} {f : List Str} {x5 s8 : Sl} {I : Env' → Prop} (hf2 : f.length ≤ 2) (hw : nameS w = true)
    (hk : ∀ z s8, nameS z = true → z ∉ f → I [.src, .d (.int m), alph, .ol ((f ++ [z]).map .str), .d (.lst (ownL.map .str)), x5, .d (.str w), .no, s8, .no, .no]) :
    V Z (labTail c [.src, .d (.int m), alph, .ol (f.map .str), .d (.lst (ownL.map .str)), x5, .d (.str w), .no, s8, .no, .no]) (turn I Q) := by
  unfold labTail alph
  walk_at "sv"
  rw [lc_map (fun y => match y with | .str z => .str (cutS w none (some 6) ++ "x" ++ z) | _ => .non) _ _ (by rw [letD, List.length_map]; decide) fun y hy => ?_]
  · have eo : ((signs (Str.ofString "abcdefghijklmnopqrstuvwxyz")).map fun y => match y with | .str z => D.str (cutS w none (some 6) ++ "x" ++ z) | _ => .non) = (lets.map (other w)).map .str := by
      rw [show signs (Str.ofString "abcdefghijklmnopqrstuvwxyz") = lets.map fun c => D.str ⟨#[c]⟩ from letD, List.map_map, List.map_map]; rfl
    rw [eo]
    walk_at "sv"
    have d1 : ((lets.map (other w)).map D.str).length = 26 := by rw [List.length_map, List.length_map]; decide +kernel
    rw [d1, decide_eq_true (show 0 + 1 + 26 ≤ 100000 by omega)]
    walk_at "sv"
    rw [lc_fmap (fun y => if (!inD y (f.map .str)) = true then some y else none) _ _ (by simp only [List.length_cons, List.length_map, List.length_nil]; show 0 + (lets.length + 1) < 1000000; decide +kernel) fun y hy => ?_]
    · walk_at "sv"
      have er : (D.str w :: (lets.map (other w)).map D.str).filterMap (fun y => if (!inD y (f.map .str)) = true then some y else none) = ((w :: lets.map (other w)).filter fun z => !decide (z ∈ f)).map D.str := by
        have gen : ∀ zs : List Str, (zs.map D.str).filterMap (fun y => if (!inD y (f.map .str)) = true then some y else none) = (zs.filter fun z => !decide (z ∈ f)).map D.str := by
          intro zs
          induction zs with
          | nil => rfl
          | cons z zs ih =>
            rw [List.map_cons, List.filterMap_cons, List.filter_cons, inD_strs, ih]
            by_cases h : z ∈ f <;> simp [h]
        exact gen (w :: lets.map (other w))
      rw [er]
      obtain ⟨c, hc, hcn⟩ := cand_new (w := w) hf2
      have hmem : other w c ∈ (w :: lets.map (other w)).filter fun z => !decide (z ∈ f) := List.mem_filter.mpr ⟨List.mem_cons_of_mem _ (List.mem_map.mpr ⟨c, hc, rfl⟩), by simpa using hcn⟩
      cases hg : (w :: lets.map (other w)).filter fun z => !decide (z ∈ f) with
      | nil => rw [hg] at hmem; cases hmem
      | cons z zs =>
        have hz : z ∈ (w :: lets.map (other w)).filter fun z => !decide (z ∈ f) := by rw [hg]; simp
        obtain ⟨z1, z2⟩ := List.mem_filter.mp hz
        have z2 : z ∉ f := by simpa using z2
        have z3 : nameS z = true := by
          rcases List.mem_cons.mp z1 with e | z1
          · rw [e]; exact hw
          · obtain ⟨d, hd, rfl⟩ := List.mem_map.mp z1; exact other_name hw hd
        walk_at "sv"
        rw [decide_eq_true (show (f.map D.str).length < 1000000 by rw [List.length_map]; omega)]
        walk_at "sv"
        have := hk z (.d (.lst ((lets.map (other w)).map .str))) z3 z2
        rw [List.map_append] at this
        exact this
    · have hs : ∃ z, y = .str z := by
        rcases List.mem_cons.mp hy with hy | hy
        · exact ⟨w, hy⟩
        · obtain ⟨z, _, rfl⟩ := List.mem_map.mp hy; exact ⟨z, rfl⟩
      obtain ⟨z, rfl⟩ := hs
      walk_at "sv"
      rw [Fl.flat_strs f]
      walk_at "sv"
      split <;> rfl
  · obtain ⟨c, hc, rfl⟩ := List.mem_map.mp hy
    have hc : c ∈ lets := hc
    have l1 := ((nameS_iff _).mp (other_name hw hc)).2.1
    have l2 : (cutS w none (some 6) ++ ("x" : Str)).length + (⟨#[c]⟩ : Str).length ≤ 8 := by rw [← app_len]; exact l1
    have l3 : (cutS w none (some 6)).length + ("x" : Str).length + (⟨#[c]⟩ : Str).length ≤ 8 := by rw [← app_len]; exact l2
    walk_at "sv"
    rw [decide_eq_true (show (cutS w none (some 6)).length + (Str.ofString "x").length ≤ 100000 by have l3 : (cutS w none (some 6)).length + (Str.ofString "x").length + (⟨#[c]⟩ : Str).length ≤ 8 := l3; omega)]
    walk_at "sv"
    rw [decide_eq_true (show (cutS w none (some 6) ++ Str.ofString "x").length + (⟨#[c]⟩ : Str).length ≤ 100000 by have l2 : (cutS w none (some 6) ++ Str.ofString "x").length + (⟨#[c]⟩ : Str).length ≤ 8 := l2; omega)]
    walk_at "sv"
theorem labels_wp {m : Int} (m0 : 0 ≤ m) (m3 : m ≤ 3) (hp : ∀ ls : List Str, ls.length = m.toNat → ls.Nodup → (∀ s ∈ ls, nameS s = true) → P (.d (.lst (ls.map .str)))) : V Z (m__law_labels c [.src, .d (.int m)]) P := by
  rw [labels_e]
  walk_at "sv"
  rw [decide_eq_true (show -1000000 < m ∧ m < 1000000 by omega)]
  walk_at "sv"
  walk_at "wb"
  refine v_loop (LI m) _ [] _ ⟨[], _, _, _, _, rfl, .inl rfl, rfl, List.nodup_nil, by simp⟩ ?_ ?_
  · rintro pr x q ρ e ⟨f, s4, s5, s6, s8, rfl, h4, hfl, hnd, hnm⟩
    have hf2 : f.length ≤ 2 := by
      have := congrArg List.length e
      rw [List.nil_append, upto_len, List.length_append, List.length_cons] at this
      omega
    have tail : ∀ (w : Str) (x5 : Sl) Q, nameS w = true → V Z (labTail c [.src, .d (.int m), alph, .ol (f.map .str), .d (.lst (ownL.map .str)), x5, .d (.str w), .no, s8, .no, .no]) (turn (LI m (pr ++ [x])) Q) := fun w x5 Q hw =>
      labTail_wp hf2 hw fun z t8 h1 h2 => ⟨f ++ [z], _, _, _, _, rfl, .inr rfl, by rw [List.length_append, List.length_append, hfl]; rfl, by
        rw [List.nodup_append]
        exact ⟨hnd, by simp, fun a ha b hb e => by have : b = z := by simpa using hb
                                                   rw [e, this] at ha; exact h2 ha⟩, fun y hy => by
        rcases List.mem_append.mp hy with hy | hy
        · exact hnm y hy
        · have : y = z := by simpa using hy
          rw [this]; exact h1⟩
    unfold alph at tail ⊢
    rcases h4 with rfl | rfl
    all_goals
      walk_at "sv"
      walk_at "wc"
      refine pick_wp (xs := ownL.map .str) (.inl rfl) (by decide) (by decide) fun y hy => ?_
      obtain ⟨w, hw, rfl⟩ := List.mem_map.mp hy
      walk_at "sv"
      walk_at "wd"
      intro r r0 r1
      cases hr : decide (0 < r)
      · walk_at "sv"
        exact tail w _ _ (ownL_ok w hw)
      · walk_at "sv"
        walk_at "wc"
        refine pick_wp (.inl rfl) (by simp) (by simp) fun y hy => ?_
        have hn : ∃ n : Int, y = .int n ∧ 1 ≤ n ∧ n ≤ 8 := by
          simp only [List.mem_cons, List.not_mem_nil, or_false] at hy
          rcases hy with rfl | rfl | rfl | rfl
          · exact ⟨1, rfl, by decide, by decide⟩
          · exact ⟨1, rfl, by decide, by decide⟩
          · exact ⟨2, rfl, by decide, by decide⟩
          · exact ⟨8, rfl, by decide, by decide⟩
        obtain ⟨n, rfl, n1, n8⟩ := hn
        walk_at "sv"
        rw [decide_eq_true (show -1000000 < n ∧ n < 1000000 by omega)]
        walk_at "sv"
        walk_at "w2"
        refine v_rel (fun _ y => ∃ w, y = .str w ∧ ((sOk w = true ∧ w.length = 1) ∧ ∃ c ∈ lets, w = ⟨#[c]⟩)) _ _ (by rw [upto_len]; simp; omega) (fun x hx => ?_) fun ys hl2 hy => ?_
        · walk_at "sv"
          walk_at "wc"
          refine pick_wp (.inr (.inr ⟨_, rfl, rfl⟩)) (by decide +kernel) (by decide +kernel) fun y hy => ?_
          obtain ⟨c, hc, rfl⟩ := List.mem_map.mp hy
          walk_at "sv"
          exact ⟨_, rfl, _, rfl, name_sign hc, c, hc, rfl⟩
        · obtain ⟨ws, rfl, hws⟩ := strs_of (p := fun w => (sOk w = true ∧ w.length = 1) ∧ ∃ c ∈ lets, w = ⟨#[c]⟩) fun y h => let ⟨_, _, q⟩ := hy y h; q
          have hwl : ws.length = n.toNat := by rw [List.length_map, upto_len] at hl2; exact hl2
          obtain ⟨j1, j2, j3, j4⟩ := join_ones (fun w hw => (hws w hw).1) (by omega)
          walk_at "sv"
          rw [strsOf_strs ws]
          walk_at "sv"
          rw [decide_eq_true j1]
          walk_at "sv"
          have j2 : sOk (PySem.Txt.join (Str.ofString "") ws) = true := j2
          rw [j2]
          walk_at "sv"
          refine tail _ _ _ ((nameS_iff _).mpr ⟨?_, ?_, fun c hc => ?_⟩)
          · have j3 : (PySem.Txt.join (Str.ofString "") ws).length = ws.length := j3
            omega
          · have j3 : (PySem.Txt.join (Str.ofString "") ws).length = ws.length := j3
            omega
          · obtain ⟨w2, hw2, hc2⟩ := j4 c hc
            obtain ⟨_, d, hd, rfl⟩ := hws w2 hw2
            have : c = d := by simpa using hc2
            rw [this]; exact hd
  · rintro ρ ⟨f, s4, s5, s6, s8, rfl, h4, hfl, hnd, hnm⟩
    walk_at "sv"
    exact hp f (by rw [hfl, List.nil_append, upto_len]) hnd hnm
end

end K02
namespace K02
open PySem L2 Fl Tr Sv
local macro_rules | `(tactic| walk_at "sv") => `(tactic| try simp only [bind_ret, bind_fail, bind_draw, bind2_ret, ofO_some, ofO_none, need_true, need_false, back_ret, wp_ret, varT_src, varT_d, varT_ol, varT_od, varT_oi, dat_d, dat_ol, dat_od, dat_oi, arg_d, arg_src, arg_ol, arg_od, arg_oi, noNo_d, noNo_ol, noNo_od, noNo_oi, argOk_d, argOk_src, blO_bl, intO_int, endM_nx, endM_rt, thenS_nx, thenS_rt, dlst_lst, dint_int, dstr_str, seqD_lst, seqD_tup, itemsD_lst, itemsD_tup, itemsD_str, cp_one, lst1_one, int1_one, lenD_lst, lenD_tup, lenD_str, insOf_me, two_eq, three_eq, pend_d, pend_ol, pend_od, tupO_eq, gsCons_eq, gsNil_eq, mVal_eq, dicO_dic, dtup_tup, keyD_str, keyD_int, eC_e, aNil_e, aCons_e, eTup_e, eLst_e, eDic0_e, eOp_e, tTru_e, tTst_e, tNot_e, tAnd_e, tOr_e, eAnd_e, eOr_e, eNot_e, eIf_e, eCall_e, eIx_e, oNo_e, oSome_e, eSl_e, eChain_e, eIsi_e, eIsi2_e, eDg_e, eDin_e, eApp_e, eExt_e, ePop_e, eIns_e, tOwnNe_e, eOwnLen_e, eOwnIx_e, eOwnIn_e, eClr_e, eJoin_e, eItems_e, eNeg_e, eFld_e, bNil_e, bCons_e, bArg_e, eFn_e, eMeth_e, eMeth0_e, eProp_e, eMakeK_e, eMake_e, eIsOwn_e, gNm_e, gTp_e, sNext_e, sBreak_e, sCont_e, sSeq_e, sExpr_e, sRet_e, sIf_e, sAsg_e, sPar_e, sPar3_e, sFor_e, sWhile_e, sSetL_e, sSetD_e, sSetF_e, sMatch_e, iL_e, iT_e, iS_e, iR_e, iEn_e, eLc_e, tYes_e, eDc_e, iEnA_e, iSq_e, eFnP_e, eMethP_e, eMakeP_e, eSortSet_e, eRev_e, eListRg_e, oAdd_ii, oAdd_ss, oAdd_ll, oAdd_tt, oSub_ii, oMul_ii, oMul_li, oMod_ii, oFdv_ii, oLt_ii, oLe_ii, oGt_ii, oGe_ii, oEq_e, oNe_e, oIsN_e, oNotN_e, oIn_e, oNotIn_e, oInD_e, fLen_e, fList_e, fTuple_e, fInt_i, fInt_b, fAll_e, fAny_e, fSortS_e, fRepr_e, fDict_e, fOwnLen_e, oOwnEq_e, oOwnNe_e, drawM_e, eVar_eq, ofO_bind, ofO_bind2, need_bind, need_bind2, ite_bind, ite_bind2, back_ite, ownO_eq, wp_ret', v_ret, bind2_bind, bind_bind2, bind2_bind2, Tr.bind_assoc, back_bind, defM, List.cons_append, List.nil_append, List.replicate_succ, List.replicate_zero, List.getElem?_cons_zero, List.getElem?_cons_succ, List.set_cons_zero, List.set_cons_succ, List.length_cons, List.length_nil, List.all_cons, List.all_nil, Bool.and_true, Bool.true_and, Bool.and_self, beq_self_eq_true, decide_true, decide_false, if_true, if_false, Bool.not_true, Bool.not_false, wipeD, isI_non, isI_bl, isI_int, isI_str, isI_lst, isI_tup, isI_dic, isI_ins, Option.getD_some, ite_true, ite_false, reduceCtorEq, Bool.false_eq_true, Nat.reduceAdd, Nat.reduceLeDiff, Nat.reduceLT, Nat.reduceBEq, Nat.reduceEqDiff, Option.bind_some, Option.isNone_none, Option.isNone_some, Option.isSome_some, Option.isSome_none, mNil', mAny', List.map_cons, List.map_nil, Option.map_some, Option.map_none, Int.reduceAdd, ok_non, ok_bl, ok_int, ok_str, ok_lst, ok_tup, ixD_tup, ixD_lst, atI_0, atI_1, atI_2, atI_3, atI_4, atI_5, atI_6, atI_7, eqD_bl, cast2, cast0, cast1, cast3, cast4, cast5, cast6, cast7, cast8, slD_lst, slD_tup, slD_str, cut_1, cut_2, cut_3, isN_non, stepC_e, stepK_e, isN_tup, isN_int, isT_str, isT_int, isT_bool, isT_tuple, isT_list, isT_dict, eqD_int, eqD_str, ite_bind, loopT_nil, loopT_cons, thenL_nx, thenL_rt, instO_e, instS_bi, instS_oi, withF_bi, withF_oi, biO_e, endI_nx, defI_e, sNever_e, Bool.true_or, Bool.or_true, Bool.or_false, Bool.false_or, Bool.false_and, Bool.and_false, back_draw, bind2_draw, draw_e, Int.reduceBEq, Int.reduceSub, Int.reduceNeg, Int.reduceLT, Int.reduceLE, and_self, true_and, and_true, odO_eq, aStar_e, fStr_x, iItO_e, iZp_e, zpT_2, List.append_nil, ownD_od, zipO_lt, zipO_ll, zipO_tt, zipD_c, zipD_n, zipD_n2, seqD_l, seqD_t, strD_str, eMakeD_e, dbls_cons, dbls_nil, eShow_e, shT_d, shT_ld, eLd_e, ldT_d, ldT_ld, eDgL_e, dgT_d, dgT_ld, eLend_e, leT_od, leT_ol, blank_d, blank_src, blank_no, blank_ld, blank_ol, blank_od, blank_oi, blank_bi, flatO_bl, flatO_int, arg_ld, argOk_ld, pend_ld, eqP_e, fListK_x, fDictP_x, sForIt_e, datO_e, datS_d, eMov_e, movS_ol, movS_od, movS_oi, eqD_tnil, inSeq_tup, inSeq_lst, flat_int, flat_str, flat_non, flat_bl, inD_nil, inD_cons, inDp_tup, inDp_lst, eqD_tcons, eqD_tnil2, eqD_tnn, insW, isInsW, lkW1, lkW2, lkW3, lkW5, lkW4, lkW_page, lkW_frame, lkW_entry, lkW_parts, lkW_entries, lkW_need, insSc, isInsSc, lkS1, lkS2, lkS_guards, lkS_entries, scput1, scput2, scput3, ofS_inj, String.reduceEq, eqD_refl])
local macro_rules | `(tactic| walk_at "ev") => `(tactic| try simp only [bind_ret, bind_fail, bind_draw, bind2_ret, ofO_some, ofO_none, need_true, need_false, back_ret, wp_ret, varT_src, varT_d, varT_ol, varT_od, varT_oi, dat_d, dat_ol, dat_od, dat_oi, arg_d, arg_src, arg_ol, arg_od, arg_oi, noNo_d, noNo_ol, noNo_od, noNo_oi, argOk_d, argOk_src, blO_bl, intO_int, endM_nx, endM_rt, thenS_nx, thenS_rt, dlst_lst, dint_int, dstr_str, seqD_lst, seqD_tup, itemsD_lst, itemsD_tup, itemsD_str, cp_one, lst1_one, int1_one, lenD_lst, lenD_tup, lenD_str, insOf_me, two_eq, three_eq, pend_d, pend_ol, pend_od, tupO_eq, gsCons_eq, gsNil_eq, mVal_eq, dicO_dic, dtup_tup, keyD_str, keyD_int, eC_e, aNil_e, aCons_e, eTup_e, eLst_e, eDic0_e, eOp_e, tTru_e, tTst_e, tNot_e, tAnd_e, tOr_e, eAnd_e, eOr_e, eNot_e, eIf_e, eCall_e, eIx_e, oNo_e, oSome_e, eSl_e, eChain_e, eIsi_e, eIsi2_e, eDg_e, eDin_e, eApp_e, eExt_e, ePop_e, eIns_e, tOwnNe_e, eOwnLen_e, eOwnIx_e, eOwnIn_e, eClr_e, eJoin_e, eItems_e, eNeg_e, eFld_e, bNil_e, bCons_e, bArg_e, eFn_e, eMeth_e, eMeth0_e, eProp_e, eMakeK_e, eMake_e, eIsOwn_e, gNm_e, gTp_e, sNext_e, sBreak_e, sCont_e, sSeq_e, sExpr_e, sRet_e, sIf_e, sAsg_e, sPar_e, sPar3_e, sFor_e, sWhile_e, sSetL_e, sSetD_e, sSetF_e, sMatch_e, iL_e, iT_e, iS_e, iR_e, iEn_e, eLc_e, tYes_e, eDc_e, iEnA_e, iSq_e, eFnP_e, eMethP_e, eMakeP_e, eSortSet_e, eRev_e, eListRg_e, oAdd_ii, oAdd_ss, oAdd_ll, oAdd_tt, oSub_ii, oMul_ii, oMul_li, oMod_ii, oFdv_ii, oLt_ii, oLe_ii, oGt_ii, oGe_ii, oEq_e, oNe_e, oIsN_e, oNotN_e, oIn_e, oNotIn_e, oInD_e, fLen_e, fList_e, fTuple_e, fInt_i, fInt_b, fAll_e, fAny_e, fSortS_e, fRepr_e, fDict_e, fOwnLen_e, oOwnEq_e, oOwnNe_e, drawM_e, eVar_eq, ofO_bind, ofO_bind2, need_bind, need_bind2, ite_bind, ite_bind2, back_ite, ownO_eq, wp_ret', v_ret, bind2_bind, bind_bind2, bind2_bind2, Tr.bind_assoc, back_bind, defM, List.cons_append, List.nil_append, List.replicate_succ, List.replicate_zero, List.getElem?_cons_zero, List.getElem?_cons_succ, List.set_cons_zero, List.set_cons_succ, List.length_cons, List.length_nil, List.all_cons, List.all_nil, Bool.and_true, Bool.true_and, Bool.and_self, beq_self_eq_true, decide_true, decide_false, if_true, if_false, Bool.not_true, Bool.not_false, wipeD, isI_non, isI_bl, isI_int, isI_str, isI_lst, isI_tup, isI_dic, isI_ins, Option.getD_some, ite_true, ite_false, reduceCtorEq, Bool.false_eq_true, Nat.reduceAdd, Nat.reduceLeDiff, Nat.reduceLT, Nat.reduceBEq, Nat.reduceEqDiff, Option.bind_some, Option.isNone_none, Option.isNone_some, Option.isSome_some, Option.isSome_none, mNil', mAny', List.map_cons, List.map_nil, Option.map_some, Option.map_none, Int.reduceAdd, ok_non, ok_bl, ok_int, ok_str, ok_lst, ok_tup, ixD_tup, ixD_lst, atI_0, atI_1, atI_2, atI_3, atI_4, atI_5, atI_6, atI_7, eqD_bl, cast2, cast0, cast1, cast3, cast4, cast5, cast6, cast7, cast8, slD_lst, slD_tup, slD_str, cut_1, cut_2, cut_3, isN_non, stepC_e, stepK_e, isN_tup, isN_int, isT_str, isT_int, isT_bool, isT_tuple, isT_list, isT_dict, eqD_int, eqD_str, ite_bind, loopT_nil, loopT_cons, thenL_nx, thenL_rt, instO_e, instS_bi, instS_oi, withF_bi, withF_oi, biO_e, endI_nx, defI_e, sNever_e, Bool.true_or, Bool.or_true, Bool.or_false, Bool.false_or, Bool.false_and, Bool.and_false, back_draw, bind2_draw, draw_e, Int.reduceBEq, Int.reduceSub, Int.reduceNeg, Int.reduceLT, Int.reduceLE, and_self, true_and, and_true, odO_eq, aStar_e, fStr_x, iItO_e, iZp_e, zpT_2, List.append_nil, ownD_od, zipO_lt, zipO_ll, zipO_tt, zipD_c, zipD_n, zipD_n2, seqD_l, seqD_t, strD_str, eMakeD_e, dbls_cons, dbls_nil, eShow_e, shT_d, shT_ld, eLd_e, ldT_d, ldT_ld, eDgL_e, dgT_d, dgT_ld, eLend_e, leT_od, leT_ol, blank_d, blank_src, blank_no, blank_ld, blank_ol, blank_od, blank_oi, blank_bi, flatO_bl, flatO_int, arg_ld, argOk_ld, pend_ld, eqP_e, fListK_x, fDictP_x, sForIt_e, datO_e, datS_d, eMov_e, movS_ol, movS_od, movS_oi])
local macro_rules | `(tactic| walk_at "ifs") => `(tactic| refine ifB (fun h => ?_) (fun h => ?_))
local macro_rules | `(tactic| walk_at "wd") => `(tactic| (with_reducible refine v_draw ?_ ?_ ?_; omega; omega))
local macro_rules | `(tactic| walk_at "wc") => `(tactic| with_reducible refine v_call ?_)
local macro_rules | `(tactic| walk_at "wb") => `(tactic| with_reducible refine v_b ?_)
local macro_rules | `(tactic| walk_at "w2") => `(tactic| with_reducible refine v_b2 ?_)
section
variable {c : Cs} {Z : Exc → Prop} {P : Sl → Prop}
theorem parts_wp {m : Int} (m1 : 1 ≤ m) (m3 : m ≤ 3) (hp : ∀ q : Parts, q.Ok → P (.d q.d)) : V Z (m__law_parts c [.src, .d (.int m)]) P := by
  unfold m__law_parts b__law_parts
  walk_at "sv"
  walk_at "wd"
  intro r r0 r1
  walk_at "wc"
  refine labels_wp (by omega) (by omega) fun ls0 l1 l2 l3 => ?_
  walk_at "sv"
  have hall : ls0.all sOk = true := List.all_eq_true.mpr fun s hs => nameS_ok (l3 s hs)
  rw [fSort_strs, hall, decide_eq_true (show ls0.length < 64 by omega)]
  have hperm := sortS_perm ls0
  have hsd := sortS_sorted ls0
  generalize sortS ls0 = ls at *
  have L0 : LabelsOk ls := ⟨by rw [hperm.length_eq, l1]; omega, by rw [hperm.length_eq, l1]; omega, fun s h => l3 s (hperm.mem_iff.mp h), hsd, hperm.nodup_iff.mpr l2⟩
  walk_at "sv"
  walk_at "wd"
  intro pp p0 p1
  walk_at "wd"
  intro ff f0 f1
  obtain ⟨pn, hpn⟩ : ∃ n : Nat, 1 + pp = (n : Int) := ⟨(1 + pp).toNat, by omega⟩
  generalize hf : 1 + ff = f
  rw [hpn]
  have hl3 := L0.hi
  walk_at "wc"
  refine shuffled_wp seqD_tup (by rw [List.length_map]; omega) ((ok_strs 50 ls).1) fun zs hz => ?_
  obtain ⟨us, rfl, hu⟩ := strs_of (ys := zs) (p := fun s => s ∈ ls) fun y hy => by
    obtain ⟨s, h1, h2⟩ := List.mem_map.mp (hz.mem_iff.mp hy)
    exact ⟨s, h2.symm, h1⟩
  have und : (us.map (Sum.inr : Str → Key)).Nodup := by
    have h := nodup_inr L0.nd
    rw [← map_keyS] at h ⊢
    exact (hz.map keyJ).nodup_iff.mpr h
  have uln : us.length = ls.length := by have := hz.length_eq; simpa using this
  walk_at "sv"
  walk_at "wb"
  refine v_loop (fun pre ρ => ∃ (vs : List D) (s6 : Sl), ρ = [.src, .d (.int m), .d (.tup (ls.map .str)), .d (.int pn), .d (.int f), .od (pre.map keyJ) vs, s6, .no] ∧ pre.length = vs.length ∧ ∀ v ∈ vs, rowOk pn f v) _ [] _ ⟨[], _, rfl, rfl, by simp⟩ ?_ ?_
  · rintro pr x q ρ e ⟨vs, s6, rfl, hvl, hvr⟩
    have e : us.map D.str = pr ++ x :: q := e
    obtain ⟨s, rfl⟩ : ∃ s, x = .str s := by
      have : x ∈ us.map D.str := by rw [e]; simp
      obtain ⟨s, _, h⟩ := List.mem_map.mp this
      exact ⟨s, h.symm⟩
    have hnew : (Sum.inr s : Key) ∉ pr.map keyJ := fun hm => by
      have h := und
      rw [← map_keyS, e, List.map_append, List.map_cons] at h
      exact (List.nodup_append.mp h).2.2 _ hm (keyJ (.str s)) (by simp) rfl
    have hpl : pr.length ≤ 3 := by
      have := congrArg List.length e
      rw [List.length_map, List.length_append] at this
      omega
    walk_at "sv"
    rw [decide_eq_true (show (-1000000 : Int) < (pn : Int) ∧ (pn : Int) < 1000000 by omega)]
    walk_at "sv"
    walk_at "w2"
    refine v_rel (fun _ y => cellOk f y) _ _ (by rw [upto_len]; simp; omega) (fun y hy => ?_) fun ys hyl hyc => ?_
    · walk_at "sv"
      walk_at "wc"
      refine cell_wp (by omega) (by omega) fun z hz => ?_
      walk_at "sv"
      exact ⟨_, rfl, hz⟩
    · walk_at "sv"
      rw [decide_eq_true (show (pr.map keyJ).length < 1000000 by rw [List.length_map]; omega), putD_new (by rw [List.length_map]; exact hvl) hnew]
      walk_at "sv"
      refine ⟨vs ++ [.tup ys], .d (.str s), ?_, ?_, fun v hv => ?_⟩
      · rw [List.map_append]; rfl
      · rw [List.length_append, List.length_append, hvl]; rfl
      · rcases List.mem_append.mp hv with hv | hv
        · exact hvr v hv
        · have : v = .tup ys := by simpa using hv
          exact ⟨ys, this, by rw [hyl, upto_len]; omega, fun c hc => let ⟨_, _, h⟩ := hyc c hc; h⟩
  · rintro ρ ⟨vs, s6, rfl, hvl, hvr⟩
    rw [List.nil_append, map_keyS]
    walk_at "sv"
    walk_at "w2"
    refine v_rel (fun _ y => ∃ b, y = .bl b) _ _ (by rw [upto_len]; decide) (fun y hy => ?_) fun ys hyl hyc => ?_
    · walk_at "sv"
      walk_at "wd"
      exact fun r r0 r1 => ⟨_, rfl, _, rfl⟩
    · have hy3 : ys.length = 3 := by rw [hyl, upto_len]; rfl
      match ys, hy3, hyc with
      | [y1, y2, y3], _, hyc =>
        obtain ⟨_, _, b1, rfl⟩ := hyc y1 (by simp)
        obtain ⟨_, _, b2, rfl⟩ := hyc y2 (by simp)
        obtain ⟨_, _, b3, rfl⟩ := hyc y3 (by simp)
        walk_at "sv"
        refine hp ⟨ls, pn, f, us.map Sum.inr, vs, b1, b2, b3⟩ ⟨L0, ?_, ?_, ?_, ?_, ⟨?_, ?_, fun s hs => ?_, hvr⟩⟩
        · show 1 ≤ pn; omega
        · show pn ≤ 4; omega
        · show 1 ≤ f; omega
        · show f ≤ 4; omega
        · show (us.map Sum.inr).length = vs.length
          rw [← hvl]; simp
        · show (us.map Sum.inr).length = ls.length
          rw [List.length_map]; exact uln
        · have : D.str s ∈ us.map D.str := hz.mem_iff.mpr (List.mem_map.mpr ⟨s, hs, rfl⟩)
          obtain ⟨s', h1, h2⟩ := List.mem_map.mp this
          cases h2
          exact List.mem_map.mpr ⟨s, h1, rfl⟩
end

end K02
namespace K02
open PySem L2 Fl Tr Sv
local macro_rules | `(tactic| walk_at "sv") => `(tactic| try simp only [bind_ret, bind_fail, bind_draw, bind2_ret, ofO_some, ofO_none, need_true, need_false, back_ret, wp_ret, varT_src, varT_d, varT_ol, varT_od, varT_oi, dat_d, dat_ol, dat_od, dat_oi, arg_d, arg_src, arg_ol, arg_od, arg_oi, noNo_d, noNo_ol, noNo_od, noNo_oi, argOk_d, argOk_src, blO_bl, intO_int, endM_nx, endM_rt, thenS_nx, thenS_rt, dlst_lst, dint_int, dstr_str, seqD_lst, seqD_tup, itemsD_lst, itemsD_tup, itemsD_str, cp_one, lst1_one, int1_one, lenD_lst, lenD_tup, lenD_str, insOf_me, two_eq, three_eq, pend_d, pend_ol, pend_od, tupO_eq, gsCons_eq, gsNil_eq, mVal_eq, dicO_dic, dtup_tup, keyD_str, keyD_int, eC_e, aNil_e, aCons_e, eTup_e, eLst_e, eDic0_e, eOp_e, tTru_e, tTst_e, tNot_e, tAnd_e, tOr_e, eAnd_e, eOr_e, eNot_e, eIf_e, eCall_e, eIx_e, oNo_e, oSome_e, eSl_e, eChain_e, eIsi_e, eIsi2_e, eDg_e, eDin_e, eApp_e, eExt_e, ePop_e, eIns_e, tOwnNe_e, eOwnLen_e, eOwnIx_e, eOwnIn_e, eClr_e, eJoin_e, eItems_e, eNeg_e, eFld_e, bNil_e, bCons_e, bArg_e, eFn_e, eMeth_e, eMeth0_e, eProp_e, eMakeK_e, eMake_e, eIsOwn_e, gNm_e, gTp_e, sNext_e, sBreak_e, sCont_e, sSeq_e, sExpr_e, sRet_e, sIf_e, sAsg_e, sPar_e, sPar3_e, sFor_e, sWhile_e, sSetL_e, sSetD_e, sSetF_e, sMatch_e, iL_e, iT_e, iS_e, iR_e, iEn_e, eLc_e, tYes_e, eDc_e, iEnA_e, iSq_e, eFnP_e, eMethP_e, eMakeP_e, eSortSet_e, eRev_e, eListRg_e, oAdd_ii, oAdd_ss, oAdd_ll, oAdd_tt, oSub_ii, oMul_ii, oMul_li, oMod_ii, oFdv_ii, oLt_ii, oLe_ii, oGt_ii, oGe_ii, oEq_e, oNe_e, oIsN_e, oNotN_e, oIn_e, oNotIn_e, oInD_e, fLen_e, fList_e, fTuple_e, fInt_i, fInt_b, fAll_e, fAny_e, fSortS_e, fRepr_e, fDict_e, fOwnLen_e, oOwnEq_e, oOwnNe_e, drawM_e, eVar_eq, ofO_bind, ofO_bind2, need_bind, need_bind2, ite_bind, ite_bind2, back_ite, ownO_eq, wp_ret', v_ret, bind2_bind, bind_bind2, bind2_bind2, Tr.bind_assoc, back_bind, defM, List.cons_append, List.nil_append, List.replicate_succ, List.replicate_zero, List.getElem?_cons_zero, List.getElem?_cons_succ, List.set_cons_zero, List.set_cons_succ, List.length_cons, List.length_nil, List.all_cons, List.all_nil, Bool.and_true, Bool.true_and, Bool.and_self, beq_self_eq_true, decide_true, decide_false, if_true, if_false, Bool.not_true, Bool.not_false, wipeD, isI_non, isI_bl, isI_int, isI_str, isI_lst, isI_tup, isI_dic, isI_ins, Option.getD_some, ite_true, ite_false, reduceCtorEq, Bool.false_eq_true, Nat.reduceAdd, Nat.reduceLeDiff, Nat.reduceLT, Nat.reduceBEq, Nat.reduceEqDiff, Option.bind_some, Option.isNone_none, Option.isNone_some, Option.isSome_some, Option.isSome_none, mNil', mAny', List.map_cons, List.map_nil, Option.map_some, Option.map_none, Int.reduceAdd, ok_non, ok_bl, ok_int, ok_str, ok_lst, ok_tup, ixD_tup, ixD_lst, atI_0, atI_1, atI_2, atI_3, atI_4, atI_5, atI_6, atI_7, eqD_bl, cast2, cast0, cast1, cast3, cast4, cast5, cast6, cast7, cast8, slD_lst, slD_tup, slD_str, cut_1, cut_2, cut_3, isN_non, stepC_e, stepK_e, isN_tup, isN_int, isT_str, isT_int, isT_bool, isT_tuple, isT_list, isT_dict, eqD_int, eqD_str, ite_bind, loopT_nil, loopT_cons, thenL_nx, thenL_rt, instO_e, instS_bi, instS_oi, withF_bi, withF_oi, biO_e, endI_nx, defI_e, sNever_e, Bool.true_or, Bool.or_true, Bool.or_false, Bool.false_or, Bool.false_and, Bool.and_false, back_draw, bind2_draw, draw_e, Int.reduceBEq, Int.reduceSub, Int.reduceNeg, Int.reduceLT, Int.reduceLE, and_self, true_and, and_true, odO_eq, aStar_e, fStr_x, iItO_e, iZp_e, zpT_2, List.append_nil, ownD_od, zipO_lt, zipO_ll, zipO_tt, zipD_c, zipD_n, zipD_n2, seqD_l, seqD_t, strD_str, eMakeD_e, dbls_cons, dbls_nil, eShow_e, shT_d, shT_ld, eLd_e, ldT_d, ldT_ld, eDgL_e, dgT_d, dgT_ld, eLend_e, leT_od, leT_ol, blank_d, blank_src, blank_no, blank_ld, blank_ol, blank_od, blank_oi, blank_bi, flatO_bl, flatO_int, arg_ld, argOk_ld, pend_ld, eqP_e, fListK_x, fDictP_x, sForIt_e, datO_e, datS_d, eMov_e, movS_ol, movS_od, movS_oi, eqD_tnil, inSeq_tup, inSeq_lst, flat_int, flat_str, flat_non, flat_bl, inD_nil, inD_cons, inDp_tup, inDp_lst, eqD_tcons, eqD_tnil2, eqD_tnn, insW, isInsW, lkW1, lkW2, lkW3, lkW5, lkW4, lkW_page, lkW_frame, lkW_entry, lkW_parts, lkW_entries, lkW_need, insSc, isInsSc, lkS1, lkS2, lkS_guards, lkS_entries, scput1, scput2, scput3, ofS_inj, String.reduceEq, eqD_refl])
local macro_rules | `(tactic| walk_at "ev") => `(tactic| try simp only [bind_ret, bind_fail, bind_draw, bind2_ret, ofO_some, ofO_none, need_true, need_false, back_ret, wp_ret, varT_src, varT_d, varT_ol, varT_od, varT_oi, dat_d, dat_ol, dat_od, dat_oi, arg_d, arg_src, arg_ol, arg_od, arg_oi, noNo_d, noNo_ol, noNo_od, noNo_oi, argOk_d, argOk_src, blO_bl, intO_int, endM_nx, endM_rt, thenS_nx, thenS_rt, dlst_lst, dint_int, dstr_str, seqD_lst, seqD_tup, itemsD_lst, itemsD_tup, itemsD_str, cp_one, lst1_one, int1_one, lenD_lst, lenD_tup, lenD_str, insOf_me, two_eq, three_eq, pend_d, pend_ol, pend_od, tupO_eq, gsCons_eq, gsNil_eq, mVal_eq, dicO_dic, dtup_tup, keyD_str, keyD_int, eC_e, aNil_e, aCons_e, eTup_e, eLst_e, eDic0_e, eOp_e, tTru_e, tTst_e, tNot_e, tAnd_e, tOr_e, eAnd_e, eOr_e, eNot_e, eIf_e, eCall_e, eIx_e, oNo_e, oSome_e, eSl_e, eChain_e, eIsi_e, eIsi2_e, eDg_e, eDin_e, eApp_e, eExt_e, ePop_e, eIns_e, tOwnNe_e, eOwnLen_e, eOwnIx_e, eOwnIn_e, eClr_e, eJoin_e, eItems_e, eNeg_e, eFld_e, bNil_e, bCons_e, bArg_e, eFn_e, eMeth_e, eMeth0_e, eProp_e, eMakeK_e, eMake_e, eIsOwn_e, gNm_e, gTp_e, sNext_e, sBreak_e, sCont_e, sSeq_e, sExpr_e, sRet_e, sIf_e, sAsg_e, sPar_e, sPar3_e, sFor_e, sWhile_e, sSetL_e, sSetD_e, sSetF_e, sMatch_e, iL_e, iT_e, iS_e, iR_e, iEn_e, eLc_e, tYes_e, eDc_e, iEnA_e, iSq_e, eFnP_e, eMethP_e, eMakeP_e, eSortSet_e, eRev_e, eListRg_e, oAdd_ii, oAdd_ss, oAdd_ll, oAdd_tt, oSub_ii, oMul_ii, oMul_li, oMod_ii, oFdv_ii, oLt_ii, oLe_ii, oGt_ii, oGe_ii, oEq_e, oNe_e, oIsN_e, oNotN_e, oIn_e, oNotIn_e, oInD_e, fLen_e, fList_e, fTuple_e, fInt_i, fInt_b, fAll_e, fAny_e, fSortS_e, fRepr_e, fDict_e, fOwnLen_e, oOwnEq_e, oOwnNe_e, drawM_e, eVar_eq, ofO_bind, ofO_bind2, need_bind, need_bind2, ite_bind, ite_bind2, back_ite, ownO_eq, wp_ret', v_ret, bind2_bind, bind_bind2, bind2_bind2, Tr.bind_assoc, back_bind, defM, List.cons_append, List.nil_append, List.replicate_succ, List.replicate_zero, List.getElem?_cons_zero, List.getElem?_cons_succ, List.set_cons_zero, List.set_cons_succ, List.length_cons, List.length_nil, List.all_cons, List.all_nil, Bool.and_true, Bool.true_and, Bool.and_self, beq_self_eq_true, decide_true, decide_false, if_true, if_false, Bool.not_true, Bool.not_false, wipeD, isI_non, isI_bl, isI_int, isI_str, isI_lst, isI_tup, isI_dic, isI_ins, Option.getD_some, ite_true, ite_false, reduceCtorEq, Bool.false_eq_true, Nat.reduceAdd, Nat.reduceLeDiff, Nat.reduceLT, Nat.reduceBEq, Nat.reduceEqDiff, Option.bind_some, Option.isNone_none, Option.isNone_some, Option.isSome_some, Option.isSome_none, mNil', mAny', List.map_cons, List.map_nil, Option.map_some, Option.map_none, Int.reduceAdd, ok_non, ok_bl, ok_int, ok_str, ok_lst, ok_tup, ixD_tup, ixD_lst, atI_0, atI_1, atI_2, atI_3, atI_4, atI_5, atI_6, atI_7, eqD_bl, cast2, cast0, cast1, cast3, cast4, cast5, cast6, cast7, cast8, slD_lst, slD_tup, slD_str, cut_1, cut_2, cut_3, isN_non, stepC_e, stepK_e, isN_tup, isN_int, isT_str, isT_int, isT_bool, isT_tuple, isT_list, isT_dict, eqD_int, eqD_str, ite_bind, loopT_nil, loopT_cons, thenL_nx, thenL_rt, instO_e, instS_bi, instS_oi, withF_bi, withF_oi, biO_e, endI_nx, defI_e, sNever_e, Bool.true_or, Bool.or_true, Bool.or_false, Bool.false_or, Bool.false_and, Bool.and_false, back_draw, bind2_draw, draw_e, Int.reduceBEq, Int.reduceSub, Int.reduceNeg, Int.reduceLT, Int.reduceLE, and_self, true_and, and_true, odO_eq, aStar_e, fStr_x, iItO_e, iZp_e, zpT_2, List.append_nil, ownD_od, zipO_lt, zipO_ll, zipO_tt, zipD_c, zipD_n, zipD_n2, seqD_l, seqD_t, strD_str, eMakeD_e, dbls_cons, dbls_nil, eShow_e, shT_d, shT_ld, eLd_e, ldT_d, ldT_ld, eDgL_e, dgT_d, dgT_ld, eLend_e, leT_od, leT_ol, blank_d, blank_src, blank_no, blank_ld, blank_ol, blank_od, blank_oi, blank_bi, flatO_bl, flatO_int, arg_ld, argOk_ld, pend_ld, eqP_e, fListK_x, fDictP_x, sForIt_e, datO_e, datS_d, eMov_e, movS_ol, movS_od, movS_oi])
local macro_rules | `(tactic| walk_at "ifs") => `(tactic| refine ifB (fun h => ?_) (fun h => ?_))
local macro_rules | `(tactic| walk_at "wd") => `(tactic| (with_reducible refine v_draw ?_ ?_ ?_; omega; omega))
local macro_rules | `(tactic| walk_at "wc") => `(tactic| with_reducible refine v_call ?_)
local macro_rules | `(tactic| walk_at "wb") => `(tactic| with_reducible refine v_b ?_)
local macro_rules | `(tactic| walk_at "w2") => `(tactic| with_reducible refine v_b2 ?_)
section
variable {c : Cs} {Z : Exc → Prop} {P : Sl → Prop}
theorem base_eq {q : Parts} (hq : q.Ok) : m__law_base c [.d q.d] = .ret (.oi c.World fldN q.flds) := by
  unfold m__law_base b__law_base Parts.d
  walk_at "sv"
  unfold Parts.rules
  walk_at "sv"
  simp only [pk, List.filterMap_cons, List.filterMap_nil]
  walk_at "sv"
  rw [World_init_eq hq]
  walk_at "sv"
end

end K02
namespace K02
open PySem L2 Fl Tr Sv
local macro_rules | `(tactic| walk_at "sv") => `(tactic| try simp only [bind_ret, bind_fail, bind_draw, bind2_ret, ofO_some, ofO_none, need_true, need_false, back_ret, wp_ret, varT_src, varT_d, varT_ol, varT_od, varT_oi, dat_d, dat_ol, dat_od, dat_oi, arg_d, arg_src, arg_ol, arg_od, arg_oi, noNo_d, noNo_ol, noNo_od, noNo_oi, argOk_d, argOk_src, blO_bl, intO_int, endM_nx, endM_rt, thenS_nx, thenS_rt, dlst_lst, dint_int, dstr_str, seqD_lst, seqD_tup, itemsD_lst, itemsD_tup, itemsD_str, cp_one, lst1_one, int1_one, lenD_lst, lenD_tup, lenD_str, insOf_me, two_eq, three_eq, pend_d, pend_ol, pend_od, tupO_eq, gsCons_eq, gsNil_eq, mVal_eq, dicO_dic, dtup_tup, keyD_str, keyD_int, eC_e, aNil_e, aCons_e, eTup_e, eLst_e, eDic0_e, eOp_e, tTru_e, tTst_e, tNot_e, tAnd_e, tOr_e, eAnd_e, eOr_e, eNot_e, eIf_e, eCall_e, eIx_e, oNo_e, oSome_e, eSl_e, eChain_e, eIsi_e, eIsi2_e, eDg_e, eDin_e, eApp_e, eExt_e, ePop_e, eIns_e, tOwnNe_e, eOwnLen_e, eOwnIx_e, eOwnIn_e, eClr_e, eJoin_e, eItems_e, eNeg_e, eFld_e, bNil_e, bCons_e, bArg_e, eFn_e, eMeth_e, eMeth0_e, eProp_e, eMakeK_e, eMake_e, eIsOwn_e, gNm_e, gTp_e, sNext_e, sBreak_e, sCont_e, sSeq_e, sExpr_e, sRet_e, sIf_e, sAsg_e, sPar_e, sPar3_e, sFor_e, sWhile_e, sSetL_e, sSetD_e, sSetF_e, sMatch_e, iL_e, iT_e, iS_e, iR_e, iEn_e, eLc_e, tYes_e, eDc_e, iEnA_e, iSq_e, eFnP_e, eMethP_e, eMakeP_e, eSortSet_e, eRev_e, eListRg_e, oAdd_ii, oAdd_ss, oAdd_ll, oAdd_tt, oSub_ii, oMul_ii, oMul_li, oMod_ii, oFdv_ii, oLt_ii, oLe_ii, oGt_ii, oGe_ii, oEq_e, oNe_e, oIsN_e, oNotN_e, oIn_e, oNotIn_e, oInD_e, fLen_e, fList_e, fTuple_e, fInt_i, fInt_b, fAll_e, fAny_e, fSortS_e, fRepr_e, fDict_e, fOwnLen_e, oOwnEq_e, oOwnNe_e, drawM_e, eVar_eq, ofO_bind, ofO_bind2, need_bind, need_bind2, ite_bind, ite_bind2, back_ite, ownO_eq, wp_ret', v_ret, bind2_bind, bind_bind2, bind2_bind2, Tr.bind_assoc, back_bind, defM, List.cons_append, List.nil_append, List.replicate_succ, List.replicate_zero, List.getElem?_cons_zero, List.getElem?_cons_succ, List.set_cons_zero, List.set_cons_succ, List.length_cons, List.length_nil, List.all_cons, List.all_nil, Bool.and_true, Bool.true_and, Bool.and_self, beq_self_eq_true, decide_true, decide_false, if_true, if_false, Bool.not_true, Bool.not_false, wipeD, isI_non, isI_bl, isI_int, isI_str, isI_lst, isI_tup, isI_dic, isI_ins, Option.getD_some, ite_true, ite_false, reduceCtorEq, Bool.false_eq_true, Nat.reduceAdd, Nat.reduceLeDiff, Nat.reduceLT, Nat.reduceBEq, Nat.reduceEqDiff, Option.bind_some, Option.isNone_none, Option.isNone_some, Option.isSome_some, Option.isSome_none, mNil', mAny', List.map_cons, List.map_nil, Option.map_some, Option.map_none, Int.reduceAdd, ok_non, ok_bl, ok_int, ok_str, ok_lst, ok_tup, ixD_tup, ixD_lst, atI_0, atI_1, atI_2, atI_3, atI_4, atI_5, atI_6, atI_7, eqD_bl, cast2, cast0, cast1, cast3, cast4, cast5, cast6, cast7, cast8, slD_lst, slD_tup, slD_str, cut_1, cut_2, cut_3, isN_non, stepC_e, stepK_e, isN_tup, isN_int, isT_str, isT_int, isT_bool, isT_tuple, isT_list, isT_dict, eqD_int, eqD_str, ite_bind, loopT_nil, loopT_cons, thenL_nx, thenL_rt, instO_e, instS_bi, instS_oi, withF_bi, withF_oi, biO_e, endI_nx, defI_e, sNever_e, Bool.true_or, Bool.or_true, Bool.or_false, Bool.false_or, Bool.false_and, Bool.and_false, back_draw, bind2_draw, draw_e, Int.reduceBEq, Int.reduceSub, Int.reduceNeg, Int.reduceLT, Int.reduceLE, and_self, true_and, and_true, odO_eq, aStar_e, fStr_x, iItO_e, iZp_e, zpT_2, List.append_nil, ownD_od, zipO_lt, zipO_ll, zipO_tt, zipD_c, zipD_n, zipD_n2, seqD_l, seqD_t, strD_str, eMakeD_e, dbls_cons, dbls_nil, eShow_e, shT_d, shT_ld, eLd_e, ldT_d, ldT_ld, eDgL_e, dgT_d, dgT_ld, eLend_e, leT_od, leT_ol, blank_d, blank_src, blank_no, blank_ld, blank_ol, blank_od, blank_oi, blank_bi, flatO_bl, flatO_int, arg_ld, argOk_ld, pend_ld, eqP_e, fListK_x, fDictP_x, sForIt_e, datO_e, datS_d, eMov_e, movS_ol, movS_od, movS_oi, eqD_tnil, inSeq_tup, inSeq_lst, flat_int, flat_str, flat_non, flat_bl, inD_nil, inD_cons, inDp_tup, inDp_lst, eqD_tcons, eqD_tnil2, eqD_tnn, insW, isInsW, lkW1, lkW2, lkW3, lkW5, lkW4, lkW_page, lkW_frame, lkW_entry, lkW_parts, lkW_entries, lkW_need, insSc, isInsSc, lkS1, lkS2, lkS_guards, lkS_entries, scput1, scput2, scput3, ofS_inj, String.reduceEq, eqD_refl])
local macro_rules | `(tactic| walk_at "ev") => `(tactic| try simp only [bind_ret, bind_fail, bind_draw, bind2_ret, ofO_some, ofO_none, need_true, need_false, back_ret, wp_ret, varT_src, varT_d, varT_ol, varT_od, varT_oi, dat_d, dat_ol, dat_od, dat_oi, arg_d, arg_src, arg_ol, arg_od, arg_oi, noNo_d, noNo_ol, noNo_od, noNo_oi, argOk_d, argOk_src, blO_bl, intO_int, endM_nx, endM_rt, thenS_nx, thenS_rt, dlst_lst, dint_int, dstr_str, seqD_lst, seqD_tup, itemsD_lst, itemsD_tup, itemsD_str, cp_one, lst1_one, int1_one, lenD_lst, lenD_tup, lenD_str, insOf_me, two_eq, three_eq, pend_d, pend_ol, pend_od, tupO_eq, gsCons_eq, gsNil_eq, mVal_eq, dicO_dic, dtup_tup, keyD_str, keyD_int, eC_e, aNil_e, aCons_e, eTup_e, eLst_e, eDic0_e, eOp_e, tTru_e, tTst_e, tNot_e, tAnd_e, tOr_e, eAnd_e, eOr_e, eNot_e, eIf_e, eCall_e, eIx_e, oNo_e, oSome_e, eSl_e, eChain_e, eIsi_e, eIsi2_e, eDg_e, eDin_e, eApp_e, eExt_e, ePop_e, eIns_e, tOwnNe_e, eOwnLen_e, eOwnIx_e, eOwnIn_e, eClr_e, eJoin_e, eItems_e, eNeg_e, eFld_e, bNil_e, bCons_e, bArg_e, eFn_e, eMeth_e, eMeth0_e, eProp_e, eMakeK_e, eMake_e, eIsOwn_e, gNm_e, gTp_e, sNext_e, sBreak_e, sCont_e, sSeq_e, sExpr_e, sRet_e, sIf_e, sAsg_e, sPar_e, sPar3_e, sFor_e, sWhile_e, sSetL_e, sSetD_e, sSetF_e, sMatch_e, iL_e, iT_e, iS_e, iR_e, iEn_e, eLc_e, tYes_e, eDc_e, iEnA_e, iSq_e, eFnP_e, eMethP_e, eMakeP_e, eSortSet_e, eRev_e, eListRg_e, oAdd_ii, oAdd_ss, oAdd_ll, oAdd_tt, oSub_ii, oMul_ii, oMul_li, oMod_ii, oFdv_ii, oLt_ii, oLe_ii, oGt_ii, oGe_ii, oEq_e, oNe_e, oIsN_e, oNotN_e, oIn_e, oNotIn_e, oInD_e, fLen_e, fList_e, fTuple_e, fInt_i, fInt_b, fAll_e, fAny_e, fSortS_e, fRepr_e, fDict_e, fOwnLen_e, oOwnEq_e, oOwnNe_e, drawM_e, eVar_eq, ofO_bind, ofO_bind2, need_bind, need_bind2, ite_bind, ite_bind2, back_ite, ownO_eq, wp_ret', v_ret, bind2_bind, bind_bind2, bind2_bind2, Tr.bind_assoc, back_bind, defM, List.cons_append, List.nil_append, List.replicate_succ, List.replicate_zero, List.getElem?_cons_zero, List.getElem?_cons_succ, List.set_cons_zero, List.set_cons_succ, List.length_cons, List.length_nil, List.all_cons, List.all_nil, Bool.and_true, Bool.true_and, Bool.and_self, beq_self_eq_true, decide_true, decide_false, if_true, if_false, Bool.not_true, Bool.not_false, wipeD, isI_non, isI_bl, isI_int, isI_str, isI_lst, isI_tup, isI_dic, isI_ins, Option.getD_some, ite_true, ite_false, reduceCtorEq, Bool.false_eq_true, Nat.reduceAdd, Nat.reduceLeDiff, Nat.reduceLT, Nat.reduceBEq, Nat.reduceEqDiff, Option.bind_some, Option.isNone_none, Option.isNone_some, Option.isSome_some, Option.isSome_none, mNil', mAny', List.map_cons, List.map_nil, Option.map_some, Option.map_none, Int.reduceAdd, ok_non, ok_bl, ok_int, ok_str, ok_lst, ok_tup, ixD_tup, ixD_lst, atI_0, atI_1, atI_2, atI_3, atI_4, atI_5, atI_6, atI_7, eqD_bl, cast2, cast0, cast1, cast3, cast4, cast5, cast6, cast7, cast8, slD_lst, slD_tup, slD_str, cut_1, cut_2, cut_3, isN_non, stepC_e, stepK_e, isN_tup, isN_int, isT_str, isT_int, isT_bool, isT_tuple, isT_list, isT_dict, eqD_int, eqD_str, ite_bind, loopT_nil, loopT_cons, thenL_nx, thenL_rt, instO_e, instS_bi, instS_oi, withF_bi, withF_oi, biO_e, endI_nx, defI_e, sNever_e, Bool.true_or, Bool.or_true, Bool.or_false, Bool.false_or, Bool.false_and, Bool.and_false, back_draw, bind2_draw, draw_e, Int.reduceBEq, Int.reduceSub, Int.reduceNeg, Int.reduceLT, Int.reduceLE, and_self, true_and, and_true, odO_eq, aStar_e, fStr_x, iItO_e, iZp_e, zpT_2, List.append_nil, ownD_od, zipO_lt, zipO_ll, zipO_tt, zipD_c, zipD_n, zipD_n2, seqD_l, seqD_t, strD_str, eMakeD_e, dbls_cons, dbls_nil, eShow_e, shT_d, shT_ld, eLd_e, ldT_d, ldT_ld, eDgL_e, dgT_d, dgT_ld, eLend_e, leT_od, leT_ol, blank_d, blank_src, blank_no, blank_ld, blank_ol, blank_od, blank_oi, blank_bi, flatO_bl, flatO_int, arg_ld, argOk_ld, pend_ld, eqP_e, fListK_x, fDictP_x, sForIt_e, datO_e, datS_d, eMov_e, movS_ol, movS_od, movS_oi])
local macro_rules | `(tactic| walk_at "ifs") => `(tactic| refine ifB (fun h => ?_) (fun h => ?_))
local macro_rules | `(tactic| walk_at "wd") => `(tactic| (with_reducible refine v_draw ?_ ?_ ?_; omega; omega))
local macro_rules | `(tactic| walk_at "wc") => `(tactic| with_reducible refine v_call ?_)
local macro_rules | `(tactic| walk_at "wb") => `(tactic| with_reducible refine v_b ?_)
local macro_rules | `(tactic| walk_at "w2") => `(tactic| with_reducible refine v_b2 ?_)
section
variable {c : Cs} {Z : Exc → Prop} {P : Sl → Prop}
end

end K02
namespace K02
open PySem L2 Fl Tr Sv
local macro_rules | `(tactic| walk_at "sv") => `(tactic| try simp only [bind_ret, bind_fail, bind_draw, bind2_ret, ofO_some, ofO_none, need_true, need_false, back_ret, wp_ret, varT_src, varT_d, varT_ol, varT_od, varT_oi, dat_d, dat_ol, dat_od, dat_oi, arg_d, arg_src, arg_ol, arg_od, arg_oi, noNo_d, noNo_ol, noNo_od, noNo_oi, argOk_d, argOk_src, blO_bl, intO_int, endM_nx, endM_rt, thenS_nx, thenS_rt, dlst_lst, dint_int, dstr_str, seqD_lst, seqD_tup, itemsD_lst, itemsD_tup, itemsD_str, cp_one, lst1_one, int1_one, lenD_lst, lenD_tup, lenD_str, insOf_me, two_eq, three_eq, pend_d, pend_ol, pend_od, tupO_eq, gsCons_eq, gsNil_eq, mVal_eq, dicO_dic, dtup_tup, keyD_str, keyD_int, eC_e, aNil_e, aCons_e, eTup_e, eLst_e, eDic0_e, eOp_e, tTru_e, tTst_e, tNot_e, tAnd_e, tOr_e, eAnd_e, eOr_e, eNot_e, eIf_e, eCall_e, eIx_e, oNo_e, oSome_e, eSl_e, eChain_e, eIsi_e, eIsi2_e, eDg_e, eDin_e, eApp_e, eExt_e, ePop_e, eIns_e, tOwnNe_e, eOwnLen_e, eOwnIx_e, eOwnIn_e, eClr_e, eJoin_e, eItems_e, eNeg_e, eFld_e, bNil_e, bCons_e, bArg_e, eFn_e, eMeth_e, eMeth0_e, eProp_e, eMakeK_e, eMake_e, eIsOwn_e, gNm_e, gTp_e, sNext_e, sBreak_e, sCont_e, sSeq_e, sExpr_e, sRet_e, sIf_e, sAsg_e, sPar_e, sPar3_e, sFor_e, sWhile_e, sSetL_e, sSetD_e, sSetF_e, sMatch_e, iL_e, iT_e, iS_e, iR_e, iEn_e, eLc_e, tYes_e, eDc_e, iEnA_e, iSq_e, eFnP_e, eMethP_e, eMakeP_e, eSortSet_e, eRev_e, eListRg_e, oAdd_ii, oAdd_ss, oAdd_ll, oAdd_tt, oSub_ii, oMul_ii, oMul_li, oMod_ii, oFdv_ii, oLt_ii, oLe_ii, oGt_ii, oGe_ii, oEq_e, oNe_e, oIsN_e, oNotN_e, oIn_e, oNotIn_e, oInD_e, fLen_e, fList_e, fTuple_e, fInt_i, fInt_b, fAll_e, fAny_e, fSortS_e, fRepr_e, fDict_e, fOwnLen_e, oOwnEq_e, oOwnNe_e, drawM_e, eVar_eq, ofO_bind, ofO_bind2, need_bind, need_bind2, ite_bind, ite_bind2, back_ite, ownO_eq, wp_ret', v_ret, bind2_bind, bind_bind2, bind2_bind2, Tr.bind_assoc, back_bind, defM, List.cons_append, List.nil_append, List.replicate_succ, List.replicate_zero, List.getElem?_cons_zero, List.getElem?_cons_succ, List.set_cons_zero, List.set_cons_succ, List.length_cons, List.length_nil, List.all_cons, List.all_nil, Bool.and_true, Bool.true_and, Bool.and_self, beq_self_eq_true, decide_true, decide_false, if_true, if_false, Bool.not_true, Bool.not_false, wipeD, isI_non, isI_bl, isI_int, isI_str, isI_lst, isI_tup, isI_dic, isI_ins, Option.getD_some, ite_true, ite_false, reduceCtorEq, Bool.false_eq_true, Nat.reduceAdd, Nat.reduceLeDiff, Nat.reduceLT, Nat.reduceBEq, Nat.reduceEqDiff, Option.bind_some, Option.isNone_none, Option.isNone_some, Option.isSome_some, Option.isSome_none, mNil', mAny', List.map_cons, List.map_nil, Option.map_some, Option.map_none, Int.reduceAdd, ok_non, ok_bl, ok_int, ok_str, ok_lst, ok_tup, ixD_tup, ixD_lst, atI_0, atI_1, atI_2, atI_3, atI_4, atI_5, atI_6, atI_7, eqD_bl, cast2, cast0, cast1, cast3, cast4, cast5, cast6, cast7, cast8, slD_lst, slD_tup, slD_str, cut_1, cut_2, cut_3, isN_non, stepC_e, stepK_e, isN_tup, isN_int, isT_str, isT_int, isT_bool, isT_tuple, isT_list, isT_dict, eqD_int, eqD_str, ite_bind, loopT_nil, loopT_cons, thenL_nx, thenL_rt, instO_e, instS_bi, instS_oi, withF_bi, withF_oi, biO_e, endI_nx, defI_e, sNever_e, Bool.true_or, Bool.or_true, Bool.or_false, Bool.false_or, Bool.false_and, Bool.and_false, back_draw, bind2_draw, draw_e, Int.reduceBEq, Int.reduceSub, Int.reduceNeg, Int.reduceLT, Int.reduceLE, and_self, true_and, and_true, odO_eq, aStar_e, fStr_x, iItO_e, iZp_e, zpT_2, List.append_nil, ownD_od, zipO_lt, zipO_ll, zipO_tt, zipD_c, zipD_n, zipD_n2, seqD_l, seqD_t, strD_str, eMakeD_e, dbls_cons, dbls_nil, eShow_e, shT_d, shT_ld, eLd_e, ldT_d, ldT_ld, eDgL_e, dgT_d, dgT_ld, eLend_e, leT_od, leT_ol, blank_d, blank_src, blank_no, blank_ld, blank_ol, blank_od, blank_oi, blank_bi, flatO_bl, flatO_int, arg_ld, argOk_ld, pend_ld, eqP_e, fListK_x, fDictP_x, sForIt_e, datO_e, datS_d, eMov_e, movS_ol, movS_od, movS_oi, eqD_tnil, inSeq_tup, inSeq_lst, flat_int, flat_str, flat_non, flat_bl, inD_nil, inD_cons, inDp_tup, inDp_lst, eqD_tcons, eqD_tnil2, eqD_tnn, insW, isInsW, lkW1, lkW2, lkW3, lkW5, lkW4, lkW_page, lkW_frame, lkW_entry, lkW_parts, lkW_entries, lkW_need, insSc, isInsSc, lkS1, lkS2, lkS_guards, lkS_entries, scput1, scput2, scput3, ofS_inj, String.reduceEq, eqD_refl])
local macro_rules | `(tactic| walk_at "ev") => `(tactic| try simp only [bind_ret, bind_fail, bind_draw, bind2_ret, ofO_some, ofO_none, need_true, need_false, back_ret, wp_ret, varT_src, varT_d, varT_ol, varT_od, varT_oi, dat_d, dat_ol, dat_od, dat_oi, arg_d, arg_src, arg_ol, arg_od, arg_oi, noNo_d, noNo_ol, noNo_od, noNo_oi, argOk_d, argOk_src, blO_bl, intO_int, endM_nx, endM_rt, thenS_nx, thenS_rt, dlst_lst, dint_int, dstr_str, seqD_lst, seqD_tup, itemsD_lst, itemsD_tup, itemsD_str, cp_one, lst1_one, int1_one, lenD_lst, lenD_tup, lenD_str, insOf_me, two_eq, three_eq, pend_d, pend_ol, pend_od, tupO_eq, gsCons_eq, gsNil_eq, mVal_eq, dicO_dic, dtup_tup, keyD_str, keyD_int, eC_e, aNil_e, aCons_e, eTup_e, eLst_e, eDic0_e, eOp_e, tTru_e, tTst_e, tNot_e, tAnd_e, tOr_e, eAnd_e, eOr_e, eNot_e, eIf_e, eCall_e, eIx_e, oNo_e, oSome_e, eSl_e, eChain_e, eIsi_e, eIsi2_e, eDg_e, eDin_e, eApp_e, eExt_e, ePop_e, eIns_e, tOwnNe_e, eOwnLen_e, eOwnIx_e, eOwnIn_e, eClr_e, eJoin_e, eItems_e, eNeg_e, eFld_e, bNil_e, bCons_e, bArg_e, eFn_e, eMeth_e, eMeth0_e, eProp_e, eMakeK_e, eMake_e, eIsOwn_e, gNm_e, gTp_e, sNext_e, sBreak_e, sCont_e, sSeq_e, sExpr_e, sRet_e, sIf_e, sAsg_e, sPar_e, sPar3_e, sFor_e, sWhile_e, sSetL_e, sSetD_e, sSetF_e, sMatch_e, iL_e, iT_e, iS_e, iR_e, iEn_e, eLc_e, tYes_e, eDc_e, iEnA_e, iSq_e, eFnP_e, eMethP_e, eMakeP_e, eSortSet_e, eRev_e, eListRg_e, oAdd_ii, oAdd_ss, oAdd_ll, oAdd_tt, oSub_ii, oMul_ii, oMul_li, oMod_ii, oFdv_ii, oLt_ii, oLe_ii, oGt_ii, oGe_ii, oEq_e, oNe_e, oIsN_e, oNotN_e, oIn_e, oNotIn_e, oInD_e, fLen_e, fList_e, fTuple_e, fInt_i, fInt_b, fAll_e, fAny_e, fSortS_e, fRepr_e, fDict_e, fOwnLen_e, oOwnEq_e, oOwnNe_e, drawM_e, eVar_eq, ofO_bind, ofO_bind2, need_bind, need_bind2, ite_bind, ite_bind2, back_ite, ownO_eq, wp_ret', v_ret, bind2_bind, bind_bind2, bind2_bind2, Tr.bind_assoc, back_bind, defM, List.cons_append, List.nil_append, List.replicate_succ, List.replicate_zero, List.getElem?_cons_zero, List.getElem?_cons_succ, List.set_cons_zero, List.set_cons_succ, List.length_cons, List.length_nil, List.all_cons, List.all_nil, Bool.and_true, Bool.true_and, Bool.and_self, beq_self_eq_true, decide_true, decide_false, if_true, if_false, Bool.not_true, Bool.not_false, wipeD, isI_non, isI_bl, isI_int, isI_str, isI_lst, isI_tup, isI_dic, isI_ins, Option.getD_some, ite_true, ite_false, reduceCtorEq, Bool.false_eq_true, Nat.reduceAdd, Nat.reduceLeDiff, Nat.reduceLT, Nat.reduceBEq, Nat.reduceEqDiff, Option.bind_some, Option.isNone_none, Option.isNone_some, Option.isSome_some, Option.isSome_none, mNil', mAny', List.map_cons, List.map_nil, Option.map_some, Option.map_none, Int.reduceAdd, ok_non, ok_bl, ok_int, ok_str, ok_lst, ok_tup, ixD_tup, ixD_lst, atI_0, atI_1, atI_2, atI_3, atI_4, atI_5, atI_6, atI_7, eqD_bl, cast2, cast0, cast1, cast3, cast4, cast5, cast6, cast7, cast8, slD_lst, slD_tup, slD_str, cut_1, cut_2, cut_3, isN_non, stepC_e, stepK_e, isN_tup, isN_int, isT_str, isT_int, isT_bool, isT_tuple, isT_list, isT_dict, eqD_int, eqD_str, ite_bind, loopT_nil, loopT_cons, thenL_nx, thenL_rt, instO_e, instS_bi, instS_oi, withF_bi, withF_oi, biO_e, endI_nx, defI_e, sNever_e, Bool.true_or, Bool.or_true, Bool.or_false, Bool.false_or, Bool.false_and, Bool.and_false, back_draw, bind2_draw, draw_e, Int.reduceBEq, Int.reduceSub, Int.reduceNeg, Int.reduceLT, Int.reduceLE, and_self, true_and, and_true, odO_eq, aStar_e, fStr_x, iItO_e, iZp_e, zpT_2, List.append_nil, ownD_od, zipO_lt, zipO_ll, zipO_tt, zipD_c, zipD_n, zipD_n2, seqD_l, seqD_t, strD_str, eMakeD_e, dbls_cons, dbls_nil, eShow_e, shT_d, shT_ld, eLd_e, ldT_d, ldT_ld, eDgL_e, dgT_d, dgT_ld, eLend_e, leT_od, leT_ol, blank_d, blank_src, blank_no, blank_ld, blank_ol, blank_od, blank_oi, blank_bi, flatO_bl, flatO_int, arg_ld, argOk_ld, pend_ld, eqP_e, fListK_x, fDictP_x, sForIt_e, datO_e, datS_d, eMov_e, movS_ol, movS_od, movS_oi])
local macro_rules | `(tactic| walk_at "ifs") => `(tactic| refine ifB (fun h => ?_) (fun h => ?_))
local macro_rules | `(tactic| walk_at "wd") => `(tactic| (with_reducible refine v_draw ?_ ?_ ?_; omega; omega))
local macro_rules | `(tactic| walk_at "wc") => `(tactic| with_reducible refine v_call ?_)
local macro_rules | `(tactic| walk_at "wb") => `(tactic| with_reducible refine v_b ?_)
local macro_rules | `(tactic| walk_at "w2") => `(tactic| with_reducible refine v_b2 ?_)
section
variable {c : Cs} {Z : Exc → Prop}
theorem World_tables_eq {q : Parts} : m_World_tables c [.d (Parts.obj c.World q)] = .ret (.od (q.ls.map .inr) (q.ls.map q.rowOf)) := by
  unfold m_World_tables b_World_tables
  walk_at "sv"
theorem World_pages_eq {q : Parts} : m_World_pages c [.d (Parts.obj c.World q)] = .ret (.d (.int q.p)) := by
  unfold m_World_pages b_World_pages
  walk_at "sv"
theorem World_frames_eq {q : Parts} : m_World_frames c [.d (Parts.obj c.World q)] = .ret (.d (.int q.f)) := by
  unfold m_World_frames b_World_frames
  walk_at "sv"
theorem World_tags_eq {q : Parts} : m_World_tags c [.d (Parts.obj c.World q)] = .ret (.d (.bl q.t)) := by
  unfold m_World_tags b_World_tags
  walk_at "sv"
  rfl
theorem World_checks_eq {q : Parts} : m_World_checks c [.d (Parts.obj c.World q)] = .ret (.d (.bl q.c)) := by
  unfold m_World_checks b_World_checks
  walk_at "sv"
  rfl
theorem World_early_eq {q : Parts} : m_World_early c [.d (Parts.obj c.World q)] = .ret (.d (.bl q.e)) := by
  unfold m_World_early b_World_early
  walk_at "sv"
  rfl
theorem World_initL_eq {q : Parts} (ok : q.Ok) : m_World_init c [.d q.lsD, .d (.int q.p), .d (.int q.f), .ld q.grid, .d (.bl q.t), .d (.bl q.c), .d (.bl q.e)] = .ret (fldN, q.flds) := by
  have l1 := ok.p1
  have l2 := ok.p4
  have l3 := ok.f1
  have l4 := ok.f4
  have h1 := are_spaces_eq (c := c) ok.l
  have h2 := are_tables_eq (c := c) ok
  unfold Parts.grid Parts.lsD at h2
  obtain ⟨e1, e2, e3, e4, e5⟩ := flds_put q.lsD (.int q.p) (.int q.f) (.dic (q.ls.map .inr) (q.ls.map q.rowOf)) q.rules
  unfold Parts.lsD at e1 e2 e3 e4 e5
  unfold m_World_init b_World_init Parts.lsD Parts.grid
  walk_at "ev"
  rw [h1]
  walk_at "ev"
  rw [is_integer_eq rfl, intD_int]
  walk_at "ev"
  rw [decide_eq_true (show (1 : Int) ≤ (q.p : Nat) by omega), decide_eq_true (show ((q.p : Nat) : Int) ≤ 4 by omega)]
  walk_at "ev"
  rw [is_integer_eq rfl, intD_int]
  walk_at "ev"
  rw [decide_eq_true l3, decide_eq_true l4]
  walk_at "ev"
  rw [h2]
  walk_at "ev"
  rw [e1]
  walk_at "ev"
  rw [e2]
  walk_at "ev"
  rw [e3]
  walk_at "ev"
  rw [dc_map0 keyOf (fun y => match y with | .str s => q.rowOf s | _ => .non) _ (by have := ok.l.hi; simp; omega) (by rw [map_keyOf]; exact nodup_inr ok.l.nd) fun y hy => ?_]
  · rw [map_keyOf, show ((q.ls.map D.str).map fun y => match y with | .str s => q.rowOf s | _ => .non) = q.ls.map q.rowOf by rw [List.map_map]; rfl]
    walk_at "ev"
    rw [e4]
    walk_at "ev"
    unfold Parts.rules at e5
    rw [e5]
    walk_at "ev"
    rfl
  · obtain ⟨s, hs, rfl⟩ := List.mem_map.mp hy
    obtain ⟨r1, r2⟩ := ok.row hs
    walk_at "ev"
    rw [r1]
    walk_at "ev"
    rfl
theorem World_eq_eq {q q' : Parts} (hq : q.Ok) (hq' : q'.Ok) : m_World___eq__ c [.d (Parts.obj c.World q), .d (Parts.obj c.World q')] = .ret (.d (.bl (eqD (partsD q) (partsD q')))) := by
  unfold m_World___eq__ b_World___eq__
  walk_at "sv"
  have hp : ∀ {q : Parts}, q.Ok → m_World_parts c [.d (Parts.obj c.World q)] = .ret (.d (partsD q)) := fun h => World_parts_eq h
  rw [hp hq]
  walk_at "sv"
  rw [hp hq']
  walk_at "sv"
  rw [partsD_ok hq, partsD_ok hq']
  walk_at "sv"
end

end K02
namespace K02
open PySem L2 Fl Tr Sv
local macro_rules | `(tactic| walk_at "sv") => `(tactic| try simp only [bind_ret, bind_fail, bind_draw, bind2_ret, ofO_some, ofO_none, need_true, need_false, back_ret, wp_ret, varT_src, varT_d, varT_ol, varT_od, varT_oi, dat_d, dat_ol, dat_od, dat_oi, arg_d, arg_src, arg_ol, arg_od, arg_oi, noNo_d, noNo_ol, noNo_od, noNo_oi, argOk_d, argOk_src, blO_bl, intO_int, endM_nx, endM_rt, thenS_nx, thenS_rt, dlst_lst, dint_int, dstr_str, seqD_lst, seqD_tup, itemsD_lst, itemsD_tup, itemsD_str, cp_one, lst1_one, int1_one, lenD_lst, lenD_tup, lenD_str, insOf_me, two_eq, three_eq, pend_d, pend_ol, pend_od, tupO_eq, gsCons_eq, gsNil_eq, mVal_eq, dicO_dic, dtup_tup, keyD_str, keyD_int, eC_e, aNil_e, aCons_e, eTup_e, eLst_e, eDic0_e, eOp_e, tTru_e, tTst_e, tNot_e, tAnd_e, tOr_e, eAnd_e, eOr_e, eNot_e, eIf_e, eCall_e, eIx_e, oNo_e, oSome_e, eSl_e, eChain_e, eIsi_e, eIsi2_e, eDg_e, eDin_e, eApp_e, eExt_e, ePop_e, eIns_e, tOwnNe_e, eOwnLen_e, eOwnIx_e, eOwnIn_e, eClr_e, eJoin_e, eItems_e, eNeg_e, eFld_e, bNil_e, bCons_e, bArg_e, eFn_e, eMeth_e, eMeth0_e, eProp_e, eMakeK_e, eMake_e, eIsOwn_e, gNm_e, gTp_e, sNext_e, sBreak_e, sCont_e, sSeq_e, sExpr_e, sRet_e, sIf_e, sAsg_e, sPar_e, sPar3_e, sFor_e, sWhile_e, sSetL_e, sSetD_e, sSetF_e, sMatch_e, iL_e, iT_e, iS_e, iR_e, iEn_e, eLc_e, tYes_e, eDc_e, iEnA_e, iSq_e, eFnP_e, eMethP_e, eMakeP_e, eSortSet_e, eRev_e, eListRg_e, oAdd_ii, oAdd_ss, oAdd_ll, oAdd_tt, oSub_ii, oMul_ii, oMul_li, oMod_ii, oFdv_ii, oLt_ii, oLe_ii, oGt_ii, oGe_ii, oEq_e, oNe_e, oIsN_e, oNotN_e, oIn_e, oNotIn_e, oInD_e, fLen_e, fList_e, fTuple_e, fInt_i, fInt_b, fAll_e, fAny_e, fSortS_e, fRepr_e, fDict_e, fOwnLen_e, oOwnEq_e, oOwnNe_e, drawM_e, eVar_eq, ofO_bind, ofO_bind2, need_bind, need_bind2, ite_bind, ite_bind2, back_ite, ownO_eq, wp_ret', v_ret, bind2_bind, bind_bind2, bind2_bind2, Tr.bind_assoc, back_bind, defM, List.cons_append, List.nil_append, List.replicate_succ, List.replicate_zero, List.getElem?_cons_zero, List.getElem?_cons_succ, List.set_cons_zero, List.set_cons_succ, List.length_cons, List.length_nil, List.all_cons, List.all_nil, Bool.and_true, Bool.true_and, Bool.and_self, beq_self_eq_true, decide_true, decide_false, if_true, if_false, Bool.not_true, Bool.not_false, wipeD, isI_non, isI_bl, isI_int, isI_str, isI_lst, isI_tup, isI_dic, isI_ins, Option.getD_some, ite_true, ite_false, reduceCtorEq, Bool.false_eq_true, Nat.reduceAdd, Nat.reduceLeDiff, Nat.reduceLT, Nat.reduceBEq, Nat.reduceEqDiff, Option.bind_some, Option.isNone_none, Option.isNone_some, Option.isSome_some, Option.isSome_none, mNil', mAny', List.map_cons, List.map_nil, Option.map_some, Option.map_none, Int.reduceAdd, ok_non, ok_bl, ok_int, ok_str, ok_lst, ok_tup, ixD_tup, ixD_lst, atI_0, atI_1, atI_2, atI_3, atI_4, atI_5, atI_6, atI_7, eqD_bl, cast2, cast0, cast1, cast3, cast4, cast5, cast6, cast7, cast8, slD_lst, slD_tup, slD_str, cut_1, cut_2, cut_3, isN_non, stepC_e, stepK_e, isN_tup, isN_int, isT_str, isT_int, isT_bool, isT_tuple, isT_list, isT_dict, eqD_int, eqD_str, ite_bind, loopT_nil, loopT_cons, thenL_nx, thenL_rt, instO_e, instS_bi, instS_oi, withF_bi, withF_oi, biO_e, endI_nx, defI_e, sNever_e, Bool.true_or, Bool.or_true, Bool.or_false, Bool.false_or, Bool.false_and, Bool.and_false, back_draw, bind2_draw, draw_e, Int.reduceBEq, Int.reduceSub, Int.reduceNeg, Int.reduceLT, Int.reduceLE, and_self, true_and, and_true, odO_eq, aStar_e, fStr_x, iItO_e, iZp_e, zpT_2, List.append_nil, ownD_od, zipO_lt, zipO_ll, zipO_tt, zipD_c, zipD_n, zipD_n2, seqD_l, seqD_t, strD_str, eMakeD_e, dbls_cons, dbls_nil, eShow_e, shT_d, shT_ld, eLd_e, ldT_d, ldT_ld, eDgL_e, dgT_d, dgT_ld, eLend_e, leT_od, leT_ol, blank_d, blank_src, blank_no, blank_ld, blank_ol, blank_od, blank_oi, blank_bi, flatO_bl, flatO_int, arg_ld, argOk_ld, pend_ld, eqP_e, fListK_x, fDictP_x, sForIt_e, datO_e, datS_d, eMov_e, movS_ol, movS_od, movS_oi, eqD_tnil, inSeq_tup, inSeq_lst, flat_int, flat_str, flat_non, flat_bl, inD_nil, inD_cons, inDp_tup, inDp_lst, eqD_tcons, eqD_tnil2, eqD_tnn, insW, isInsW, lkW1, lkW2, lkW3, lkW5, lkW4, lkW_page, lkW_frame, lkW_entry, lkW_parts, lkW_entries, lkW_need, insSc, isInsSc, lkS1, lkS2, lkS_guards, lkS_entries, scput1, scput2, scput3, ofS_inj, String.reduceEq, eqD_refl])
local macro_rules | `(tactic| walk_at "ev") => `(tactic| try simp only [bind_ret, bind_fail, bind_draw, bind2_ret, ofO_some, ofO_none, need_true, need_false, back_ret, wp_ret, varT_src, varT_d, varT_ol, varT_od, varT_oi, dat_d, dat_ol, dat_od, dat_oi, arg_d, arg_src, arg_ol, arg_od, arg_oi, noNo_d, noNo_ol, noNo_od, noNo_oi, argOk_d, argOk_src, blO_bl, intO_int, endM_nx, endM_rt, thenS_nx, thenS_rt, dlst_lst, dint_int, dstr_str, seqD_lst, seqD_tup, itemsD_lst, itemsD_tup, itemsD_str, cp_one, lst1_one, int1_one, lenD_lst, lenD_tup, lenD_str, insOf_me, two_eq, three_eq, pend_d, pend_ol, pend_od, tupO_eq, gsCons_eq, gsNil_eq, mVal_eq, dicO_dic, dtup_tup, keyD_str, keyD_int, eC_e, aNil_e, aCons_e, eTup_e, eLst_e, eDic0_e, eOp_e, tTru_e, tTst_e, tNot_e, tAnd_e, tOr_e, eAnd_e, eOr_e, eNot_e, eIf_e, eCall_e, eIx_e, oNo_e, oSome_e, eSl_e, eChain_e, eIsi_e, eIsi2_e, eDg_e, eDin_e, eApp_e, eExt_e, ePop_e, eIns_e, tOwnNe_e, eOwnLen_e, eOwnIx_e, eOwnIn_e, eClr_e, eJoin_e, eItems_e, eNeg_e, eFld_e, bNil_e, bCons_e, bArg_e, eFn_e, eMeth_e, eMeth0_e, eProp_e, eMakeK_e, eMake_e, eIsOwn_e, gNm_e, gTp_e, sNext_e, sBreak_e, sCont_e, sSeq_e, sExpr_e, sRet_e, sIf_e, sAsg_e, sPar_e, sPar3_e, sFor_e, sWhile_e, sSetL_e, sSetD_e, sSetF_e, sMatch_e, iL_e, iT_e, iS_e, iR_e, iEn_e, eLc_e, tYes_e, eDc_e, iEnA_e, iSq_e, eFnP_e, eMethP_e, eMakeP_e, eSortSet_e, eRev_e, eListRg_e, oAdd_ii, oAdd_ss, oAdd_ll, oAdd_tt, oSub_ii, oMul_ii, oMul_li, oMod_ii, oFdv_ii, oLt_ii, oLe_ii, oGt_ii, oGe_ii, oEq_e, oNe_e, oIsN_e, oNotN_e, oIn_e, oNotIn_e, oInD_e, fLen_e, fList_e, fTuple_e, fInt_i, fInt_b, fAll_e, fAny_e, fSortS_e, fRepr_e, fDict_e, fOwnLen_e, oOwnEq_e, oOwnNe_e, drawM_e, eVar_eq, ofO_bind, ofO_bind2, need_bind, need_bind2, ite_bind, ite_bind2, back_ite, ownO_eq, wp_ret', v_ret, bind2_bind, bind_bind2, bind2_bind2, Tr.bind_assoc, back_bind, defM, List.cons_append, List.nil_append, List.replicate_succ, List.replicate_zero, List.getElem?_cons_zero, List.getElem?_cons_succ, List.set_cons_zero, List.set_cons_succ, List.length_cons, List.length_nil, List.all_cons, List.all_nil, Bool.and_true, Bool.true_and, Bool.and_self, beq_self_eq_true, decide_true, decide_false, if_true, if_false, Bool.not_true, Bool.not_false, wipeD, isI_non, isI_bl, isI_int, isI_str, isI_lst, isI_tup, isI_dic, isI_ins, Option.getD_some, ite_true, ite_false, reduceCtorEq, Bool.false_eq_true, Nat.reduceAdd, Nat.reduceLeDiff, Nat.reduceLT, Nat.reduceBEq, Nat.reduceEqDiff, Option.bind_some, Option.isNone_none, Option.isNone_some, Option.isSome_some, Option.isSome_none, mNil', mAny', List.map_cons, List.map_nil, Option.map_some, Option.map_none, Int.reduceAdd, ok_non, ok_bl, ok_int, ok_str, ok_lst, ok_tup, ixD_tup, ixD_lst, atI_0, atI_1, atI_2, atI_3, atI_4, atI_5, atI_6, atI_7, eqD_bl, cast2, cast0, cast1, cast3, cast4, cast5, cast6, cast7, cast8, slD_lst, slD_tup, slD_str, cut_1, cut_2, cut_3, isN_non, stepC_e, stepK_e, isN_tup, isN_int, isT_str, isT_int, isT_bool, isT_tuple, isT_list, isT_dict, eqD_int, eqD_str, ite_bind, loopT_nil, loopT_cons, thenL_nx, thenL_rt, instO_e, instS_bi, instS_oi, withF_bi, withF_oi, biO_e, endI_nx, defI_e, sNever_e, Bool.true_or, Bool.or_true, Bool.or_false, Bool.false_or, Bool.false_and, Bool.and_false, back_draw, bind2_draw, draw_e, Int.reduceBEq, Int.reduceSub, Int.reduceNeg, Int.reduceLT, Int.reduceLE, and_self, true_and, and_true, odO_eq, aStar_e, fStr_x, iItO_e, iZp_e, zpT_2, List.append_nil, ownD_od, zipO_lt, zipO_ll, zipO_tt, zipD_c, zipD_n, zipD_n2, seqD_l, seqD_t, strD_str, eMakeD_e, dbls_cons, dbls_nil, eShow_e, shT_d, shT_ld, eLd_e, ldT_d, ldT_ld, eDgL_e, dgT_d, dgT_ld, eLend_e, leT_od, leT_ol, blank_d, blank_src, blank_no, blank_ld, blank_ol, blank_od, blank_oi, blank_bi, flatO_bl, flatO_int, arg_ld, argOk_ld, pend_ld, eqP_e, fListK_x, fDictP_x, sForIt_e, datO_e, datS_d, eMov_e, movS_ol, movS_od, movS_oi])
local macro_rules | `(tactic| walk_at "ifs") => `(tactic| refine ifB (fun h => ?_) (fun h => ?_))
local macro_rules | `(tactic| walk_at "wd") => `(tactic| (with_reducible refine v_draw ?_ ?_ ?_; omega; omega))
local macro_rules | `(tactic| walk_at "wc") => `(tactic| with_reducible refine v_call ?_)
local macro_rules | `(tactic| walk_at "wb") => `(tactic| with_reducible refine v_b ?_)
local macro_rules | `(tactic| walk_at "w2") => `(tactic| with_reducible refine v_b2 ?_)
section
variable {c : Cs} {Z : Exc → Prop}
theorem lk_ol0 : Sl.lk (.ol []) = .ol [] := rfl
theorem lk_no : Sl.lk .no = .no := rfl
def foE (s : Str) (y : D) : Option D := match y with
  | .tup [.int i, .tup [a, b]] => some (.tup [.str s, .int i, a, b])
  | _ => none
theorem rowE_fo {s : Str} {cs : List D} : rowE s (.tup cs) = (numbered cs).filterMap (foE s) := rfl
theorem World_entries_eq {q : Parts} (hq : q.Ok) : m_World_entries c [.d (Parts.obj c.World q)] = .ret (.ol (entsD q)) := by
  have h3 := hq.l.hi
  have p4 := hq.p4
  have e0 : (q.ls.map (Sum.inr : Str → Key)).all kOk = true := by
    rw [List.all_map]
    exact List.all_eq_true.mpr fun s hs => nameS_ok (hq.l.nm s hs)
  have e1 := parts_noDics hq
  unfold m_World_entries b_World_entries
  walk_at "sv"
  rw [e0, e1]
  walk_at "sv"
  rw [lk_ol0, lk_no, pairs_map]
  refine loop_acc (fun pre ρ => ∃ (ss : List Str) (s0 s2 s3 : Sl), (∀ s ∈ ss, s ∈ q.ls) ∧ ss.length ≤ 3 ∧ pre = (ss.map fun s => D.tup [.str s, q.rowOf s]) ∧ ρ = [s0, .ol (ss.map fun s => rowE s (q.rowOf s)).flatten, s2, s3, .no, .no]) ⟨[], _, _, _, by simp, by simp, rfl, rfl⟩ (fun pre x r ρ e i => ?_) fun ρ i => ?_
  · obtain ⟨ss, s0, s2, s3, hs1, hs2, rfl, rfl⟩ := i
    have el := congrArg List.length e
    simp only [List.length_append, List.length_map, List.length_cons] at el
    have hx : x ∈ (q.ls.map fun s => D.tup [.str s, q.rowOf s]) := by rw [e]; simp
    obtain ⟨s, hs, rfl⟩ := List.mem_map.mp hx
    obtain ⟨r1, r2⟩ := hq.row hs
    have hlen : ((ss.map fun s => rowE s (q.rowOf s)).flatten).length ≤ 12 := by
      have : ∀ l : List Str, (∀ s ∈ l, s ∈ q.ls) → ((l.map fun s => rowE s (q.rowOf s)).flatten).length ≤ l.length * 4 := by
        intro l
        induction l with
        | nil => intro _; exact Nat.zero_le _
        | cons t l ih =>
          intro hl
          have a1 := ih fun y hy => hl y (List.mem_cons_of_mem _ hy)
          have a2 := rowE_len (s := t) (hq.row (hl t (by simp))).2
          rw [List.map_cons, List.flatten_cons, List.length_append, List.length_cons, Nat.succ_mul]
          omega
      have := this ss hs1
      omega
    have hrl := rowE_len (s := s) r2
    refine ⟨[s0, .ol ((ss ++ [s]).map fun s => rowE s (q.rowOf s)).flatten, .d (.str s), .d (q.rowOf s), .no, .no], ?_, ss ++ [s], _, _, _, ?_, ?_, ?_, rfl⟩
    · obtain ⟨cs, hcs, hl, hc⟩ := r2
      rw [hcs] at hrl ⊢
      rw [rowE_fo] at hrl
      walk_at "sv"
      rw [lc_fmap (foE s) _ _ (by rw [len_numbered, hl]; simp; omega) fun y hy => ?_]
      · walk_at "sv"
        rw [decide_eq_true (by omega)]
        walk_at "sv"
        rw [List.map_append, List.flatten_append, List.map_cons, List.map_nil, List.flatten_cons, List.flatten_nil, List.append_nil, hcs]
        rfl
      · obtain ⟨i, hi, rfl⟩ := mem_numbered hy
        rcases hc cs[i] (List.getElem_mem hi) with hn | ⟨j, t, hn, _⟩
        · rw [hn]
          walk_at "sv"
          rfl
        · rw [hn]
          walk_at "sv"
          rfl
    · intro t ht
      rcases List.mem_append.mp ht with h | h
      · exact hs1 t h
      · have : t = s := by simpa using h
        rw [this]; exact hs
    · rw [List.length_append]; simp; omega
    · rw [List.map_append]; rfl
  · obtain ⟨ss, s0, s2, s3, hs1, hs2, e, rfl⟩ := i
    have : ss = q.ls := by
      have h := congrArg (List.map fun x : D => match x with | .tup [.str s, _] => s | _ => Str.empty) e
      rw [List.map_map, List.map_map] at h
      have z : ∀ l : List Str, l.map ((fun x : D => match x with | .tup [.str s, _] => s | _ => Str.empty) ∘ fun s => D.tup [.str s, q.rowOf s]) = l := fun l => by
        induction l with
        | nil => rfl
        | cons a l ih => rw [List.map_cons, ih]; rfl
      rw [z, z] at h
      exact h.symm
    subst this
    walk_at "sv"
    rfl
end

end K02
namespace K02
open PySem L2 Fl Tr Sv
local macro_rules | `(tactic| walk_at "sv") => `(tactic| try simp only [bind_ret, bind_fail, bind_draw, bind2_ret, ofO_some, ofO_none, need_true, need_false, back_ret, wp_ret, varT_src, varT_d, varT_ol, varT_od, varT_oi, dat_d, dat_ol, dat_od, dat_oi, arg_d, arg_src, arg_ol, arg_od, arg_oi, noNo_d, noNo_ol, noNo_od, noNo_oi, argOk_d, argOk_src, blO_bl, intO_int, endM_nx, endM_rt, thenS_nx, thenS_rt, dlst_lst, dint_int, dstr_str, seqD_lst, seqD_tup, itemsD_lst, itemsD_tup, itemsD_str, cp_one, lst1_one, int1_one, lenD_lst, lenD_tup, lenD_str, insOf_me, two_eq, three_eq, pend_d, pend_ol, pend_od, tupO_eq, gsCons_eq, gsNil_eq, mVal_eq, dicO_dic, dtup_tup, keyD_str, keyD_int, eC_e, aNil_e, aCons_e, eTup_e, eLst_e, eDic0_e, eOp_e, tTru_e, tTst_e, tNot_e, tAnd_e, tOr_e, eAnd_e, eOr_e, eNot_e, eIf_e, eCall_e, eIx_e, oNo_e, oSome_e, eSl_e, eChain_e, eIsi_e, eIsi2_e, eDg_e, eDin_e, eApp_e, eExt_e, ePop_e, eIns_e, tOwnNe_e, eOwnLen_e, eOwnIx_e, eOwnIn_e, eClr_e, eJoin_e, eItems_e, eNeg_e, eFld_e, bNil_e, bCons_e, bArg_e, eFn_e, eMeth_e, eMeth0_e, eProp_e, eMakeK_e, eMake_e, eIsOwn_e, gNm_e, gTp_e, sNext_e, sBreak_e, sCont_e, sSeq_e, sExpr_e, sRet_e, sIf_e, sAsg_e, sPar_e, sPar3_e, sFor_e, sWhile_e, sSetL_e, sSetD_e, sSetF_e, sMatch_e, iL_e, iT_e, iS_e, iR_e, iEn_e, eLc_e, tYes_e, eDc_e, iEnA_e, iSq_e, eFnP_e, eMethP_e, eMakeP_e, eSortSet_e, eRev_e, eListRg_e, oAdd_ii, oAdd_ss, oAdd_ll, oAdd_tt, oSub_ii, oMul_ii, oMul_li, oMod_ii, oFdv_ii, oLt_ii, oLe_ii, oGt_ii, oGe_ii, oEq_e, oNe_e, oIsN_e, oNotN_e, oIn_e, oNotIn_e, oInD_e, fLen_e, fList_e, fTuple_e, fInt_i, fInt_b, fAll_e, fAny_e, fSortS_e, fRepr_e, fDict_e, fOwnLen_e, oOwnEq_e, oOwnNe_e, drawM_e, eVar_eq, ofO_bind, ofO_bind2, need_bind, need_bind2, ite_bind, ite_bind2, back_ite, ownO_eq, wp_ret', v_ret, bind2_bind, bind_bind2, bind2_bind2, Tr.bind_assoc, back_bind, defM, List.cons_append, List.nil_append, List.replicate_succ, List.replicate_zero, List.getElem?_cons_zero, List.getElem?_cons_succ, List.set_cons_zero, List.set_cons_succ, List.length_cons, List.length_nil, List.all_cons, List.all_nil, Bool.and_true, Bool.true_and, Bool.and_self, beq_self_eq_true, decide_true, decide_false, if_true, if_false, Bool.not_true, Bool.not_false, wipeD, isI_non, isI_bl, isI_int, isI_str, isI_lst, isI_tup, isI_dic, isI_ins, Option.getD_some, ite_true, ite_false, reduceCtorEq, Bool.false_eq_true, Nat.reduceAdd, Nat.reduceLeDiff, Nat.reduceLT, Nat.reduceBEq, Nat.reduceEqDiff, Option.bind_some, Option.isNone_none, Option.isNone_some, Option.isSome_some, Option.isSome_none, mNil', mAny', List.map_cons, List.map_nil, Option.map_some, Option.map_none, Int.reduceAdd, ok_non, ok_bl, ok_int, ok_str, ok_lst, ok_tup, ixD_tup, ixD_lst, atI_0, atI_1, atI_2, atI_3, atI_4, atI_5, atI_6, atI_7, eqD_bl, cast2, cast0, cast1, cast3, cast4, cast5, cast6, cast7, cast8, slD_lst, slD_tup, slD_str, cut_1, cut_2, cut_3, isN_non, stepC_e, stepK_e, isN_tup, isN_int, isT_str, isT_int, isT_bool, isT_tuple, isT_list, isT_dict, eqD_int, eqD_str, ite_bind, loopT_nil, loopT_cons, thenL_nx, thenL_rt, instO_e, instS_bi, instS_oi, withF_bi, withF_oi, biO_e, endI_nx, defI_e, sNever_e, Bool.true_or, Bool.or_true, Bool.or_false, Bool.false_or, Bool.false_and, Bool.and_false, back_draw, bind2_draw, draw_e, Int.reduceBEq, Int.reduceSub, Int.reduceNeg, Int.reduceLT, Int.reduceLE, and_self, true_and, and_true, odO_eq, aStar_e, fStr_x, iItO_e, iZp_e, zpT_2, List.append_nil, ownD_od, zipO_lt, zipO_ll, zipO_tt, zipD_c, zipD_n, zipD_n2, seqD_l, seqD_t, strD_str, eMakeD_e, dbls_cons, dbls_nil, eShow_e, shT_d, shT_ld, eLd_e, ldT_d, ldT_ld, eDgL_e, dgT_d, dgT_ld, eLend_e, leT_od, leT_ol, blank_d, blank_src, blank_no, blank_ld, blank_ol, blank_od, blank_oi, blank_bi, flatO_bl, flatO_int, arg_ld, argOk_ld, pend_ld, eqP_e, fListK_x, fDictP_x, sForIt_e, datO_e, datS_d, eMov_e, movS_ol, movS_od, movS_oi, eqD_tnil, inSeq_tup, inSeq_lst, flat_int, flat_str, flat_non, flat_bl, inD_nil, inD_cons, inDp_tup, inDp_lst, eqD_tcons, eqD_tnil2, eqD_tnn, insW, isInsW, lkW1, lkW2, lkW3, lkW5, lkW4, lkW_page, lkW_frame, lkW_entry, lkW_parts, lkW_entries, lkW_need, insSc, isInsSc, lkS1, lkS2, lkS_guards, lkS_entries, scput1, scput2, scput3, ofS_inj, String.reduceEq, eqD_refl])
local macro_rules | `(tactic| walk_at "ev") => `(tactic| try simp only [bind_ret, bind_fail, bind_draw, bind2_ret, ofO_some, ofO_none, need_true, need_false, back_ret, wp_ret, varT_src, varT_d, varT_ol, varT_od, varT_oi, dat_d, dat_ol, dat_od, dat_oi, arg_d, arg_src, arg_ol, arg_od, arg_oi, noNo_d, noNo_ol, noNo_od, noNo_oi, argOk_d, argOk_src, blO_bl, intO_int, endM_nx, endM_rt, thenS_nx, thenS_rt, dlst_lst, dint_int, dstr_str, seqD_lst, seqD_tup, itemsD_lst, itemsD_tup, itemsD_str, cp_one, lst1_one, int1_one, lenD_lst, lenD_tup, lenD_str, insOf_me, two_eq, three_eq, pend_d, pend_ol, pend_od, tupO_eq, gsCons_eq, gsNil_eq, mVal_eq, dicO_dic, dtup_tup, keyD_str, keyD_int, eC_e, aNil_e, aCons_e, eTup_e, eLst_e, eDic0_e, eOp_e, tTru_e, tTst_e, tNot_e, tAnd_e, tOr_e, eAnd_e, eOr_e, eNot_e, eIf_e, eCall_e, eIx_e, oNo_e, oSome_e, eSl_e, eChain_e, eIsi_e, eIsi2_e, eDg_e, eDin_e, eApp_e, eExt_e, ePop_e, eIns_e, tOwnNe_e, eOwnLen_e, eOwnIx_e, eOwnIn_e, eClr_e, eJoin_e, eItems_e, eNeg_e, eFld_e, bNil_e, bCons_e, bArg_e, eFn_e, eMeth_e, eMeth0_e, eProp_e, eMakeK_e, eMake_e, eIsOwn_e, gNm_e, gTp_e, sNext_e, sBreak_e, sCont_e, sSeq_e, sExpr_e, sRet_e, sIf_e, sAsg_e, sPar_e, sPar3_e, sFor_e, sWhile_e, sSetL_e, sSetD_e, sSetF_e, sMatch_e, iL_e, iT_e, iS_e, iR_e, iEn_e, eLc_e, tYes_e, eDc_e, iEnA_e, iSq_e, eFnP_e, eMethP_e, eMakeP_e, eSortSet_e, eRev_e, eListRg_e, oAdd_ii, oAdd_ss, oAdd_ll, oAdd_tt, oSub_ii, oMul_ii, oMul_li, oMod_ii, oFdv_ii, oLt_ii, oLe_ii, oGt_ii, oGe_ii, oEq_e, oNe_e, oIsN_e, oNotN_e, oIn_e, oNotIn_e, oInD_e, fLen_e, fList_e, fTuple_e, fInt_i, fInt_b, fAll_e, fAny_e, fSortS_e, fRepr_e, fDict_e, fOwnLen_e, oOwnEq_e, oOwnNe_e, drawM_e, eVar_eq, ofO_bind, ofO_bind2, need_bind, need_bind2, ite_bind, ite_bind2, back_ite, ownO_eq, wp_ret', v_ret, bind2_bind, bind_bind2, bind2_bind2, Tr.bind_assoc, back_bind, defM, List.cons_append, List.nil_append, List.replicate_succ, List.replicate_zero, List.getElem?_cons_zero, List.getElem?_cons_succ, List.set_cons_zero, List.set_cons_succ, List.length_cons, List.length_nil, List.all_cons, List.all_nil, Bool.and_true, Bool.true_and, Bool.and_self, beq_self_eq_true, decide_true, decide_false, if_true, if_false, Bool.not_true, Bool.not_false, wipeD, isI_non, isI_bl, isI_int, isI_str, isI_lst, isI_tup, isI_dic, isI_ins, Option.getD_some, ite_true, ite_false, reduceCtorEq, Bool.false_eq_true, Nat.reduceAdd, Nat.reduceLeDiff, Nat.reduceLT, Nat.reduceBEq, Nat.reduceEqDiff, Option.bind_some, Option.isNone_none, Option.isNone_some, Option.isSome_some, Option.isSome_none, mNil', mAny', List.map_cons, List.map_nil, Option.map_some, Option.map_none, Int.reduceAdd, ok_non, ok_bl, ok_int, ok_str, ok_lst, ok_tup, ixD_tup, ixD_lst, atI_0, atI_1, atI_2, atI_3, atI_4, atI_5, atI_6, atI_7, eqD_bl, cast2, cast0, cast1, cast3, cast4, cast5, cast6, cast7, cast8, slD_lst, slD_tup, slD_str, cut_1, cut_2, cut_3, isN_non, stepC_e, stepK_e, isN_tup, isN_int, isT_str, isT_int, isT_bool, isT_tuple, isT_list, isT_dict, eqD_int, eqD_str, ite_bind, loopT_nil, loopT_cons, thenL_nx, thenL_rt, instO_e, instS_bi, instS_oi, withF_bi, withF_oi, biO_e, endI_nx, defI_e, sNever_e, Bool.true_or, Bool.or_true, Bool.or_false, Bool.false_or, Bool.false_and, Bool.and_false, back_draw, bind2_draw, draw_e, Int.reduceBEq, Int.reduceSub, Int.reduceNeg, Int.reduceLT, Int.reduceLE, and_self, true_and, and_true, odO_eq, aStar_e, fStr_x, iItO_e, iZp_e, zpT_2, List.append_nil, ownD_od, zipO_lt, zipO_ll, zipO_tt, zipD_c, zipD_n, zipD_n2, seqD_l, seqD_t, strD_str, eMakeD_e, dbls_cons, dbls_nil, eShow_e, shT_d, shT_ld, eLd_e, ldT_d, ldT_ld, eDgL_e, dgT_d, dgT_ld, eLend_e, leT_od, leT_ol, blank_d, blank_src, blank_no, blank_ld, blank_ol, blank_od, blank_oi, blank_bi, flatO_bl, flatO_int, arg_ld, argOk_ld, pend_ld, eqP_e, fListK_x, fDictP_x, sForIt_e, datO_e, datS_d, eMov_e, movS_ol, movS_od, movS_oi])
local macro_rules | `(tactic| walk_at "ifs") => `(tactic| refine ifB (fun h => ?_) (fun h => ?_))
local macro_rules | `(tactic| walk_at "wd") => `(tactic| (with_reducible refine v_draw ?_ ?_ ?_; omega; omega))
local macro_rules | `(tactic| walk_at "wc") => `(tactic| with_reducible refine v_call ?_)
local macro_rules | `(tactic| walk_at "wb") => `(tactic| with_reducible refine v_b ?_)
local macro_rules | `(tactic| walk_at "w2") => `(tactic| with_reducible refine v_b2 ?_)
section
variable {c : Cs} {Z : Exc → Prop}
theorem ents_le {q : Parts} (hq : q.Ok) : ∀ l : List Str, (∀ s ∈ l, s ∈ q.ls) → ((l.map fun s => rowE s (q.rowOf s)).flatten).length ≤ l.length * 4
  | [], _ => Nat.zero_le _
  | t :: l, hl => by
    have p4 := hq.p4
    have a1 := ents_le hq l fun y hy => hl y (List.mem_cons_of_mem _ hy)
    have a2 := rowE_len (s := t) (hq.row (hl t (by simp))).2
    rw [List.map_cons, List.flatten_cons, List.length_append, List.length_cons, Nat.succ_mul]
    omega
theorem ents_ok {q : Parts} (hq : q.Ok) : (entsD q).all (ok 59) = true := List.all_eq_true.mpr fun x hx => by
  obtain ⟨l, hl, hx⟩ := List.mem_flatten.mp hx
  obtain ⟨s, hs, rfl⟩ := List.mem_map.mp hl
  obtain ⟨r1, cs, hcs, hl, hc⟩ := hq.row hs
  rw [hcs, rowE_fo] at hx
  obtain ⟨y, hy, e⟩ := List.mem_filterMap.mp hx
  obtain ⟨i, hi, rfl⟩ := mem_numbered hy
  rcases hc cs[i] (List.getElem_mem hi) with hn | ⟨j, t, hn, _⟩
  · rw [hn] at e; cases e
  · rw [hn] at e
    cases e
    rfl
theorem keyT_map {ls : List Str} : (ls.map (Sum.inr : Str → Key)).map keyT = ls.map D.str := by rw [List.map_map]; rfl
def foL (q : Parts) (y : D) : D := match y with
  | .str s => .tup [.str s, q.rowOf s]
  | _ => .non
theorem due_eq {q : Parts} (hq : q.Ok) {β : Type} {k : Out → T β} {r : T β} {a0 a1 s8 : Sl} (hk : ∀ s8, k (.nx [a0, a1, .d q.lsD, .d (.int q.p), .d (.int q.f), .d q.grid, .d q.rules, .ol (entsD q), s8, .no, .no, .no, .no, .no]) = r) :
    (loopT (gNm' 8) (sAsg (eOp oAdd (eVar 7) (eLc (iEnA' (aCons (eDg (eVar 5) (eVar 8)) aNil)) (gTp' 2 (gsCons (gNm' 9) (gsCons (gNm' 10) gsNil))) (tTst (eOp oNotN (eVar 10) (eC .non))) (eOp oAdd (eTup (aCons (eVar 8) (aCons (eVar 9) aNil))) (eVar 10)) [9, 10])) (gNm' 7)) (q.ls.map D.str)
      [a0, a1, .d q.lsD, .d (.int q.p), .d (.int q.f), .d q.grid, .d q.rules, .ol [], s8, .no, .no, .no, .no, .no]).bind k = r := by
  have h3 := hq.l.hi
  have p4 := hq.p4
  unfold Parts.grid at hk ⊢
  refine loop_acc (fun pre ρ => ∃ (ss : List Str) (s8 : Sl), (∀ s ∈ ss, s ∈ q.ls) ∧ ss.length ≤ 3 ∧ pre = ss.map D.str ∧ ρ = [a0, a1, .d q.lsD, .d (.int q.p), .d (.int q.f), .d (.dic q.ks q.vs), .d q.rules, .ol (ss.map fun s => rowE s (q.rowOf s)).flatten, s8, .no, .no, .no, .no, .no]) ⟨[], s8, by simp, by simp, rfl, rfl⟩ (fun pre x r ρ e i => ?_) fun ρ i => ?_
  · obtain ⟨ss, s8, hs1, hs2, rfl, rfl⟩ := i
    have el := congrArg List.length e
    simp only [List.length_append, List.length_map, List.length_cons] at el
    have hx : x ∈ q.ls.map D.str := by rw [e]; simp
    obtain ⟨s, hs, rfl⟩ := List.mem_map.mp hx
    obtain ⟨r1, r2⟩ := hq.row hs
    have hlen := ents_le hq ss hs1
    have hrl := rowE_len (s := s) r2
    refine ⟨[a0, a1, .d q.lsD, .d (.int q.p), .d (.int q.f), .d (.dic q.ks q.vs), .d q.rules, .ol ((ss ++ [s]).map fun s => rowE s (q.rowOf s)).flatten, .d (.str s), .no, .no, .no, .no, .no], ?_, ss ++ [s], _, ?_, ?_, ?_, rfl⟩
    · obtain ⟨cs, hcs, hl, hc⟩ := r2
      rw [hcs] at hrl r1
      rw [rowE_fo] at hrl
      walk_at "sv"
      rw [r1]
      walk_at "sv"
      rw [lc_fmap (foE s) _ _ (by rw [len_numbered, hl]; simp; omega) fun y hy => ?_]
      · walk_at "sv"
        rw [decide_eq_true (show ((ss.map fun s => rowE s (q.rowOf s)).flatten).length + ((numbered cs).filterMap (foE s)).length ≤ 100000 by omega)]
        walk_at "sv"
        rw [List.map_append, List.flatten_append, List.map_cons, List.map_nil, List.flatten_cons, List.flatten_nil, List.append_nil, hcs]
        rfl
      · obtain ⟨i, hi, rfl⟩ := mem_numbered hy
        rcases hc cs[i] (List.getElem_mem hi) with hn | ⟨j, t, hn, _⟩
        · rw [hn]
          walk_at "sv"
          rfl
        · rw [hn]
          walk_at "sv"
          rfl
    · intro t ht
      rcases List.mem_append.mp ht with h | h
      · exact hs1 t h
      · have : t = s := by simpa using h
        rw [this]; exact hs
    · rw [List.length_append]; simp; omega
    · rw [List.map_append]; rfl
  · obtain ⟨ss, s8, hs1, hs2, e, rfl⟩ := i
    have : ss = q.ls := by
      have h := congrArg (List.map fun x : D => match x with | .str s => s | _ => Str.empty) e
      rw [List.map_map, List.map_map] at h
      have z : ∀ l : List Str, l.map ((fun x : D => match x with | .str s => s | _ => Str.empty) ∘ D.str) = l := fun l => by
        induction l with
        | nil => rfl
        | cons a l ih => rw [List.map_cons, ih]; rfl
      rw [z, z] at h
      exact h.symm
    subst this
    exact hk _
theorem law_right_eq {q : Parts} (hq : q.Ok) : m__law_right c [.d (Parts.obj c.World q), .d q.d] = .ret (.d (.bl true)) := by
  have h3 := hq.l.hi
  have e0 : (q.ls.map (Sum.inr : Str → Key)).all kOk = true := by
    rw [List.all_map]
    exact List.all_eq_true.mpr fun s hs => nameS_ok (hq.l.nm s hs)
  have hts := told_shw hq
  unfold toldD at hts
  have hel : (entsD q).length ≤ 12 := by
    have := ents_le hq q.ls fun s hs => hs
    show ((q.ls.map fun s => rowE s (q.rowOf s)).flatten).length ≤ 12
    omega
  unfold m__law_right b__law_right Parts.d
  walk_at "sv"
  rw [show q.lsD = .tup (q.ls.map D.str) from rfl]
  walk_at "sv"
  refine due_eq hq fun s8 => ?_
  walk_at "sv"
  rw [World_spaces_eq]
  walk_at "sv"
  rw [World_pages_eq]
  walk_at "sv"
  rw [World_frames_eq]
  walk_at "sv"
  rw [World_tables_eq]
  walk_at "sv"
  rw [e0]
  walk_at "sv"
  rw [pairs_map]
  walk_at "sv"
  rw [World_tags_eq]
  walk_at "sv"
  rw [World_checks_eq]
  walk_at "sv"
  rw [World_early_eq]
  walk_at "sv"
  unfold Parts.lsD at hts ⊢
  rw [hts.1, decide_eq_true hts.2]
  unfold Parts.grid
  walk_at "sv"
  rw [lc_map (foL q) _ _ (by rw [List.length_map]; show 0 + _ < _; omega) fun y hy => ?_]
  · rw [show (q.ls.map D.str).map (foL q) = q.ls.map fun s => .tup [.str s, q.rowOf s] by rw [List.map_map]; rfl]
    unfold Parts.rules
    walk_at "sv"
    rw [hts.1, decide_eq_true hts.2]
    walk_at "sv"
    rw [World_tables_eq]
    walk_at "sv"
    rw [World_entries_eq hq]
    walk_at "sv"
    rw [decide_eq_true (show (entsD q).length < 1000000 by omega)]
    walk_at "sv"
    rw [World_entries_eq hq]
    walk_at "sv"
    rw [ents_ok hq]
    walk_at "sv"
    rw [World_tables_eq]
    walk_at "sv"
    rw [e0, keyT_map]
    walk_at "sv"
    rw [show (q.ls.map D.str).all (ok 59) = true from (ok_strs 59 q.ls).1]
    walk_at "sv"
  · obtain ⟨s, hs, rfl⟩ := List.mem_map.mp hy
    walk_at "sv"
    rw [(hq.row hs).1]
    walk_at "sv"
    rfl
end

end K02
namespace K02
open PySem L2 Fl Tr Sv
local macro_rules | `(tactic| walk_at "sv") => `(tactic| try simp only [bind_ret, bind_fail, bind_draw, bind2_ret, ofO_some, ofO_none, need_true, need_false, back_ret, wp_ret, varT_src, varT_d, varT_ol, varT_od, varT_oi, dat_d, dat_ol, dat_od, dat_oi, arg_d, arg_src, arg_ol, arg_od, arg_oi, noNo_d, noNo_ol, noNo_od, noNo_oi, argOk_d, argOk_src, blO_bl, intO_int, endM_nx, endM_rt, thenS_nx, thenS_rt, dlst_lst, dint_int, dstr_str, seqD_lst, seqD_tup, itemsD_lst, itemsD_tup, itemsD_str, cp_one, lst1_one, int1_one, lenD_lst, lenD_tup, lenD_str, insOf_me, two_eq, three_eq, pend_d, pend_ol, pend_od, tupO_eq, gsCons_eq, gsNil_eq, mVal_eq, dicO_dic, dtup_tup, keyD_str, keyD_int, eC_e, aNil_e, aCons_e, eTup_e, eLst_e, eDic0_e, eOp_e, tTru_e, tTst_e, tNot_e, tAnd_e, tOr_e, eAnd_e, eOr_e, eNot_e, eIf_e, eCall_e, eIx_e, oNo_e, oSome_e, eSl_e, eChain_e, eIsi_e, eIsi2_e, eDg_e, eDin_e, eApp_e, eExt_e, ePop_e, eIns_e, tOwnNe_e, eOwnLen_e, eOwnIx_e, eOwnIn_e, eClr_e, eJoin_e, eItems_e, eNeg_e, eFld_e, bNil_e, bCons_e, bArg_e, eFn_e, eMeth_e, eMeth0_e, eProp_e, eMakeK_e, eMake_e, eIsOwn_e, gNm_e, gTp_e, sNext_e, sBreak_e, sCont_e, sSeq_e, sExpr_e, sRet_e, sIf_e, sAsg_e, sPar_e, sPar3_e, sFor_e, sWhile_e, sSetL_e, sSetD_e, sSetF_e, sMatch_e, iL_e, iT_e, iS_e, iR_e, iEn_e, eLc_e, tYes_e, eDc_e, iEnA_e, iSq_e, eFnP_e, eMethP_e, eMakeP_e, eSortSet_e, eRev_e, eListRg_e, oAdd_ii, oAdd_ss, oAdd_ll, oAdd_tt, oSub_ii, oMul_ii, oMul_li, oMod_ii, oFdv_ii, oLt_ii, oLe_ii, oGt_ii, oGe_ii, oEq_e, oNe_e, oIsN_e, oNotN_e, oIn_e, oNotIn_e, oInD_e, fLen_e, fList_e, fTuple_e, fInt_i, fInt_b, fAll_e, fAny_e, fSortS_e, fRepr_e, fDict_e, fOwnLen_e, oOwnEq_e, oOwnNe_e, drawM_e, eVar_eq, ofO_bind, ofO_bind2, need_bind, need_bind2, ite_bind, ite_bind2, back_ite, ownO_eq, wp_ret', v_ret, bind2_bind, bind_bind2, bind2_bind2, Tr.bind_assoc, back_bind, defM, List.cons_append, List.nil_append, List.replicate_succ, List.replicate_zero, List.getElem?_cons_zero, List.getElem?_cons_succ, List.set_cons_zero, List.set_cons_succ, List.length_cons, List.length_nil, List.all_cons, List.all_nil, Bool.and_true, Bool.true_and, Bool.and_self, beq_self_eq_true, decide_true, decide_false, if_true, if_false, Bool.not_true, Bool.not_false, wipeD, isI_non, isI_bl, isI_int, isI_str, isI_lst, isI_tup, isI_dic, isI_ins, Option.getD_some, ite_true, ite_false, reduceCtorEq, Bool.false_eq_true, Nat.reduceAdd, Nat.reduceLeDiff, Nat.reduceLT, Nat.reduceBEq, Nat.reduceEqDiff, Option.bind_some, Option.isNone_none, Option.isNone_some, Option.isSome_some, Option.isSome_none, mNil', mAny', List.map_cons, List.map_nil, Option.map_some, Option.map_none, Int.reduceAdd, ok_non, ok_bl, ok_int, ok_str, ok_lst, ok_tup, ixD_tup, ixD_lst, atI_0, atI_1, atI_2, atI_3, atI_4, atI_5, atI_6, atI_7, eqD_bl, cast2, cast0, cast1, cast3, cast4, cast5, cast6, cast7, cast8, slD_lst, slD_tup, slD_str, cut_1, cut_2, cut_3, isN_non, stepC_e, stepK_e, isN_tup, isN_int, isT_str, isT_int, isT_bool, isT_tuple, isT_list, isT_dict, eqD_int, eqD_str, ite_bind, loopT_nil, loopT_cons, thenL_nx, thenL_rt, instO_e, instS_bi, instS_oi, withF_bi, withF_oi, biO_e, endI_nx, defI_e, sNever_e, Bool.true_or, Bool.or_true, Bool.or_false, Bool.false_or, Bool.false_and, Bool.and_false, back_draw, bind2_draw, draw_e, Int.reduceBEq, Int.reduceSub, Int.reduceNeg, Int.reduceLT, Int.reduceLE, and_self, true_and, and_true, odO_eq, aStar_e, fStr_x, iItO_e, iZp_e, zpT_2, List.append_nil, ownD_od, zipO_lt, zipO_ll, zipO_tt, zipD_c, zipD_n, zipD_n2, seqD_l, seqD_t, strD_str, eMakeD_e, dbls_cons, dbls_nil, eShow_e, shT_d, shT_ld, eLd_e, ldT_d, ldT_ld, eDgL_e, dgT_d, dgT_ld, eLend_e, leT_od, leT_ol, blank_d, blank_src, blank_no, blank_ld, blank_ol, blank_od, blank_oi, blank_bi, flatO_bl, flatO_int, arg_ld, argOk_ld, pend_ld, eqP_e, fListK_x, fDictP_x, sForIt_e, datO_e, datS_d, eMov_e, movS_ol, movS_od, movS_oi, eqD_tnil, inSeq_tup, inSeq_lst, flat_int, flat_str, flat_non, flat_bl, inD_nil, inD_cons, inDp_tup, inDp_lst, eqD_tcons, eqD_tnil2, eqD_tnn, insW, isInsW, lkW1, lkW2, lkW3, lkW5, lkW4, lkW_page, lkW_frame, lkW_entry, lkW_parts, lkW_entries, lkW_need, insSc, isInsSc, lkS1, lkS2, lkS_guards, lkS_entries, scput1, scput2, scput3, ofS_inj, String.reduceEq, eqD_refl])
local macro_rules | `(tactic| walk_at "ev") => `(tactic| try simp only [bind_ret, bind_fail, bind_draw, bind2_ret, ofO_some, ofO_none, need_true, need_false, back_ret, wp_ret, varT_src, varT_d, varT_ol, varT_od, varT_oi, dat_d, dat_ol, dat_od, dat_oi, arg_d, arg_src, arg_ol, arg_od, arg_oi, noNo_d, noNo_ol, noNo_od, noNo_oi, argOk_d, argOk_src, blO_bl, intO_int, endM_nx, endM_rt, thenS_nx, thenS_rt, dlst_lst, dint_int, dstr_str, seqD_lst, seqD_tup, itemsD_lst, itemsD_tup, itemsD_str, cp_one, lst1_one, int1_one, lenD_lst, lenD_tup, lenD_str, insOf_me, two_eq, three_eq, pend_d, pend_ol, pend_od, tupO_eq, gsCons_eq, gsNil_eq, mVal_eq, dicO_dic, dtup_tup, keyD_str, keyD_int, eC_e, aNil_e, aCons_e, eTup_e, eLst_e, eDic0_e, eOp_e, tTru_e, tTst_e, tNot_e, tAnd_e, tOr_e, eAnd_e, eOr_e, eNot_e, eIf_e, eCall_e, eIx_e, oNo_e, oSome_e, eSl_e, eChain_e, eIsi_e, eIsi2_e, eDg_e, eDin_e, eApp_e, eExt_e, ePop_e, eIns_e, tOwnNe_e, eOwnLen_e, eOwnIx_e, eOwnIn_e, eClr_e, eJoin_e, eItems_e, eNeg_e, eFld_e, bNil_e, bCons_e, bArg_e, eFn_e, eMeth_e, eMeth0_e, eProp_e, eMakeK_e, eMake_e, eIsOwn_e, gNm_e, gTp_e, sNext_e, sBreak_e, sCont_e, sSeq_e, sExpr_e, sRet_e, sIf_e, sAsg_e, sPar_e, sPar3_e, sFor_e, sWhile_e, sSetL_e, sSetD_e, sSetF_e, sMatch_e, iL_e, iT_e, iS_e, iR_e, iEn_e, eLc_e, tYes_e, eDc_e, iEnA_e, iSq_e, eFnP_e, eMethP_e, eMakeP_e, eSortSet_e, eRev_e, eListRg_e, oAdd_ii, oAdd_ss, oAdd_ll, oAdd_tt, oSub_ii, oMul_ii, oMul_li, oMod_ii, oFdv_ii, oLt_ii, oLe_ii, oGt_ii, oGe_ii, oEq_e, oNe_e, oIsN_e, oNotN_e, oIn_e, oNotIn_e, oInD_e, fLen_e, fList_e, fTuple_e, fInt_i, fInt_b, fAll_e, fAny_e, fSortS_e, fRepr_e, fDict_e, fOwnLen_e, oOwnEq_e, oOwnNe_e, drawM_e, eVar_eq, ofO_bind, ofO_bind2, need_bind, need_bind2, ite_bind, ite_bind2, back_ite, ownO_eq, wp_ret', v_ret, bind2_bind, bind_bind2, bind2_bind2, Tr.bind_assoc, back_bind, defM, List.cons_append, List.nil_append, List.replicate_succ, List.replicate_zero, List.getElem?_cons_zero, List.getElem?_cons_succ, List.set_cons_zero, List.set_cons_succ, List.length_cons, List.length_nil, List.all_cons, List.all_nil, Bool.and_true, Bool.true_and, Bool.and_self, beq_self_eq_true, decide_true, decide_false, if_true, if_false, Bool.not_true, Bool.not_false, wipeD, isI_non, isI_bl, isI_int, isI_str, isI_lst, isI_tup, isI_dic, isI_ins, Option.getD_some, ite_true, ite_false, reduceCtorEq, Bool.false_eq_true, Nat.reduceAdd, Nat.reduceLeDiff, Nat.reduceLT, Nat.reduceBEq, Nat.reduceEqDiff, Option.bind_some, Option.isNone_none, Option.isNone_some, Option.isSome_some, Option.isSome_none, mNil', mAny', List.map_cons, List.map_nil, Option.map_some, Option.map_none, Int.reduceAdd, ok_non, ok_bl, ok_int, ok_str, ok_lst, ok_tup, ixD_tup, ixD_lst, atI_0, atI_1, atI_2, atI_3, atI_4, atI_5, atI_6, atI_7, eqD_bl, cast2, cast0, cast1, cast3, cast4, cast5, cast6, cast7, cast8, slD_lst, slD_tup, slD_str, cut_1, cut_2, cut_3, isN_non, stepC_e, stepK_e, isN_tup, isN_int, isT_str, isT_int, isT_bool, isT_tuple, isT_list, isT_dict, eqD_int, eqD_str, ite_bind, loopT_nil, loopT_cons, thenL_nx, thenL_rt, instO_e, instS_bi, instS_oi, withF_bi, withF_oi, biO_e, endI_nx, defI_e, sNever_e, Bool.true_or, Bool.or_true, Bool.or_false, Bool.false_or, Bool.false_and, Bool.and_false, back_draw, bind2_draw, draw_e, Int.reduceBEq, Int.reduceSub, Int.reduceNeg, Int.reduceLT, Int.reduceLE, and_self, true_and, and_true, odO_eq, aStar_e, fStr_x, iItO_e, iZp_e, zpT_2, List.append_nil, ownD_od, zipO_lt, zipO_ll, zipO_tt, zipD_c, zipD_n, zipD_n2, seqD_l, seqD_t, strD_str, eMakeD_e, dbls_cons, dbls_nil, eShow_e, shT_d, shT_ld, eLd_e, ldT_d, ldT_ld, eDgL_e, dgT_d, dgT_ld, eLend_e, leT_od, leT_ol, blank_d, blank_src, blank_no, blank_ld, blank_ol, blank_od, blank_oi, blank_bi, flatO_bl, flatO_int, arg_ld, argOk_ld, pend_ld, eqP_e, fListK_x, fDictP_x, sForIt_e, datO_e, datS_d, eMov_e, movS_ol, movS_od, movS_oi])
local macro_rules | `(tactic| walk_at "ifs") => `(tactic| refine ifB (fun h => ?_) (fun h => ?_))
local macro_rules | `(tactic| walk_at "wd") => `(tactic| (with_reducible refine v_draw ?_ ?_ ?_; omega; omega))
local macro_rules | `(tactic| walk_at "wc") => `(tactic| with_reducible refine v_call ?_)
local macro_rules | `(tactic| walk_at "wb") => `(tactic| with_reducible refine v_b ?_)
local macro_rules | `(tactic| walk_at "w2") => `(tactic| with_reducible refine v_b2 ?_)
section
variable {c : Cs} {Z : Exc → Prop} {P : Sl → Prop}
theorem cut_from {xs : List D} {k : Nat} (h : k ≤ xs.length) : cutD xs (some (k : Int)) none = xs.drop k := by
  have h1 : HT.sIx xs.length xs.length none = xs.length := rfl
  have h2 : HT.sIx xs.length 0 (some (k : Int)) = k := by
    unfold HT.sIx
    simp only
    split <;> omega
  unfold cutD
  rw [h1, h2]
  rw [List.take_of_length_le]
  rw [List.length_drop]
  omega
theorem pairD_len : ∀ {ks : List Key} {vs : List D}, (pairD ks vs).length = min ks.length vs.length
  | [], vs => by cases vs <;> simp [pairD]
  | _ :: _, [] => by simp [pairD]
  | k :: ks, v :: vs => by
    show (pairD ks vs).length + 1 = _
    rw [pairD_len]
    simp
theorem row_put {cs : List D} {p : Nat} {f : Int} {x : D} (hl : cs.length = p) (hc : ∀ y ∈ cs, cellOk f y) (hx : cellOk f x) {i : Nat} (hi : i < p) : rowOk p f (.tup (cs.take i ++ [x] ++ cs.drop (i + 1))) := by
  refine ⟨_, rfl, ?_, fun y hy => ?_⟩
  · rw [List.length_append, List.length_append, List.length_take, List.length_drop]
    simp
    omega
  · rcases List.mem_append.mp hy with h | h
    · rcases List.mem_append.mp h with h | h
      · exact hc y (List.mem_of_mem_take h)
      · have : y = x := by simpa using h
        rw [this]; exact hx
    · exact hc y (List.mem_of_mem_drop h)
def Parts.put (q : Parts) (l : Str) (x : D) : Parts := { q with ks := (putD q.ks q.vs (.inr l) x).1, vs := (putD q.ks q.vs (.inr l) x).2 }
theorem Parts.put_ok {q : Parts} (hq : q.Ok) {l : Str} (hl : l ∈ q.ls) {x : D} (hx : rowOk q.p q.f x) : (Parts.put q l x).Ok := by
  obtain ⟨h1, h2, h3⟩ := put_keys (x := x) hq.g.ln (hq.g.al l hl)
  refine ⟨hq.l, hq.p1, hq.p4, hq.f1, hq.f4, ?_, ?_, ?_, fun v hv => ?_⟩
  · show (putD q.ks q.vs (.inr l) x).1.length = (putD q.ks q.vs (.inr l) x).2.length
    rw [h1, h2]; exact hq.g.ln
  · show (putD q.ks q.vs (.inr l) x).1.length = _
    rw [h1]; exact hq.g.sz
  · show ∀ s ∈ q.ls, _ ∈ (putD q.ks q.vs (.inr l) x).1
    rw [h1]; exact hq.g.al
  · rcases h3 v hv with h | h
    · exact hq.g.rw_ v h
    · rw [h]; exact hx
def oTail (c : Cs) : S' := (sSeq (sAsg (eDg (eVar 5) (eVar 8)) (gNm' 11)) (sSeq (sAsg (eFn 2 (m__law_pick c) (bArg' (eVar 0) (bArg' (eLst (aCons (eC .non) (aCons (eTup (aCons (eC (.int 0)) (aCons (eC (.str "r")) aNil))) (aCons (eTup (aCons (eC (.int 0)) (aCons (eC (.str "w")) aNil))) (aCons (eTup (aCons (eOp oSub (eVar 4) (eC (.int 1))) (aCons (eC (.str "r")) aNil))) aNil))))) bNil'))) (gNm' 12)) (sSeq (sAsg (eCall fDictP (aCons (eOp oAdd (eItems (eVar 5)) (eLst (aCons (eTup (aCons (eVar 8) (aCons (eOp oAdd (eOp oAdd (eSl (eVar 11) oNo' (oSome' (eVar 9))) (eTup (aCons (eVar 12) aNil))) (eSl (eVar 11) (oSome' (eOp oAdd (eVar 9) (eC (.int 1)))) oNo')) aNil))) aNil))) aNil)) (gNm' 13)) (sRet (eTup (aCons (eVar 2) (aCons (eVar 3) (aCons (eVar 4) (aCons (eVar 13) (aCons (eVar 6) aNil))))))))))
theorem other_e : b__law_other c = (sSeq (sAsg (eVar 1) (gTp' 5 (gsCons (gNm' 2) (gsCons (gNm' 3) (gsCons (gNm' 4) (gsCons (gNm' 5) (gsCons (gNm' 6) gsNil))))))) (sSeq (sPar3 7 8 9 (bCons' (eFn 2 (m__law_draw c) (bArg' (eVar 0) (bArg' (eC (.int 6)) bNil'))) (bCons' (eFn 2 (m__law_pick c) (bArg' (eVar 0) (bArg' (eVar 2) bNil'))) (bCons' (eFn 2 (m__law_draw c) (bArg' (eVar 0) (bArg' (eVar 3) bNil'))) bNil')))) (sSeq (sIf (tTst (eOp oLt (eVar 7) (eC (.int 3)))) (sRet (eTup (aCons (eVar 2) (aCons (eVar 3) (aCons (eVar 4) (aCons (eVar 5) (aCons (eOp oAdd (eOp oAdd (eSl (eVar 6) oNo' (oSome' (eVar 7))) (eTup (aCons (eNot (eIx (eVar 6) (eVar 7))) aNil))) (eSl (eVar 6) (oSome' (eOp oAdd (eVar 7) (eC (.int 1)))) oNo')) aNil))))))) sNext) (sSeq (sIf (tAnd' (tTst (eOp oEq (eVar 7) (eC (.int 3)))) (tTst (eOp oLt (eVar 4) (eC (.int 4))))) (sRet (eTup (aCons (eVar 2) (aCons (eVar 3) (aCons (eOp oAdd (eVar 4) (eC (.int 1))) (aCons (eVar 5) (aCons (eVar 6) aNil))))))) sNext) (sSeq (sIf (tAnd' (tTst (eOp oEq (eVar 7) (eC (.int 4)))) (tTst (eOp oLt (eVar 3) (eC (.int 4))))) (sRet (eTup (aCons (eVar 2) (aCons (eOp oAdd (eVar 3) (eC (.int 1))) (aCons (eVar 4) (aCons (eCall fDictP (aCons (eLc (iSq' (eVar 2)) (gNm' 10) tYes' (eTup (aCons (eVar 10) (aCons (eOp oAdd (eDg (eVar 5) (eVar 10)) (eTup (aCons (eC .non) aNil))) aNil))) [10]) aNil)) (aCons (eVar 6) aNil))))))) sNext) (oTail c)))))) := rfl
theorem oTail_wp {q : Parts} (hq : q.Ok) {l : Str} (hl : l ∈ q.ls) {i : Int} (i0 : 0 ≤ i) (i1 : i < q.p) {s7 : Sl} (hp : ∀ q' : Parts, q'.Ok → q'.ls = q.ls → P (.d q'.d)) :
    V Z ((oTail c [.src, .d q.d, .d q.lsD, .d (.int q.p), .d (.int q.f), .d q.grid, .d q.rules, s7, .d (.str l), .d (.int i), .no, .no, .no, .no]).bind endM) P := by
  have p4 := hq.p4
  have f1 := hq.f1
  have h3 := hq.l.hi
  have hsz := hq.g.sz
  obtain ⟨r1, r2⟩ := hq.row hl
  obtain ⟨cs, hcs, hcl, hc⟩ := r2
  rw [hcs] at r1
  obtain ⟨n, rfl⟩ : ∃ n : Nat, i = (n : Int) := ⟨i.toNat, by omega⟩
  have hn : n < q.p := by omega
  have hk := parts_kOk hq
  unfold oTail Parts.grid
  walk_at "sv"
  rw [r1]
  walk_at "sv"
  walk_at "wc"
  refine pick_wp (y := .lst [.non, .tup [.int 0, .str "r"], .tup [.int 0, .str "w"], .tup [.int (q.f - 1), .str "r"]]) (.inl rfl) (by simp) (by simp) fun x hx => ?_
  have hx : cellOk q.f x := by
    simp only [List.mem_cons, List.not_mem_nil, or_false] at hx
    rcases hx with rfl | rfl | rfl | rfl
    · exact .inl rfl
    · exact .inr ⟨0, "r", rfl, by omega, by omega, .inl rfl⟩
    · exact .inr ⟨0, "w", rfl, by omega, by omega, .inr rfl⟩
    · exact .inr ⟨q.f - 1, "r", rfl, by omega, by omega, .inl rfl⟩
  walk_at "sv"
  rw [hk]
  walk_at "sv"
  rw [cut_to (by omega), show ((n : Int) + 1) = ((n + 1 : Nat) : Int) by omega, cut_from (by omega)]
  rw [decide_eq_true (show (cs.take n).length ≤ 99999 by rw [List.length_take]; omega), decide_eq_true (show (cs.take n ++ [x]).length + (cs.drop (n + 1)).length ≤ 100000 by rw [List.length_append, List.length_take, List.length_drop]; simp; omega),
    decide_eq_true (show (pairD q.ks q.vs).length ≤ 99999 by rw [pairD_len]; omega), prs_app prs_pair (show prs [.tup [.str l, .tup (cs.take n ++ [x] ++ cs.drop (n + 1))]] = some [(.inr l, .tup (cs.take n ++ [x] ++ cs.drop (n + 1)))] from rfl)]
  walk_at "sv"
  rw [merge_app, merge_new rfl hq.g.ln (by simpa using parts_nd hq)]
  exact hp _ (Parts.put_ok hq hl (row_put hcl hc hx hn)) rfl
theorem cellOk_up {f : Int} {x : D} (h : cellOk f x) : cellOk (f + 1) x := by
  rcases h with rfl | ⟨i, s, rfl, h0, h1, h2⟩
  · exact .inl rfl
  · exact .inr ⟨i, s, rfl, h0, by omega, h2⟩
def Parts.upF (q : Parts) : Parts := { q with f := q.f + 1 }
theorem Parts.upF_ok {q : Parts} (hq : q.Ok) (h : q.f < 4) : (Parts.upF q).Ok :=
  ⟨hq.l, hq.p1, hq.p4, by have := hq.f1; show 1 ≤ q.f + 1; omega, by show q.f + 1 ≤ 4; omega, hq.g.ln, hq.g.sz, hq.g.al, fun v hv => by
    obtain ⟨cs, e, hl, hc⟩ := hq.g.rw_ v hv
    exact ⟨cs, e, hl, fun y hy => cellOk_up (hc y hy)⟩⟩
def wideR (q : Parts) (s : Str) : D := match q.rowOf s with
  | .tup cs => .tup (cs ++ [.non])
  | x => x
def Parts.upP (q : Parts) : Parts := { q with p := q.p + 1, ks := q.ls.map .inr, vs := q.ls.map (wideR q) }
theorem Parts.upP_ok {q : Parts} (hq : q.Ok) (h : q.p < 4) : (Parts.upP q).Ok :=
  ⟨hq.l, by show 1 ≤ q.p + 1; omega, by show q.p + 1 ≤ 4; omega, hq.f1, hq.f4, by show (q.ls.map _).length = (q.ls.map _).length; simp, by show (q.ls.map _).length = q.ls.length; simp, fun s hs => List.mem_map.mpr ⟨s, hs, rfl⟩, fun v hv => by
    obtain ⟨s, hs, rfl⟩ := List.mem_map.mp hv
    obtain ⟨_, cs, e, hl, hc⟩ := hq.row hs
    refine ⟨cs ++ [.non], by unfold wideR; rw [e], by show _ = q.p + 1; rw [List.length_append, hl]; rfl, fun y hy => ?_⟩
    rcases List.mem_append.mp hy with h | h
    · exact hc y h
    · have : y = .non := by simpa using h
      rw [this]; exact .inl rfl⟩
def foW (q : Parts) (y : D) : D := match y with
  | .str s => .tup [.str s, wideR q s]
  | _ => .non
theorem cutA {a b d : D} : cutD [a, b, d] none (some 0) = [] ∧ cutD [a, b, d] none (some 1) = [a] ∧ cutD [a, b, d] none (some 2) = [a, b] := ⟨cut_to (k := 0) (by simp), cut_to (k := 1) (by simp), cut_to (k := 2) (by simp)⟩
theorem other_wp {q : Parts} (hq : q.Ok) (hp : ∀ q' : Parts, q'.Ok → q'.ls = q.ls → P (.d q'.d)) : V Z (m__law_other c [.src, .d q.d]) P := by
  have p1 := hq.p1
  have p4 := hq.p4
  have f1 := hq.f1
  have l1 := hq.l.lo
  have l3 := hq.l.hi
  unfold m__law_other
  rw [other_e]
  unfold Parts.d
  walk_at "sv"
  walk_at "wd"
  intro r r0 r1
  walk_at "wc"
  unfold Parts.lsD
  refine pick_wp (.inr (.inl rfl)) (fun e => ?_) (by rw [List.length_map]; omega) fun x hx => ?_
  · have := congrArg List.length e
    rw [List.length_map, List.length_nil] at this
    omega
  obtain ⟨l, hl, rfl⟩ := List.mem_map.mp hx
  walk_at "sv"
  walk_at "wd"
  intro i i0 i1
  have tail : ∀ r : Int, V Z ((oTail c [.src, .d (.tup [.tup (q.ls.map D.str), .int q.p, .int q.f, q.grid, q.rules]), .d (.tup (q.ls.map D.str)), .d (.int q.p), .d (.int q.f), .d q.grid, .d q.rules, .d (.int r), .d (.str l), .d (.int i), .no, .no, .no, .no]).bind endM) P := fun r => oTail_wp hq hl i0 i1 hp
  have hr : r = 0 ∨ r = 1 ∨ r = 2 ∨ r = 3 ∨ r = 4 ∨ r = 5 := by omega
  rcases hr with rfl | rfl | rfl | rfl | rfl | rfl
  · unfold Parts.rules
    walk_at "sv"
    rw [cutA.1]
    walk_at "sv"
    exact hp { q with t := !q.t } ⟨hq.l, hq.p1, hq.p4, hq.f1, hq.f4, hq.g⟩ rfl
  · unfold Parts.rules
    walk_at "sv"
    rw [cutA.2.1]
    walk_at "sv"
    exact hp { q with c := !q.c } ⟨hq.l, hq.p1, hq.p4, hq.f1, hq.f4, hq.g⟩ rfl
  · unfold Parts.rules
    walk_at "sv"
    rw [cutA.2.2]
    walk_at "sv"
    exact hp { q with e := !q.e } ⟨hq.l, hq.p1, hq.p4, hq.f1, hq.f4, hq.g⟩ rfl
  · walk_at "sv"
    by_cases h : q.f < 4
    · rw [decide_eq_true h]
      walk_at "sv"
      exact hp (Parts.upF q) (Parts.upF_ok hq h) rfl
    · rw [decide_eq_false h]
      walk_at "sv"
      exact tail 3
  · walk_at "sv"
    by_cases h : q.p < 4
    · rw [decide_eq_true (show ((q.p : Nat) : Int) < 4 by omega)]
      unfold Parts.grid
      walk_at "sv"
      rw [lc_map (foW q) _ _ (by rw [List.length_map]; show 0 + _ < _; omega) fun y hy => ?_]
      · walk_at "sv"
        rw [show (q.ls.map D.str).map (foW q) = pairD (q.ls.map .inr) (q.ls.map (wideR q)) by rw [pairs_map, List.map_map]; rfl, prs_pair]
        walk_at "sv"
        rw [merge_new rfl (by simp) (by simpa using nodup_inr hq.l.nd)]
        exact hp (Parts.upP q) (Parts.upP_ok hq h) rfl
      · obtain ⟨s, hs, rfl⟩ := List.mem_map.mp hy
        obtain ⟨r1, cs, e, hcl, hc⟩ := hq.row hs
        rw [e] at r1
        walk_at "sv"
        rw [r1]
        walk_at "sv"
        rw [decide_eq_true (show cs.length ≤ 99999 by omega)]
        walk_at "sv"
        have ew : wideR q s = .tup (cs ++ [.non]) := by unfold wideR; rw [e]
        rw [show foW q (.str s) = .tup [.str s, wideR q s] from rfl, ew]
    · rw [decide_eq_false (show ¬ ((q.p : Nat) : Int) < 4 by omega)]
      walk_at "sv"
      exact tail 4
  · walk_at "sv"
    exact tail 5
end

end K02
namespace K02
open PySem L2 Fl Tr Sv
local macro_rules | `(tactic| walk_at "sv") => `(tactic| try simp only [bind_ret, bind_fail, bind_draw, bind2_ret, ofO_some, ofO_none, need_true, need_false, back_ret, wp_ret, varT_src, varT_d, varT_ol, varT_od, varT_oi, dat_d, dat_ol, dat_od, dat_oi, arg_d, arg_src, arg_ol, arg_od, arg_oi, noNo_d, noNo_ol, noNo_od, noNo_oi, argOk_d, argOk_src, blO_bl, intO_int, endM_nx, endM_rt, thenS_nx, thenS_rt, dlst_lst, dint_int, dstr_str, seqD_lst, seqD_tup, itemsD_lst, itemsD_tup, itemsD_str, cp_one, lst1_one, int1_one, lenD_lst, lenD_tup, lenD_str, insOf_me, two_eq, three_eq, pend_d, pend_ol, pend_od, tupO_eq, gsCons_eq, gsNil_eq, mVal_eq, dicO_dic, dtup_tup, keyD_str, keyD_int, eC_e, aNil_e, aCons_e, eTup_e, eLst_e, eDic0_e, eOp_e, tTru_e, tTst_e, tNot_e, tAnd_e, tOr_e, eAnd_e, eOr_e, eNot_e, eIf_e, eCall_e, eIx_e, oNo_e, oSome_e, eSl_e, eChain_e, eIsi_e, eIsi2_e, eDg_e, eDin_e, eApp_e, eExt_e, ePop_e, eIns_e, tOwnNe_e, eOwnLen_e, eOwnIx_e, eOwnIn_e, eClr_e, eJoin_e, eItems_e, eNeg_e, eFld_e, bNil_e, bCons_e, bArg_e, eFn_e, eMeth_e, eMeth0_e, eProp_e, eMakeK_e, eMake_e, eIsOwn_e, gNm_e, gTp_e, sNext_e, sBreak_e, sCont_e, sSeq_e, sExpr_e, sRet_e, sIf_e, sAsg_e, sPar_e, sPar3_e, sFor_e, sWhile_e, sSetL_e, sSetD_e, sSetF_e, sMatch_e, iL_e, iT_e, iS_e, iR_e, iEn_e, eLc_e, tYes_e, eDc_e, iEnA_e, iSq_e, eFnP_e, eMethP_e, eMakeP_e, eSortSet_e, eRev_e, eListRg_e, oAdd_ii, oAdd_ss, oAdd_ll, oAdd_tt, oSub_ii, oMul_ii, oMul_li, oMod_ii, oFdv_ii, oLt_ii, oLe_ii, oGt_ii, oGe_ii, oEq_e, oNe_e, oIsN_e, oNotN_e, oIn_e, oNotIn_e, oInD_e, fLen_e, fList_e, fTuple_e, fInt_i, fInt_b, fAll_e, fAny_e, fSortS_e, fRepr_e, fDict_e, fOwnLen_e, oOwnEq_e, oOwnNe_e, drawM_e, eVar_eq, ofO_bind, ofO_bind2, need_bind, need_bind2, ite_bind, ite_bind2, back_ite, ownO_eq, wp_ret', v_ret, bind2_bind, bind_bind2, bind2_bind2, Tr.bind_assoc, back_bind, defM, List.cons_append, List.nil_append, List.replicate_succ, List.replicate_zero, List.getElem?_cons_zero, List.getElem?_cons_succ, List.set_cons_zero, List.set_cons_succ, List.length_cons, List.length_nil, List.all_cons, List.all_nil, Bool.and_true, Bool.true_and, Bool.and_self, beq_self_eq_true, decide_true, decide_false, if_true, if_false, Bool.not_true, Bool.not_false, wipeD, isI_non, isI_bl, isI_int, isI_str, isI_lst, isI_tup, isI_dic, isI_ins, Option.getD_some, ite_true, ite_false, reduceCtorEq, Bool.false_eq_true, Nat.reduceAdd, Nat.reduceLeDiff, Nat.reduceLT, Nat.reduceBEq, Nat.reduceEqDiff, Option.bind_some, Option.isNone_none, Option.isNone_some, Option.isSome_some, Option.isSome_none, mNil', mAny', List.map_cons, List.map_nil, Option.map_some, Option.map_none, Int.reduceAdd, ok_non, ok_bl, ok_int, ok_str, ok_lst, ok_tup, ixD_tup, ixD_lst, atI_0, atI_1, atI_2, atI_3, atI_4, atI_5, atI_6, atI_7, eqD_bl, cast2, cast0, cast1, cast3, cast4, cast5, cast6, cast7, cast8, slD_lst, slD_tup, slD_str, cut_1, cut_2, cut_3, isN_non, stepC_e, stepK_e, isN_tup, isN_int, isT_str, isT_int, isT_bool, isT_tuple, isT_list, isT_dict, eqD_int, eqD_str, ite_bind, loopT_nil, loopT_cons, thenL_nx, thenL_rt, instO_e, instS_bi, instS_oi, withF_bi, withF_oi, biO_e, endI_nx, defI_e, sNever_e, Bool.true_or, Bool.or_true, Bool.or_false, Bool.false_or, Bool.false_and, Bool.and_false, back_draw, bind2_draw, draw_e, Int.reduceBEq, Int.reduceSub, Int.reduceNeg, Int.reduceLT, Int.reduceLE, and_self, true_and, and_true, odO_eq, aStar_e, fStr_x, iItO_e, iZp_e, zpT_2, List.append_nil, ownD_od, zipO_lt, zipO_ll, zipO_tt, zipD_c, zipD_n, zipD_n2, seqD_l, seqD_t, strD_str, eMakeD_e, dbls_cons, dbls_nil, eShow_e, shT_d, shT_ld, eLd_e, ldT_d, ldT_ld, eDgL_e, dgT_d, dgT_ld, eLend_e, leT_od, leT_ol, blank_d, blank_src, blank_no, blank_ld, blank_ol, blank_od, blank_oi, blank_bi, flatO_bl, flatO_int, arg_ld, argOk_ld, pend_ld, eqP_e, fListK_x, fDictP_x, sForIt_e, datO_e, datS_d, eMov_e, movS_ol, movS_od, movS_oi, eqD_tnil, inSeq_tup, inSeq_lst, flat_int, flat_str, flat_non, flat_bl, inD_nil, inD_cons, inDp_tup, inDp_lst, eqD_tcons, eqD_tnil2, eqD_tnn, insW, isInsW, lkW1, lkW2, lkW3, lkW5, lkW4, lkW_page, lkW_frame, lkW_entry, lkW_parts, lkW_entries, lkW_need, insSc, isInsSc, lkS1, lkS2, lkS_guards, lkS_entries, scput1, scput2, scput3, ofS_inj, String.reduceEq, eqD_refl])
local macro_rules | `(tactic| walk_at "ev") => `(tactic| try simp only [bind_ret, bind_fail, bind_draw, bind2_ret, ofO_some, ofO_none, need_true, need_false, back_ret, wp_ret, varT_src, varT_d, varT_ol, varT_od, varT_oi, dat_d, dat_ol, dat_od, dat_oi, arg_d, arg_src, arg_ol, arg_od, arg_oi, noNo_d, noNo_ol, noNo_od, noNo_oi, argOk_d, argOk_src, blO_bl, intO_int, endM_nx, endM_rt, thenS_nx, thenS_rt, dlst_lst, dint_int, dstr_str, seqD_lst, seqD_tup, itemsD_lst, itemsD_tup, itemsD_str, cp_one, lst1_one, int1_one, lenD_lst, lenD_tup, lenD_str, insOf_me, two_eq, three_eq, pend_d, pend_ol, pend_od, tupO_eq, gsCons_eq, gsNil_eq, mVal_eq, dicO_dic, dtup_tup, keyD_str, keyD_int, eC_e, aNil_e, aCons_e, eTup_e, eLst_e, eDic0_e, eOp_e, tTru_e, tTst_e, tNot_e, tAnd_e, tOr_e, eAnd_e, eOr_e, eNot_e, eIf_e, eCall_e, eIx_e, oNo_e, oSome_e, eSl_e, eChain_e, eIsi_e, eIsi2_e, eDg_e, eDin_e, eApp_e, eExt_e, ePop_e, eIns_e, tOwnNe_e, eOwnLen_e, eOwnIx_e, eOwnIn_e, eClr_e, eJoin_e, eItems_e, eNeg_e, eFld_e, bNil_e, bCons_e, bArg_e, eFn_e, eMeth_e, eMeth0_e, eProp_e, eMakeK_e, eMake_e, eIsOwn_e, gNm_e, gTp_e, sNext_e, sBreak_e, sCont_e, sSeq_e, sExpr_e, sRet_e, sIf_e, sAsg_e, sPar_e, sPar3_e, sFor_e, sWhile_e, sSetL_e, sSetD_e, sSetF_e, sMatch_e, iL_e, iT_e, iS_e, iR_e, iEn_e, eLc_e, tYes_e, eDc_e, iEnA_e, iSq_e, eFnP_e, eMethP_e, eMakeP_e, eSortSet_e, eRev_e, eListRg_e, oAdd_ii, oAdd_ss, oAdd_ll, oAdd_tt, oSub_ii, oMul_ii, oMul_li, oMod_ii, oFdv_ii, oLt_ii, oLe_ii, oGt_ii, oGe_ii, oEq_e, oNe_e, oIsN_e, oNotN_e, oIn_e, oNotIn_e, oInD_e, fLen_e, fList_e, fTuple_e, fInt_i, fInt_b, fAll_e, fAny_e, fSortS_e, fRepr_e, fDict_e, fOwnLen_e, oOwnEq_e, oOwnNe_e, drawM_e, eVar_eq, ofO_bind, ofO_bind2, need_bind, need_bind2, ite_bind, ite_bind2, back_ite, ownO_eq, wp_ret', v_ret, bind2_bind, bind_bind2, bind2_bind2, Tr.bind_assoc, back_bind, defM, List.cons_append, List.nil_append, List.replicate_succ, List.replicate_zero, List.getElem?_cons_zero, List.getElem?_cons_succ, List.set_cons_zero, List.set_cons_succ, List.length_cons, List.length_nil, List.all_cons, List.all_nil, Bool.and_true, Bool.true_and, Bool.and_self, beq_self_eq_true, decide_true, decide_false, if_true, if_false, Bool.not_true, Bool.not_false, wipeD, isI_non, isI_bl, isI_int, isI_str, isI_lst, isI_tup, isI_dic, isI_ins, Option.getD_some, ite_true, ite_false, reduceCtorEq, Bool.false_eq_true, Nat.reduceAdd, Nat.reduceLeDiff, Nat.reduceLT, Nat.reduceBEq, Nat.reduceEqDiff, Option.bind_some, Option.isNone_none, Option.isNone_some, Option.isSome_some, Option.isSome_none, mNil', mAny', List.map_cons, List.map_nil, Option.map_some, Option.map_none, Int.reduceAdd, ok_non, ok_bl, ok_int, ok_str, ok_lst, ok_tup, ixD_tup, ixD_lst, atI_0, atI_1, atI_2, atI_3, atI_4, atI_5, atI_6, atI_7, eqD_bl, cast2, cast0, cast1, cast3, cast4, cast5, cast6, cast7, cast8, slD_lst, slD_tup, slD_str, cut_1, cut_2, cut_3, isN_non, stepC_e, stepK_e, isN_tup, isN_int, isT_str, isT_int, isT_bool, isT_tuple, isT_list, isT_dict, eqD_int, eqD_str, ite_bind, loopT_nil, loopT_cons, thenL_nx, thenL_rt, instO_e, instS_bi, instS_oi, withF_bi, withF_oi, biO_e, endI_nx, defI_e, sNever_e, Bool.true_or, Bool.or_true, Bool.or_false, Bool.false_or, Bool.false_and, Bool.and_false, back_draw, bind2_draw, draw_e, Int.reduceBEq, Int.reduceSub, Int.reduceNeg, Int.reduceLT, Int.reduceLE, and_self, true_and, and_true, odO_eq, aStar_e, fStr_x, iItO_e, iZp_e, zpT_2, List.append_nil, ownD_od, zipO_lt, zipO_ll, zipO_tt, zipD_c, zipD_n, zipD_n2, seqD_l, seqD_t, strD_str, eMakeD_e, dbls_cons, dbls_nil, eShow_e, shT_d, shT_ld, eLd_e, ldT_d, ldT_ld, eDgL_e, dgT_d, dgT_ld, eLend_e, leT_od, leT_ol, blank_d, blank_src, blank_no, blank_ld, blank_ol, blank_od, blank_oi, blank_bi, flatO_bl, flatO_int, arg_ld, argOk_ld, pend_ld, eqP_e, fListK_x, fDictP_x, sForIt_e, datO_e, datS_d, eMov_e, movS_ol, movS_od, movS_oi])
local macro_rules | `(tactic| walk_at "ifs") => `(tactic| refine ifB (fun h => ?_) (fun h => ?_))
local macro_rules | `(tactic| walk_at "wd") => `(tactic| (with_reducible refine v_draw ?_ ?_ ?_; omega; omega))
local macro_rules | `(tactic| walk_at "wc") => `(tactic| with_reducible refine v_call ?_)
local macro_rules | `(tactic| walk_at "wb") => `(tactic| with_reducible refine v_b ?_)
local macro_rules | `(tactic| walk_at "w2") => `(tactic| with_reducible refine v_b2 ?_)
def tl13 (c : Cs) : S' := (sIf (tTst (eOp (oOwnNe c.World (m_World___eq__ c)) (eVar 13) (eMakeP c.World 4 3 8 [0, 1, 2, 3, 4, 5, 6] (m_World_init c) (bArg' (eVar 4) (bArg' (eVar 5) (bArg' (eVar 6) (bArg' (eVar 7) bNil')))) (bArg' (eC (.bl false)) (bArg' (eC (.bl false)) (bArg' (eC (.bl true)) bNil')))))) (sRet (eC (.bl false))) sNext)
def tl12 (c : Cs) : S' := (sSeq (sIf (tTst (eOp oNe (eLst (aCons (eProp c.World (m_World_tags c) (eVar 13)) (aCons (eProp c.World (m_World_checks c) (eVar 13)) (aCons (eProp c.World (m_World_early c) (eVar 13)) aNil)))) (eLst (aCons (eC (.bl false)) (aCons (eC (.bl false)) (aCons (eC (.bl true)) aNil)))))) (sRet (eC (.bl false))) sNext) (tl13 c))
def tl11 (c : Cs) : S' := (sSeq (sAsg (eMakeD c.World 7 [false, false, true] (m_World_init c) (bArg' (eVar 4) (bArg' (eVar 5) (bArg' (eVar 6) (bArg' (eVar 7) bNil'))))) (gNm' 13)) (tl12 c))
def tl10 (c : Cs) : S' := (sSeq (sIf (tTst (eOp oNe (eOp (oOwnEq c.World (m_World___eq__ c)) (eVar 10) (eFn 1 (m__law_base c) (bArg' (eVar 12) bNil'))) (eOp oEqP (eVar 3) (eVar 12)))) (sRet (eC (.bl false))) sNext) (tl11 c))
def tl9 (c : Cs) : S' := (sSeq (sAsg (eFn 2 (m__law_other c) (bArg' (eVar 1) (bArg' (eVar 3) bNil'))) (gNm' 12)) (tl10 c))
def tl8 (c : Cs) : S' := (sSeq (sIf (tOr' (tTst (eOp (oOwnNe c.World (m_World___eq__ c)) (eVar 10) (eVar 11))) (tOr' (tTst (eOp (oOwnEq c.World (m_World___eq__ c)) (eVar 10) (eC (.int 5)))) (tTst (eOp (oOwnEq c.World (m_World___eq__ c)) (eVar 10) (eVar 3))))) (sRet (eC (.bl false))) sNext) (tl9 c))
def tl7 (c : Cs) : S' := (sSeq (sIf (tOr' (tNot' (tTst (eFn 2 (m__law_right c) (bArg' (eVar 10) (bArg' (eVar 3) bNil'))))) (tNot' (tTst (eFn 2 (m__law_right c) (bArg' (eVar 11) (bArg' (eVar 3) bNil')))))) (sRet (eC (.bl false))) sNext) (tl8 c))
def tl6 (c : Cs) : S' := (sSeq (sAsg (eMakeP c.World 0 7 8 [6, 5, 4, 3, 2, 1, 0] (m_World_init c) bNil' (bArg' (eIx (eVar 8) (eC (.int 2))) (bArg' (eIx (eVar 8) (eC (.int 1))) (bArg' (eIx (eVar 8) (eC (.int 0))) (bArg' (eVar 7) (bArg' (eVar 6) (bArg' (eVar 5) (bArg' (eVar 4) bNil')))))))) (gNm' 11)) (tl7 c))
def tl5 (c : Cs) : S' := (sSeq (sExpr (eClr 9)) (tl6 c))
def tl4 (c : Cs) : S' := (sSeq (sAsg (eLend 9 (eMakeP c.World 4 3 8 [0, 1, 2, 3, 4, 5, 6] (m_World_init c) (bArg' (eVar 4) (bArg' (eVar 5) (bArg' (eVar 6) (bArg' (eLd 9) bNil')))) (bArg' (eIx (eVar 8) (eC (.int 0))) (bArg' (eIx (eVar 8) (eC (.int 1))) (bArg' (eIx (eVar 8) (eC (.int 2))) bNil'))))) (gNm' 10)) (tl5 c))
theorem tl_e {c : Cs} : b_turn c = (sSeq (sAsg (eFn 2 (m__law_parts c) (bArg' (eVar 1) (bArg' (eC (.int 3)) bNil'))) (gNm' 3)) (sSeq (sAsg (eVar 3) (gTp' 5 (gsCons (gNm' 4) (gsCons (gNm' 5) (gsCons (gNm' 6) (gsCons (gNm' 7) (gsCons (gNm' 8) gsNil))))))) (sSeq (sAsg (eCall fDictP (aCons (eItems (eVar 7)) aNil)) (gNm' 9)) (tl4 c)))) := rfl
section
variable {c : Cs} {Z : Exc → Prop}
def plain (q : Parts) : Parts := { q with t := false, c := false, e := true }
theorem plain_ok {q : Parts} (hq : q.Ok) : (plain q).Ok := ⟨hq.l, hq.p1, hq.p4, hq.f1, hq.f4, hq.g⟩
theorem plain1 {q : Parts} : (plain q).lsD = q.lsD := rfl
theorem plain2 {q : Parts} : (plain q).p = q.p := rfl
theorem plain3 {q : Parts} : (plain q).f = q.f := rfl
theorem plain4 {q : Parts} : (plain q).grid = .dic q.ks q.vs := rfl
theorem plain5 {q : Parts} : (plain q).t = false := rfl
theorem plain6 {q : Parts} : (plain q).c = false := rfl
theorem plain7 {q : Parts} : (plain q).e = true := rfl
theorem plain_init {q : Parts} (hq : q.Ok) : m_World_init c [.d q.lsD, .d (.int q.p), .d (.int q.f), .d (.dic q.ks q.vs), .d (.bl false), .d (.bl false), .d (.bl true)] = .ret (fldN, (plain q).flds) := by
  have h := World_init_eq (c := c) (plain_ok hq)
  rw [plain1, plain2, plain3, plain4, plain5, plain6, plain7] at h
  exact h
theorem World_eq_int {q : Parts} {i : Int} : m_World___eq__ c [.d (Parts.obj c.World q), .d (.int i)] = .ret (.d (.bl false)) := by
  unfold m_World___eq__ b_World___eq__
  walk_at "sv"
theorem World_eq_tup {q : Parts} {xs : List D} : m_World___eq__ c [.d (Parts.obj c.World q), .d (.tup xs)] = .ret (.d (.bl false)) := by
  unfold m_World___eq__ b_World___eq__
  walk_at "sv"
def TI (ρ : Env') : Prop := ∃ s0 s2 s3 s4 s5 s6 s7 s8 s9 s10 s11 s12 s13, ρ = [s0, .src, s2, s3, s4, s5, s6, s7, s8, s9, s10, s11, s12, s13]
def TP (o : Out) : Prop := ∃ ρ, o = .nx ρ ∧ TI ρ
theorem tp {s0 s2 s3 s4 s5 s6 s7 s8 s9 s10 s11 s12 s13 : Sl} : TP (.nx [s0, .src, s2, s3, s4, s5, s6, s7, s8, s9, s10, s11, s12, s13]) := ⟨_, rfl, _, _, _, _, _, _, _, _, _, _, _, _, _, rfl⟩
theorem turn_ok {ρ : Env'} {x : D} (h : TI ρ) : V Z (b_turn c (ρ.set 2 (.d x))) TP := by
  obtain ⟨s0, s2, s3, s4, s5, s6, s7, s8, s9, s10, s11, s12, s13, rfl⟩ := h
  rw [tl_e]
  walk_at "sv"
  walk_at "wc"
  refine parts_wp (by omega) (by omega) fun q hq => ?_
  have hi := World_initL_eq (c := c) hq
  have hj := World_init_eq (c := c) hq
  have hr := law_right_eq (c := c) hq
  have hp := plain_init (c := c) hq
  unfold Parts.grid at hi hj
  unfold Parts.d Parts.grid Parts.rules Parts.obj at hr
  unfold Parts.d Parts.grid Parts.rules
  walk_at "sv"
  rw [parts_kOk hq]
  walk_at "sv"
  rw [prs_pair]
  walk_at "sv"
  rw [merge_new rfl hq.g.ln (by simpa using parts_nd hq)]
  walk_at "sv"
  unfold tl4
  walk_at "sv"
  simp only [pk, List.filterMap_cons, List.filterMap_nil]
  walk_at "sv"
  rw [hi]
  walk_at "sv"
  unfold tl5
  walk_at "sv"
  unfold tl6
  walk_at "sv"
  simp only [pk, List.filterMap_cons, List.filterMap_nil]
  walk_at "sv"
  rw [hj]
  walk_at "sv"
  unfold tl7
  walk_at "sv"
  rw [hr]
  walk_at "sv"
  rw [hr]
  walk_at "sv"
  unfold tl8
  have he := World_eq_eq (c := c) hq hq
  have h5 := World_eq_int (c := c) (q := q) (i := 5)
  have ht := World_eq_tup (c := c) (q := q) (xs := [q.lsD, .int q.p, .int q.f, .dic q.ks q.vs, .tup [.bl q.t, .bl q.c, .bl q.e]])
  unfold Parts.obj at he h5 ht
  walk_at "sv"
  rw [he, eqD_refl]
  walk_at "sv"
  rw [h5]
  walk_at "sv"
  rw [ht]
  walk_at "sv"
  unfold tl9
  walk_at "sv"
  walk_at "wc"
  show V Z (m__law_other c [.src, .d q.d]) _
  refine other_wp hq fun q' hq' hls => ?_
  have he2 := World_eq_eq (c := c) hq hq'
  have hE := eqEs_parts hq hq' hls
  unfold Parts.obj at he2
  unfold Parts.grid Parts.rules at hE
  walk_at "sv"
  unfold tl10
  walk_at "sv"
  rw [base_eq hq']
  walk_at "sv"
  rw [he2]
  unfold Parts.d Parts.grid Parts.rules
  walk_at "sv"
  rw [hE]
  walk_at "sv"
  unfold tl11
  walk_at "sv"
  rw [hp]
  walk_at "sv"
  unfold tl12
  have w1 := World_tags_eq (c := c) (q := plain q)
  have w2 := World_checks_eq (c := c) (q := plain q)
  have w3 := World_early_eq (c := c) (q := plain q)
  have w4 := World_eq_eq (c := c) (plain_ok hq) (plain_ok hq)
  unfold Parts.obj at w1 w2 w3 w4
  rw [plain5] at w1
  rw [plain6] at w2
  rw [plain7] at w3
  walk_at "sv"
  rw [w1]
  walk_at "sv"
  rw [w2]
  walk_at "sv"
  rw [w3]
  walk_at "sv"
  unfold tl13
  walk_at "sv"
  simp only [pk, List.filterMap_cons, List.filterMap_nil]
  walk_at "sv"
  rw [hp]
  walk_at "sv"
  rw [w4, eqD_refl]
  walk_at "sv"
  exact tp
end

end K02
namespace K02
open PySem L2 Fl Tr
open Sv
section
variable {P : Program} {w : World} {K : PySem.W.Frag} {mg : Str → Option Value} {base : Heap} {a : Ad}
theorem f_law (T : Txt K mg a) : FnG P w K mg base 9 a.law a.fd_law ["_law_script"] (spLaw K) := by
  refine fnG_of T.F_law sc_law (fun vs H Q E h => ?_) (fun cdv A outer s H vs Q E hg hr h => ?_)
  · obtain ⟨a1, ns, rfl, _⟩ := h
    rfl
  obtain ⟨a1, ns, rfl, hS, h63, nm, kq⟩ := h
  refine ⟨_, (pss_cons (ps_set sc_law.nd (i := 1) rfl (by first | exact .inl rfl | exact .inr rfl) (pe_call (f__law_state T) (hr.mono (by decide)) rfl T.g__law_state T.k__law_state T.b__law_state .nil pass0 (pa_cons (pv 0) pa_nil))) (pss_cons (ps_for PassesOwn.never rfl (pi_range1 rfl T.z_range (pa_cons (pe_op op_add pe_int (pe_callB (call_min2 rfl) rfl T.z_min (by decide +kernel) (pa_cons (pe_callB call_len_seq rfl T.z_len (by decide +kernel) (pa_cons (pv 0) pa_nil)) (pa_cons pe_int pa_nil)))) pa_nil)) (pg_name (i := 2) sc_law.nd rfl (by first | exact .inl rfl | exact .inr rfl)) (dnSs (dss_cons (dnS (ds_set sc_law.nd (i := 3) rfl (by first | exact .inl rfl | exact .inr rfl) (dnE (pd_call (f__law_parts T) (hr.mono (by decide)) rfl T.g__law_parts T.k__law_parts T.b__law_parts (dnB (dab_arg (dnE (pd_var 1) fun _ _ => w_var) (dnB (dab_arg (dnE pd_int fun _ _ => w_c) (dnB dab_nil fun _ _ => w_bnil)) fun _ _ => w_barg)) fun _ _ => w_barg)) fun _ _ => w_fn)) fun _ _ => w_set) (dnSs (dss_cons (dnS (ds_asg (dnE (pd_var 3) fun _ _ => w_var) (pg_tup rfl (pgs_cons (pg_name (i := 4) sc_law.nd rfl (by first | exact .inl rfl | exact .inr rfl)) (pgs_cons (pg_name (i := 5) sc_law.nd rfl (by first | exact .inl rfl | exact .inr rfl)) (pgs_cons (pg_name (i := 6) sc_law.nd rfl (by first | exact .inl rfl | exact .inr rfl)) (pgs_cons (pg_name (i := 7) sc_law.nd rfl (by first | exact .inl rfl | exact .inr rfl)) (pgs_cons (pg_name (i := 8) sc_law.nd rfl (by first | exact .inl rfl | exact .inr rfl)) pgs_nil)))))) (dnG (tgt_tup (dnGs (tgts_cons (dnG (tgt_name 4) fun _ _ _ => w_gnm) (dnGs (tgts_cons (dnG (tgt_name 5) fun _ _ _ => w_gnm) (dnGs (tgts_cons (dnG (tgt_name 6) fun _ _ _ => w_gnm) (dnGs (tgts_cons (dnG (tgt_name 7) fun _ _ _ => w_gnm) (dnGs (tgts_cons (dnG (tgt_name 8) fun _ _ _ => w_gnm) (dnGs tgts_nil fun _ _ _ => w_gsnil)) fun _ _ _ => w_gscons)) fun _ _ _ => w_gscons)) fun _ _ _ => w_gscons)) fun _ _ _ => w_gscons)) fun _ _ _ => w_gscons)) fun _ _ _ => w_gtp)) fun _ _ => w_asg) (dnSs (dss_cons (dnS (ds_set sc_law.nd (i := 9) rfl (by first | exact .inl rfl | exact .inr rfl) (dnE (pd_callTy (cd_dictP rfl) rfl T.z_dict (by decide +kernel) (dnA (pda_cons (dnE (pd_items rfl (dnE (pd_var 7) fun _ _ => w_var) rfl T.z_list (by decide +kernel)) fun _ _ => w_items) (dnA pda_nil fun _ _ => w_nil)) fun _ _ => w_cons)) fun _ _ => w_call wf_dictP)) fun _ _ => w_set) (dnSs (dss_cons (dnS (ds_set sc_law.nd (i := 10) rfl (by first | exact .inl rfl | exact .inr rfl) (dnE (pd_lend 9 (dnE (pd_makeP T.m_World (f_World_init T) (hr.mono (by decide)) rfl T.g_World T.kb_World_init_0 (dnB (dab_arg (dnE (pd_var 4) fun _ _ => w_var) (dnB (dab_arg (dnE (pd_var 5) fun _ _ => w_var) (dnB (dab_arg (dnE (pd_var 6) fun _ _ => w_var) (dnB (dab_arg (dnE (pd_ld 9) fun _ _ => w_ld) (dnB dab_nil fun _ _ => w_bnil)) fun _ _ => w_barg)) fun _ _ => w_barg)) fun _ _ => w_barg)) fun _ _ => w_barg) (dnK (dkb_arg (dnE (pd_ix (dnE (pd_var 8) fun _ _ => w_var) (dnE pd_int fun _ _ => w_c)) fun _ _ => w_ix) (dnK (dkb_arg (dnE (pd_ix (dnE (pd_var 8) fun _ _ => w_var) (dnE pd_int fun _ _ => w_c)) fun _ _ => w_ix) (dnK (dkb_arg (dnE (pd_ix (dnE (pd_var 8) fun _ _ => w_var) (dnE pd_int fun _ _ => w_c)) fun _ _ => w_ix) (dnK dkb_nil fun _ _ => w_bnil)) fun _ _ => w_barg)) fun _ _ => w_barg)) fun _ _ => w_barg) rfl) fun _ _ => w_makeP)) fun _ _ => w_lend)) fun _ _ => w_set) (dnSs (dss_cons (dnS (ds_expr (dnE (pd_clear (pv 9)) fun _ _ => w_clr)) fun _ _ => w_expr) (dnSs (dss_cons (dnS (ds_set sc_law.nd (i := 11) rfl (by first | exact .inl rfl | exact .inr rfl) (dnE (pd_makeP0 T.m_World (f_World_init T) (hr.mono (by decide)) rfl T.g_World T.kb_World_init_1 (dnK (dkb_arg (dnE (pd_ix (dnE (pd_var 8) fun _ _ => w_var) (dnE pd_int fun _ _ => w_c)) fun _ _ => w_ix) (dnK (dkb_arg (dnE (pd_ix (dnE (pd_var 8) fun _ _ => w_var) (dnE pd_int fun _ _ => w_c)) fun _ _ => w_ix) (dnK (dkb_arg (dnE (pd_ix (dnE (pd_var 8) fun _ _ => w_var) (dnE pd_int fun _ _ => w_c)) fun _ _ => w_ix) (dnK (dkb_arg (dnE (pd_var 7) fun _ _ => w_var) (dnK (dkb_arg (dnE (pd_var 6) fun _ _ => w_var) (dnK (dkb_arg (dnE (pd_var 5) fun _ _ => w_var) (dnK (dkb_arg (dnE (pd_var 4) fun _ _ => w_var) (dnK dkb_nil fun _ _ => w_bnil)) fun _ _ => w_barg)) fun _ _ => w_barg)) fun _ _ => w_barg)) fun _ _ => w_barg)) fun _ _ => w_barg)) fun _ _ => w_barg)) fun _ _ => w_barg) rfl) fun _ _ => w_makeP0)) fun _ _ => w_set) (dnSs (dss_cons (dnS (ds_if (PW.pt (dnW (pwd_or (dnT (pt_notD (dnT (pt_valD (dnE (pd_callG (f__law_right T) hg (hr.mono (by decide)) rfl T.g__law_right T.k__law_right T.b__law_right (dnB (dab_arg (dnE (pd_var 10) fun _ _ => w_var) (dnB (dab_arg (dnE (pd_var 3) fun _ _ => w_var) (dnB dab_nil fun _ _ => w_bnil)) fun _ _ => w_barg)) fun _ _ => w_barg)) fun _ _ => w_fn)) fun _ _ => w_tst)) fun _ _ => w_not) (pwd_or1 (dnT (pt_notD (dnT (pt_valD (dnE (pd_callG (f__law_right T) hg (hr.mono (by decide)) rfl T.g__law_right T.k__law_right T.b__law_right (dnB (dab_arg (dnE (pd_var 11) fun _ _ => w_var) (dnB (dab_arg (dnE (pd_var 3) fun _ _ => w_var) (dnB dab_nil fun _ _ => w_bnil)) fun _ _ => w_barg)) fun _ _ => w_barg)) fun _ _ => w_fn)) fun _ _ => w_tst)) fun _ _ => w_not))) fun _ _ => w_or)) (dss_one (dnS (ds_ret (dnE pd_bl fun _ _ => w_c)) fun _ _ => w_ret)) (dnSs dss_nil fun _ _ => w_next)) fun _ _ => w_ifS) (dnSs (dss_cons (dnS (ds_if (PW.pt (dnW (pwd_or (dnT (pt_cmpD (od_ownNe ftM_mono (f_World___eq__ T) (hr.mono (by decide)) T.b_World___eq__ T.qe_World T.qn_World T.qo_World T.qf_World) (dnE (pd_var 10) fun _ _ => w_var) (dnE (pd_var 11) fun _ _ => w_var)) fun _ _ q => w_tst2 (w_op (wo_ownNe T.nf_World)) q) (dnW (pwd_or (dnT (pt_cmpD (od_ownEq (f_World___eq__ T) (hr.mono (by decide)) T.b_World___eq__ T.qe_World T.qf_World) (dnE (pd_var 10) fun _ _ => w_var) (dnE pd_int fun _ _ => w_c)) fun _ _ q => w_tst2 (w_op (wo_ownEq T.nf_World)) q) (pwd_or1 (dnT (pt_cmpD (od_ownEq (f_World___eq__ T) (hr.mono (by decide)) T.b_World___eq__ T.qe_World T.qf_World) (dnE (pd_var 10) fun _ _ => w_var) (dnE (pd_var 3) fun _ _ => w_var)) fun _ _ q => w_tst2 (w_op (wo_ownEq T.nf_World)) q))) fun _ _ => w_or)) fun _ _ => w_or)) (dss_one (dnS (ds_ret (dnE pd_bl fun _ _ => w_c)) fun _ _ => w_ret)) (dnSs dss_nil fun _ _ => w_next)) fun _ _ => w_ifS) (dnSs (dss_cons (dnS (ds_set sc_law.nd (i := 12) rfl (by first | exact .inl rfl | exact .inr rfl) (dnE (pd_call (f__law_other T) (hr.mono (by decide)) rfl T.g__law_other T.k__law_other T.b__law_other (dnB (dab_arg (dnE (pd_var 1) fun _ _ => w_var) (dnB (dab_arg (dnE (pd_var 3) fun _ _ => w_var) (dnB dab_nil fun _ _ => w_bnil)) fun _ _ => w_barg)) fun _ _ => w_barg)) fun _ _ => w_fn)) fun _ _ => w_set) (dnSs (dss_cons (dnS (ds_if (dnT (pt_cmpD (od_ne hr) (dnE (pd_cmp (od_ownEq (f_World___eq__ T) (hr.mono (by decide)) T.b_World___eq__ T.qe_World T.qf_World) (dnE (pd_var 10) fun _ _ => w_var) (dnE (pd_call (f__law_base T) (hr.mono (by decide)) rfl T.g__law_base T.k__law_base T.b__law_base (dnB (dab_arg (dnE (pd_var 12) fun _ _ => w_var) (dnB dab_nil fun _ _ => w_bnil)) fun _ _ => w_barg)) fun _ _ => w_fn)) fun _ _ => w_op (wo_ownEq T.nf_World)) (dnE (pd_cmp (od_eqP hr) (dnE (pd_var 3) fun _ _ => w_var) (dnE (pd_var 12) fun _ _ => w_var)) fun _ _ => w_op wo_eqP)) fun _ _ q => w_tst2 (w_op wo_ne) q) (dss_one (dnS (ds_ret (dnE pd_bl fun _ _ => w_c)) fun _ _ => w_ret)) (dnSs dss_nil fun _ _ => w_next)) fun _ _ => w_ifS) (dnSs (dss_cons (dnS (ds_set sc_law.nd (i := 13) rfl (by first | exact .inl rfl | exact .inr rfl) (dnE (pd_makeD T.m_World (f_World_init T) (hr.mono (by decide)) rfl T.g_World T.b_World_init T.kd_World (dnB (dab_arg (dnE (pd_var 4) fun _ _ => w_var) (dnB (dab_arg (dnE (pd_var 5) fun _ _ => w_var) (dnB (dab_arg (dnE (pd_var 6) fun _ _ => w_var) (dnB (dab_arg (dnE (pd_var 7) fun _ _ => w_var) (dnB dab_nil fun _ _ => w_bnil)) fun _ _ => w_barg)) fun _ _ => w_barg)) fun _ _ => w_barg)) fun _ _ => w_barg)) fun _ _ => w_makeD)) fun _ _ => w_set) (dnSs (dss_cons (dnS (ds_if (dnT (pt_cmpD (od_ne hr) (dnE (pd_lst (dnA (pda_cons (dnE (pd_prop T.c_World T.pr_World_tags (f_World_tags T) (hr.mono (by decide)) T.b_World_tags (dnE (pd_var 13) fun _ _ => w_var)) fun _ _ => w_prop) (dnA (pda_cons (dnE (pd_prop T.c_World T.pr_World_checks (f_World_checks T) (hr.mono (by decide)) T.b_World_checks (dnE (pd_var 13) fun _ _ => w_var)) fun _ _ => w_prop) (dnA (pda_cons (dnE (pd_prop T.c_World T.pr_World_early (f_World_early T) (hr.mono (by decide)) T.b_World_early (dnE (pd_var 13) fun _ _ => w_var)) fun _ _ => w_prop) (dnA pda_nil fun _ _ => w_nil)) fun _ _ => w_cons)) fun _ _ => w_cons)) fun _ _ => w_cons)) fun _ _ => w_lst) (dnE (pd_lst (dnA (pda_cons (dnE pd_bl fun _ _ => w_c) (dnA (pda_cons (dnE pd_bl fun _ _ => w_c) (dnA (pda_cons (dnE pd_bl fun _ _ => w_c) (dnA pda_nil fun _ _ => w_nil)) fun _ _ => w_cons)) fun _ _ => w_cons)) fun _ _ => w_cons)) fun _ _ => w_lst)) fun _ _ q => w_tst2 (w_op wo_ne) q) (dss_one (dnS (ds_ret (dnE pd_bl fun _ _ => w_c)) fun _ _ => w_ret)) (dnSs dss_nil fun _ _ => w_next)) fun _ _ => w_ifS) (dss_one (dnS (ds_if (dnT (pt_cmpD (od_ownNe ftM_mono (f_World___eq__ T) (hr.mono (by decide)) T.b_World___eq__ T.qe_World T.qn_World T.qo_World T.qf_World) (dnE (pd_var 13) fun _ _ => w_var) (dnE (pd_makeP T.m_World (f_World_init T) (hr.mono (by decide)) rfl T.g_World T.kb_World_init_0 (dnB (dab_arg (dnE (pd_var 4) fun _ _ => w_var) (dnB (dab_arg (dnE (pd_var 5) fun _ _ => w_var) (dnB (dab_arg (dnE (pd_var 6) fun _ _ => w_var) (dnB (dab_arg (dnE (pd_var 7) fun _ _ => w_var) (dnB dab_nil fun _ _ => w_bnil)) fun _ _ => w_barg)) fun _ _ => w_barg)) fun _ _ => w_barg)) fun _ _ => w_barg) (dnK (dkb_arg (dnE pd_bl fun _ _ => w_c) (dnK (dkb_arg (dnE pd_bl fun _ _ => w_c) (dnK (dkb_arg (dnE pd_bl fun _ _ => w_c) (dnK dkb_nil fun _ _ => w_bnil)) fun _ _ => w_barg)) fun _ _ => w_barg)) fun _ _ => w_barg) rfl) fun _ _ => w_makeP)) fun _ _ q => w_tst2 (w_op (wo_ownNe T.nf_World)) q) (dss_one (dnS (ds_ret (dnE pd_bl fun _ _ => w_c)) fun _ _ => w_ret)) (dnSs dss_nil fun _ _ => w_next)) fun _ _ => w_ifS))) fun _ _ => w_seq)) fun _ _ => w_seq)) fun _ _ => w_seq)) fun _ _ => w_seq)) fun _ _ => w_seq)) fun _ _ => w_seq)) fun _ _ => w_seq)) fun _ _ => w_seq)) fun _ _ => w_seq)) fun _ _ => w_seq)) fun _ _ => w_seq)) fun _ _ => w_seq)) (pss_one (ps_ret pe_bl)))), ?_⟩
  refine ⟨_, rfl, a1, ns, rfl, hS, h63, fun p c H' ms hp hc hne e1 e2 e3 e4 hk => ?_⟩
  refine ⟨_, rfl, a1, ns.map V.int, rfl, .inl (sqL_keep hS hk), _, _, rfl, 4, _, rfl, rfl, _, rfl, ?_, ?_, ?_⟩
  · split <;> omega
  · split <;> omega
  have r0 := R.begin (K := K) (v := some (.ref a1)) (H := H') ⟨0, 1, ms, e1, e2, e3, e4⟩ (nm.imp fun _ e => hk _ _ e) 12
  refine loopR r0 TI ⟨_, _, _, _, _, _, _, _, _, _, _, _, _, rfl⟩ (fun x ρ hI => ⟨(by obtain ⟨s0, s1, s2, s3, s4, s5, s6, s7, s8, s9, s10, s11, s12, rfl⟩ := hI; exact Nat.le_of_ble_eq_true rfl), wp_mono (fun o q => ?_) (turn_ok (c := a.cs) (x := x) hI).get⟩) fun G' H1 σ' ρ' _ _ _ => kq H1
  obtain ⟨ρ', rfl, hρ⟩ := q
  exact hρ
end
end K02
namespace K02
open PySem L2 Fl Tr
open Sv
theorem all_mk {P : Program} {w : World} {K : PySem.W.Frag} {h : Heap} {mg : Str → Option Value} {fa C_World f0 f1 f2 f3 f4 f5 f6 f7 f8 kD8 f9 p9 f10 p10 f11 p11 f12 p12 f13 p13 f14 p14 f15 p15 f16 f17 f18 f19 f20 f21 f22 f23 f24 f25 f26 f27 f28 f29 rRIGHTS : Addr} {oc0 kV0 dc0 pm0 cd0 ct0 oc1 kV1 dc1 pm1 cd1 ct1 oc2 kV2 dc2 pm2 cd2 ct2 oc3 kV3 dc3 pm3 cd3 ct3 oc4 kV4 dc4 pm4 cd4 ct4 oc5 kV5 dc5 pm5 cd5 ct5 oc6 kV6 dc6 pm6 cd6 ct6 oc7 kV7 dc7 pm7 cd7 ct7 oc8 dc8 pm8 cd8 ct8 oc9 kV9 dc9 pm9 cd9 ct9 oc10 kV10 dc10 pm10 cd10 ct10 oc11 kV11 dc11 pm11 cd11 ct11 oc12 kV12 dc12 pm12 cd12 ct12 oc13 kV13 dc13 pm13 cd13 ct13 oc14 kV14 dc14 pm14 cd14 ct14 oc15 kV15 dc15 pm15 cd15 ct15 oc16 kV16 dc16 pm16 cd16 ct16 oc17 kV17 dc17 pm17 cd17 ct17 oc18 kV18 dc18 pm18 cd18 ct18 oc19 kV19 dc19 pm19 cd19 ct19 oc20 kV20 dc20 pm20 cd20 ct20 oc21 kV21 dc21 pm21 cd21 ct21 oc22 kV22 dc22 pm22 cd22 ct22 oc23 kV23 dc23 pm23 cd23 ct23 oc24 kV24 dc24 pm24 cd24 ct24 oc25 kV25 dc25 pm25 cd25 ct25 oc26 kV26 dc26 pm26 cd26 ct26 oc27 kV27 dc27 pm27 cd27 ct27 oc28 kV28 dc28 pm28 cd28 ct28 oc29 kV29 dc29 pm29 cd29 ct29 : Value} {od0 an0 od1 an1 od2 an2 od3 an3 od4 an4 od5 an5 od6 an6 od7 an7 od8 an8 od9 an9 od10 an10 od11 an11 od12 an12 od13 an13 od14 an14 od15 an15 od16 an16 od17 an17 od18 an18 od19 an19 od20 an20 od21 an21 od22 an22 od23 an23 od24 an24 od25 an25 od26 an26 od27 an27 od28 an28 od29 an29 odRIGHTS : Option Addr} {sl0 sl1 sl2 sl3 sl4 sl5 sl6 sl7 sl8 sl9 sl10 sl11 sl12 sl13 sl14 sl15 sl16 sl17 sl18 sl19 sl20 sl21 sl22 sl23 sl24 sl25 sl26 sl27 sl28 sl29 slRIGHTS : Array (Option Value)} {tLETTERS tMOST_FRAMES tMOST_LETTERS tMOST_PAGES tMOST_SPACES tRIGHTS0 tRIGHTS1 : Tok} {nRIGHTS : Nat} {R9 R10 R11 R12 R13 R14 R15 : List Value} (X : K.In h) (G : h.Ns mainGlobals mg) (hfa : mg "law" = some (.ref fa))
    (aCWorld : PySem.W.nsIn K mainGlobals "World" = some (some (.ref C_World)))
    (pgWorld : PySem.W.plainGet K C_World Str.empty = true)
    (hdWorld : PySem.W.hasDictIn K C_World = true)
    (poWorld : PySem.W.plainOver K C_World = true)
    (saWorld : PySem.W.findIn K (.ref C_World) "__setattr__" = some (some (.builtin "object.__setattr__")))
    (mkWorld : PySem.W.makesIn K C_World = true)
    (kcWorld : PySem.W.keepIn K (.ref C_World) = true)
    (nfWorldown_frames : PySem.W.findIn K (.ref C_World) "own_frames" = some none)
    (nfWorldown_pages : PySem.W.findIn K (.ref C_World) "own_pages" = some none)
    (nfWorldown_rules : PySem.W.findIn K (.ref C_World) "own_rules" = some none)
    (nfWorldown_spaces : PySem.W.findIn K (.ref C_World) "own_spaces" = some none)
    (nfWorldown_tables : PySem.W.findIn K (.ref C_World) "own_tables" = some none)
    (obWorld : PySem.W.mroIn K C_World (.type "object") = some true)
    (haWorld : PySem.W.findIn K (.ref C_World) "__class__" = some (some (.builtin "object.__class__")))
    (hnWorld : PySem.W.specialIn K (.builtin "object.__class__") "__get__" = some (some (.builtin "getset_descriptor.__get__")))
    (tkWorld : PySem.W.takesIn K (.builtin "object.__class__") = some true)
    (koWorld0 : PySem.W.kitOne K (.type "NoneType") (.ref C_World) = some false)
    (koWorld1 : PySem.W.kitOne K (.type "bool") (.ref C_World) = some false)
    (koWorld2 : PySem.W.kitOne K (.type "int") (.ref C_World) = some false)
    (koWorld3 : PySem.W.kitOne K (.type "str") (.ref C_World) = some false)
    (koWorld4 : PySem.W.kitOne K (.type "list") (.ref C_World) = some false)
    (koWorld5 : PySem.W.kitOne K (.type "tuple") (.ref C_World) = some false)
    (koWorld6 : PySem.W.kitOne K (.type "dict") (.ref C_World) = some false)
    (meWorld : PySem.W.notFirst K C_World (.ref C_World) = true)
    (ntWorld0 : PySem.W.notFirst K C_World (.type "NoneType") = true)
    (ntWorld1 : PySem.W.notFirst K C_World (.type "bool") = true)
    (ntWorld2 : PySem.W.notFirst K C_World (.type "int") = true)
    (ntWorld3 : PySem.W.notFirst K C_World (.type "str") = true)
    (ntWorld4 : PySem.W.notFirst K C_World (.type "list") = true)
    (ntWorld5 : PySem.W.notFirst K C_World (.type "tuple") = true)
    (ntWorld6 : PySem.W.notFirst K C_World (.type "dict") = true)
    (qeWorld : PySem.W.findIn K (.ref C_World) "__eq__" = some (some (.ref f17)))
    (qfWorld : PySem.W.isFn K (.ref f17) = true)
    (qnWorld : PySem.W.findIn K (.ref C_World) "__ne__" = some (some (.builtin "object.__ne__")))
    (a0 : PySem.W.nsIn K mainGlobals "is_name" = some (some (.ref f0)))
    (l0 : K.lookup f0 = some ⟨oc0, od0, .func (PySem.W.fnOf "is_name" "is_name" (defArgs s_is_name) (defBody s_is_name) (defScope s_is_name) .none kV0 dc0 pm0 an0 cd0 ct0), sl0⟩)
    (c0 : PySem.W.codeIn K cd0 "is_name" = true)
    (k0 : PySem.W.keepIn K (.ref f0) = true)
    (a1 : PySem.W.nsIn K mainGlobals "is_integer" = some (some (.ref f1)))
    (l1 : K.lookup f1 = some ⟨oc1, od1, .func (PySem.W.fnOf "is_integer" "is_integer" (defArgs s_is_integer) (defBody s_is_integer) (defScope s_is_integer) .none kV1 dc1 pm1 an1 cd1 ct1), sl1⟩)
    (c1 : PySem.W.codeIn K cd1 "is_integer" = true)
    (k1 : PySem.W.keepIn K (.ref f1) = true)
    (a2 : PySem.W.nsIn K mainGlobals "is_index" = some (some (.ref f2)))
    (l2 : K.lookup f2 = some ⟨oc2, od2, .func (PySem.W.fnOf "is_index" "is_index" (defArgs s_is_index) (defBody s_is_index) (defScope s_is_index) .none kV2 dc2 pm2 an2 cd2 ct2), sl2⟩)
    (c2 : PySem.W.codeIn K cd2 "is_index" = true)
    (k2 : PySem.W.keepIn K (.ref f2) = true)
    (a3 : PySem.W.nsIn K mainGlobals "is_word" = some (some (.ref f3)))
    (l3 : K.lookup f3 = some ⟨oc3, od3, .func (PySem.W.fnOf "is_word" "is_word" (defArgs s_is_word) (defBody s_is_word) (defScope s_is_word) .none kV3 dc3 pm3 an3 cd3 ct3), sl3⟩)
    (c3 : PySem.W.codeIn K cd3 "is_word" = true)
    (k3 : PySem.W.keepIn K (.ref f3) = true)
    (a4 : PySem.W.nsIn K mainGlobals "are_spaces" = some (some (.ref f4)))
    (l4 : K.lookup f4 = some ⟨oc4, od4, .func (PySem.W.fnOf "are_spaces" "are_spaces" (defArgs s_are_spaces) (defBody s_are_spaces) (defScope s_are_spaces) .none kV4 dc4 pm4 an4 cd4 ct4), sl4⟩)
    (c4 : PySem.W.codeIn K cd4 "are_spaces" = true)
    (k4 : PySem.W.keepIn K (.ref f4) = true)
    (a5 : PySem.W.nsIn K mainGlobals "is_filled" = some (some (.ref f5)))
    (l5 : K.lookup f5 = some ⟨oc5, od5, .func (PySem.W.fnOf "is_filled" "is_filled" (defArgs s_is_filled) (defBody s_is_filled) (defScope s_is_filled) .none kV5 dc5 pm5 an5 cd5 ct5), sl5⟩)
    (c5 : PySem.W.codeIn K cd5 "is_filled" = true)
    (k5 : PySem.W.keepIn K (.ref f5) = true)
    (a6 : PySem.W.nsIn K mainGlobals "is_table" = some (some (.ref f6)))
    (l6 : K.lookup f6 = some ⟨oc6, od6, .func (PySem.W.fnOf "is_table" "is_table" (defArgs s_is_table) (defBody s_is_table) (defScope s_is_table) .none kV6 dc6 pm6 an6 cd6 ct6), sl6⟩)
    (c6 : PySem.W.codeIn K cd6 "is_table" = true)
    (k6 : PySem.W.keepIn K (.ref f6) = true)
    (a7 : PySem.W.nsIn K mainGlobals "are_tables" = some (some (.ref f7)))
    (l7 : K.lookup f7 = some ⟨oc7, od7, .func (PySem.W.fnOf "are_tables" "are_tables" (defArgs s_are_tables) (defBody s_are_tables) (defScope s_are_tables) .none kV7 dc7 pm7 an7 cd7 ct7), sl7⟩)
    (c7 : PySem.W.codeIn K cd7 "are_tables" = true)
    (k7 : PySem.W.keepIn K (.ref f7) = true)
    (a8 : PySem.W.findIn K (.ref C_World) "__init__" = some (some (.ref f8)))
    (i8 : PySem.W.isFn K (.ref f8) = true)
    (l8 : K.lookup f8 = some ⟨oc8, od8, .func (PySem.W.fnOf "__init__" "World.__init__" (defArgs s_World_init) (defBody s_World_init) (defScope s_World_init) .none (.ref kD8) dc8 pm8 an8 cd8 ct8), sl8⟩)
    (c8 : PySem.W.codeIn K cd8 "World.__init__" = true)
    (k8 : PySem.W.keepIn K (.ref f8) = true)
    (kq8tags : PySem.W.nsIn K kD8 "tags" = some (some (.bool false)))
    (kq8checks : PySem.W.nsIn K kD8 "checks" = some (some (.bool false)))
    (kq8early : PySem.W.nsIn K kD8 "early" = some (some (.bool true)))
    (a9 : PySem.W.findIn K (.ref C_World) "spaces" = some (some (.ref p9)))
    (pg9 : PySem.W.specialIn K (.ref p9) (Str.ofString "__get__") = some (some (.builtin "property.__get__")))
    (pt9 : PySem.W.takesIn K (.ref p9) = some true)
    (pr9 : PySem.W.recIn K p9 "property" = some (.ref f9 :: R9))
    (l9 : K.lookup f9 = some ⟨oc9, od9, .func (PySem.W.fnOf "spaces" "World.spaces" (defArgs s_World_spaces) (defBody s_World_spaces) (defScope s_World_spaces) .none kV9 dc9 pm9 an9 cd9 ct9), sl9⟩)
    (c9 : PySem.W.codeIn K cd9 "World.spaces" = true)
    (k9 : PySem.W.keepIn K (.ref f9) = true)
    (a10 : PySem.W.findIn K (.ref C_World) "pages" = some (some (.ref p10)))
    (pg10 : PySem.W.specialIn K (.ref p10) (Str.ofString "__get__") = some (some (.builtin "property.__get__")))
    (pt10 : PySem.W.takesIn K (.ref p10) = some true)
    (pr10 : PySem.W.recIn K p10 "property" = some (.ref f10 :: R10))
    (l10 : K.lookup f10 = some ⟨oc10, od10, .func (PySem.W.fnOf "pages" "World.pages" (defArgs s_World_pages) (defBody s_World_pages) (defScope s_World_pages) .none kV10 dc10 pm10 an10 cd10 ct10), sl10⟩)
    (c10 : PySem.W.codeIn K cd10 "World.pages" = true)
    (k10 : PySem.W.keepIn K (.ref f10) = true)
    (a11 : PySem.W.findIn K (.ref C_World) "frames" = some (some (.ref p11)))
    (pg11 : PySem.W.specialIn K (.ref p11) (Str.ofString "__get__") = some (some (.builtin "property.__get__")))
    (pt11 : PySem.W.takesIn K (.ref p11) = some true)
    (pr11 : PySem.W.recIn K p11 "property" = some (.ref f11 :: R11))
    (l11 : K.lookup f11 = some ⟨oc11, od11, .func (PySem.W.fnOf "frames" "World.frames" (defArgs s_World_frames) (defBody s_World_frames) (defScope s_World_frames) .none kV11 dc11 pm11 an11 cd11 ct11), sl11⟩)
    (c11 : PySem.W.codeIn K cd11 "World.frames" = true)
    (k11 : PySem.W.keepIn K (.ref f11) = true)
    (a12 : PySem.W.findIn K (.ref C_World) "tables" = some (some (.ref p12)))
    (pg12 : PySem.W.specialIn K (.ref p12) (Str.ofString "__get__") = some (some (.builtin "property.__get__")))
    (pt12 : PySem.W.takesIn K (.ref p12) = some true)
    (pr12 : PySem.W.recIn K p12 "property" = some (.ref f12 :: R12))
    (l12 : K.lookup f12 = some ⟨oc12, od12, .func (PySem.W.fnOf "tables" "World.tables" (defArgs s_World_tables) (defBody s_World_tables) (defScope s_World_tables) .none kV12 dc12 pm12 an12 cd12 ct12), sl12⟩)
    (c12 : PySem.W.codeIn K cd12 "World.tables" = true)
    (k12 : PySem.W.keepIn K (.ref f12) = true)
    (a13 : PySem.W.findIn K (.ref C_World) "tags" = some (some (.ref p13)))
    (pg13 : PySem.W.specialIn K (.ref p13) (Str.ofString "__get__") = some (some (.builtin "property.__get__")))
    (pt13 : PySem.W.takesIn K (.ref p13) = some true)
    (pr13 : PySem.W.recIn K p13 "property" = some (.ref f13 :: R13))
    (l13 : K.lookup f13 = some ⟨oc13, od13, .func (PySem.W.fnOf "tags" "World.tags" (defArgs s_World_tags) (defBody s_World_tags) (defScope s_World_tags) .none kV13 dc13 pm13 an13 cd13 ct13), sl13⟩)
    (c13 : PySem.W.codeIn K cd13 "World.tags" = true)
    (k13 : PySem.W.keepIn K (.ref f13) = true)
    (a14 : PySem.W.findIn K (.ref C_World) "checks" = some (some (.ref p14)))
    (pg14 : PySem.W.specialIn K (.ref p14) (Str.ofString "__get__") = some (some (.builtin "property.__get__")))
    (pt14 : PySem.W.takesIn K (.ref p14) = some true)
    (pr14 : PySem.W.recIn K p14 "property" = some (.ref f14 :: R14))
    (l14 : K.lookup f14 = some ⟨oc14, od14, .func (PySem.W.fnOf "checks" "World.checks" (defArgs s_World_checks) (defBody s_World_checks) (defScope s_World_checks) .none kV14 dc14 pm14 an14 cd14 ct14), sl14⟩)
    (c14 : PySem.W.codeIn K cd14 "World.checks" = true)
    (k14 : PySem.W.keepIn K (.ref f14) = true)
    (a15 : PySem.W.findIn K (.ref C_World) "early" = some (some (.ref p15)))
    (pg15 : PySem.W.specialIn K (.ref p15) (Str.ofString "__get__") = some (some (.builtin "property.__get__")))
    (pt15 : PySem.W.takesIn K (.ref p15) = some true)
    (pr15 : PySem.W.recIn K p15 "property" = some (.ref f15 :: R15))
    (l15 : K.lookup f15 = some ⟨oc15, od15, .func (PySem.W.fnOf "early" "World.early" (defArgs s_World_early) (defBody s_World_early) (defScope s_World_early) .none kV15 dc15 pm15 an15 cd15 ct15), sl15⟩)
    (c15 : PySem.W.codeIn K cd15 "World.early" = true)
    (k15 : PySem.W.keepIn K (.ref f15) = true)
    (a16 : PySem.W.findIn K (.ref C_World) "parts" = some (some (.ref f16)))
    (i16 : PySem.W.isFn K (.ref f16) = true)
    (l16 : K.lookup f16 = some ⟨oc16, od16, .func (PySem.W.fnOf "parts" "World.parts" (defArgs s_World_parts) (defBody s_World_parts) (defScope s_World_parts) .none kV16 dc16 pm16 an16 cd16 ct16), sl16⟩)
    (c16 : PySem.W.codeIn K cd16 "World.parts" = true)
    (k16 : PySem.W.keepIn K (.ref f16) = true)
    (l17 : K.lookup f17 = some ⟨oc17, od17, .func (PySem.W.fnOf "__eq__" "World.__eq__" (defArgs s_World___eq__) (defBody s_World___eq__) (defScope s_World___eq__) .none kV17 dc17 pm17 an17 cd17 ct17), sl17⟩)
    (c17 : PySem.W.codeIn K cd17 "World.__eq__" = true)
    (k17 : PySem.W.keepIn K (.ref f17) = true)
    (a18 : PySem.W.findIn K (.ref C_World) "entries" = some (some (.ref f18)))
    (i18 : PySem.W.isFn K (.ref f18) = true)
    (l18 : K.lookup f18 = some ⟨oc18, od18, .func (PySem.W.fnOf "entries" "World.entries" (defArgs s_World_entries) (defBody s_World_entries) (defScope s_World_entries) .none kV18 dc18 pm18 an18 cd18 ct18), sl18⟩)
    (c18 : PySem.W.codeIn K cd18 "World.entries" = true)
    (k18 : PySem.W.keepIn K (.ref f18) = true)
    (a19 : PySem.W.nsIn K mainGlobals "_law_state" = some (some (.ref f19)))
    (l19 : K.lookup f19 = some ⟨oc19, od19, .func (PySem.W.fnOf "_law_state" "_law_state" (defArgs s__law_state) (defBody s__law_state) (defScope s__law_state) .none kV19 dc19 pm19 an19 cd19 ct19), sl19⟩)
    (c19 : PySem.W.codeIn K cd19 "_law_state" = true)
    (k19 : PySem.W.keepIn K (.ref f19) = true)
    (a20 : PySem.W.nsIn K mainGlobals "_law_draw" = some (some (.ref f20)))
    (l20 : K.lookup f20 = some ⟨oc20, od20, .func (PySem.W.fnOf "_law_draw" "_law_draw" (defArgs s__law_draw) (defBody s__law_draw) (defScope s__law_draw) .none kV20 dc20 pm20 an20 cd20 ct20), sl20⟩)
    (c20 : PySem.W.codeIn K cd20 "_law_draw" = true)
    (k20 : PySem.W.keepIn K (.ref f20) = true)
    (a21 : PySem.W.nsIn K mainGlobals "_law_pick" = some (some (.ref f21)))
    (l21 : K.lookup f21 = some ⟨oc21, od21, .func (PySem.W.fnOf "_law_pick" "_law_pick" (defArgs s__law_pick) (defBody s__law_pick) (defScope s__law_pick) .none kV21 dc21 pm21 an21 cd21 ct21), sl21⟩)
    (c21 : PySem.W.codeIn K cd21 "_law_pick" = true)
    (k21 : PySem.W.keepIn K (.ref f21) = true)
    (a22 : PySem.W.nsIn K mainGlobals "_law_shuffled" = some (some (.ref f22)))
    (l22 : K.lookup f22 = some ⟨oc22, od22, .func (PySem.W.fnOf "_law_shuffled" "_law_shuffled" (defArgs s__law_shuffled) (defBody s__law_shuffled) (defScope s__law_shuffled) .none kV22 dc22 pm22 an22 cd22 ct22), sl22⟩)
    (c22 : PySem.W.codeIn K cd22 "_law_shuffled" = true)
    (k22 : PySem.W.keepIn K (.ref f22) = true)
    (a23 : PySem.W.nsIn K mainGlobals "_law_labels" = some (some (.ref f23)))
    (l23 : K.lookup f23 = some ⟨oc23, od23, .func (PySem.W.fnOf "_law_labels" "_law_labels" (defArgs s__law_labels) (defBody s__law_labels) (defScope s__law_labels) .none kV23 dc23 pm23 an23 cd23 ct23), sl23⟩)
    (c23 : PySem.W.codeIn K cd23 "_law_labels" = true)
    (k23 : PySem.W.keepIn K (.ref f23) = true)
    (a24 : PySem.W.nsIn K mainGlobals "_law_cell" = some (some (.ref f24)))
    (l24 : K.lookup f24 = some ⟨oc24, od24, .func (PySem.W.fnOf "_law_cell" "_law_cell" (defArgs s__law_cell) (defBody s__law_cell) (defScope s__law_cell) .none kV24 dc24 pm24 an24 cd24 ct24), sl24⟩)
    (c24 : PySem.W.codeIn K cd24 "_law_cell" = true)
    (k24 : PySem.W.keepIn K (.ref f24) = true)
    (a25 : PySem.W.nsIn K mainGlobals "_law_parts" = some (some (.ref f25)))
    (l25 : K.lookup f25 = some ⟨oc25, od25, .func (PySem.W.fnOf "_law_parts" "_law_parts" (defArgs s__law_parts) (defBody s__law_parts) (defScope s__law_parts) .none kV25 dc25 pm25 an25 cd25 ct25), sl25⟩)
    (c25 : PySem.W.codeIn K cd25 "_law_parts" = true)
    (k25 : PySem.W.keepIn K (.ref f25) = true)
    (a26 : PySem.W.nsIn K mainGlobals "_law_base" = some (some (.ref f26)))
    (l26 : K.lookup f26 = some ⟨oc26, od26, .func (PySem.W.fnOf "_law_base" "_law_base" (defArgs s__law_base) (defBody s__law_base) (defScope s__law_base) .none kV26 dc26 pm26 an26 cd26 ct26), sl26⟩)
    (c26 : PySem.W.codeIn K cd26 "_law_base" = true)
    (k26 : PySem.W.keepIn K (.ref f26) = true)
    (a27 : PySem.W.nsIn K mainGlobals "_law_other" = some (some (.ref f27)))
    (l27 : K.lookup f27 = some ⟨oc27, od27, .func (PySem.W.fnOf "_law_other" "_law_other" (defArgs s__law_other) (defBody s__law_other) (defScope s__law_other) .none kV27 dc27 pm27 an27 cd27 ct27), sl27⟩)
    (c27 : PySem.W.codeIn K cd27 "_law_other" = true)
    (k27 : PySem.W.keepIn K (.ref f27) = true)
    (a28 : PySem.W.nsIn K mainGlobals "_law_right" = some (some (.ref f28)))
    (l28 : K.lookup f28 = some ⟨oc28, od28, .func (PySem.W.fnOf "_law_right" "_law_right" (defArgs s__law_right) (defBody s__law_right) (defScope s__law_right) .none kV28 dc28 pm28 an28 cd28 ct28), sl28⟩)
    (c28 : PySem.W.codeIn K cd28 "_law_right" = true)
    (k28 : PySem.W.keepIn K (.ref f28) = true)
    (a29 : PySem.W.nsIn K mainGlobals "law" = some (some (.ref f29)))
    (l29 : K.lookup f29 = some ⟨oc29, od29, .func (PySem.W.fnOf "law" "law" (defArgs s_law) (defBody s_law) (defScope s_law) .none kV29 dc29 pm29 an29 cd29 ct29), sl29⟩)
    (c29 : PySem.W.codeIn K cd29 "law" = true)
    (k29 : PySem.W.keepIn K (.ref f29) = true)
    (vLETTERS : PySem.W.nsIn K mainGlobals "LETTERS" = some (some (.str "abcdefghijklmnopqrstuvwxyz" tLETTERS)))
    (vMOST_FRAMES : PySem.W.nsIn K mainGlobals "MOST_FRAMES" = some (some (.int 4 tMOST_FRAMES)))
    (vMOST_LETTERS : PySem.W.nsIn K mainGlobals "MOST_LETTERS" = some (some (.int 8 tMOST_LETTERS)))
    (vMOST_PAGES : PySem.W.nsIn K mainGlobals "MOST_PAGES" = some (some (.int 4 tMOST_PAGES)))
    (vMOST_SPACES : PySem.W.nsIn K mainGlobals "MOST_SPACES" = some (some (.int 3 tMOST_SPACES)))
    (vRIGHTS : PySem.W.nsIn K mainGlobals "RIGHTS" = some (some (.ref rRIGHTS)))
    (wRIGHTS : K.lookup rRIGHTS = some ⟨.type "tuple", odRIGHTS, .seq #[.str "r" tRIGHTS0, .str "w" tRIGHTS1] nRIGHTS, slRIGHTS⟩)
    (zabs : PySem.W.nsIn K mainGlobals "abs" = some none)
    (zall : PySem.W.nsIn K mainGlobals "all" = some none)
    (zbool : PySem.W.nsIn K mainGlobals "bool" = some none)
    (zdict : PySem.W.nsIn K mainGlobals "dict" = some none)
    (zenumerate : PySem.W.nsIn K mainGlobals "enumerate" = some none)
    (zint : PySem.W.nsIn K mainGlobals "int" = some none)
    (zisinstance : PySem.W.nsIn K mainGlobals "isinstance" = some none)
    (zlen : PySem.W.nsIn K mainGlobals "len" = some none)
    (zlist : PySem.W.nsIn K mainGlobals "list" = some none)
    (zmin : PySem.W.nsIn K mainGlobals "min" = some none)
    (zrange : PySem.W.nsIn K mainGlobals "range" = some none)
    (zrepr : PySem.W.nsIn K mainGlobals "repr" = some none)
    (zsorted : PySem.W.nsIn K mainGlobals "sorted" = some none)
    (zstr : PySem.W.nsIn K mainGlobals "str" = some none)
    (ztuple : PySem.W.nsIn K mainGlobals "tuple" = some none) :
    ∃ fd : FuncData, (∀ (s : Shared) (v : Value), BindsTo s fd ⟨[v], []⟩ [("_law_script", v)]) ∧ ∀ base : Heap, K.In base → base.Ns mainGlobals mg → FnG P w K mg base 9 fa fd ["_law_script"] (spLaw K) := by
  have e := hfa.symm.trans (PySem.W.mg_of X G a29)
  obtain rfl : f29 = fa := (Value.ref.inj (Option.some.inj e)).symm
  have F0 := fun_mk (st := s_is_name) l0 c0 k0
  have F1 := fun_mk (st := s_is_integer) l1 c1 k1
  have F2 := fun_mk (st := s_is_index) l2 c2 k2
  have F3 := fun_mk (st := s_is_word) l3 c3 k3
  have F4 := fun_mk (st := s_are_spaces) l4 c4 k4
  have F5 := fun_mk (st := s_is_filled) l5 c5 k5
  have F6 := fun_mk (st := s_is_table) l6 c6 k6
  have F7 := fun_mk (st := s_are_tables) l7 c7 k7
  have F8 := fun_mk (st := s_World_init) l8 c8 k8
  obtain ⟨ds8, kd8, bd8⟩ := FunD.binds0 (K := K) (x := "__init__") (qual := "World.__init__") (params := defArgs s_World_init) (body := defBody s_World_init) (scope := defScope s_World_init) (kws := [("tags", .bl false), ("checks", .bl false), ("early", .bl true)]) (f := f8) (fd := PySem.W.fnOf "__init__" "World.__init__" (defArgs s_World_init) (defBody s_World_init) (defScope s_World_init) .none (.ref kD8) dc8 pm8 an8 cd8 ct8) (ps := ["self", "spaces", "pages", "frames", "tables", "tags", "checks", "early"]) ⟨⟨oc8, od8, .none, .ref kD8, dc8, pm8, an8, cd8, ct8, sl8, rfl, l8, c8, .inl ⟨rfl, rfl⟩, .inr ⟨kD8, rfl, by
      intro q hq; simp only [List.mem_cons, List.not_mem_nil, or_false] at hq; rcases hq with rfl | rfl | rfl <;> exact ⟨_, by assumption, rfl⟩⟩⟩, k8⟩ 5 (by simp) rfl (fun D doc pm an cdv ct us ks l1 l2 => match us, l1, ks, l2 with | [_, _, _, _, _], _, [_, _, _], _ => ⟨_, _, _, _, _, _, rfl, rfl, ⟨_, _, _, _, _, _, rfl, rfl, ⟨_, _, _, _, _, _, rfl, rfl, rfl⟩⟩⟩)
  have F9 := fun_mk (st := s_World_spaces) l9 c9 k9
  have F10 := fun_mk (st := s_World_pages) l10 c10 k10
  have F11 := fun_mk (st := s_World_frames) l11 c11 k11
  have F12 := fun_mk (st := s_World_tables) l12 c12 k12
  have F13 := fun_mk (st := s_World_tags) l13 c13 k13
  have F14 := fun_mk (st := s_World_checks) l14 c14 k14
  have F15 := fun_mk (st := s_World_early) l15 c15 k15
  have F16 := fun_mk (st := s_World_parts) l16 c16 k16
  have F17 := fun_mk (st := s_World___eq__) l17 c17 k17
  have F18 := fun_mk (st := s_World_entries) l18 c18 k18
  have F19 := fun_mk (st := s__law_state) l19 c19 k19
  have F20 := fun_mk (st := s__law_draw) l20 c20 k20
  have F21 := fun_mk (st := s__law_pick) l21 c21 k21
  have F22 := fun_mk (st := s__law_shuffled) l22 c22 k22
  have F23 := fun_mk (st := s__law_labels) l23 c23 k23
  have F24 := fun_mk (st := s__law_cell) l24 c24 k24
  have F25 := fun_mk (st := s__law_parts) l25 c25 k25
  have F26 := fun_mk (st := s__law_base) l26 c26 k26
  have F27 := fun_mk (st := s__law_other) l27 c27 k27
  have F28 := fun_mk (st := s__law_right) l28 c28 k28
  have F29 := fun_mk (st := s_law) l29 c29 k29
  let a : Ad := {
    cs := ⟨C_World⟩,
    is_name := f0,
    fd_is_name := PySem.W.fnOf "is_name" "is_name" (defArgs s_is_name) (defBody s_is_name) (defScope s_is_name) .none kV0 dc0 pm0 an0 cd0 ct0,
    is_integer := f1,
    fd_is_integer := PySem.W.fnOf "is_integer" "is_integer" (defArgs s_is_integer) (defBody s_is_integer) (defScope s_is_integer) .none kV1 dc1 pm1 an1 cd1 ct1,
    is_index := f2,
    fd_is_index := PySem.W.fnOf "is_index" "is_index" (defArgs s_is_index) (defBody s_is_index) (defScope s_is_index) .none kV2 dc2 pm2 an2 cd2 ct2,
    is_word := f3,
    fd_is_word := PySem.W.fnOf "is_word" "is_word" (defArgs s_is_word) (defBody s_is_word) (defScope s_is_word) .none kV3 dc3 pm3 an3 cd3 ct3,
    are_spaces := f4,
    fd_are_spaces := PySem.W.fnOf "are_spaces" "are_spaces" (defArgs s_are_spaces) (defBody s_are_spaces) (defScope s_are_spaces) .none kV4 dc4 pm4 an4 cd4 ct4,
    is_filled := f5,
    fd_is_filled := PySem.W.fnOf "is_filled" "is_filled" (defArgs s_is_filled) (defBody s_is_filled) (defScope s_is_filled) .none kV5 dc5 pm5 an5 cd5 ct5,
    is_table := f6,
    fd_is_table := PySem.W.fnOf "is_table" "is_table" (defArgs s_is_table) (defBody s_is_table) (defScope s_is_table) .none kV6 dc6 pm6 an6 cd6 ct6,
    are_tables := f7,
    fd_are_tables := PySem.W.fnOf "are_tables" "are_tables" (defArgs s_are_tables) (defBody s_are_tables) (defScope s_are_tables) .none kV7 dc7 pm7 an7 cd7 ct7,
    World_init := f8,
    fd_World_init := PySem.W.fnOf "__init__" "World.__init__" (defArgs s_World_init) (defBody s_World_init) (defScope s_World_init) .none (.ref kD8) dc8 pm8 an8 cd8 ct8,
    ds_World := ds8,
    World_spaces := f9,
    fd_World_spaces := PySem.W.fnOf "spaces" "World.spaces" (defArgs s_World_spaces) (defBody s_World_spaces) (defScope s_World_spaces) .none kV9 dc9 pm9 an9 cd9 ct9,
    pa_World_spaces := p9,
    World_pages := f10,
    fd_World_pages := PySem.W.fnOf "pages" "World.pages" (defArgs s_World_pages) (defBody s_World_pages) (defScope s_World_pages) .none kV10 dc10 pm10 an10 cd10 ct10,
    pa_World_pages := p10,
    World_frames := f11,
    fd_World_frames := PySem.W.fnOf "frames" "World.frames" (defArgs s_World_frames) (defBody s_World_frames) (defScope s_World_frames) .none kV11 dc11 pm11 an11 cd11 ct11,
    pa_World_frames := p11,
    World_tables := f12,
    fd_World_tables := PySem.W.fnOf "tables" "World.tables" (defArgs s_World_tables) (defBody s_World_tables) (defScope s_World_tables) .none kV12 dc12 pm12 an12 cd12 ct12,
    pa_World_tables := p12,
    World_tags := f13,
    fd_World_tags := PySem.W.fnOf "tags" "World.tags" (defArgs s_World_tags) (defBody s_World_tags) (defScope s_World_tags) .none kV13 dc13 pm13 an13 cd13 ct13,
    pa_World_tags := p13,
    World_checks := f14,
    fd_World_checks := PySem.W.fnOf "checks" "World.checks" (defArgs s_World_checks) (defBody s_World_checks) (defScope s_World_checks) .none kV14 dc14 pm14 an14 cd14 ct14,
    pa_World_checks := p14,
    World_early := f15,
    fd_World_early := PySem.W.fnOf "early" "World.early" (defArgs s_World_early) (defBody s_World_early) (defScope s_World_early) .none kV15 dc15 pm15 an15 cd15 ct15,
    pa_World_early := p15,
    World_parts := f16,
    fd_World_parts := PySem.W.fnOf "parts" "World.parts" (defArgs s_World_parts) (defBody s_World_parts) (defScope s_World_parts) .none kV16 dc16 pm16 an16 cd16 ct16,
    World___eq__ := f17,
    fd_World___eq__ := PySem.W.fnOf "__eq__" "World.__eq__" (defArgs s_World___eq__) (defBody s_World___eq__) (defScope s_World___eq__) .none kV17 dc17 pm17 an17 cd17 ct17,
    World_entries := f18,
    fd_World_entries := PySem.W.fnOf "entries" "World.entries" (defArgs s_World_entries) (defBody s_World_entries) (defScope s_World_entries) .none kV18 dc18 pm18 an18 cd18 ct18,
    _law_state := f19,
    fd__law_state := PySem.W.fnOf "_law_state" "_law_state" (defArgs s__law_state) (defBody s__law_state) (defScope s__law_state) .none kV19 dc19 pm19 an19 cd19 ct19,
    _law_draw := f20,
    fd__law_draw := PySem.W.fnOf "_law_draw" "_law_draw" (defArgs s__law_draw) (defBody s__law_draw) (defScope s__law_draw) .none kV20 dc20 pm20 an20 cd20 ct20,
    _law_pick := f21,
    fd__law_pick := PySem.W.fnOf "_law_pick" "_law_pick" (defArgs s__law_pick) (defBody s__law_pick) (defScope s__law_pick) .none kV21 dc21 pm21 an21 cd21 ct21,
    _law_shuffled := f22,
    fd__law_shuffled := PySem.W.fnOf "_law_shuffled" "_law_shuffled" (defArgs s__law_shuffled) (defBody s__law_shuffled) (defScope s__law_shuffled) .none kV22 dc22 pm22 an22 cd22 ct22,
    _law_labels := f23,
    fd__law_labels := PySem.W.fnOf "_law_labels" "_law_labels" (defArgs s__law_labels) (defBody s__law_labels) (defScope s__law_labels) .none kV23 dc23 pm23 an23 cd23 ct23,
    _law_cell := f24,
    fd__law_cell := PySem.W.fnOf "_law_cell" "_law_cell" (defArgs s__law_cell) (defBody s__law_cell) (defScope s__law_cell) .none kV24 dc24 pm24 an24 cd24 ct24,
    _law_parts := f25,
    fd__law_parts := PySem.W.fnOf "_law_parts" "_law_parts" (defArgs s__law_parts) (defBody s__law_parts) (defScope s__law_parts) .none kV25 dc25 pm25 an25 cd25 ct25,
    _law_base := f26,
    fd__law_base := PySem.W.fnOf "_law_base" "_law_base" (defArgs s__law_base) (defBody s__law_base) (defScope s__law_base) .none kV26 dc26 pm26 an26 cd26 ct26,
    _law_other := f27,
    fd__law_other := PySem.W.fnOf "_law_other" "_law_other" (defArgs s__law_other) (defBody s__law_other) (defScope s__law_other) .none kV27 dc27 pm27 an27 cd27 ct27,
    _law_right := f28,
    fd__law_right := PySem.W.fnOf "_law_right" "_law_right" (defArgs s__law_right) (defBody s__law_right) (defScope s__law_right) .none kV28 dc28 pm28 an28 cd28 ct28,
    law := f29,
    fd_law := PySem.W.fnOf "law" "law" (defArgs s_law) (defBody s_law) (defScope s_law) .none kV29 dc29 pm29 an29 cd29 ct29 }
  have T : Txt K mg a := {
    g_World := PySem.W.mg_of X G aCWorld,
    c_World := ⟨pgWorld, hdWorld, poWorld, saWorld⟩,
    n_World_own_frames := nfWorldown_frames,
    n_World_own_pages := nfWorldown_pages,
    n_World_own_rules := nfWorldown_rules,
    n_World_own_spaces := nfWorldown_spaces,
    n_World_own_tables := nfWorldown_tables,
    io_World := ⟨⟨pgWorld, hdWorld, poWorld, saWorld⟩, haWorld, hnWorld, tkWorld, obWorld, fun T h => by simp only [List.mem_cons, List.not_mem_nil, or_false] at h; rcases h with rfl | rfl | rfl | rfl | rfl | rfl | rfl <;> assumption⟩,
    nf_World := ⟨meWorld, fun T h => by simp only [List.mem_cons, List.not_mem_nil, or_false] at h; rcases h with rfl | rfl | rfl | rfl | rfl | rfl | rfl <;> assumption⟩,
    qe_World := qeWorld,
    qf_World := qfWorld,
    qn_World := qnWorld,
    qo_World := obWorld,
    F_is_name := F0,
    g_is_name := PySem.W.mg_of X G a0,
    k_is_name := k0,
    b_is_name := (F0.binds (ps := ["thing"]) fun _ _ _ _ _ _ us hl => match us, hl with | [_], _ => rfl),
    F_is_integer := F1,
    g_is_integer := PySem.W.mg_of X G a1,
    k_is_integer := k1,
    b_is_integer := (F1.binds (ps := ["thing"]) fun _ _ _ _ _ _ us hl => match us, hl with | [_], _ => rfl),
    F_is_index := F2,
    g_is_index := PySem.W.mg_of X G a2,
    k_is_index := k2,
    b_is_index := (F2.binds (ps := ["thing", "size"]) fun _ _ _ _ _ _ us hl => match us, hl with | [_, _], _ => rfl),
    F_is_word := F3,
    g_is_word := PySem.W.mg_of X G a3,
    k_is_word := k3,
    b_is_word := (F3.binds (ps := ["thing", "words"]) fun _ _ _ _ _ _ us hl => match us, hl with | [_, _], _ => rfl),
    F_are_spaces := F4,
    g_are_spaces := PySem.W.mg_of X G a4,
    k_are_spaces := k4,
    b_are_spaces := (F4.binds (ps := ["thing"]) fun _ _ _ _ _ _ us hl => match us, hl with | [_], _ => rfl),
    F_is_filled := F5,
    g_is_filled := PySem.W.mg_of X G a5,
    k_is_filled := k5,
    b_is_filled := (F5.binds (ps := ["thing", "frames"]) fun _ _ _ _ _ _ us hl => match us, hl with | [_, _], _ => rfl),
    F_is_table := F6,
    g_is_table := PySem.W.mg_of X G a6,
    k_is_table := k6,
    b_is_table := (F6.binds (ps := ["thing", "pages", "frames"]) fun _ _ _ _ _ _ us hl => match us, hl with | [_, _, _], _ => rfl),
    F_are_tables := F7,
    g_are_tables := PySem.W.mg_of X G a7,
    k_are_tables := k7,
    b_are_tables := (F7.binds (ps := ["thing", "spaces", "pages", "frames"]) fun _ _ _ _ _ _ us hl => match us, hl with | [_, _, _, _], _ => rfl),
    F_World_init := F8,
    m_World := ⟨mkWorld, a8, i8, kcWorld⟩,
    b_World_init := bd8,
    kd_World := kd8,
    F_World_spaces := F9,
    pr_World_spaces := ⟨a9, pg9, pt9, _, pr9⟩,
    b_World_spaces := (F9.binds (ps := ["self"]) fun _ _ _ _ _ _ us hl => match us, hl with | [_], _ => rfl),
    F_World_pages := F10,
    pr_World_pages := ⟨a10, pg10, pt10, _, pr10⟩,
    b_World_pages := (F10.binds (ps := ["self"]) fun _ _ _ _ _ _ us hl => match us, hl with | [_], _ => rfl),
    F_World_frames := F11,
    pr_World_frames := ⟨a11, pg11, pt11, _, pr11⟩,
    b_World_frames := (F11.binds (ps := ["self"]) fun _ _ _ _ _ _ us hl => match us, hl with | [_], _ => rfl),
    F_World_tables := F12,
    pr_World_tables := ⟨a12, pg12, pt12, _, pr12⟩,
    b_World_tables := (F12.binds (ps := ["self"]) fun _ _ _ _ _ _ us hl => match us, hl with | [_], _ => rfl),
    F_World_tags := F13,
    pr_World_tags := ⟨a13, pg13, pt13, _, pr13⟩,
    b_World_tags := (F13.binds (ps := ["self"]) fun _ _ _ _ _ _ us hl => match us, hl with | [_], _ => rfl),
    F_World_checks := F14,
    pr_World_checks := ⟨a14, pg14, pt14, _, pr14⟩,
    b_World_checks := (F14.binds (ps := ["self"]) fun _ _ _ _ _ _ us hl => match us, hl with | [_], _ => rfl),
    F_World_early := F15,
    pr_World_early := ⟨a15, pg15, pt15, _, pr15⟩,
    b_World_early := (F15.binds (ps := ["self"]) fun _ _ _ _ _ _ us hl => match us, hl with | [_], _ => rfl),
    F_World_parts := F16,
    me_World_parts := ⟨a16, i16, k16⟩,
    b_World_parts := (F16.binds (ps := ["self"]) fun _ _ _ _ _ _ us hl => match us, hl with | [_], _ => rfl),
    F_World___eq__ := F17,
    b_World___eq__ := (F17.binds (ps := ["self", "other"]) fun _ _ _ _ _ _ us hl => match us, hl with | [_, _], _ => rfl),
    F_World_entries := F18,
    me_World_entries := ⟨a18, i18, k18⟩,
    b_World_entries := (F18.binds (ps := ["self"]) fun _ _ _ _ _ _ us hl => match us, hl with | [_], _ => rfl),
    F__law_state := F19,
    g__law_state := PySem.W.mg_of X G a19,
    k__law_state := k19,
    b__law_state := (F19.binds (ps := ["_law_script"]) fun _ _ _ _ _ _ us hl => match us, hl with | [_], _ => rfl),
    F__law_draw := F20,
    g__law_draw := PySem.W.mg_of X G a20,
    k__law_draw := k20,
    b__law_draw := (F20.binds (ps := ["_law_draws", "_law_many"]) fun _ _ _ _ _ _ us hl => match us, hl with | [_, _], _ => rfl),
    F__law_pick := F21,
    g__law_pick := PySem.W.mg_of X G a21,
    k__law_pick := k21,
    b__law_pick := (F21.binds (ps := ["_law_draws", "_law_some"]) fun _ _ _ _ _ _ us hl => match us, hl with | [_, _], _ => rfl),
    F__law_shuffled := F22,
    g__law_shuffled := PySem.W.mg_of X G a22,
    k__law_shuffled := k22,
    b__law_shuffled := (F22.binds (ps := ["_law_draws", "_law_some"]) fun _ _ _ _ _ _ us hl => match us, hl with | [_, _], _ => rfl),
    F__law_labels := F23,
    g__law_labels := PySem.W.mg_of X G a23,
    k__law_labels := k23,
    b__law_labels := (F23.binds (ps := ["_law_draws", "_law_many"]) fun _ _ _ _ _ _ us hl => match us, hl with | [_, _], _ => rfl),
    F__law_cell := F24,
    g__law_cell := PySem.W.mg_of X G a24,
    k__law_cell := k24,
    b__law_cell := (F24.binds (ps := ["_law_draws", "_law_count"]) fun _ _ _ _ _ _ us hl => match us, hl with | [_, _], _ => rfl),
    F__law_parts := F25,
    g__law_parts := PySem.W.mg_of X G a25,
    k__law_parts := k25,
    b__law_parts := (F25.binds (ps := ["_law_draws", "_law_most"]) fun _ _ _ _ _ _ us hl => match us, hl with | [_, _], _ => rfl),
    F__law_base := F26,
    g__law_base := PySem.W.mg_of X G a26,
    k__law_base := k26,
    b__law_base := (F26.binds (ps := ["_law_parts_here"]) fun _ _ _ _ _ _ us hl => match us, hl with | [_], _ => rfl),
    F__law_other := F27,
    g__law_other := PySem.W.mg_of X G a27,
    k__law_other := k27,
    b__law_other := (F27.binds (ps := ["_law_draws", "_law_parts_here"]) fun _ _ _ _ _ _ us hl => match us, hl with | [_, _], _ => rfl),
    F__law_right := F28,
    g__law_right := PySem.W.mg_of X G a28,
    k__law_right := k28,
    b__law_right := (F28.binds (ps := ["_law_base_here", "_law_parts_here"]) fun _ _ _ _ _ _ us hl => match us, hl with | [_, _], _ => rfl),
    F_law := F29,
    g_law := PySem.W.mg_of X G a29,
    k_law := k29,
    kb_World_init_0 := kb_gI fun s us ws h1 h2 => match us, h1, ws, h2 with | [_, _, _, _, _], _, [_, _, _], _ => .of_eq rfl,
    kb_World_init_1 := kb_gI fun s us ws h1 h2 => match us, h1, ws, h2 with | [_], _, [_, _, _, _, _, _, _], _ => .of_eq rfl,
    v_LETTERS := ⟨tLETTERS, PySem.W.mg_of X G vLETTERS⟩,
    v_MOST_FRAMES := ⟨tMOST_FRAMES, PySem.W.mg_of X G vMOST_FRAMES⟩,
    v_MOST_LETTERS := ⟨tMOST_LETTERS, PySem.W.mg_of X G vMOST_LETTERS⟩,
    v_MOST_PAGES := ⟨tMOST_PAGES, PySem.W.mg_of X G vMOST_PAGES⟩,
    v_MOST_SPACES := ⟨tMOST_SPACES, PySem.W.mg_of X G vMOST_SPACES⟩,
    v_RIGHTS := ⟨rRIGHTS, PySem.W.mg_of X G vRIGHTS, fun G => .inr ⟨_, _, _, wRIGHTS, rfl, rfl, (by show 2 ≤ sizeLine; decide), .cons ⟨_, rfl⟩ (.cons ⟨_, rfl⟩ (.nil))⟩⟩,
    z_abs := PySem.W.mg_none_of X G zabs,
    z_all := PySem.W.mg_none_of X G zall,
    z_bool := PySem.W.mg_none_of X G zbool,
    z_dict := PySem.W.mg_none_of X G zdict,
    z_enumerate := PySem.W.mg_none_of X G zenumerate,
    z_int := PySem.W.mg_none_of X G zint,
    z_isinstance := PySem.W.mg_none_of X G zisinstance,
    z_len := PySem.W.mg_none_of X G zlen,
    z_list := PySem.W.mg_none_of X G zlist,
    z_min := PySem.W.mg_none_of X G zmin,
    z_range := PySem.W.mg_none_of X G zrange,
    z_repr := PySem.W.mg_none_of X G zrepr,
    z_sorted := PySem.W.mg_none_of X G zsorted,
    z_str := PySem.W.mg_none_of X G zstr,
    z_tuple := PySem.W.mg_none_of X G ztuple }
  exact ⟨a.fd_law, fun s v => .of_eq rfl, fun base _ _ => f_law T⟩
theorem walk {l : PySem.W.OpenLaw} {q : Program} {loose : List Str} {XP : (Str → Option Value) → Heap → Prop} {YP : World → Heap → Prop} {d : PySem.DefRec} {K : PySem.Params → PySem.W.Frag} (hn : l.most = some 63) (hdf : d.params.defaults = []) (hq : PyProof.Rows.importsNone q = true)
    (hY : ∀ (w : World) (h : Heap), YP w h → (K w.params).In h) (hs : ∀ w : World, (K w.params).lookup sysModules = none)
    (F : ∀ (w : World) (mg : Str → Option Value) (fa : Addr) (h : Heap), (K w.params).In h → h.Ns mainGlobals mg → mg d.name = some (.ref fa) →
      ∃ fd : FuncData, (∀ (s : Shared) (u : Value), BindsTo s fd ⟨[u], []⟩ [("_law_script", u)]) ∧ ∀ base : Heap, (K w.params).In base → base.Ns mainGlobals mg → FnG l.prog w (K w.params) mg base 9 fa fd ["_law_script"] (spLaw (K w.params))) :
    PySem.W.WalkO q loose XP YP l.row.toRowW d [] (fun f vs => PySem.call f vs) := by
  refine Att.attach_call hn hdf fun w s₀ s₁ mg mb fa o pm cd doc a vs ns G Y ho hd hcd hmg hobj hints hlen hg => ?_
  have KX := hY w _ Y
  obtain ⟨fd, hb, hF⟩ := F w mg fa _ KX G.T.g hmg
  obtain ⟨mm, h1, _⟩ := (G.T.seer hq).mods
  exact law_entry KX G.T.g G.T.b G.T.builtins G.T.nolimit hg hobj hints hlen ⟨rfl, by decide, by decide⟩ (hs w) ⟨mm, h1⟩ hF hb
end K02
open PySem PySem.W PyProof.Rows
set_option maxRecDepth 100000 in
set_option maxHeartbeats 0 in
theorem PySem.Challenge.cw_staleview_k02_worlds_as_made_holds : PySem.Challenge.rw_staleview_k02_worlds_as_made.Holds := by
  w_on; o_law; k_head; (case hw => w_witness2)
  k_fill
  refine K02.walk (l := PySem.Challenge.rw_staleview_k02_worlds_as_made) rfl rfl ?hq (fun w h Y => PySem.W.kIn_of Y) ?hs ?F
  case hq => first | rfl | decide +kernel
  case hs => intro w; rfl
  case F =>
    intro w mg fa h KX G hmg
    refine' K02.all_mk KX G hmg ?aCWorld ?pgWorld ?hdWorld ?poWorld ?saWorld ?mkWorld ?kcWorld ?nfWorldown_frames ?nfWorldown_pages ?nfWorldown_rules ?nfWorldown_spaces ?nfWorldown_tables ?obWorld ?haWorld ?hnWorld ?tkWorld ?koWorld0 ?koWorld1 ?koWorld2 ?koWorld3 ?koWorld4 ?koWorld5 ?koWorld6 ?meWorld ?ntWorld0 ?ntWorld1 ?ntWorld2 ?ntWorld3 ?ntWorld4 ?ntWorld5 ?ntWorld6 ?qeWorld ?qfWorld ?qnWorld ?a0 ?l0 ?c0 ?k0 ?a1 ?l1 ?c1 ?k1 ?a2 ?l2 ?c2 ?k2 ?a3 ?l3 ?c3 ?k3 ?a4 ?l4 ?c4 ?k4 ?a5 ?l5 ?c5 ?k5 ?a6 ?l6 ?c6 ?k6 ?a7 ?l7 ?c7 ?k7 ?a8 ?i8 ?l8 ?c8 ?k8 ?kq8tags ?kq8checks ?kq8early ?a9 ?pg9 ?pt9 ?pr9 ?l9 ?c9 ?k9 ?a10 ?pg10 ?pt10 ?pr10 ?l10 ?c10 ?k10 ?a11 ?pg11 ?pt11 ?pr11 ?l11 ?c11 ?k11 ?a12 ?pg12 ?pt12 ?pr12 ?l12 ?c12 ?k12 ?a13 ?pg13 ?pt13 ?pr13 ?l13 ?c13 ?k13 ?a14 ?pg14 ?pt14 ?pr14 ?l14 ?c14 ?k14 ?a15 ?pg15 ?pt15 ?pr15 ?l15 ?c15 ?k15 ?a16 ?i16 ?l16 ?c16 ?k16 ?l17 ?c17 ?k17 ?a18 ?i18 ?l18 ?c18 ?k18 ?a19 ?l19 ?c19 ?k19 ?a20 ?l20 ?c20 ?k20 ?a21 ?l21 ?c21 ?k21 ?a22 ?l22 ?c22 ?k22 ?a23 ?l23 ?c23 ?k23 ?a24 ?l24 ?c24 ?k24 ?a25 ?l25 ?c25 ?k25 ?a26 ?l26 ?c26 ?k26 ?a27 ?l27 ?c27 ?k27 ?a28 ?l28 ?c28 ?k28 ?a29 ?l29 ?c29 ?k29 ?vLETTERS ?vMOST_FRAMES ?vMOST_LETTERS ?vMOST_PAGES ?vMOST_SPACES ?vRIGHTS ?wRIGHTS ?zabs ?zall ?zbool ?zdict ?zenumerate ?zint ?zisinstance ?zlen ?zlist ?zmin ?zrange ?zrepr ?zsorted ?zstr ?ztuple
    (case aCWorld => k_is); (case pgWorld => k_is); (case hdWorld => k_is); (case poWorld => k_is); (case saWorld => k_is); (case mkWorld => k_is)
    (case kcWorld => k_is); (case nfWorldown_frames => k_is); (case nfWorldown_pages => k_is); (case nfWorldown_rules => k_is); (case nfWorldown_spaces => k_is); (case nfWorldown_tables => k_is)
    (case obWorld => k_is); (case haWorld => k_is); (case hnWorld => k_is); (case tkWorld => k_is); (case koWorld0 => kit_is); (case koWorld1 => kit_is)
    (case koWorld2 => kit_is); (case koWorld3 => kit_is); (case koWorld4 => kit_is); (case koWorld5 => kit_is); (case koWorld6 => kit_is); (case meWorld => k_is)
    (case ntWorld0 => k_is); (case ntWorld1 => k_is); (case ntWorld2 => k_is); (case ntWorld3 => k_is); (case ntWorld4 => k_is); (case ntWorld5 => k_is)
    (case ntWorld6 => k_is); (case qeWorld => k_is); (case qfWorld => k_is); (case qnWorld => k_is); (case a0 => k_is); (case l0 => k_is)
    (case c0 => k_is); (case k0 => k_is); (case a1 => k_is); (case l1 => k_is); (case c1 => k_is); (case k1 => k_is)
    (case a2 => k_is); (case l2 => k_is); (case c2 => k_is); (case k2 => k_is); (case a3 => k_is); (case l3 => k_is)
    (case c3 => k_is); (case k3 => k_is); (case a4 => k_is); (case l4 => k_is); (case c4 => k_is); (case k4 => k_is)
    (case a5 => k_is); (case l5 => k_is); (case c5 => k_is); (case k5 => k_is); (case a6 => k_is); (case l6 => k_is)
    (case c6 => k_is); (case k6 => k_is); (case a7 => k_is); (case l7 => k_is); (case c7 => k_is); (case k7 => k_is)
    (case a8 => k_is); (case i8 => k_is); (case l8 => k_is); (case c8 => k_is); (case k8 => k_is); (case kq8tags => k_is)
    (case kq8checks => k_is); (case kq8early => k_is); (case a9 => k_is); (case pg9 => k_is); (case pt9 => k_is); (case pr9 => k_is)
    (case l9 => k_is); (case c9 => k_is); (case k9 => k_is); (case a10 => k_is); (case pg10 => k_is); (case pt10 => k_is)
    (case pr10 => k_is); (case l10 => k_is); (case c10 => k_is); (case k10 => k_is); (case a11 => k_is); (case pg11 => k_is)
    (case pt11 => k_is); (case pr11 => k_is); (case l11 => k_is); (case c11 => k_is); (case k11 => k_is); (case a12 => k_is)
    (case pg12 => k_is); (case pt12 => k_is); (case pr12 => k_is); (case l12 => k_is); (case c12 => k_is); (case k12 => k_is)
    (case a13 => k_is); (case pg13 => k_is); (case pt13 => k_is); (case pr13 => k_is); (case l13 => k_is); (case c13 => k_is)
    (case k13 => k_is); (case a14 => k_is); (case pg14 => k_is); (case pt14 => k_is); (case pr14 => k_is); (case l14 => k_is)
    (case c14 => k_is); (case k14 => k_is); (case a15 => k_is); (case pg15 => k_is); (case pt15 => k_is); (case pr15 => k_is)
    (case l15 => k_is); (case c15 => k_is); (case k15 => k_is); (case a16 => k_is); (case i16 => k_is); (case l16 => k_is)
    (case c16 => k_is); (case k16 => k_is); (case l17 => k_is); (case c17 => k_is); (case k17 => k_is); (case a18 => k_is)
    (case i18 => k_is); (case l18 => k_is); (case c18 => k_is); (case k18 => k_is); (case a19 => k_is); (case l19 => k_is)
    (case c19 => k_is); (case k19 => k_is); (case a20 => k_is); (case l20 => k_is); (case c20 => k_is); (case k20 => k_is)
    (case a21 => k_is); (case l21 => k_is); (case c21 => k_is); (case k21 => k_is); (case a22 => k_is); (case l22 => k_is)
    (case c22 => k_is); (case k22 => k_is); (case a23 => k_is); (case l23 => k_is); (case c23 => k_is); (case k23 => k_is)
    (case a24 => k_is); (case l24 => k_is); (case c24 => k_is); (case k24 => k_is); (case a25 => k_is); (case l25 => k_is)
    (case c25 => k_is); (case k25 => k_is); (case a26 => k_is); (case l26 => k_is); (case c26 => k_is); (case k26 => k_is)
    (case a27 => k_is); (case l27 => k_is); (case c27 => k_is); (case k27 => k_is); (case a28 => k_is); (case l28 => k_is)
    (case c28 => k_is); (case k28 => k_is); (case a29 => k_is); (case l29 => k_is); (case c29 => k_is); (case k29 => k_is)
    (case vLETTERS => k_is); (case vMOST_FRAMES => k_is); (case vMOST_LETTERS => k_is); (case vMOST_PAGES => k_is); (case vMOST_SPACES => k_is); (case vRIGHTS => k_is)
    (case wRIGHTS => k_is); (case zabs => k_is); (case zall => k_is); (case zbool => k_is); (case zdict => k_is); (case zenumerate => k_is)
    (case zint => k_is); (case zisinstance => k_is); (case zlen => k_is); (case zlist => k_is); (case zmin => k_is); (case zrange => k_is)
    (case zrepr => k_is); (case zsorted => k_is); (case zstr => k_is); (case ztuple => k_is)
