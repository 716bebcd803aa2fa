import PyProof.Rows.All
import Wide.All
import OpenK.AllK
import Wide.FinOn
import HandS.ForMost
import HandS.ForExc
import HandS.TupAny
import HandS.Deep
import HandS.Flow
import HandS.Walk
import HandS.Style
import HandS.DictComp
import HandS.Property
import HandS.MakeKwOnly
import HandS.IsInst
import HandS.Defaults
import PyProof.ReprRoads
import PyProof.StrLawsRepr
import PyProof.Rows.StrDigits
import PyProof.Rows.StrMeet
import PyProof.Rows.StrFin3
import PySem.Challenge.RW_staleview_k04_names_and_entries_judged
set_option Elab.async false
set_option linter.all false
set_option maxRecDepth 100000
set_option maxHeartbeats 2000000
namespace Fl
open PySem L2

/-- a value as a tree, no addresses but a class's -/
inductive D where
  | non | bl (b : Bool) | int (i : Int) | str (s : Str)
  | lst (xs : List D) | tup (xs : List D)
  | dic (ks : List Key) (vs : List D)
  | ins (C : Addr) (ns : List Str) (vs : List D)

/-- a text of signs, not too long -/
def sOk (x : Str) : Bool := PyData.strOk x && decide (x.length ≤ 1000000)
/-- H extends G -/
def Ex (G H : Hp) : Prop := ∀ a o, G a = some o → H a = some o
theorem Ex.rfl {G : Hp} : Ex G G := fun _ _ h => h
theorem Ex.tr {A B C : Hp} (x : Ex A B) (y : Ex B C) : Ex A C := fun a o h => y a o (x a o h)
theorem Ex.put {G : Hp} {p : Addr} {o : HO} (h : G p = none) : Ex G (upd G p o) := fun a u e => by
  rw [upd_ne (ne_of_none e h)]; exact e
theorem Ex.fresh {G H : Hp} {p : Addr} (x : Ex G H) (h : H p = none) : G p = none := by
  cases e : G p with
  | none => rfl
  | some o => rw [x p o e] at h; cases h
theorem Ex.both {G H : Hp} {p : Addr} {o : HO} (x : Ex G H) : Ex (upd G p o) (upd H p o) := fun a u e => by
  by_cases q : a = p
  · subst q; rw [upd_same] at e ⊢; exact e
  · rw [upd_ne q] at e ⊢; exact x a u e
theorem Ex.under {G H : Hp} {p : Addr} {o : HO} (x : Ex G H) (h : G p = none) : Ex G (upd H p o) := fun a u e => by
  rw [upd_ne (ne_of_none e h)]; exact x a u e

mutual
/-- v stands in G for the tree -/
inductive Dd (K : PySem.W.Frag) (G : Hp) : V → D → Prop
  | non : Dd K G .non .non
  | bl (b : Bool) : Dd K G (.bl b) (.bl b)
  | int (i : Int) : Dd K G (.int i) (.int i)
  | str (x : Str) (h : sOk x = true) : Dd K G (.str x) (.str x)
  | lst {a : Addr} {us : List V} {xs : List D} : G a = some (.lst us) → DdL K G us xs → Dd K G (.ref a) (.lst xs)
  | tup {a : Addr} {us : List V} {xs : List D} : SqT K G a us → DdL K G us xs → Dd K G (.ref a) (.tup xs)
  | dic {a : Addr} {ks : List Key} {us : List V} {vs : List D} : G a = some (.dK (ks.zip us)) → ks.length = us.length → ks.Nodup → DdL K G us vs → Dd K G (.ref a) (.dic ks vs)
  | ins {a C dx : Addr} {ns : List Str} {us : List V} {vs : List D} : G a = some (.ins C dx (ns.zip us)) → ns.length = us.length → G dx = some (.own a) → DdL K G us vs → Dd K G (.ref a) (.ins C ns vs)
inductive DdL (K : PySem.W.Frag) (G : Hp) : List V → List D → Prop
  | nil : DdL K G [] []
  | cons {v : V} {us : List V} {x : D} {xs : List D} : Dd K G v x → DdL K G us xs → DdL K G (v :: us) (x :: xs)
end

section
variable {K : PySem.W.Frag} {G H : Hp}
theorem sqT_ex {a : Addr} {xs : List V} (e : Ex G H) (h : SqT K G a xs) : SqT K H a xs := by
  rcases h with (h | ⟨o, h⟩) | h
  · exact .inl (.inl (e _ _ h))
  · exact .inl (.inr ⟨o, e _ _ h⟩)
  · exact .inr h
theorem sqL_ex {a : Addr} {xs : List V} (e : Ex G H) (h : SqL K G a xs) : SqL K H a xs := by
  rcases h with (h | ⟨o, h⟩) | h
  · exact .inl (.inl (e _ _ h))
  · exact .inl (.inr ⟨o, e _ _ h⟩)
  · exact .inr h
mutual
theorem Dd.ex (e : Ex G H) : ∀ {v : V} {x : D}, Dd K G v x → Dd K H v x
  | _, _, .non => .non
  | _, _, .bl b => .bl b
  | _, _, .int i => .int i
  | _, _, .str x h => .str x h
  | _, _, .lst h t => .lst (e _ _ h) (DdL.ex e t)
  | _, _, .tup h t => .tup (sqT_ex e h) (DdL.ex e t)
  | _, _, .dic h l n t => .dic (e _ _ h) l n (DdL.ex e t)
  | _, _, .ins h l o t => .ins (e _ _ h) l (e _ _ o) (DdL.ex e t)
theorem DdL.ex (e : Ex G H) : ∀ {us : List V} {xs : List D}, DdL K G us xs → DdL K H us xs
  | _, _, .nil => .nil
  | _, _, .cons a t => .cons (Dd.ex e a) (DdL.ex e t)
end
theorem DdL.len : ∀ {us : List V} {xs : List D}, DdL K G us xs → us.length = xs.length
  | _, _, .nil => rfl
  | _, _, .cons _ t => by rw [List.length_cons, List.length_cons, DdL.len t]
theorem DdL.app : ∀ {us : List V} {xs : List D} {vs : List V} {ys : List D}, DdL K G us xs → DdL K G vs ys → DdL K G (us ++ vs) (xs ++ ys)
  | _, _, _, _, .nil, q => q
  | _, _, _, _, .cons a t, q => .cons a (DdL.app t q)
theorem DdL.get : ∀ {us : List V} {xs : List D} {i : Nat} {x : D}, DdL K G us xs → xs[i]? = some x → ∃ v, us[i]? = some v ∧ Dd K G v x
  | _, _, 0, _, .cons a _, h => ⟨_, rfl, by cases h; exact a⟩
  | _, _, i + 1, _, .cons _ t, h => by
    obtain ⟨v, e, r⟩ := DdL.get (i := i) t (by simpa using h)
    exact ⟨v, by simpa using e, r⟩
theorem DdL.get' : ∀ {us : List V} {xs : List D} {i : Nat} {v : V}, DdL K G us xs → us[i]? = some v → ∃ x, xs[i]? = some x ∧ Dd K G v x
  | _, _, 0, _, .cons a _, h => ⟨_, rfl, by cases h; exact a⟩
  | _, _, i + 1, _, .cons _ t, h => by
    obtain ⟨v, e, r⟩ := DdL.get' (i := i) t (by simpa using h)
    exact ⟨v, by simpa using e, r⟩
theorem DdL.take : ∀ {us : List V} {xs : List D} (n : Nat), DdL K G us xs → DdL K G (us.take n) (xs.take n)
  | _, _, 0, _ => .nil
  | _, _, _ + 1, .nil => .nil
  | _, _, n + 1, .cons a t => .cons a (DdL.take n t)
theorem DdL.drop : ∀ {us : List V} {xs : List D} (n : Nat), DdL K G us xs → DdL K G (us.drop n) (xs.drop n)
  | _, _, 0, h => h
  | _, _, _ + 1, .nil => .nil
  | _, _, n + 1, .cons _ t => DdL.drop n t
theorem DdL.set {v : V} {x : D} (h : Dd K G v x) : ∀ {us : List V} {xs : List D} (i : Nat), DdL K G us xs → DdL K G (us.set i v) (xs.set i x)
  | _, _, _, .nil => .nil
  | _, _, 0, .cons _ t => .cons h t
  | _, _, i + 1, .cons a t => .cons a (DdL.set h i t)
theorem DdL.erase : ∀ {us : List V} {xs : List D} (i : Nat), DdL K G us xs → DdL K G (us.eraseIdx i) (xs.eraseIdx i)
  | _, _, _, .nil => .nil
  | _, _, 0, .cons _ t => t
  | _, _, i + 1, .cons a t => .cons a (DdL.erase i t)
theorem DdL.rev {us : List V} {xs : List D} (h : DdL K G us xs) : DdL K G us.reverse xs.reverse := by
  induction us generalizing xs with
  | nil => cases h; exact .nil
  | cons u us ih =>
    cases h with
    | cons a t => rw [List.reverse_cons, List.reverse_cons]; exact DdL.app (ih t) (.cons a .nil)
theorem DdL.strs {ws : List Str} : ∀ {us : List V}, DdL K G us (ws.map D.str) → us = ws.map V.str := by
  induction ws with
  | nil => intro us h; cases h; rfl
  | cons w ws ih =>
    intro us h
    cases h with
    | cons a t => cases a; rw [ih t]; rfl
theorem DdL.ofStrs (ws : List Str) (h : ∀ w ∈ ws, sOk w = true) : DdL K G (ws.map V.str) (ws.map D.str) := by
  induction ws with
  | nil => exact .nil
  | cons w ws ih => exact .cons (.str w (h w (by simp))) (ih fun x hx => h x (by simp [hx]))
theorem DdL.strsOk {ws : List Str} : ∀ {us : List V}, DdL K G us (ws.map D.str) → ∀ w ∈ ws, sOk w = true := by
  induction ws with
  | nil => intro us h w hw; simp at hw
  | cons w ws ih =>
    intro us h x hx
    cases h with
    | cons a t =>
      cases a with
      | str _ q =>
        rcases List.mem_cons.mp hx with e | e
        · rw [e]; exact q
        · exact ih t x e
theorem DdL.ints {ws : List Int} : ∀ {us : List V}, DdL K G us (ws.map D.int) → us = ws.map V.int := by
  induction ws with
  | nil => intro us h; cases h; rfl
  | cons w ws ih =>
    intro us h
    cases h with
    | cons a t => cases a; rw [ih t]; rfl
theorem DdL.ofInts (ws : List Int) : DdL K G (ws.map V.int) (ws.map D.int) := by
  induction ws with
  | nil => exact .nil
  | cons w ws ih => exact .cons (.int w) ih
end

/-- where a def was entered: the data then, the heap then; what is lent to it: the source of draws, an instance -/
structure Fr where
  G0 : Hp
  H0 : Hp
  src : Option (Addr × Addr)
  self : Option (Addr × Addr)
  /-- own things set aside for a while -/
  ks : List (Addr × HO) := []
def InSrc (F : Fr) (p : Addr) : Prop := (∃ a c, F.src = some (a, c) ∧ (p = a ∨ p = c)) ∨ ∃ o, (p, o) ∈ F.ks
def InSelf (F : Fr) (p : Addr) : Prop := ∃ a c, F.self = some (a, c) ∧ (p = a ∨ p = c)

/-- what a slot holds: nothing known, data, a list | dict | instance of this frame's own, the lent instance, the source of draws -/
inductive Sl where
  | no | d (x : D) | ol (xs : List D) | od (ks : List Key) (vs : List D) | oi (C : Addr) (ns : List Str) (vs : List D) | bi (C : Addr) (ns : List Str) (vs : List D) | src
def Sl.dat : Sl → Option D
  | .d x => some x
  | .ol xs => some (.lst xs)
  | .od ks vs => some (.dic ks vs)
  | .oi C ns vs => some (.ins C ns vs)
  | _ => none

/-- the source: a list of the cells' list and two ints -/
def SrcAt (H : Hp) (a c : Addr) : Prop := ∃ (i m : Int) (ns : List Int), H a = some (.lst [.ref c, .int i, .int m]) ∧ H c = some (.lst (ns.map V.int)) ∧ ns ≠ [] ∧ ns.length ≤ 63

inductive SlOk (K : PySem.W.Frag) (F : Fr) (G H : Hp) : Option V → Sl → List Addr → Prop
  | no (v) : SlOk K F G H v .no []
  | d {v x} : Dd K G v x → SlOk K F G H (some v) (.d x) []
  | ol {p us xs} : H p = some (.lst us) → DdL K G us xs → F.H0 p = none → SlOk K F G H (some (.ref p)) (.ol xs) [p]
  | od {p ks us vs} : H p = some (.dK (ks.zip us)) → ks.length = us.length → ks.Nodup → DdL K G us vs → F.H0 p = none → SlOk K F G H (some (.ref p)) (.od ks vs) [p]
  | oi {p C dx ns us vs} : H p = some (.ins C dx (ns.zip us)) → ns.length = us.length → H dx = some (.own p) → DdL K G us vs → F.H0 p = none → F.H0 dx = none → SlOk K F G H (some (.ref p)) (.oi C ns vs) [p, dx]
  | bi {p C dx ns us vs} : H p = some (.ins C dx (ns.zip us)) → ns.length = us.length → H dx = some (.own p) → DdL K G us vs → F.self = some (p, dx) → SlOk K F G H (some (.ref p)) (.bi C ns vs) [p, dx]
  | src {a c} : F.src = some (a, c) → SlOk K F G H (some (.ref a)) .src []
inductive Sls (K : PySem.W.Frag) (F : Fr) (G H : Hp) : List (Option V) → List Sl → List Addr → Prop
  | nil : Sls K F G H [] [] []
  | cons {v s σ ρ os ps} : SlOk K F G H v s os → Sls K F G H σ ρ ps → Sls K F G H (v :: σ) (s :: ρ) (os ++ ps)

/-- what stands at sys.modules' place: some object, never looked at -/
def sysO : HO := .ext fun h => ∃ o, h.get? sysModules = some o
structure R (K : PySem.W.Frag) (F : Fr) (G H : Hp) (σ : List (Option V)) (ρ : List Sl) : Prop where
  gg : Ex F.G0 G
  gh : Ex G H
  fr : ∀ b o, F.H0 b = some o → ¬ InSrc F b → ¬ InSelf F b → H b = some o
  nw : ∀ b o, G b = some o → F.G0 b = some o ∨ F.H0 b = none
  th : ∀ b, InSrc F b ∨ InSelf F b → ∃ o, H b = some o
  sr : ∀ a c, F.src = some (a, c) → SrcAt H a c ∧ G a = none ∧ G c = none
  kp : ∀ q ∈ F.ks, H q.1 = some q.2 ∧ G q.1 = none ∧ ∀ a c, F.src = some (a, c) → q.1 ≠ a ∧ q.1 ≠ c
  nm : ∃ so, H sysModules = some (.frz so sysO)
  sl : ∃ os, Sls K F G H σ ρ os ∧ os.Nodup ∧ ∀ p ∈ os, G p = none ∧ ¬ InSrc F p

section
variable {K : PySem.W.Frag} {G G' H H' : Hp} {F : Fr} {σ : List (Option V)} {ρ : List Sl} {os ps : List Addr} {v : Option V} {s : Sl}
theorem SrcAt.keep {a c : Addr} (ka : H' a = H a) (kc : H' c = H c) (h : SrcAt H a c) : SrcAt H' a c := by
  obtain ⟨i, m, ns, h1, h2, h3⟩ := h
  exact ⟨i, m, ns, by rw [ka]; exact h1, by rw [kc]; exact h2, h3⟩
/-- the owned stand as they stood, the data have grown -/
theorem SlOk.keep (e : Ex G G') (k : ∀ p ∈ os, H' p = H p) (h : SlOk K F G H v s os) : SlOk K F G' H' v s os := by
  cases h with
  | no => exact .no _
  | d h => exact .d (h.ex e)
  | ol h1 h2 h3 => exact .ol (by rw [k _ (by simp)]; exact h1) (h2.ex e) h3
  | od h1 h2 h4 h3 h5 => exact .od (by rw [k _ (by simp)]; exact h1) h2 h4 (h3.ex e) h5
  | oi h1 h2 h3 h4 h5 h6 => exact .oi (by rw [k _ (by simp)]; exact h1) h2 (by rw [k _ (by simp)]; exact h3) (h4.ex e) h5 h6
  | bi h1 h2 h3 h4 h5 => exact .bi (by rw [k _ (by simp)]; exact h1) h2 (by rw [k _ (by simp)]; exact h3) (h4.ex e) h5
  | src h => exact .src h
theorem Sls.keep (e : Ex G G') (h : Sls K F G H σ ρ os) : (∀ p ∈ os, H' p = H p) → Sls K F G' H' σ ρ os := by
  induction h with
  | nil => exact fun _ => .nil
  | cons a t ih => exact fun k => .cons (a.keep e fun p hp => k p (List.mem_append_left _ hp)) (ih fun p hp => k p (List.mem_append_right _ hp))
theorem SlOk.inH (h : SlOk K F G H v s os) : ∀ p ∈ os, ∃ o, H p = some o := by
  cases h with
  | no => simp
  | d h => simp
  | ol h1 h2 => simp [h1]
  | od h1 h2 h4 h3 => simp [h1]
  | oi h1 h2 h3 h4 => simp [h1, h3]
  | bi h1 h2 h3 h4 => simp [h1, h3]
  | src h => simp
theorem Sls.inH (h : Sls K F G H σ ρ os) : ∀ p ∈ os, ∃ o, H p = some o := by
  induction h with
  | nil => simp
  | cons a t ih =>
    intro p hp
    rcases List.mem_append.mp hp with hp | hp
    · exact a.inH p hp
    · exact ih p hp
theorem Sls.len (h : Sls K F G H σ ρ os) : σ.length = ρ.length := by
  induction h with
  | nil => rfl
  | cons _ _ ih => rw [List.length_cons, List.length_cons, ih]
/-- slot i taken out of the list: what it owns, what the others own -/
theorem Sls.at (h : Sls K F G H σ ρ os) : ∀ {i : Nat} {s : Sl}, ρ[i]? = some s → ∃ v os1 os2, σ[i]? = some v ∧ SlOk K F G H v s os1 ∧ os.Perm (os1 ++ os2) ∧
    (∀ {G' H' v' s' os'}, Ex G G' → (∀ p ∈ os2, H' p = H p) → SlOk K F G' H' v' s' os' → ∃ os3, Sls K F G' H' (σ.set i v') (ρ.set i s') os3 ∧ os3.Perm (os' ++ os2)) := by
  induction h with
  | nil => intro i s hi; simp at hi
  | @cons v0 s0 σ ρ os0 ps a t ih =>
    intro i s hi
    cases i with
    | zero =>
      cases hi
      refine ⟨v0, os0, ps, rfl, a, .refl _, fun {G' H' v' s' os'} e k b => ⟨os' ++ ps, .cons b (t.keep e k), .refl _⟩⟩
    | succ i =>
      obtain ⟨v, o1, o2, e1, e2, e3, f⟩ := ih (i := i) (s := s) (by simpa using hi)
      refine ⟨v, o1, os0 ++ o2, by simpa using e1, e2, ?_, fun {G' H' v' s' os'} e k b => ?_⟩
      · refine (List.Perm.append_left os0 e3).trans ?_
        rw [← List.append_assoc, ← List.append_assoc]
        exact List.Perm.append_right _ List.perm_append_comm
      · obtain ⟨o3, g1, g2⟩ := f e (fun p hp => k p (List.mem_append_right _ hp)) b
        refine ⟨os0 ++ o3, .cons (a.keep e fun p hp => k p (List.mem_append_left _ hp)) g1, ?_⟩
        refine (List.Perm.append_left os0 g2).trans ?_
        rw [← List.append_assoc, ← List.append_assoc]
        exact List.Perm.append_right _ List.perm_append_comm

theorem R.len (r : R K F G H σ ρ) : σ.length = ρ.length := by
  obtain ⟨os, h, _⟩ := r.sl
  exact h.len
/-- a new address -/
theorem R.new (r : R K F G H σ ρ) {p : Addr} (h : H p = none) : G p = none ∧ F.H0 p = none ∧ ¬ InSrc F p ∧ ¬ InSelf F p := by
  have n1 : ¬ InSrc F p := fun m => by obtain ⟨o, e⟩ := r.th p (.inl m); rw [h] at e; cases e
  have n2 : ¬ InSelf F p := fun m => by obtain ⟨o, e⟩ := r.th p (.inr m); rw [h] at e; cases e
  refine ⟨r.gh.fresh h, ?_, n1, n2⟩
  cases e : F.H0 p with
  | none => rfl
  | some o => rw [r.fr p o e n1 n2] at h; cases h
theorem R.pop {v : Option V} {s : Sl} (r : R K F G H (v :: σ) (s :: ρ)) : R K F G H σ ρ := by
  obtain ⟨os, h, nd, f⟩ := r.sl
  cases h with
  | cons a t => exact ⟨r.gg, r.gh, r.fr, r.nw, r.th, r.sr, r.kp, r.nm, _, t, (List.nodup_append.mp nd).2.1, fun p hp => f p (List.mem_append_right _ hp)⟩
theorem R.push {v : V} {x : D} (r : R K F G H σ ρ) (h : Dd K G v x) : R K F G H (some v :: σ) (.d x :: ρ) := by
  obtain ⟨os, hs, nd, f⟩ := r.sl
  exact ⟨r.gg, r.gh, r.fr, r.nw, r.th, r.sr, r.kp, r.nm, _, .cons (.d h) hs, nd, f⟩
theorem R.nil (r : R K F G H σ ρ) : R K F G H [] [] := ⟨r.gg, r.gh, r.fr, r.nw, r.th, r.sr, r.kp, r.nm, _, .nil, List.nodup_nil, by simp⟩
/-- more is new than what was known: the heap has new objects, the data too -/
theorem R.grow (r : R K F G H σ ρ) (e : Ex G G') (x : Ex G' H') (hh : Ex H H') (n : ∀ b o, G' b = some o → G b = some o ∨ H b = none) : R K F G' H' σ ρ := by
  obtain ⟨os, hs, nd, f⟩ := r.sl
  have e1 : ∀ y, InSrc F y → ∃ o, H y = some o := fun y h => r.th y (.inl h)
  have g : ∀ y, InSrc F y → G y = none → G' y = none := fun y hy n0 => by
      cases q : G' y with
      | none => rfl
      | some o =>
        obtain ⟨u, hu⟩ := e1 y hy
        rcases n y o q with q | q
        · rw [n0] at q; cases q
        · rw [hu] at q; cases q
  refine ⟨r.gg.tr e, x, fun b o h n1 n2 => hh _ _ (r.fr b o h n1 n2), fun b o h => ?_, fun b h => ?_, fun a c h => ?_, fun q hq => ⟨hh _ _ (r.kp q hq).1, g _ (.inr ⟨_, hq⟩) (r.kp q hq).2.1, (r.kp q hq).2.2⟩, r.nm.imp fun _ => hh _ _, os, hs.keep e fun p hp => ?_, nd, fun p hp => ⟨?_, (f p hp).2⟩⟩
  · rcases n b o h with h | h
    · exact r.nw b o h
    · exact .inr (r.new h).2.1
  · obtain ⟨o, q⟩ := r.th b h
    exact ⟨o, hh _ _ q⟩
  · obtain ⟨s, ha, hc⟩ := r.sr a c h
    have i1 : InSrc F a := .inl ⟨a, c, h, .inl rfl⟩
    have i2 : InSrc F c := .inl ⟨a, c, h, .inr rfl⟩
    obtain ⟨o1, q1⟩ := e1 a i1
    obtain ⟨o2, q2⟩ := e1 c i2
    exact ⟨s.keep (by rw [q1]; exact hh _ _ q1) (by rw [q2]; exact hh _ _ q2), g a i1 ha, g c i2 hc⟩
  · obtain ⟨o, q⟩ := hs.inH p hp
    rw [q]; exact hh _ _ q
  · cases q : G' p with
    | none => rfl
    | some o =>
      obtain ⟨u, hu⟩ := hs.inH p hp
      rcases n p o q with q | q
      · rw [(f p hp).1] at q; cases q
      · rw [hu] at q; cases q
theorem R.both (r : R K F G H σ ρ) {p : Addr} {o : HO} (h : H p = none) : R K F (upd G p o) (upd H p o) σ ρ :=
  r.grow (.put (r.new h).1) r.gh.both (.put h) fun b u e => by
    by_cases q : b = p
    · subst q; exact .inr h
    · rw [upd_ne q] at e; exact .inl e
/-- a new tuple -/
theorem R.tup (r : R K F G H σ ρ) {p : Addr} {us : List V} {xs : List D} (h : H p = none) (t : DdL K G us xs) :
    Ex G (upd G p (.tup us)) ∧ R K F (upd G p (.tup us)) (upd H p (.tup us)) σ ρ ∧ Dd K (upd G p (.tup us)) (.ref p) (.tup xs) :=
  have e : Ex G (upd G p (.tup us)) := .put (r.new h).1
  ⟨e, r.both h, .tup (.of upd_same) (t.ex e)⟩
/-- an owned address is not new -/
theorem Sls.notIn (hs : Sls K F G H σ ρ os) {p : Addr} (h : H p = none) : ∀ q ∈ os, q ≠ p := fun q hq e => by
  obtain ⟨o, hu⟩ := hs.inH q hq
  rw [e, h] at hu; cases hu
/-- objects are written that are new or in qs, which nobody but the things set aside owns: the rest of the state stands -/
theorem R.write (r : R K F G H σ ρ) (hs : Sls K F G H σ ρ os) (nd : os.Nodup) (f : ∀ p ∈ os, G p = none ∧ ¬ InSrc F p) {qs : List Addr} (k : ∀ b, b ∉ qs → H' b = H b)
    (hq : ∀ b ∈ qs, G b = none ∧ ¬ InSrc F b ∧ (F.H0 b = none ∨ InSelf F b) ∧ (∃ o, H' b = some o) ∧ b ≠ sysModules) {σ' : List (Option V)} {ρ' : List Sl} {os' : List Addr}
    (h' : Sls K F G H' σ' ρ' os') (nd' : os'.Nodup) (f' : ∀ p ∈ os', p ∈ os ∨ p ∈ qs) : R K F G H' σ' ρ' := by
  refine ⟨r.gg, fun b o e => ?_, fun b o e n1 n2 => ?_, r.nw, fun b hb => ?_, fun a c h => ?_, fun q hq' => ⟨by rw [k _ fun m => (hq _ m).2.1 (.inr ⟨_, hq'⟩)]; exact (r.kp q hq').1, (r.kp q hq').2.1, (r.kp q hq').2.2⟩, by rw [k _ fun m => (hq _ m).2.2.2.2 rfl]; exact r.nm, os', h', nd', fun p hp => ?_⟩
  · by_cases m : b ∈ qs
    · rw [(hq b m).1] at e; cases e
    · rw [k b m]; exact r.gh b o e
  · by_cases m : b ∈ qs
    · rcases (hq b m).2.2.1 with z | z
      · rw [z] at e; cases e
      · exact absurd z n2
    · rw [k b m]; exact r.fr b o e n1 n2
  · by_cases m : b ∈ qs
    · exact (hq b m).2.2.2.1
    · rw [k b m]; exact r.th b hb
  · obtain ⟨s, ha, hc⟩ := r.sr a c h
    refine ⟨s.keep (k a fun m => (hq a m).2.1 (.inl ⟨a, c, h, .inl rfl⟩)) (k c fun m => (hq c m).2.1 (.inl ⟨a, c, h, .inr rfl⟩)), ha, hc⟩
  · rcases f' p hp with m | m
    · exact f p m
    · exact ⟨(hq p m).1, (hq p m).2.1⟩
/-- one new own object on top -/
theorem R.own (r : R K F G H σ ρ) {p : Addr} {o : HO} {s : Sl} (h : H p = none) (t : SlOk K F G (upd H p o) (some (.ref p)) s [p]) :
    R K F G (upd H p o) (some (.ref p) :: σ) (s :: ρ) := by
  obtain ⟨os, hs, nd, f⟩ := r.sl
  have ne := hs.notIn h
  have nw := r.new h
  refine r.write hs nd f (qs := [p]) (fun b hb => upd_ne (by simpa using hb)) (fun b hb => ?_) (.cons t (hs.keep .rfl fun q hq => upd_ne (ne q hq))) ?_ fun q hq => ?_
  · obtain rfl : b = p := by simpa using hb
    exact ⟨nw.1, nw.2.2.1, .inl nw.2.1, ⟨o, upd_same⟩, fun e => by obtain ⟨so, z⟩ := r.nm; rw [e, z] at h; cases h⟩
  · exact List.nodup_cons.mpr ⟨fun m => ne p m rfl, nd⟩
  · rcases List.mem_cons.mp hq with hq | hq
    · exact .inr (by simp [hq])
    · exact .inl hq
theorem R.lst (r : R K F G H σ ρ) {p : Addr} {us : List V} {xs : List D} (h : H p = none) (t : DdL K G us xs) : R K F G (upd H p (.lst us)) (some (.ref p) :: σ) (.ol xs :: ρ) :=
  r.own h (.ol upd_same t (r.new h).2.1)
theorem R.dic (r : R K F G H σ ρ) {p : Addr} {ks : List Key} {us : List V} {vs : List D} (h : H p = none) (hl : ks.length = us.length) (hn : ks.Nodup) (t : DdL K G us vs) :
    R K F G (upd H p (.dK (ks.zip us))) (some (.ref p) :: σ) (.od ks vs :: ρ) := r.own h (.od upd_same hl hn t (r.new h).2.1)

/-- what is owned becomes data -/
theorem SlOk.frz {u : V} {x : D} (h : SlOk K F G H (some u) s os) (hs : s.dat = some x) (hf : ∀ p ∈ os, G p = none) :
    ∃ G', Ex G G' ∧ Dd K G' u x ∧ (∀ b, b ∉ os → G' b = G b) ∧ (∀ b ∈ os, G' b = H b ∧ F.H0 b = none) := by
  cases h with
  | no => cases hs
  | d h => cases hs; exact ⟨G, .rfl, h, fun _ _ => rfl, by simp⟩
  | @ol p us xs h1 h2 h3 =>
    cases hs
    have e : Ex G (upd G p (.lst us)) := .put (hf p (by simp))
    exact ⟨_, e, .lst upd_same (h2.ex e), fun b hb => upd_ne (by simpa using hb), by simp [upd_same, h1, h3]⟩
  | @od p ks us vs h1 h2 h4 h3 h5 =>
    cases hs
    have e : Ex G (upd G p (.dK (ks.zip us))) := .put (hf p (by simp))
    exact ⟨_, e, .dic upd_same h2 h4 (h3.ex e), fun b hb => upd_ne (by simpa using hb), by simp [upd_same, h1, h5]⟩
  | @oi p C dx ns us vs h1 h2 h3 h4 h5 h6 =>
    cases hs
    have np : dx ≠ p := fun e => by rw [e, h1] at h3; cases h3
    have e1 : Ex G (upd G dx (.own p)) := .put (hf dx (by simp))
    have e2 : Ex (upd G dx (.own p)) (upd (upd G dx (.own p)) p (.ins C dx (ns.zip us))) := .put (by rw [upd_ne np.symm]; exact hf p (by simp))
    refine ⟨_, e1.tr e2, .ins upd_same h2 (by rw [upd_ne np, upd_same]) (h4.ex (e1.tr e2)), fun b hb => ?_, fun b hb => ?_⟩
    · have : b ≠ p ∧ b ≠ dx := by simpa using hb
      rw [upd_ne this.1, upd_ne this.2]
    · rcases (by simpa using hb : b = p ∨ b = dx) with rfl | rfl
      · rw [upd_same]; exact ⟨h1.symm, h5⟩
      · rw [upd_ne np, upd_same]; exact ⟨h3.symm, h6⟩
  | bi => cases hs
  | src => cases hs
theorem R.frzCore {u : V} {x : D} (r : R K F G H σ ρ) {os1 os2 : List Addr} (h : SlOk K F G H (some u) s os1) (hs : s.dat = some x) {σ' : List (Option V)} {ρ' : List Sl}
    (nd : (os1 ++ os2).Nodup) (f : ∀ p ∈ os1 ++ os2, G p = none ∧ ¬ InSrc F p) (k : ∀ {G'}, Ex G G' → Dd K G' u x → ∃ os3, Sls K F G' H σ' ρ' os3 ∧ os3.Perm os2) :
    ∃ G', Ex G G' ∧ Dd K G' u x ∧ R K F G' H σ' ρ' := by
  obtain ⟨G', e, d, h1, h2⟩ := h.frz hs fun p hp => (f p (List.mem_append_left _ hp)).1
  obtain ⟨os3, t, pm⟩ := k e d
  have dj := (List.nodup_append.mp nd).2.2
  refine ⟨G', e, d, r.gg.tr e, fun b o q => ?_, r.fr, fun b o q => ?_, r.th, fun a c q => ?_, fun q hq => ⟨(r.kp q hq).1, by rw [h1 _ fun m => (f _ (List.mem_append_left _ m)).2 (.inr ⟨_, hq⟩)]; exact (r.kp q hq).2.1, (r.kp q hq).2.2⟩, r.nm, os3, t, pm.nodup_iff.mpr (List.nodup_append.mp nd).2.1, fun p hp => ?_⟩
  · by_cases m : b ∈ os1
    · rw [← (h2 b m).1]; exact q
    · rw [h1 b m] at q; exact r.gh b o q
  · by_cases m : b ∈ os1
    · exact .inr (h2 b m).2
    · rw [h1 b m] at q; exact r.nw b o q
  · obtain ⟨z, ha, hc⟩ := r.sr a c q
    have na : a ∉ os1 := fun m => (f a (List.mem_append_left _ m)).2 (.inl ⟨a, c, q, .inl rfl⟩)
    have nc : c ∉ os1 := fun m => (f c (List.mem_append_left _ m)).2 (.inl ⟨a, c, q, .inr rfl⟩)
    exact ⟨z, by rw [h1 a na]; exact ha, by rw [h1 c nc]; exact hc⟩
  · have hp2 : p ∈ os2 := pm.mem_iff.mp hp
    have np : p ∉ os1 := fun m => dj p m p hp2 rfl
    have z := f p (List.mem_append_right _ hp2)
    exact ⟨by rw [h1 p np]; exact z.1, z.2⟩
/-- the thing on top becomes data -/
theorem R.frz {u : V} {x : D} (r : R K F G H (some u :: σ) (s :: ρ)) (hs : s.dat = some x) : ∃ G', Ex G G' ∧ Dd K G' u x ∧ R K F G' H σ ρ := by
  obtain ⟨os, h, nd, f⟩ := r.sl
  cases h with
  | cons a t => exact r.pop.frzCore a hs nd f fun {G'} e d => ⟨_, t.keep e fun _ _ => rfl, .refl _⟩
/-- slot i becomes data -/
theorem R.frzAt {x : D} (r : R K F G H σ ρ) {i : Nat} (hi : ρ[i]? = some s) (hs : s.dat = some x) : ∃ v G', σ[i]? = some (some v) ∧ Ex G G' ∧ Dd K G' v x ∧ R K F G' H σ (ρ.set i (.d x)) := by
  obtain ⟨os, h, nd, f⟩ := r.sl
  obtain ⟨v, os1, os2, e1, e2, e3, g⟩ := h.at hi
  have : ∃ u, v = some u := by cases e2 <;> first | exact ⟨_, rfl⟩ | cases hs
  obtain ⟨u, rfl⟩ := this
  have e4 : σ.set i (some u) = σ := by
    obtain ⟨hl, e5⟩ := List.getElem?_eq_some_iff.mp e1
    rw [← e5]; exact List.set_getElem_self hl
  obtain ⟨G', a, b, c⟩ := r.frzCore e2 hs (e3.nodup_iff.mp nd) (fun p hp => f p (e3.mem_iff.mpr hp)) (σ' := σ) (ρ' := ρ.set i (.d x)) fun {G'} e d => by
    obtain ⟨os3, t, pm⟩ := g e (fun _ _ => rfl) (.d d)
    rw [e4] at t
    exact ⟨os3, t, pm⟩
  exact ⟨u, G', e1, a, b, c⟩
/-- the thing on top goes into slot i -/
theorem R.put {v : Option V} (r : R K F G H (v :: σ) (s :: ρ)) (i : Nat) (hi : i < ρ.length) : R K F G H (σ.set i v) (ρ.set i s) := by
  obtain ⟨os, h, nd, f⟩ := r.sl
  cases h with
  | @cons _ _ _ _ o1 o2 a t =>
    obtain ⟨w, os1, os2, e1, e2, e3, g⟩ := t.at (i := i) (s := ρ[i]) (List.getElem?_eq_some_iff.mpr ⟨hi, rfl⟩)
    obtain ⟨os3, t', pm⟩ := g .rfl (fun _ _ => rfl) a
    have nd2 : (o1 ++ os2).Nodup := by
      have n1 := List.nodup_append.mp nd
      have n2 := List.nodup_append.mp (e3.nodup_iff.mp n1.2.1)
      exact List.nodup_append.mpr ⟨n1.1, n2.2.1, fun a ha b hb => n1.2.2 a ha b (e3.mem_iff.mpr (List.mem_append_right _ hb))⟩
    refine ⟨r.gg, r.gh, r.fr, r.nw, r.th, r.sr, r.kp, r.nm, os3, t', pm.nodup_iff.mpr nd2, fun p hp => f p ?_⟩
    rcases List.mem_append.mp (pm.mem_iff.mp hp) with m | m
    · exact List.mem_append_left _ m
    · exact List.mem_append_right _ (e3.mem_iff.mpr (List.mem_append_right _ m))
/-- the own list in slot i: where it stands, and that it may be written -/
theorem R.wrL {xs : List D} (r : R K F G H σ ρ) {i : Nat} (hi : ρ[i]? = some (.ol xs)) : ∃ p us, σ[i]? = some (some (.ref p)) ∧ H p = some (.lst us) ∧ DdL K G us xs ∧
    ∀ us' xs', DdL K G us' xs' → R K F G (upd H p (.lst us')) σ (ρ.set i (.ol xs')) := by
  obtain ⟨os, h, nd, f⟩ := r.sl
  obtain ⟨v, os1, os2, e1, e2, e3, g⟩ := h.at hi
  cases e2 with
  | @ol p us _ h1 h2 h3 =>
    refine ⟨p, us, e1, h1, h2, fun us' xs' t => ?_⟩
    have e4 : σ.set i (some (.ref p)) = σ := by
      obtain ⟨hl, e5⟩ := List.getElem?_eq_some_iff.mp e1
      rw [← e5]; exact List.set_getElem_self hl
    have nd2 := List.nodup_append.mp (e3.nodup_iff.mp nd)
    obtain ⟨os3, t', pm⟩ := g (G' := G) (H' := upd H p (.lst us')) .rfl (fun q hq => upd_ne fun e => nd2.2.2 p (by simp) q hq e.symm) (.ol upd_same t h3)
    rw [e4] at t'
    have fp := f p (e3.mem_iff.mpr (by simp))
    refine r.write h nd f (qs := [p]) (fun b hb => upd_ne (by simpa using hb)) (fun b hb => ?_) t' (pm.nodup_iff.mpr (e3.nodup_iff.mp nd)) fun q hq => .inl (e3.mem_iff.mpr (pm.mem_iff.mp hq))
    obtain rfl : b = p := by simpa using hb
    exact ⟨fp.1, fp.2, .inl h3, ⟨_, upd_same⟩, fun e => by obtain ⟨so, z⟩ := r.nm; rw [e, z] at h1; cases h1⟩
theorem R.wrD {ks : List Key} {vs : List D} (r : R K F G H σ ρ) {i : Nat} (hi : ρ[i]? = some (.od ks vs)) : ∃ p us, σ[i]? = some (some (.ref p)) ∧ H p = some (.dK (ks.zip us)) ∧ ks.length = us.length ∧ ks.Nodup ∧ DdL K G us vs ∧
    ∀ ks' us' vs', ks'.length = us'.length → ks'.Nodup → DdL K G us' vs' → R K F G (upd H p (.dK (ks'.zip us'))) σ (ρ.set i (.od ks' vs')) := by
  obtain ⟨os, h, nd, f⟩ := r.sl
  obtain ⟨v, os1, os2, e1, e2, e3, g⟩ := h.at hi
  cases e2 with
  | @od p _ us _ h1 h2 h4 h5 h3 =>
    refine ⟨p, us, e1, h1, h2, h4, h5, fun ks' us' vs' hl hn t => ?_⟩
    have e4 : σ.set i (some (.ref p)) = σ := by
      obtain ⟨hl, e5⟩ := List.getElem?_eq_some_iff.mp e1
      rw [← e5]; exact List.set_getElem_self hl
    have nd2 := List.nodup_append.mp (e3.nodup_iff.mp nd)
    obtain ⟨os3, t', pm⟩ := g (G' := G) (H' := upd H p (.dK (ks'.zip us'))) .rfl (fun q hq => upd_ne fun e => nd2.2.2 p (by simp) q hq e.symm) (.od upd_same hl hn t h3)
    rw [e4] at t'
    have fp := f p (e3.mem_iff.mpr (by simp))
    refine r.write h nd f (qs := [p]) (fun b hb => upd_ne (by simpa using hb)) (fun b hb => ?_) t' (pm.nodup_iff.mpr (e3.nodup_iff.mp nd)) fun q hq => .inl (e3.mem_iff.mpr (pm.mem_iff.mp hq))
    obtain rfl : b = p := by simpa using hb
    exact ⟨fp.1, fp.2, .inl h3, ⟨_, upd_same⟩, fun e => by obtain ⟨so, z⟩ := r.nm; rw [e, z] at h1; cases h1⟩
/-- an instance, own or lent, in slot i: where it stands, and that it may be written -/
def Sl.inst : Sl → Option (Addr × List Str × List D)
  | .oi C ns vs => some (C, ns, vs)
  | .bi C ns vs => some (C, ns, vs)
  | _ => none
def Sl.withF : Sl → List Str → List D → Sl
  | .oi C _ _, ns, vs => .oi C ns vs
  | .bi C _ _, ns, vs => .bi C ns vs
  | s, _, _ => s
theorem R.wrI {C : Addr} {ns : List Str} {vs : List D} (r : R K F G H σ ρ) {i : Nat} (hi : ρ[i]? = some s) (hn : s.inst = some (C, ns, vs)) :
    ∃ p dx us, σ[i]? = some (some (.ref p)) ∧ H p = some (.ins C dx (ns.zip us)) ∧ ns.length = us.length ∧ DdL K G us vs ∧
    ∀ ns' us' vs', ns'.length = us'.length → DdL K G us' vs' → R K F G (upd H p (.ins C dx (ns'.zip us'))) σ (ρ.set i (s.withF ns' vs')) := by
  obtain ⟨os, h, nd, f⟩ := r.sl
  obtain ⟨v, os1, os2, e1, e2, e3, g⟩ := h.at hi
  have nd2 := List.nodup_append.mp (e3.nodup_iff.mp nd)
  cases e2 with
  | @oi p _ dx _ us _ h1 h2 h3 h4 h5 h6 =>
    cases hn
    refine ⟨p, dx, us, e1, h1, h2, h4, fun ns' us' vs' hl t => ?_⟩
    have np : dx ≠ p := fun e => by rw [e, h1] at h3; cases h3
    have e4 : σ.set i (some (.ref p)) = σ := by
      obtain ⟨hl, e5⟩ := List.getElem?_eq_some_iff.mp e1
      rw [← e5]; exact List.set_getElem_self hl
    obtain ⟨os3, t', pm⟩ := g (G' := G) (H' := upd H p (.ins C dx (ns'.zip us'))) .rfl (fun q hq => upd_ne fun e => nd2.2.2 p (by simp) q hq e.symm) (.oi upd_same hl (by rw [upd_ne np]; exact h3) t h5 h6)
    rw [e4] at t'
    have fp := f p (e3.mem_iff.mpr (by simp))
    refine r.write h nd f (qs := [p]) (fun b hb => upd_ne (by simpa using hb)) (fun b hb => ?_) t' (pm.nodup_iff.mpr (e3.nodup_iff.mp nd)) fun q hq => .inl (e3.mem_iff.mpr (pm.mem_iff.mp hq))
    obtain rfl : b = p := by simpa using hb
    exact ⟨fp.1, fp.2, .inl h5, ⟨_, upd_same⟩, fun e => by obtain ⟨so, z⟩ := r.nm; rw [e, z] at h1; cases h1⟩
  | @bi p _ dx _ us _ h1 h2 h3 h4 h5 =>
    cases hn
    refine ⟨p, dx, us, e1, h1, h2, h4, fun ns' us' vs' hl t => ?_⟩
    have np : dx ≠ p := fun e => by rw [e, h1] at h3; cases h3
    have e4 : σ.set i (some (.ref p)) = σ := by
      obtain ⟨hl, e5⟩ := List.getElem?_eq_some_iff.mp e1
      rw [← e5]; exact List.set_getElem_self hl
    obtain ⟨os3, t', pm⟩ := g (G' := G) (H' := upd H p (.ins C dx (ns'.zip us'))) .rfl (fun q hq => upd_ne fun e => nd2.2.2 p (by simp) q hq e.symm) (.bi upd_same hl (by rw [upd_ne np]; exact h3) t h5)
    rw [e4] at t'
    have fp := f p (e3.mem_iff.mpr (by simp))
    refine r.write h nd f (qs := [p]) (fun b hb => upd_ne (by simpa using hb)) (fun b hb => ?_) t' (pm.nodup_iff.mpr (e3.nodup_iff.mp nd)) fun q hq => .inl (e3.mem_iff.mpr (pm.mem_iff.mp hq))
    obtain rfl : b = p := by simpa using hb
    exact ⟨fp.1, fp.2, .inr ⟨_, _, h5, .inl rfl⟩, ⟨_, upd_same⟩, fun e => by obtain ⟨so, z⟩ := r.nm; rw [e, z] at h1; cases h1⟩
  | no => cases hn
  | d => cases hn
  | ol => cases hn
  | od => cases hn
  | src => cases hn
/-- the own list on top is set aside; and taken back -/
def Fr.aside (F : Fr) (p : Addr) (o : HO) : Fr := { F with ks := (p, o) :: F.ks }
theorem Sls.fr {F F' : Fr} (h : Sls K F G H σ ρ os) (e1 : F'.H0 = F.H0) (e2 : F'.src = F.src) (e3 : F'.self = F.self) : Sls K F' G H σ ρ os := by
  induction h with
  | nil => exact .nil
  | cons a t ih =>
    refine .cons ?_ ih
    cases a with
    | no => exact .no _
    | d h => exact .d h
    | ol h1 h2 h3 => exact .ol h1 h2 (by rw [e1]; exact h3)
    | od h1 h2 h4 h3 h5 => exact .od h1 h2 h4 h3 (by rw [e1]; exact h5)
    | oi h1 h2 h3 h4 h5 h6 => exact .oi h1 h2 h3 h4 (by rw [e1]; exact h5) (by rw [e1]; exact h6)
    | bi h1 h2 h3 h4 h5 => exact .bi h1 h2 h3 h4 (by rw [e3]; exact h5)
    | src h => exact .src (by rw [e2]; exact h)
theorem R.set {p : Addr} {o : HO} {os2 : List Addr} {u : Option V} (r : R K F G H (u :: σ) (s :: ρ)) (t : Sls K F G H σ ρ os2) (h1 : H p = some o) (fp : G p = none ∧ ¬ InSrc F p) (nd : os2.Nodup) (np : p ∉ os2) (f : ∀ q ∈ os2, G q = none ∧ ¬ InSrc F q) :
    R K (F.aside p o) G H σ ρ := by
  refine ⟨r.gg, r.gh, fun b o e n1 n2 => r.fr b o e (fun m => n1 ?_) n2, r.nw, fun b hb => ?_, r.sr, fun q hq => ?_, r.nm, os2, t.fr rfl rfl rfl, nd, fun q hq => ⟨(f q hq).1, fun m => ?_⟩⟩
  · rcases m with m | ⟨o, m⟩
    · exact .inl m
    · exact .inr ⟨o, List.mem_cons_of_mem _ m⟩
  · rcases hb with hb | hb
    · rcases hb with hb | ⟨o, hb⟩
      · exact r.th b (.inl (.inl hb))
      · rcases List.mem_cons.mp hb with hb | hb
        · cases hb; exact ⟨_, h1⟩
        · exact r.th b (.inl (.inr ⟨o, hb⟩))
    · exact r.th b (.inr hb)
  · rcases List.mem_cons.mp hq with hq | hq
    · subst hq; exact ⟨h1, fp.1, fun a c z => ⟨fun e => fp.2 (.inl ⟨a, c, z, .inl e⟩), fun e => fp.2 (.inl ⟨a, c, z, .inr e⟩)⟩⟩
    · exact r.kp q hq
  · rcases m with m | ⟨o, m⟩
    · exact (f q hq).2 (.inl m)
    · rcases List.mem_cons.mp m with m | m
      · cases m; exact np hq
      · exact (f q hq).2 (.inr ⟨o, m⟩)
theorem R.aside {xs : List D} {u : V} (r : R K F G H (some u :: σ) (.ol xs :: ρ)) : ∃ p us, u = .ref p ∧ H p = some (.lst us) ∧ DdL K G us xs ∧ R K (F.aside p (.lst us)) G H σ ρ ∧ F.H0 p = none ∧ ¬ InSrc F p := by
  obtain ⟨os, h, nd, f⟩ := r.sl
  cases h with
  | @cons _ _ _ _ o1 o2 a t =>
    cases a with
    | @ol p us _ h1 h2 h3 =>
      have nd := List.nodup_cons.mp nd
      exact ⟨p, us, rfl, h1, h2, r.set t h1 (f p (by simp)) nd.2 nd.1 fun q hq => f q (List.mem_cons_of_mem _ hq), h3, (f p (by simp)).2⟩
theorem R.asideD {ks : List Key} {vs : List D} {u : V} (r : R K F G H (some u :: σ) (.od ks vs :: ρ)) : ∃ p us, u = .ref p ∧ H p = some (.dK (ks.zip us)) ∧ ks.length = us.length ∧ ks.Nodup ∧ DdL K G us vs ∧ R K (F.aside p (.dK (ks.zip us))) G H σ ρ ∧ F.H0 p = none ∧ ¬ InSrc F p := by
  obtain ⟨os, h, nd, f⟩ := r.sl
  cases h with
  | @cons _ _ _ _ o1 o2 a t =>
    cases a with
    | @od p _ us _ h1 h2 h4 h5 h3 =>
      have nd := List.nodup_cons.mp nd
      exact ⟨p, us, rfl, h1, h2, h4, h5, r.set t h1 (f p (by simp)) nd.2 nd.1 fun q hq => f q (List.mem_cons_of_mem _ hq), h3, (f p (by simp)).2⟩
theorem R.unset {p : Addr} {o : HO} (r : R K (F.aside p o) G H σ ρ) (h3 : F.H0 p = none) (ns : ¬ InSrc F p) (nq : ∀ so, o ≠ .frz so sysO) {o' : HO} (ho : SlOk K F G (upd H p o') (some (.ref p)) s [p]) : R K F G (upd H p o') (some (.ref p) :: σ) (s :: ρ) := by
  obtain ⟨os, h, nd, f⟩ := r.sl
  have kp := r.kp (p, o) (by simp [Fr.aside])
  have np : p ∉ os := fun m => (f p m).2 (.inr ⟨o, by simp [Fr.aside]⟩)
  have sub : ∀ q, InSrc F q → InSrc (F.aside p o) q := fun q m => by
    rcases m with m | ⟨o, m⟩
    · exact .inl m
    · exact .inr ⟨o, List.mem_cons_of_mem _ m⟩
  have r0 : R K F G H σ ρ := by
    refine ⟨r.gg, r.gh, fun b u e n1 n2 => r.fr b u e (fun m => ?_) n2, r.nw, fun b hb => r.th b ?_, r.sr, fun q hq => r.kp q (List.mem_cons_of_mem _ hq), r.nm, os, h.fr rfl rfl rfl, nd, fun q hq => ⟨(f q hq).1, fun m => (f q hq).2 (sub q m)⟩⟩
    · rcases m with m | ⟨o, m⟩
      · exact n1 (.inl m)
      · rcases List.mem_cons.mp m with m | m
        · cases m
          rw [h3] at e; cases e
        · exact n1 (.inr ⟨o, m⟩)
    · rcases hb with hb | hb
      · exact .inl (sub b hb)
      · exact .inr hb
  have h0 : Sls K F G H σ ρ os := h.fr rfl rfl rfl
  refine r0.write h0 nd (fun q hq => ⟨(f q hq).1, fun m => (f q hq).2 (sub q m)⟩) (qs := [p]) (fun b hb => upd_ne (by simpa using hb)) (fun b hb => ?_) (.cons ho (h0.keep .rfl fun q hq => upd_ne fun e => np (e ▸ hq))) (List.nodup_cons.mpr ⟨np, nd⟩) fun q hq => ?_
  · obtain rfl : b = p := by simpa using hb
    exact ⟨kp.2.1, ns, .inl h3, ⟨_, upd_same⟩, fun e => by have z := kp.1; rw [e] at z; obtain ⟨so, y⟩ := r.nm; exact nq so (Option.some.inj (z.symm.trans y))⟩
  · rcases List.mem_cons.mp hq with hq | hq
    · exact .inr (by simp [hq])
    · exact .inl hq
/-- a slot forgotten; slots that are not known may hold anything -/
theorem R.forget (r : R K F G H σ ρ) (i : Nat) : R K F G H σ (ρ.set i .no) := by
  by_cases hi : i < ρ.length
  · obtain ⟨os, h, nd, f⟩ := r.sl
    obtain ⟨v, os1, os2, e1, e2, e3, g⟩ := h.at (i := i) (s := ρ[i]) (List.getElem?_eq_some_iff.mpr ⟨hi, rfl⟩)
    obtain ⟨os3, t', pm⟩ := g .rfl (fun _ _ => rfl) (.no v)
    have e4 : σ.set i v = σ := by
      obtain ⟨hl, e5⟩ := List.getElem?_eq_some_iff.mp e1
      rw [← e5]; exact List.set_getElem_self hl
    rw [e4] at t'
    have nd2 := List.nodup_append.mp (e3.nodup_iff.mp nd)
    exact ⟨r.gg, r.gh, r.fr, r.nw, r.th, r.sr, r.kp, r.nm, os3, t', pm.nodup_iff.mpr nd2.2.1, fun p hp => f p (e3.mem_iff.mpr (List.mem_append_right _ (pm.mem_iff.mp hp)))⟩
  · rw [List.set_eq_of_length_le (by omega)]; exact r
theorem Sls.any (h : Sls K F G H σ ρ os) : ∀ {i : Nat} {v : Option V}, ρ[i]? = some .no → Sls K F G H (σ.set i v) ρ os := by
  induction h with
  | nil => intro i v e; simp at e
  | @cons v0 s0 σ ρ os0 ps a t ih =>
    intro i v e
    cases i with
    | zero =>
      cases e
      cases a
      exact .cons (.no v) t
    | succ i => exact .cons a (ih (by simpa using e))
theorem R.any (r : R K F G H σ ρ) {i : Nat} {v : Option V} (e : ρ[i]? = some .no) : R K F G H (σ.set i v) ρ := by
  obtain ⟨os, h, nd, f⟩ := r.sl
  exact ⟨r.gg, r.gh, r.fr, r.nw, r.th, r.sr, r.kp, r.nm, os, h.any e, nd, f⟩
end
end Fl
namespace Fl
open PySem L2

abbrev Env' := List Sl
abbrev ET := Env' → (Sl → Env' → Prop) → Prop
abbrev TTd := Env' → (Bool → Env' → Prop) → Prop
abbrev AT := Env' → (List D → Env' → Prop) → Prop

def lift (K : PySem.W.Frag) (t : ET) : TE := fun σ H Q => ∃ F G ρ P, R K F G H σ ρ ∧ t ρ P ∧
  ∀ r ρ' v G' H', P r ρ' → Ex G G' → R K F G' H' (some v :: σ) (r :: ρ') → Q v H'
def liftT (K : PySem.W.Frag) (t : TTd) : TT := fun σ H Q => ∃ F G ρ P, R K F G H σ ρ ∧ t ρ P ∧
  ∀ b ρ' G' H', P b ρ' → Ex G G' → R K F G' H' σ ρ' → Q b H'
def liftA (K : PySem.W.Frag) (t : AT) : TA := fun σ H Q => ∃ F G ρ P, R K F G H σ ρ ∧ t ρ P ∧
  ∀ xs ρ' vs G' H', P xs ρ' → Ex G G' → R K F G' H' σ ρ' → DdL K G' vs xs → Q vs H'

section
variable {X : Cx} {e a b : Expr} {t : ET} {te ta tb : ET} {K : PySem.W.Frag} {F : Fr} {G G' H H' : Hp} {σ : St} {ρ : Env'} {pos : Pos}
theorem peImp {t t' : TE} (h : PE X e t) (i : ∀ σ H Q, t' σ H Q → t σ H Q) : PE X e t' := ⟨fun pins s σ H Q I q => h.run pins s σ H Q I (i _ _ _ q)⟩
theorem ptImp {t t' : TT} (h : PT X e t) (i : ∀ σ H Q, t' σ H Q → t σ H Q) : PT X e t' := ⟨fun pins s σ H Q I q => h.run pins s σ H Q I (i _ _ _ q)⟩
theorem pwImp {t t' : TT} (h : PW X e t) (i : ∀ σ H Q, t' σ H Q → t σ H Q) : PW X e t' := ⟨fun w pins s σ H Q I q => h.run w pins s σ H Q I (i _ _ _ q)⟩
theorem paImp {es : List Expr} {t t' : TA} (h : PA X es t) (i : ∀ σ H Q, t' σ H Q → t σ H Q) : PA X es t' := ⟨fun p pins s σ H Q I q => h.run p pins s σ H Q I (i _ _ _ q)⟩
/-- a part that gives data, run -/
theorem goD {P : D → Env' → Prop} {Q : VK} (r : R K F G H σ ρ) (h : t ρ fun x ρ1 => ∃ d, x.dat = some d ∧ P d ρ1)
    (k : ∀ d ρ' v G' H', P d ρ' → Ex G G' → R K F G' H' σ ρ' → Dd K G' v d → Q v H') : lift K t σ H Q :=
  ⟨F, G, ρ, _, r, h, fun x ρ' v G' H' ⟨d, hd, p⟩ e r' => by
    obtain ⟨G2, e2, dd, r2⟩ := r'.frz hd
    exact k d ρ' v G2 H' p (e.tr e2) r2 dd⟩
theorem goA {t : AT} {P : List D → Env' → Prop} {Q : List V → Hp → Prop} (r : R K F G H σ ρ) (h : t ρ P)
    (k : ∀ xs ρ' vs G' H', P xs ρ' → Ex G G' → R K F G' H' σ ρ' → DdL K G' vs xs → Q vs H') : liftA K t σ H Q := ⟨F, G, ρ, P, r, h, k⟩
theorem goT {t : TTd} {P : Bool → Env' → Prop} {Q : Bool → Hp → Prop} (r : R K F G H σ ρ) (h : t ρ P)
    (k : ∀ b ρ' G' H', P b ρ' → Ex G G' → R K F G' H' σ ρ' → Q b H') : liftT K t σ H Q := ⟨F, G, ρ, P, r, h, k⟩

def dC (x : D) : ET := fun ρ P => P (.d x) ρ
def dVar (i : Nat) : ET := fun ρ P => match ρ[i]? with
  | some .src => P .src ρ
  | some s => match s.dat with
    | some x => P (.d x) (ρ.set i (.d x))
    | none => False
  | none => False
theorem pd_int {i j} : PE X (.Constant (.int i) j pos) (lift X.K (dC (.int i))) := peImp pe_int fun σ H Q ⟨F, G, ρ, P, r, h, k⟩ => k _ _ _ _ _ h .rfl (r.push (.int i))
theorem pd_bl {b j} : PE X (.Constant (.bool b) j pos) (lift X.K (dC (.bl b))) := peImp pe_bl fun σ H Q ⟨F, G, ρ, P, r, h, k⟩ => k _ _ _ _ _ h .rfl (r.push (.bl b))
theorem pd_non {j} : PE X (.Constant .none j pos) (lift X.K (dC .non)) := peImp pe_non fun σ H Q ⟨F, G, ρ, P, r, h, k⟩ => k _ _ _ _ _ h .rfl (r.push .non)
theorem pd_str {x j} (ho : sOk x = true := by decide +kernel) : PE X (.Constant (.str x) j pos) (lift X.K (dC (.str x))) := peImp pe_str fun σ H Q ⟨F, G, ρ, P, r, h, k⟩ => k _ _ _ _ _ h .rfl (r.push (.str x ho))
/-- a name of the module that holds a constant -/
theorem pd_glob {x : Str} {d : D} {v : V} {u : Value} (hg : Gl X x) (hm : X.mg x = some u) (r0 : RelV v u) (hd : ∀ G, Dd X.K G v d) (hdb : (x == ("__debug__" : Str)) = false := by decide) : PE X (.Name x pos) (lift X.K (dC d)) :=
  peImp (pe_glob hg hm r0 hdb) fun σ H Q ⟨F, G, ρ, P, r, h, k⟩ => k _ _ _ _ _ h .rfl (r.push (hd G))
theorem R.src (r : R K F G H σ ρ) {i : Nat} (hi : ρ[i]? = some .src) : ∃ a c, σ[i]? = some (some (.ref a)) ∧ F.src = some (a, c) := by
  obtain ⟨os, h, nd, f⟩ := r.sl
  obtain ⟨v, os1, os2, e1, e2, _⟩ := h.at hi
  cases e2 with
  | src h => exact ⟨_, _, e1, h⟩
theorem R.pushSrc (r : R K F G H σ ρ) {a c : Addr} (h : F.src = some (a, c)) : R K F G H (some (.ref a) :: σ) (.src :: ρ) := by
  obtain ⟨os, hs, nd, f⟩ := r.sl
  exact ⟨r.gg, r.gh, r.fr, r.nw, r.th, r.sr, r.kp, r.nm, _, .cons (.src h) hs, nd, f⟩
theorem pd_var (i : Nat) {x : Str} (hN : X.N[i]? = some x := by rfl) (hv : Vis X.env.scope x := by first | exact Or.inl rfl | exact Or.inr (Or.inl rfl) | exact Or.inr (Or.inr rfl)) (hd : (x == ("__debug__" : Str)) = false := by decide)
    (hcd : (x == ("__classdict__" : Str)) = false := by decide) : PE X (.Name x pos) (lift X.K (dVar i)) := by
  refine peImp (pe_var hN hv hd hcd) fun σ H Q ⟨F, G, ρ, P, r, h, k⟩ => ?_
  have gen : ∀ {s : Sl} {x : D}, ρ[i]? = some s → s.dat = some x → P (.d x) (ρ.set i (.d x)) → tVar i σ H Q := fun {s x} hi hx p => by
    obtain ⟨v, G', e1, e2, dd, r'⟩ := r.frzAt hi hx
    exact ⟨v, e1, k _ _ _ _ _ p e2 (r'.push dd)⟩
  unfold dVar at h
  cases e : ρ[i]? with
  | none => rw [e] at h; exact h.elim
  | some s =>
    rw [e] at h
    cases s with
    | src =>
      obtain ⟨a, c, e1, e2⟩ := r.src e
      exact ⟨_, e1, k _ _ _ _ _ h .rfl (r.pushSrc e2)⟩
    | no => exact h.elim
    | bi => exact h.elim
    | d x => exact gen e rfl h
    | ol x => exact gen e rfl h
    | od _ _ => exact gen e rfl h
    | oi _ _ _ => exact gen e rfl h

def dNil : AT := fun ρ P => P [] ρ
def dCons (te : ET) (ta : AT) : AT := fun ρ P => te ρ fun x ρ1 => ∃ d, x.dat = some d ∧ ta ρ1 fun xs ρ2 => P (d :: xs) ρ2
theorem pda_nil : PA X [] (liftA X.K dNil) := paImp pa_nil fun σ H Q ⟨F, G, ρ, P, r, h, k⟩ => k _ _ _ _ _ h .rfl r .nil
theorem pda_cons {es : List Expr} {ta : AT} (he : PE X e (lift X.K te)) (hr : PA X es (liftA X.K ta)) (hs : starEach (e :: es) X.env = (false, eval e X.env) :: starEach es X.env := by rfl) : PA X (e :: es) (liftA X.K (dCons te ta)) :=
  paImp (pa_cons he hr hs) fun σ H Q ⟨F, G, ρ, P, r, h, k⟩ => goD r h fun d ρ1 v G1 H1 h1 e1 r1 d1 => goA r1 h1 fun xs ρ2 vs G2 H2 h2 e2 r2 d2 => k _ _ _ _ _ h2 (e1.tr e2) r2 (.cons (d1.ex e2) d2)

def dTup (ta : AT) : ET := fun ρ P => ta ρ fun xs ρ1 => xs.length ≤ 1000 ∧ P (.d (.tup xs)) ρ1
def dLst (ta : AT) : ET := fun ρ P => ta ρ fun xs ρ1 => xs.length ≤ 1000 ∧ P (.ol xs) ρ1
theorem sz1000 {n : Nat} (h : n ≤ 1000) : n ≤ sizeLine := Nat.le_trans h (by decide)
theorem pd_tup {es : List Expr} {x1} {ta : AT} (h : PA X es (liftA X.K ta)) : PE X (.Tuple es x1 pos) (lift X.K (dTup ta)) :=
  peImp (pe_tup h) fun σ H Q ⟨F, G, ρ, P, r, h, k⟩ => goA r h fun xs ρ1 vs G1 H1 ⟨hl, h1⟩ e1 r1 d1 => ⟨by rw [d1.len]; exact sz1000 hl, fun p hp => by
    obtain ⟨e2, r2, d2⟩ := r1.tup hp d1
    exact k _ _ _ _ _ h1 (e1.tr e2) (r2.push d2)⟩
theorem pd_lst {es : List Expr} {ta : AT} (h : PA X es (liftA X.K ta)) : PE X (.List es pos) (lift X.K (dLst ta)) :=
  peImp (pe_lst h) fun σ H Q ⟨F, G, ρ, P, r, h, k⟩ => goA r h fun xs ρ1 vs G1 H1 ⟨hl, h1⟩ e1 r1 d1 => ⟨by rw [d1.len]; exact sz1000 hl, fun p hp => k _ _ _ _ _ h1 e1 (r1.lst hp d1)⟩
def dDic0 : ET := fun ρ P => P (.od [] []) ρ
theorem pd_dic0 : PE X (.Dict [] [] pos) (lift X.K dDic0) :=
  peImp pe_dnewK fun σ H Q ⟨F, G, ρ, P, r, h, k⟩ => fun p hp => k _ _ _ _ _ h .rfl (r.dic (ks := []) (us := []) hp rfl List.nodup_nil .nil)

abbrev RO := D → D → (Sl → Prop) → Prop
/-- an operation on data: what it gives -/
def OpD (X : Cx) (f : Value → Value → Sem Value) (ro : RO) : Prop := ∃ r : R2, OpR X f r ∧ ∀ {F : Fr} {G H : Hp} {σ : St} {ρ : Env'} {vx vy : V} {x y : D} {P : Sl → Prop} {Q : VK},
  R X.K F G H σ ρ → Dd X.K G vx x → Dd X.K G vy y → ro x y P → (∀ s v G' H', P s → Ex G G' → R X.K F G' H' (some v :: σ) (s :: ρ) → Q v H') → r vx vy H Q
def dOp (ro : RO) (ta tb : ET) : ET := fun ρ P => ta ρ fun x ρ1 => ∃ dx, x.dat = some dx ∧ tb ρ1 fun y ρ2 => ∃ dy, y.dat = some dy ∧ ro dx dy fun z => P z ρ2
theorem opGo {f : Value → Value → Sem Value} {ro : RO} {r : R2} (ho : ∀ {F : Fr} {G H : Hp} {σ : St} {ρ : Env'} {vx vy : V} {x y : D} {P : Sl → Prop} {Q : VK},
    R X.K F G H σ ρ → Dd X.K G vx x → Dd X.K G vy y → ro x y P → (∀ s v G' H', P s → Ex G G' → R X.K F G' H' (some v :: σ) (s :: ρ) → Q v H') → r vx vy H Q)
    {σ : St} {H : Hp} {Q : VK} (h : lift X.K (dOp ro ta tb) σ H Q) : tOp r (lift X.K ta) (lift X.K tb) σ H Q := by
  obtain ⟨F, G, ρ, P, r0, h, k⟩ := h
  exact goD r0 h fun x ρ1 v G1 H1 h1 e1 r1 d1 => goD r1 h1 fun y ρ2 u G2 H2 h2 e2 r2 d2 => ho r2 (d1.ex e2) d2 h2 fun s w G' H' p e3 r3 => k _ _ _ _ _ p ((e1.tr e2).tr e3) r3
theorem pd_op {op : Operator} {ro : RO} (ho : OpD X (binaryOp op) ro) (ha : PE X a (lift X.K ta)) (hb : PE X b (lift X.K tb)) : PE X (.BinOp a op b pos) (lift X.K (dOp ro ta tb)) := by
  obtain ⟨r, h1, h2⟩ := ho
  exact peImp (pe_op h1 ha hb) fun σ H Q h => opGo (f := binaryOp op) h2 h
theorem pd_cmp {op : CmpOp} {ro : RO} (ho : OpD X (compareOp op) ro) (ha : PE X a (lift X.K ta)) (hb : PE X b (lift X.K tb)) (hm : behindInMarks op b = false := by first | rfl | exact nomark _) : PE X (.Compare a [op] [b] pos) (lift X.K (dOp ro ta tb)) := by
  obtain ⟨r, h1, h2⟩ := ho
  exact peImp (pe_cmpR h1 ha hb hm) fun σ H Q h => opGo (f := compareOp op) h2 h

/-- a value's truth -/
def tru : D → Option Bool
  | .non => some false
  | .bl b => some b
  | .int i => some (i != 0)
  | .lst xs => some (!xs.isEmpty)
  | .tup xs => some (!xs.isEmpty)
  | _ => none
def dTru (te : ET) : TTd := fun ρ P => te ρ fun x ρ1 => ∃ d, x.dat = some d ∧ ∃ b, tru d = some b ∧ P b ρ1
theorem DdL.isE {us : List V} {xs : List D} (h : DdL K G us xs) : us.isEmpty = xs.isEmpty := by cases h <;> rfl
theorem truV_of {v : V} {d : D} {b : Bool} (gh : Ex G H) (h : Dd K G v d) (hb : tru d = some b) : TruV K v H b := by
  cases h with
  | non => cases hb; rfl
  | bl _ => cases hb; rfl
  | int _ => cases hb; rfl
  | str _ _ => cases hb
  | lst h t => cases hb; exact .inl ⟨_, .of (gh _ _ h), by rw [t.isE]⟩
  | tup h t => cases hb; exact .inr (.inl ⟨_, sqT_ex gh h, by rw [t.isE]⟩)
  | dic _ _ _ _ => cases hb
  | ins _ _ _ _ => cases hb
theorem pt_tru (he : PE X e (lift X.K te)) (hw : ∀ whole, isTrue e X.env whole = (do let v ← whole; standAt e.pos; holding [v] (truthy v)) := by intro _; rfl) : PT X e (liftT X.K (dTru te)) :=
  ptImp (pt_truth he hw) fun σ H Q ⟨F, G, ρ, P, r, h, k⟩ => goD r h fun d ρ1 v G1 H1 ⟨b, hb, h1⟩ e1 r1 d1 => ⟨b, truV_of r1.gh d1 hb, k _ _ _ _ h1 e1 r1⟩
/-- a comparison as a test -/
def dTst (te : ET) : TTd := fun ρ P => te ρ fun x ρ1 => ∃ b, x = .d (.bl b) ∧ P b ρ1
theorem R.topBl {b : Bool} {v : V} (r : R K F G H (some v :: σ) (.d (.bl b) :: ρ)) : v = .bl b := by
  obtain ⟨G', _, d, _⟩ := r.frz (x := .bl b) rfl
  cases d; rfl
theorem goB {P : Bool → Env' → Prop} {Q : VK} (r : R K F G H σ ρ) (h : t ρ fun x ρ1 => ∃ b, x = .d (.bl b) ∧ P b ρ1)
    (k : ∀ b ρ' G' H', P b ρ' → Ex G G' → R K F G' H' σ ρ' → Q (.bl b) H') : lift K t σ H Q :=
  ⟨F, G, ρ, _, r, h, fun x ρ' v G' H' ⟨b, hd, p⟩ e r' => by
    subst hd
    rw [r'.topBl]
    exact k b ρ' G' H' p e r'.pop⟩
theorem pt_cmpD {op : CmpOp} {ro : RO} (ho : OpD X (compareOp op) ro) (ha : PE X a (lift X.K ta)) (hb : PE X b (lift X.K tb)) (hm : behindInMarks op b = false := by first | rfl | exact nomark _) : PT X (.Compare a [op] [b] pos) (liftT X.K (dTst (dOp ro ta tb))) := by
  obtain ⟨r, h1, h2⟩ := ho
  refine ptImp (pt_cmpR h1 ha hb hm) fun σ H Q ⟨F, G, ρ, P, r0, h, k⟩ => ?_
  exact opGo (f := compareOp op) h2 (goB r0 h fun b ρ1 G1 H1 h1 e1 r1 => ⟨b, rfl, k _ _ _ _ h1 e1 r1⟩)
theorem pt_valD (he : PE X e (lift X.K te)) (hw : ∀ whole, isTrue e X.env whole = (do let v ← whole; standAt e.pos; holding [v] (truthy v)) := by intro _; rfl) : PT X e (liftT X.K (dTst te)) :=
  ptImp (pt_val he hw) fun σ H Q ⟨F, G, ρ, P, r, h, k⟩ => goB r h fun b ρ1 G1 H1 h1 e1 r1 => ⟨b, rfl, k _ _ _ _ h1 e1 r1⟩
def dNotT (t : TTd) : TTd := fun ρ P => t ρ fun b ρ1 => P (!b) ρ1
def dAndT (t u : TTd) : TTd := fun ρ P => t ρ fun b ρ1 => if b = true then u ρ1 P else P false ρ1
def dOrT (t u : TTd) : TTd := fun ρ P => t ρ fun b ρ1 => if b = true then P true ρ1 else u ρ1 P
theorem pt_notD {t : TTd} (h : PT X a (liftT X.K t)) : PT X (.UnaryOp .Not a pos) (liftT X.K (dNotT t)) :=
  ptImp (pt_not h) fun σ H Q ⟨F, G, ρ, P, r, h, k⟩ => goT r h fun b ρ1 G1 H1 h1 e1 r1 => k _ _ _ _ h1 e1 r1
theorem pwd_and1 {t : TTd} (h : PT X a (liftT X.K t)) : PW X (.BoolOp .And [a] pos) (liftT X.K t) := pw_and1 h
theorem pwd_or1 {t : TTd} (h : PT X a (liftT X.K t)) : PW X (.BoolOp .Or [a] pos) (liftT X.K t) := pw_or1 h
theorem pwd_and {t u : TTd} {rest : List Expr} (h : PT X a (liftT X.K t)) (h2 : PW X (.BoolOp .And (b :: rest) pos) (liftT X.K u)) : PW X (.BoolOp .And (a :: b :: rest) pos) (liftT X.K (dAndT t u)) :=
  pwImp (pw_and h h2) fun σ H Q ⟨F, G, ρ, P, r, h, k⟩ => goT r h fun b ρ1 G1 H1 h1 e1 r1 => by
    cases b with
    | true => exact goT r1 h1 fun b ρ2 G2 H2 h2 e2 r2 => k _ _ _ _ h2 (e1.tr e2) r2
    | false => exact k _ _ _ _ h1 e1 r1
theorem pwd_or {t u : TTd} {rest : List Expr} (h : PT X a (liftT X.K t)) (h2 : PW X (.BoolOp .Or (b :: rest) pos) (liftT X.K u)) : PW X (.BoolOp .Or (a :: b :: rest) pos) (liftT X.K (dOrT t u)) :=
  pwImp (pw_or h h2) fun σ H Q ⟨F, G, ρ, P, r, h, k⟩ => goT r h fun b ρ1 G1 H1 h1 e1 r1 => by
    cases b with
    | true => exact k _ _ _ _ h1 e1 r1
    | false => exact goT r1 h1 fun b ρ2 G2 H2 h2 e2 r2 => k _ _ _ _ h2 (e1.tr e2) r2
/-- .. as values -/
def dAndV (ta tb : ET) : ET := fun ρ P => ta ρ fun x ρ1 => ∃ c, x = .d (.bl c) ∧ if c = true then tb ρ1 P else P (.d (.bl false)) ρ1
def dOrV (ta tb : ET) : ET := fun ρ P => ta ρ fun x ρ1 => ∃ c, x = .d (.bl c) ∧ if c = true then P (.d (.bl true)) ρ1 else tb ρ1 P
def dNotV (ta : ET) : ET := fun ρ P => ta ρ fun x ρ1 => ∃ c, x = .d (.bl c) ∧ P (.d (.bl (!c))) ρ1
theorem pd_one {op} (h : PE X a (lift X.K te)) : PE X (.BoolOp op [a] pos) (lift X.K te) := pe_one h
theorem lift.mono {Q Q' : VK} (h : lift K t σ H Q) (k : ∀ v H', Q v H' → Q' v H') : lift K t σ H Q' := by
  obtain ⟨F, G, ρ, P, r, h, q⟩ := h
  exact ⟨F, G, ρ, P, r, h, fun x ρ' v G' H' p e r' => k _ _ (q x ρ' v G' H' p e r')⟩
theorem goE {P : Sl → Env' → Prop} {Q : VK} (r : R K F G H σ ρ) (h : t ρ P) (k : ∀ x ρ' v G' H', P x ρ' → Ex G G' → R K F G' H' (some v :: σ) (x :: ρ') → Q v H') : lift K t σ H Q := ⟨F, G, ρ, P, r, h, k⟩
theorem pd_and {rest : List Expr} (ha : PE X a (lift X.K ta)) (hb : PE X (.BoolOp .And (b :: rest) pos) (lift X.K tb)) : PE X (.BoolOp .And (a :: b :: rest) pos) (lift X.K (dAndV ta tb)) :=
  peImp (pe_and ha hb) fun σ H Q ⟨F, G, ρ, P, r, h, k⟩ => goB r h fun b ρ1 G1 H1 h1 e1 r1 => ⟨b, rfl, by
    cases b with
    | true => exact goE r1 h1 fun x ρ2 v G2 H2 h2 e2 r2 => k _ _ _ _ _ h2 (e1.tr e2) r2
    | false => exact k _ _ _ _ _ h1 e1 (r1.push (.bl false))⟩
theorem pd_or {rest : List Expr} (ha : PE X a (lift X.K ta)) (hb : PE X (.BoolOp .Or (b :: rest) pos) (lift X.K tb)) : PE X (.BoolOp .Or (a :: b :: rest) pos) (lift X.K (dOrV ta tb)) :=
  peImp (pe_or ha hb) fun σ H Q ⟨F, G, ρ, P, r, h, k⟩ => goB r h fun b ρ1 G1 H1 h1 e1 r1 => ⟨b, rfl, by
    cases b with
    | true => exact k _ _ _ _ _ h1 e1 (r1.push (.bl true))
    | false => exact goE r1 h1 fun x ρ2 v G2 H2 h2 e2 r2 => k _ _ _ _ _ h2 (e1.tr e2) r2⟩
theorem pd_not (ha : PE X a (lift X.K ta)) : PE X (.UnaryOp .Not a pos) (lift X.K (dNotV ta)) :=
  peImp (pe_not ha) fun σ H Q ⟨F, G, ρ, P, r, h, k⟩ => goB r h fun b ρ1 G1 H1 h1 e1 r1 => ⟨b, rfl, k _ _ _ _ _ h1 e1 (r1.push (.bl _))⟩
def dIf (t : TTd) (ta tb : ET) : ET := fun ρ P => t ρ fun c ρ1 => if c = true then ta ρ1 P else tb ρ1 P
theorem pd_if {c : Expr} {t : TTd} (hc : PT X c (liftT X.K t)) (ha : PE X a (lift X.K ta)) (hb : PE X b (lift X.K tb)) : PE X (.IfExp c a b pos) (lift X.K (dIf t ta tb)) :=
  peImp (pe_ifExp hc ha hb) fun σ H Q ⟨F, G, ρ, P, r, h, k⟩ => goT r h fun b ρ1 G1 H1 h1 e1 r1 => by
    cases b with
    | true => exact goE r1 h1 fun x ρ2 v G2 H2 h2 e2 r2 => k _ _ _ _ _ h2 (e1.tr e2) r2
    | false => exact goE r1 h1 fun x ρ2 v G2 H2 h2 e2 r2 => k _ _ _ _ _ h2 (e1.tr e2) r2

abbrev RCd := List D → (Sl → Prop) → Prop
def CallD (X : Cx) (f : Value) (rc : RCd) : Prop := ∃ r : List V → Hp → VK → Prop, CallR X f r ∧ ∀ {F : Fr} {G H : Hp} {σ : St} {ρ : Env'} {vs : List V} {xs : List D} {P : Sl → Prop} {Q : VK},
  R X.K F G H σ ρ → DdL X.K G vs xs → rc xs P → (∀ s v G' H', P s → Ex G G' → R X.K F G' H' (some v :: σ) (s :: ρ) → Q v H') → r vs H Q
def dCall (rc : RCd) (ta : AT) : ET := fun ρ P => ta ρ fun xs ρ1 => rc xs fun z => P z ρ1
theorem pd_callB {x : Str} {es : List Expr} {p : Pos} {id : String} {rc : RCd} {ta : AT} (hc : CallD X (.builtin id) rc) (hg : Gl X x) (hm : X.mg x = none) (hv : bootBuiltins x = some (.builtin id)) (ha : PA X (e :: es) (liftA X.K ta)) (hn : x ≠ "__name__" := by decide) (hdb : (x == ("__debug__" : Str)) = false := by decide)
    (he : starEach (e :: es) X.env = (false, eval e X.env) :: starEach es X.env := by rfl) (hpl : (backTo pos (starEach es X.env)).any (·.1) = false := by rfl) : PE X (.Call (.Name x p) (e :: es) [] pos) (lift X.K (dCall rc ta)) := by
  obtain ⟨r, h1, h2⟩ := hc
  exact peImp (pe_callB h1 hg hm hv ha hn hdb he hpl) fun σ H Q ⟨F, G, ρ, P, r, h, k⟩ => goA r h fun xs ρ1 vs G1 H1 q e1 r1 d1 => h2 r1 d1 q fun s v G' H' p e2 r2 => k _ _ _ _ _ p (e1.tr e2) r2
theorem pd_callTy {x : Str} {es : List Expr} {p : Pos} {T : String} {rc : RCd} {ta : AT} (hc : CallD X (.type T) rc) (hg : Gl X x) (hm : X.mg x = none) (hv : bootBuiltins x = some (.type T)) (ha : PA X (e :: es) (liftA X.K ta)) (hn : x ≠ "__name__" := by decide) (hdb : (x == ("__debug__" : Str)) = false := by decide)
    (he : starEach (e :: es) X.env = (false, eval e X.env) :: starEach es X.env := by rfl) (hpl : (backTo pos (starEach es X.env)).any (·.1) = false := by rfl) : PE X (.Call (.Name x p) (e :: es) [] pos) (lift X.K (dCall rc ta)) := by
  obtain ⟨r, h1, h2⟩ := hc
  exact peImp (pe_callTy h1 hg hm hv ha hn hdb he hpl) fun σ H Q ⟨F, G, ρ, P, r, h, k⟩ => goA r h fun xs ρ1 vs G1 H1 q e1 r1 d1 => h2 r1 d1 q fun s v G' H' p e2 r2 => k _ _ _ _ _ p (e1.tr e2) r2
end
end Fl
namespace Fl
open PySem L2

/-- None, bools, ints, texts, and lists and tuples of such, at most n deep -/
def ok : Nat → D → Bool
  | _, .non => true
  | _, .bl _ => true
  | _, .int _ => true
  | _, .str _ => true
  | 0, _ => false
  | n + 1, .lst xs => xs.all (ok n)
  | n + 1, .tup xs => xs.all (ok n)
  | _ + 1, _ => false
mutual
def toPy : D → PyData
  | .non => .none
  | .bl b => .bool b
  | .int i => .int i
  | .str s => .str s
  | .lst xs => .list (toPys xs)
  | .tup xs => .tuple (toPys xs)
  | .dic _ _ => .none
  | .ins _ _ _ => .none
def toPys : List D → List PyData
  | [] => []
  | x :: xs => toPy x :: toPys xs
end
theorem ok_mono : ∀ {n m : Nat} {x : D}, n ≤ m → ok n x = true → ok m x = true
  | n, m, .non, _, _ => by cases m <;> rfl
  | n, m, .bl _, _, _ => by cases m <;> rfl
  | n, m, .int _, _, _ => by cases m <;> rfl
  | n, m, .str _, _, _ => by cases m <;> rfl
  | 0, _, .lst _, _, h => by cases h
  | 0, _, .tup _, _, h => by cases h
  | n + 1, 0, .lst _, q, _ => by omega
  | n + 1, 0, .tup _, q, _ => by omega
  | n + 1, m + 1, .lst xs, q, h => List.all_eq_true.mpr fun y hy => ok_mono (by omega) (List.all_eq_true.mp (show xs.all (ok n) = true from h) y hy)
  | n + 1, m + 1, .tup xs, q, h => List.all_eq_true.mpr fun y hy => ok_mono (by omega) (List.all_eq_true.mp (show xs.all (ok n) = true from h) y hy)
  | 0, _, .dic _ _, _, h => by cases h
  | _ + 1, _, .dic _ _, _, h => by cases h
  | 0, _, .ins _ _ _, _, h => by cases h
  | _ + 1, _, .ins _ _ _, _, h => by cases h
section
variable {K : PySem.W.Frag} {G H : Hp}
mutual
theorem Dd.py (e : Ex G H) : ∀ {n : Nat} {v : V} {x : D}, Dd K G v x → ok n x = true → Dp K H v (toPy x) ∧ PyData.canLay0 (toPy x) = true ∧ (toPy x).depth ≤ n
  | n, _, _, .non, h => ⟨.non, rfl, Nat.zero_le _⟩
  | n, _, _, .bl b, h => ⟨.bl b, rfl, Nat.zero_le _⟩
  | n, _, _, .int i, h => ⟨.int i, rfl, Nat.zero_le _⟩
  | n, _, _, .str x q, h => ⟨.str x, (Bool.and_eq_true _ _ ▸ (show (PyData.strOk x && decide (x.length ≤ 1000000)) = true from q)).1, Nat.zero_le _⟩
  | 0, _, _, .lst _ _, h => by cases h
  | 0, _, _, .tup _ _, h => by cases h
  | n + 1, _, .lst xs, .lst g t, h => by
    obtain ⟨a, b, c⟩ := DdL.py e t (show xs.all (ok n) = true from h)
    exact ⟨.lst (.of (e _ _ g)) a, b, Nat.succ_le_succ c⟩
  | n + 1, _, .tup xs, .tup g t, h => by
    obtain ⟨a, b, c⟩ := DdL.py e t (show xs.all (ok n) = true from h)
    exact ⟨.tup (sqT_ex e g) a, b, Nat.succ_le_succ c⟩
  | 0, _, _, .dic _ _ _ _, h => by cases h
  | _ + 1, _, _, .dic _ _ _ _, h => by cases h
  | 0, _, _, .ins _ _ _ _, h => by cases h
  | _ + 1, _, _, .ins _ _ _ _, h => by cases h
theorem DdL.py (e : Ex G H) : ∀ {n : Nat} {us : List V} {xs : List D}, DdL K G us xs → xs.all (ok n) = true → DpAll K H us (toPys xs) ∧ PyData.canLayAll0 (toPys xs) = true ∧ PyData.depthAll (toPys xs) ≤ n
  | n, _, _, .nil, _ => ⟨.nil, rfl, Nat.zero_le _⟩
  | n, _, _, .cons a t, h => by
    rw [List.all_cons, Bool.and_eq_true] at h
    obtain ⟨p1, p2, p3⟩ := Dd.py e a h.1
    obtain ⟨q1, q2, q3⟩ := DdL.py e t h.2
    refine ⟨.cons p1 q1, ?_, ?_⟩
    · show (PyData.canLay0 _ && PyData.canLayAll0 _) = true
      rw [p2, q2]; rfl
    · show max _ _ ≤ n
      omega
end
end
theorem shaped_of {x : D} {n : Nat} (h1 : PyData.canLay0 (toPy x) = true) (h2 : (toPy x).depth ≤ n) (h : n ≤ 64) : SeqAt.shaped (toPy x) = true := by
  unfold SeqAt.shaped
  rw [h1, Bool.true_and]
  exact decide_eq_true (Nat.le_trans h2 h)
/-- == of data -/
def eqD (x y : D) : Bool := PyData.eqv (toPy x) (toPy y)

section
variable {X : Cx} {k : Nat}
theorem OpR.ofD {f : Value → Value → Sem Value} {r : R2} {ro : RO} (h : OpR X f r) (g : ∀ {F : Fr} {G H : Hp} {σ : St} {ρ : Env'} {vx vy : V} {x y : D} {P : Sl → Prop} {Q : VK},
    R X.K F G H σ ρ → Dd X.K G vx x → Dd X.K G vy y → ro x y P → (∀ s v G' H', P s → Ex G G' → R X.K F G' H' (some v :: σ) (s :: ρ) → Q v H') → r vx vy H Q) : OpD X f ro := ⟨r, h, g⟩

def dAdd : RO := fun x y P => match x, y with
  | .int i, .int j => P (.d (.int (i + j)))
  | .str a, .str b => a.length + b.length ≤ 100000 ∧ P (.d (.str (a ++ b)))
  | .lst a, .lst b => a.length + b.length ≤ 100000 ∧ P (.ol (a ++ b))
  | .tup a, .tup b => a.length + b.length ≤ 100000 ∧ P (.d (.tup (a ++ b)))
  | _, _ => False
theorem sOk_of {x : Str} (h1 : PyData.strOk x = true) (h2 : x.length ≤ 1000000) : sOk x = true := by
  unfold sOk; rw [h1, decide_eq_true h2]; rfl
theorem sOk_1 {x : Str} (h : sOk x = true) : PyData.strOk x = true := by
  unfold sOk at h; rw [Bool.and_eq_true] at h; exact h.1
theorem sOk_2 {x : Str} (h : sOk x = true) : x.length ≤ 1000000 := by
  unfold sOk at h; rw [Bool.and_eq_true] at h; exact of_decide_eq_true h.2
theorem app_len (a b : Str) : (a ++ b).length = a.length + b.length := by
  show (a.cps ++ b.cps).size = _
  rw [Array.size_append]; rfl
theorem sOk_app {a b : Str} (h1 : sOk a = true) (h2 : sOk b = true) (hl : a.length + b.length ≤ 100000) : sOk (a ++ b) = true := by
  refine sOk_of ?_ (by rw [app_len]; omega)
  show (a.cps ++ b.cps).all _ = true
  rw [Array.all_append]
  exact Bool.and_eq_true _ _ ▸ ⟨sOk_1 h1, sOk_1 h2⟩
theorem od_add : OpD X (binaryOp .Add) dAdd := by
  refine OpR.ofD (OpR.or (OpR.or op_add op_add_str) (OpR.or op_cat op_catA)) ?_
  intro F G H σ ρ vx vy x y P Q r hx hy h k
  cases hx with
  | int i =>
    cases hy with
    | int j => exact .inl (.inl ⟨i, j, rfl, rfl, k _ _ _ _ h .rfl (r.push (.int _))⟩)
    | _ => exact h.elim
  | str a oa =>
    cases hy with
    | str b ob => exact .inl (.inr ⟨a, b, rfl, rfl, Nat.le_trans h.1 (by decide), k _ _ _ _ h.2 .rfl (r.push (.str _ (sOk_app oa ob h.1)))⟩)
    | _ => exact h.elim
  | lst g t =>
    cases hy with
    | lst g2 t2 => exact .inr (.inl ⟨_, _, _, _, rfl, rfl, r.gh _ _ g, r.gh _ _ g2, by rw [t.len, t2.len]; exact Nat.le_trans h.1 (by decide), fun p hp => k _ _ _ _ h.2 .rfl (r.lst hp (t.app t2))⟩)
    | _ => exact h.elim
  | @tup a us xs g t =>
    cases hy with
    | @tup b ws ys g2 t2 =>
      refine .inr (.inr ⟨_, _, _, _, rfl, rfl, sqT_ex r.gh g, sqT_ex r.gh g2, by rw [t.len, t2.len]; exact Nat.le_trans h.1 (by decide), fun e => ?_, fun _ e => ?_, fun _ _ p hp => ?_⟩)
      · subst e; cases t
        exact k _ _ _ _ h.2 .rfl (r.push (.tup g2 t2))
      · subst e; cases t2
        exact k _ _ _ _ h.2 .rfl (r.push (.tup g (by rw [List.append_nil]; exact t)))
      · obtain ⟨e2, r2, d2⟩ := r.tup hp (t.app t2)
        exact k _ _ _ _ h.2 e2 (r2.push d2)
    | _ => exact h.elim
  | non => exact h.elim
  | bl => exact h.elim
  | dic => exact h.elim
  | ins => exact h.elim
def dSub : RO := fun x y P => match x, y with
  | .int i, .int j => P (.d (.int (i - j)))
  | _, _ => False
theorem od_sub : OpD X (binaryOp .Sub) dSub := by
  refine OpR.ofD op_sub ?_
  intro F G H σ ρ vx vy x y P Q r hx hy h k
  cases hx with
  | int i =>
    cases hy with
    | int j => exact ⟨i, j, rfl, rfl, k _ _ _ _ h .rfl (r.push (.int _))⟩
    | _ => exact h.elim
  | _ => exact h.elim
/-- a list so many times -/
def reps (xs : List D) (k : Int) : List D := (List.replicate k.toNat xs).flatten
def dMul : RO := fun x y P => match x, y with
  | .int i, .int j => (-1000000000000 < i ∧ i < 1000000000000) ∧ P (.d (.int (i * j)))
  | .lst a, .int j => (0 ≤ j ∧ j ≤ 1000 ∧ a.length ≤ 1000) ∧ P (.ol (reps a j))
  | _, _ => False
theorem DdL.reps {K : PySem.W.Frag} {G : Hp} {us : List V} {xs : List D} (t : DdL K G us xs) (n : Nat) : DdL K G (List.replicate n us).flatten (List.replicate n xs).flatten := by
  induction n with
  | zero => exact .nil
  | succ n ih => rw [List.replicate_succ, List.replicate_succ, List.flatten_cons, List.flatten_cons]; exact t.app ih
theorem od_mul : OpD X (binaryOp .Mult) dMul := by
  refine OpR.ofD (OpR.or op_mul op_rep) ?_
  intro F G H σ ρ vx vy x y P Q r hx hy h k
  cases hx with
  | int i =>
    cases hy with
    | int j => exact .inl ⟨i, j, rfl, rfl, .inl ⟨by have := h.1.1; omega, by have := h.1.2; omega⟩, k _ _ _ _ h.2 .rfl (r.push (.int _))⟩
    | _ => exact h.elim
  | lst g t =>
    cases hy with
    | int j =>
      obtain ⟨⟨h0, h1, h2⟩, h⟩ := h
      refine .inr ⟨_, j, _, rfl, rfl, r.gh _ _ g, by omega, by omega, ?_, fun p hp => k _ _ _ _ h .rfl (r.lst hp (t.reps _))⟩
      rw [t.len]
      exact Nat.le_trans (Nat.mul_le_mul h2 (show j.toNat ≤ 1000 by omega)) (by decide)
    | _ => exact h.elim
  | _ => exact h.elim
def dMod : RO := fun x y P => match x, y with
  | .int i, .int j => 0 < j ∧ P (.d (.int (i % j)))
  | _, _ => False
theorem od_mod : OpD X (binaryOp .Mod) dMod := by
  refine OpR.ofD op_mod ?_
  intro F G H σ ρ vx vy x y P Q r hx hy h k
  cases hx with
  | int i =>
    cases hy with
    | int j => exact ⟨i, j, rfl, rfl, h.1, k _ _ _ _ h.2 .rfl (r.push (.int _))⟩
    | _ => exact h.elim
  | _ => exact h.elim
def dFdv : RO := fun x y P => match x, y with
  | .int i, .int j => (0 < j ∧ j < 1000000000) ∧ P (.d (.int (i.fdiv j)))
  | _, _ => False
theorem od_fdv : OpD X (binaryOp .FloorDiv) dFdv := by
  refine OpR.ofD op_fdivN ?_
  intro F G H σ ρ vx vy x y P Q r hx hy h k
  cases hx with
  | int i =>
    cases hy with
    | int j => exact ⟨i, j, rfl, rfl, ⟨by have := h.1.1; omega, by have := h.1.1; have := h.1.2; omega⟩, k _ _ _ _ h.2 .rfl (r.push (.int _))⟩
    | _ => exact h.elim
  | _ => exact h.elim

def dRel (c : Int → Int → Bool) : RO := fun x y P => match x, y with
  | .int i, .int j => P (.d (.bl (c i j)))
  | _, _ => False
theorem od_rel {op : CmpOp} {c : Int → Int → Bool} (h0 : OpR X (compareOp op) (rI0 fun i j => .bl (c i j))) : OpD X (compareOp op) (dRel c) := by
  refine OpR.ofD h0 ?_
  intro F G H σ ρ vx vy x y P Q r hx hy h k
  cases hx with
  | int i =>
    cases hy with
    | int j => exact ⟨i, j, rfl, rfl, k _ _ _ _ h .rfl (r.push (.bl _))⟩
    | _ => exact h.elim
  | _ => exact h.elim
abbrev dLt : RO := dRel fun i j => decide (i < j)
abbrev dLe : RO := dRel fun i j => decide (i ≤ j)
abbrev dGt : RO := dRel fun i j => decide (j < i)
abbrev dGe : RO := dRel fun i j => decide (j ≤ i)
theorem od_lt : OpD X (compareOp .Lt) dLt := od_rel op_lt
theorem od_le : OpD X (compareOp .LtE) dLe := od_rel op_le
theorem od_gt : OpD X (compareOp .Gt) dGt := od_rel op_gt
theorem od_ge : OpD X (compareOp .GtE) dGe := od_rel op_ge
def dEq : RO := fun x y P => ok 60 x = true ∧ ok 60 y = true ∧ P (.d (.bl (eqD x y)))
def dNe : RO := fun x y P => ok 60 x = true ∧ ok 60 y = true ∧ P (.d (.bl (!eqD x y)))
theorem od_eq (hr : Room k X.A) : OpD X (compareOp .Eq) dEq := by
  refine OpR.ofD (op_eqD hr.units) ?_
  intro F G H σ ρ vx vy x y P Q r hx hy ⟨h1, h2, h⟩ k
  obtain ⟨p1, p2, p3⟩ := hx.py r.gh h1
  obtain ⟨q1, q2, q3⟩ := hy.py r.gh h2
  exact ⟨_, _, p1, q1, shaped_of p2 p3 (by decide), shaped_of q2 q3 (by decide), k _ _ _ _ h .rfl (r.push (.bl _))⟩
theorem od_ne (hr : Room k X.A) : OpD X (compareOp .NotEq) dNe := by
  refine OpR.ofD (op_neD hr.units) ?_
  intro F G H σ ρ vx vy x y P Q r hx hy ⟨h1, h2, h⟩ k
  obtain ⟨p1, p2, p3⟩ := hx.py r.gh h1
  obtain ⟨q1, q2, q3⟩ := hy.py r.gh h2
  exact ⟨_, _, p1, q1, shaped_of p2 p3 (by decide), shaped_of q2 q3 (by decide), k _ _ _ _ h .rfl (r.push (.bl _))⟩
def isNon : D → Bool
  | .non => true
  | _ => false
theorem Dd.isNon {K : PySem.W.Frag} {G : Hp} {v : V} {x : D} (h : Dd K G v x) : decide (v = .non) = isNon x := by cases h <;> rfl
def dIsN : RO := fun x y P => y = .non ∧ P (.d (.bl (isNon x)))
def dNotN : RO := fun x y P => y = .non ∧ P (.d (.bl (!isNon x)))
theorem od_isN : OpD X (compareOp .Is) dIsN := by
  refine OpR.ofD op_isN ?_
  intro F G H σ ρ vx vy x y P Q r hx hy ⟨h1, h⟩ k
  subst h1; cases hy
  exact ⟨rfl, by rw [hx.isNon]; exact k _ _ _ _ h .rfl (r.push (.bl _))⟩
theorem od_notN : OpD X (compareOp .IsNot) dNotN := by
  refine OpR.ofD op_notN ?_
  intro F G H σ ρ vx vy x y P Q r hx hy ⟨h1, h⟩ k
  subst h1; cases hy
  exact ⟨rfl, by rw [hx.isNon]; exact k _ _ _ _ h .rfl (r.push (.bl _))⟩
/-- x in a list or tuple of flat items; a text of one sign in a text -/
def flat : D → Bool
  | .non => true
  | .bl _ => true
  | .int _ => true
  | .str _ => true
  | _ => false
def inD (x : D) (ys : List D) : Bool := ys.any fun y => eqD y x
theorem Dd.flatV {K : PySem.W.Frag} {G : Hp} {v : V} {x : D} (h : Dd K G v x) (f : flat x = true) : flatV v = true := by cases h <;> first | rfl | cases f
theorem DdL.flatV {K : PySem.W.Frag} {G : Hp} : ∀ {us : List V} {xs : List D}, DdL K G us xs → xs.all flat = true → us.all L2.flatV = true
  | _, _, .nil, _ => rfl
  | _, _, .cons a t, h => by
    rw [List.all_cons, Bool.and_eq_true] at h
    rw [List.all_cons, a.flatV h.1, DdL.flatV t h.2]; rfl
theorem Dd.eqV {K : PySem.W.Frag} {G : Hp} {v u : V} {x y : D} (hv : Dd K G v x) (hu : Dd K G u y) (f1 : flat x = true) (f2 : flat y = true) : eqV v u = eqD x y := by
  cases hv <;> first | exact Bool.noConfusion (show (false = true) from f1) | (cases hu <;> first | exact Bool.noConfusion (show (false = true) from f2) | rfl)
theorem DdL.inV {K : PySem.W.Frag} {G : Hp} {v : V} {x : D} (hv : Dd K G v x) (f : flat x = true) : ∀ {us : List V} {xs : List D}, DdL K G us xs → xs.all flat = true → inV v us = inD x xs
  | _, _, .nil, _ => rfl
  | _, _, .cons a t, h => by
    rw [List.all_cons, Bool.and_eq_true] at h
    have ih := DdL.inV hv f t h.2
    unfold L2.inV inD at ih ⊢
    rw [List.any_cons, List.any_cons, a.eqV hv h.1 f, ih]
def sign1 (x : Str) : Option Nat := match x.cps.toList with
  | [c] => some c
  | _ => none
theorem sign1_of {x : Str} {c : Nat} (h : sign1 x = some c) : x = ⟨#[c]⟩ := by
  obtain ⟨⟨l⟩⟩ := x
  unfold sign1 at h
  match l, h with
  | [c'], h => cases h; rfl
def inSeq (x : D) : D → Option Bool
  | .lst ys => if flat x && ys.all flat then some (inD x ys) else none
  | .tup ys => if flat x && ys.all flat then some (inD x ys) else none
  | .str z => match x with
    | .str y => (sign1 y).map fun c => decide (c ∈ z.cps.toList)
    | _ => none
  | _ => none
def dIn : RO := fun x y P => ∃ b, inSeq x y = some b ∧ P (.d (.bl b))
def dNotIn : RO := fun x y P => ∃ b, inSeq x y = some b ∧ P (.d (.bl (!b)))
theorem inGo {F : Fr} {G H : Hp} {σ : St} {ρ : Env'} {vx vy : V} {x y : D} {Q : VK} {b neg : Bool} (r : R X.K F G H σ ρ) (hx : Dd X.K G vx x) (hy : Dd X.K G vy y) (h : inSeq x y = some b) (k : Q (.bl (if neg then !b else b)) H) :
    rIn X.K neg vx vy H Q ∨ ∃ (c : Nat) (z : Str), vx = .str ⟨#[c]⟩ ∧ vy = .str z ∧ Q (.bl (if neg then !decide (c ∈ z.cps.toList) else decide (c ∈ z.cps.toList))) H := by
  cases hy with
  | @lst _ _ ys g t =>
    have h : (if flat x && ys.all flat then some (inD x ys) else none) = some b := h
    split at h
    · rename_i c
      rw [Bool.and_eq_true] at c
      cases h
      exact .inl ⟨_, _, rfl, .inl (.of (r.gh _ _ g)), hx.flatV c.1, t.flatV c.2, by rw [t.inV hx c.1 c.2]; exact k⟩
    · cases h
  | @tup _ _ ys g t =>
    have h : (if flat x && ys.all flat then some (inD x ys) else none) = some b := h
    split at h
    · rename_i c
      rw [Bool.and_eq_true] at c
      cases h
      exact .inl ⟨_, _, rfl, .inr (sqT_ex r.gh g), hx.flatV c.1, t.flatV c.2, by rw [t.inV hx c.1 c.2]; exact k⟩
    · cases h
  | str z oz =>
    cases hx with
    | str y oy =>
      have h : (sign1 y).map (fun c => decide (c ∈ z.cps.toList)) = some b := h
      cases e : sign1 y with
      | none => rw [e] at h; cases h
      | some c =>
        rw [e] at h
        cases h
        rw [sign1_of e]
        exact .inr ⟨c, z, rfl, rfl, k⟩
    | _ => cases h
  | non => cases h
  | bl => cases h
  | int => cases h
  | dic => cases h
  | ins => cases h
theorem od_in : OpD X (compareOp .In) dIn := by
  refine OpR.ofD (OpR.or op_in_seq op_in_sign) ?_
  intro F G H σ ρ vx vy x y P Q r hx hy ⟨b, h1, h⟩ k
  exact inGo (neg := false) r hx hy h1 (k _ _ _ _ h .rfl (r.push (.bl _)))
theorem od_notIn : OpD X (compareOp .NotIn) dNotIn := by
  refine OpR.ofD (OpR.or op_notIn_seq op_notIn_sign) ?_
  intro F G H σ ρ vx vy x y P Q r hx hy ⟨b, h1, h⟩ k
  exact inGo (neg := true) r hx hy h1 (k _ _ _ _ h .rfl (r.push (.bl _)))
end
end Fl
namespace Fl
open PySem L2

/-- what is wanted behind a statement -/
structure DE where
  nx : Env' → Prop
  rt : Sl → Prop
  bk : Env' → Prop := fun _ => False
  ct : Env' → Prop := fun _ => False
abbrev ST := DE → Env' → Prop
abbrev GT := Sl → Env' → (Env' → Prop) → Prop

structure Wants (K : PySem.W.Frag) (F : Fr) (G : Hp) (D : Ends) (E : DE) : Prop where
  nx : ∀ σ ρ G' H', E.nx ρ → Ex G G' → R K F G' H' σ ρ → D.nx σ H'
  bk : ∀ σ ρ G' H', E.bk ρ → Ex G G' → R K F G' H' σ ρ → D.bk σ H'
  ct : ∀ σ ρ G' H', E.ct ρ → Ex G G' → R K F G' H' σ ρ → D.ct σ H'
  rt : ∀ r v σ ρ G' H', E.rt r → Ex G G' → R K F G' H' (some v :: σ) (r :: ρ) → D.rt v H'
def liftS (K : PySem.W.Frag) (t : ST) : TS := fun D σ H => ∃ F G ρ E, R K F G H σ ρ ∧ t E ρ ∧ Wants K F G D E
theorem Wants.up {K : PySem.W.Frag} {F : Fr} {G G' : Hp} {D : Ends} {E : DE} (w : Wants K F G D E) (e : Ex G G') : Wants K F G' D E :=
  ⟨fun σ ρ G2 H2 h x r => w.nx σ ρ G2 H2 h (e.tr x) r, fun σ ρ G2 H2 h x r => w.bk σ ρ G2 H2 h (e.tr x) r, fun σ ρ G2 H2 h x r => w.ct σ ρ G2 H2 h (e.tr x) r, fun s v σ ρ G2 H2 h x r => w.rt s v σ ρ G2 H2 h (e.tr x) r⟩

section
variable {X : Cx} {K : PySem.W.Frag} {F : Fr} {G G' H H' : Hp} {σ : St} {ρ : Env'} {pos : Pos} {e : Expr} {st : Stmt} {rest : List Stmt} {t u : ST} {te : ET} {tc : TTd}
theorem psImp {t t' : TS} (h : PS X st t) (i : ∀ D σ H, t' D σ H → t D σ H) : PS X st t' := ⟨fun pins s σ H D I q => h.run pins s σ H D I (i _ _ _ q)⟩
theorem pssImp {t t' : TS} {st : List Stmt} (h : PSs X st t) (i : ∀ D σ H, t' D σ H → t D σ H) : PSs X st t' := ⟨fun pins s σ H D I q => h.run pins s σ H D I (i _ _ _ q)⟩
theorem pgImp {tg : Expr} {t t' : TG} (h : PG X tg t) (i : ∀ v σ H Q, t' v σ H Q → t v σ H Q) : PG X tg t' := ⟨fun pins s σ H v u Q I r q => h.run pins s σ H v u Q I r (i _ _ _ _ q)⟩
theorem piImp {tg : Expr} {t t' : TI} (h : PI X tg e t) (i : ∀ σ H Q, t' σ H Q → t σ H Q) : PI X tg e t' := ⟨fun pins s σ H Q I q => h.run pins s σ H Q I (i _ _ _ q)⟩

def dNext : ST := fun E ρ => E.nx ρ
def dSeq (t u : ST) : ST := fun E ρ => t { E with nx := u E } ρ
theorem liftS_seq {D : Ends} {E : DE} (w : Wants K F G D E) : Wants K F G { D with nx := liftS K u D } { E with nx := u E } :=
  ⟨fun σ ρ G' H' h e r => ⟨F, G', ρ, E, r, h, w.up e⟩, w.bk, w.ct, w.rt⟩
theorem dss_nil : PSs X [] (liftS X.K dNext) := pssImp pss_nil fun D σ H ⟨F, G, ρ, E, r, h, w⟩ => w.nx _ _ _ _ h .rfl r
theorem dss_cons (h1 : PS X st (liftS X.K t)) (h2 : PSs X rest (liftS X.K u)) : PSs X (st :: rest) (liftS X.K (dSeq t u)) :=
  pssImp (pss_cons h1 h2) fun D σ H ⟨F, G, ρ, E, r, h, w⟩ => ⟨F, G, ρ, _, r, h, liftS_seq w⟩
theorem dss_one (h1 : PS X st (liftS X.K t)) : PSs X [st] (liftS X.K t) := pss_one h1
def dNever : ST := fun _ _ => False
theorem ds_never : PS X st (liftS X.K dNever) := psImp ps_never fun D σ H ⟨F, G, ρ, E, r, h, w⟩ => h
theorem dss_never {sts : List Stmt} : PSs X sts (liftS X.K dNever) := pssImp pss_never fun D σ H ⟨F, G, ρ, E, r, h, w⟩ => h
theorem ds_pass : PS X (.Pass pos) (liftS X.K dNext) := psImp ps_pass fun D σ H ⟨F, G, ρ, E, r, h, w⟩ => w.nx _ _ _ _ h .rfl r
def dBreak : ST := fun E ρ => E.bk ρ
def dCont : ST := fun E ρ => E.ct ρ
theorem ds_break : PS X (.Break pos) (liftS X.K dBreak) := psImp ps_break fun D σ H ⟨F, G, ρ, E, r, h, w⟩ => w.bk _ _ _ _ h .rfl r
theorem ds_continue : PS X (.Continue pos) (liftS X.K dCont) := psImp ps_continue fun D σ H ⟨F, G, ρ, E, r, h, w⟩ => w.ct _ _ _ _ h .rfl r
def dExpr (te : ET) : ST := fun E ρ => te ρ fun _ ρ1 => E.nx ρ1
theorem ds_expr (he : PE X e (lift X.K te)) (hs : swapsWith e none pos.line X.env = pure false := by rfl) : PS X (.Expr e pos) (liftS X.K (dExpr te)) :=
  psImp (ps_expr he hs) fun D σ H ⟨F, G, ρ, E, r, h, w⟩ => goE r h fun x ρ1 v G1 H1 h1 e1 r1 => w.nx _ _ _ _ h1 e1 r1.pop
def dRet (te : ET) : ST := fun E ρ => te ρ fun s _ => E.rt s
theorem ds_ret (he : PE X e (lift X.K te)) : PS X (.Return (some e) pos) (liftS X.K (dRet te)) :=
  psImp (ps_ret he) fun D σ H ⟨F, G, ρ, E, r, h, w⟩ => goE r h fun x ρ1 v G1 H1 h1 e1 r1 => w.rt _ _ _ _ _ _ h1 e1 r1
def dIfS (c : TTd) (t u : ST) : ST := fun E ρ => c ρ fun b ρ1 => if b = true then t E ρ1 else u E ρ1
theorem ds_if {a b : List Stmt} {c : Expr} (hc : PT X c (liftT X.K tc)) (ha : PSs X a (liftS X.K t)) (hb : PSs X b (liftS X.K u)) : PS X (.If c a b pos) (liftS X.K (dIfS tc t u)) :=
  psImp (ps_if hc ha hb) fun D σ H ⟨F, G, ρ, E, r, h, w⟩ => goT r h fun b ρ1 G1 H1 h1 e1 r1 => by
    cases b with
    | true => exact ⟨F, G1, ρ1, E, r1, h1, w.up e1⟩
    | false => exact ⟨F, G1, ρ1, E, r1, h1, w.up e1⟩

/-- g0, the target's reading below, does what gd says of the data; it stores at the slots is alone -/
structure Tgt (K : PySem.W.Frag) (g0 : TG) (gd : GT) (is : List Nat) : Prop where
  up : ∀ {F : Fr} {G H : Hp} {σ : St} {ρ : Env'} {v : V} {s : Sl} {P : Env' → Prop} {Q : St → Hp → Prop}, R K F G H (some v :: σ) (s :: ρ) → gd s ρ P →
    (∀ σ' ρ' G' H', P ρ' → Ex G G' → R K F G' H' σ' ρ' → (∀ vs, (∀ i ∈ is, i ∈ vs) → wipe σ' vs = wipe σ vs) → Q σ' H') → g0 v σ H Q
def gNm (i : Nat) : GT := fun s ρ P => i < ρ.length ∧ P (ρ.set i s)
theorem wipe_set {σ : St} {i : Nat} {x : Option V} : ∀ {vs : List Nat}, i ∈ vs → wipe (σ.set i x) vs = wipe σ vs
  | v :: vs, h => by
    show (wipe (σ.set i x) vs).set v none = (wipe σ vs).set v none
    by_cases q : i ∈ vs
    · rw [wipe_set q]
    · have e : v = i := by
        rcases List.mem_cons.mp h with h | h
        · exact h.symm
        · exact absurd h q
      subst e
      have key : ∀ {ws : List Nat}, v ∉ ws → wipe (σ.set v x) ws = (wipe σ ws).set v x := by
        intro ws
        induction ws with
        | nil => intro _; rfl
        | cons w ws ih =>
          intro hn
          show (wipe (σ.set v x) ws).set w none = ((wipe σ ws).set w none).set v x
          rw [ih (fun m => hn (List.mem_cons_of_mem _ m)), List.set_comm _ _ (fun e => hn (by rw [e]; exact List.mem_cons_self ..))]
      rw [key q, List.set_set]
theorem tgt_name (i : Nat) : Tgt K (gName i) (gNm i) [i] :=
  ⟨fun {F G H σ ρ v s P Q} r ⟨hi, p⟩ k => k _ _ _ _ p .rfl (r.put i hi) fun vs h => wipe_set (h i (by simp))⟩
/-- several targets -/
structure Tgts (K : PySem.W.Frag) (g0 : TGs) (n : Nat) (gd : List D → Env' → (Env' → Prop) → Prop) (is : List Nat) : Prop where
  up : ∀ {F : Fr} {G H : Hp} {σ : St} {ρ : Env'} {us : List V} {xs : List D} {P : Env' → Prop} {Q : St → Hp → Prop}, R K F G H σ ρ → DdL K G us xs → xs.length = n → gd xs ρ P →
    (∀ σ' ρ' G' H', P ρ' → Ex G G' → R K F G' H' σ' ρ' → (∀ vs, (∀ i ∈ is, i ∈ vs) → wipe σ' vs = wipe σ vs) → Q σ' H') → g0 us σ H Q
def gNil' : List D → Env' → (Env' → Prop) → Prop := fun _ ρ P => P ρ
def gCons' (g : GT) (gs : List D → Env' → (Env' → Prop) → Prop) : List D → Env' → (Env' → Prop) → Prop := fun xs ρ P => match xs with
  | x :: r => g (.d x) ρ fun ρ1 => gs r ρ1 P
  | [] => False
theorem tgts_nil : Tgts K gNil 0 gNil' [] :=
  ⟨fun {F G H σ ρ us xs P Q} r d hl h k => by
    cases d with
    | nil => exact ⟨rfl, k _ _ _ _ h .rfl r fun _ _ => rfl⟩
    | cons _ _ => cases hl⟩
theorem tgts_cons {g0 : TG} {gd : GT} {is js : List Nat} {gs0 : TGs} {n : Nat} {gs : List D → Env' → (Env' → Prop) → Prop} (h1 : Tgt K g0 gd is) (h2 : Tgts K gs0 n gs js) : Tgts K (gCons g0 gs0) (n + 1) (gCons' gd gs) (is ++ js) :=
  ⟨fun {F G H σ ρ us xs P Q} r d hl h k => by
    cases d with
    | nil => cases hl
    | cons a t =>
      refine ⟨_, _, rfl, h1.up (r.push a) h fun σ1 ρ1 G1 H1 p1 e1 r1 w1 => ?_⟩
      exact h2.up r1 (t.ex e1) (by simpa using hl) p1 fun σ2 ρ2 G2 H2 p2 e2 r2 w2 => k _ _ _ _ p2 (e1.tr e2) r2 fun vs hv => (w2 vs fun i hi => hv i (List.mem_append_right _ hi)).trans (w1 vs fun i hi => hv i (List.mem_append_left _ hi))⟩
def gTp (n : Nat) (gs : List D → Env' → (Env' → Prop) → Prop) : GT := fun s ρ P => ∃ xs, s.dat = some (.tup xs) ∧ xs.length = n ∧ gs xs ρ P
theorem tgt_tup {gs0 : TGs} {n : Nat} {gs : List D → Env' → (Env' → Prop) → Prop} {is : List Nat} (h : Tgts K gs0 n gs is) : Tgt K (gTup K n gs0) (gTp n gs) is :=
  ⟨fun {F G H σ ρ v s P Q} r ⟨xs, hs, hl, p⟩ k => by
    obtain ⟨G1, e1, d1, r1⟩ := r.frz hs
    cases d1 with
    | tup g t => exact ⟨_, _, rfl, sqT_ex r1.gh g, by rw [t.len]; exact hl, h.up r1 t hl p fun σ' ρ' G' H' a b c d => k σ' ρ' G' H' a (e1.tr b) c d⟩⟩
def dAsg (te : ET) (gd : GT) : ST := fun E ρ => te ρ fun s ρ1 => gd s ρ1 E.nx
theorem ds_asg {tg : Expr} {g0 : TG} {gd : GT} {is : List Nat} (he : PE X e (lift X.K te)) (hg : PG X tg g0) (h : Tgt X.K g0 gd is) (hs : swapsWithSole [tg] e pos.line X.env = pure false := by rfl) (hw : swappedStores [tg] e X.env = pure none := by rfl)
    (h1 : (assignEach [tg] X.env).map (·.2) = [assign tg X.env] := by rfl) : PS X (.Assign [tg] e pos) (liftS X.K (dAsg te gd)) :=
  psImp (ps_asg he hg hs hw h1) fun D σ H ⟨F, G, ρ, E, r, q, w⟩ => goE r q fun x ρ1 v G1 H1 q1 e1 r1 => h.up r1 q1 fun σ' ρ' G' H' p e2 r2 _ => w.nx _ _ _ _ p (e1.tr e2) r2
theorem ds_set {i : Nat} {x : Str} {pos' : Pos} (hN : X.N.Nodup) (hi : X.N[i]? = some x) (hx : Loc X.env.scope x) (he : PE X e (lift X.K te)) (hs : swapsWith e (some (.Name x pos')) pos.line X.env = pure false := by rfl)
    (hf : X.fn x = true ∨ X.env.scope.names.lookup x = some .local := by first | exact .inl rfl | exact .inr rfl | assumption) : PS X (.Assign [.Name x pos'] e pos) (liftS X.K (dAsg te (gNm i))) :=
  psImp (ps_set hN hi hx he hs hf) fun D σ H ⟨F, G, ρ, E, r, q, w⟩ => goE r q fun x ρ1 v G1 H1 q1 e1 r1 => (tgt_name i).up r1 q1 fun σ' ρ' G' H' p e2 r2 _ => w.nx _ _ _ _ p (e1.tr e2) r2

def pend : Sl → Bool
  | .d _ => true
  | .ol _ => true
  | .od _ _ => true
  | .src => true
  | _ => false
theorem upd_self {H : Hp} {p : Addr} {o : HO} (h : H p = some o) : upd H p o = H := by
  funext b
  by_cases e : b = p
  · subst e; rw [upd_same, h]
  · rw [upd_ne e]
theorem R.pend {v : V} {s : Sl} (r : R K F G H (some v :: σ) (s :: ρ)) (hs : pend s = true) : ∃ F', R K F' G H σ ρ ∧ ∀ {G' H' σ' ρ'}, Ex G G' → R K F' G' H' σ' ρ' → R K F G' H' (some v :: σ') (s :: ρ') := by
  cases s with
  | d x =>
    obtain ⟨G1, e1, d1, _⟩ := r.frz (x := x) rfl
    obtain ⟨os, h, nd, f⟩ := r.sl
    cases h with
    | cons a t =>
      cases a with
      | d a => exact ⟨F, r.pop, fun e r' => r'.push (a.ex e)⟩
  | src =>
    obtain ⟨os, h, nd, f⟩ := r.sl
    cases h with
    | cons a t =>
      cases a with
      | src a => exact ⟨F, r.pop, fun e r' => r'.pushSrc a⟩
  | ol xs =>
    obtain ⟨p, us, rfl, h1, h2, r', h3, h4⟩ := r.aside
    refine ⟨_, r', fun {G' H' σ' ρ'} e q => ?_⟩
    have hp : H' p = some (.lst us) := (q.kp (p, .lst us) (by simp [Fr.aside])).1
    have z := q.unset h3 h4 (fun _ z => nomatch z) (s := .ol xs) (o' := .lst us) (.ol upd_same (h2.ex e) h3)
    rwa [upd_self hp] at z
  | od ks vs =>
    obtain ⟨p, us, rfl, h1, h2, h5, h6, r', h3, h4⟩ := r.asideD
    refine ⟨_, r', fun {G' H' σ' ρ'} e q => ?_⟩
    have hp : H' p = some (.dK (ks.zip us)) := (q.kp (p, .dK (ks.zip us)) (by simp [Fr.aside])).1
    have z := q.unset h3 h4 (fun _ z => nomatch z) (s := .od ks vs) (o' := .dK (ks.zip us)) (.od upd_same h2 h5 (h6.ex e) h3)
    rwa [upd_self hp] at z
  | no => cases hs
  | oi _ _ _ => cases hs
  | bi _ _ _ => cases hs
abbrev BT := Env' → (List Sl → Env' → Prop) → Prop
def liftB (K : PySem.W.Frag) (t : BT) : TA := fun σ H Q => ∃ F G ρ P, R K F G H σ ρ ∧ t ρ P ∧
  ∀ ss ρ' vs G' H', P ss ρ' → Ex G G' → R K F G' H' (vs.map some ++ σ) (ss ++ ρ') → vs.length = ss.length → Q vs H'
def bNil : BT := fun ρ P => P [] ρ
/-- the value as it is (own things stay own) -/
def bCons (te : ET) (ta : BT) : BT := fun ρ P => te ρ fun s ρ1 => pend s = true ∧ ta ρ1 fun ss ρ2 => P (s :: ss) ρ2
theorem dab_nil : PA X [] (liftB X.K bNil) := paImp pa_nil fun σ H Q ⟨F, G, ρ, P, r, h, k⟩ => k [] ρ [] G H h .rfl r rfl
theorem dab_cons {es : List Expr} {ta : BT} (he : PE X e (lift X.K te)) (hr : PA X es (liftB X.K ta)) (hs : starEach (e :: es) X.env = (false, eval e X.env) :: starEach es X.env := by rfl) : PA X (e :: es) (liftB X.K (bCons te ta)) :=
  paImp (pa_cons he hr hs) fun σ H Q ⟨F, G, ρ, P, r, h, k⟩ => goE r h fun s ρ1 v G1 H1 ⟨h0, h1⟩ e1 r1 => by
    obtain ⟨F', r2, f⟩ := r1.pend h0
    exact ⟨F', G1, ρ1, _, r2, h1, fun ss ρ2 vs G2 H2 h2 e2 r3 hl => k (s :: ss) ρ2 (v :: vs) G2 H2 h2 (e1.tr e2) (f e2 r3) (by simp [hl])⟩
/-- a value as data (what is owned is given away), the source as it is -/
def Sl.arg : Sl → Option Sl
  | .src => some .src
  | s => s.dat.map Sl.d
def bArg (te : ET) (ta : BT) : BT := fun ρ P => te ρ fun s ρ1 => ∃ s', s.arg = some s' ∧ ta ρ1 fun ss ρ2 => P (s' :: ss) ρ2
theorem dab_arg {es : List Expr} {ta : BT} (he : PE X e (lift X.K te)) (hr : PA X es (liftB X.K ta)) (hs : starEach (e :: es) X.env = (false, eval e X.env) :: starEach es X.env := by rfl) : PA X (e :: es) (liftB X.K (bArg te ta)) :=
  paImp (pa_cons he hr hs) fun σ H Q ⟨F, G, ρ, P, r, h, k⟩ => goE r h fun s ρ1 v G1 H1 ⟨s', h0, h1⟩ e1 r1 => by
    have dat : ∀ {x : D}, s.dat = some x → s' = .d x → liftB X.K ta σ H1 fun vs H2 => Q (v :: vs) H2 := fun {x} hx hs' => by
      subst hs'
      obtain ⟨G2, e2, d2, r2⟩ := r1.frz hx
      exact ⟨F, G2, ρ1, _, r2, h1, fun ss ρ2 vs G3 H3 h3 e3 r3 hl => k (.d x :: ss) ρ2 (v :: vs) G3 H3 h3 ((e1.tr e2).tr e3) (r3.push (d2.ex e3)) (by simp [hl])⟩
    cases s with
    | src =>
      cases h0
      obtain ⟨F', r2, f⟩ := r1.pend rfl
      exact ⟨F', G1, ρ1, _, r2, h1, fun ss ρ2 vs G2 H2 h2 e2 r3 hl => k (.src :: ss) ρ2 (v :: vs) G2 H2 h2 (e1.tr e2) (f e2 r3) (by simp [hl])⟩
    | d x => cases h0; exact dat rfl rfl
    | ol x => cases h0; exact dat rfl rfl
    | od x y => cases h0; exact dat rfl rfl
    | oi x y z => cases h0; exact dat rfl rfl
    | no => cases h0
    | bi x y z => cases h0
/-- a, b = e, f (local names) -/
def dPar (i j : Nat) (ta : BT) : ST := fun E ρ => ta ρ fun ss ρ1 => ∃ a b, ss = [a, b] ∧ (i < ρ1.length ∧ j < ρ1.length) ∧ E.nx ((ρ1.set i a).set j b)
theorem ds_par {i j : Nat} {x y : Str} {a b : Expr} {ta : BT} {px py pt : Pos} {kt k2 pt2} (hc : X.calm = true) (hN : X.N.Nodup) (hi : X.N[i]? = some x) (hj : X.N[j]? = some y) (hij : i ≠ j)
    (hx : X.env.scope.names.lookup x = some .local) (hy : X.env.scope.names.lookup y = some .local) (ha : PA X [a, b] (liftB X.K ta)) (hw : swappedStores [.Tuple [.Name x px, .Name y py] kt pt] (.Tuple [a, b] k2 pt2) X.env = pure (some [x, y]) := by rfl) :
    PS X (.Assign [.Tuple [.Name x px, .Name y py] kt pt] (.Tuple [a, b] k2 pt2) pos) (liftS X.K (dPar i j ta)) :=
  psImp (ps_par hc hN hi hj hij hx hy ha hw) fun D σ H ⟨F, G, ρ, E, r, h, w⟩ => ⟨F, G, ρ, _, r, h, fun ss ρ1 vs G1 H1 ⟨a, b, es, ⟨h1, h2⟩, q⟩ e1 r1 hl => by
    subst es
    match vs, hl with
    | [va, vb], _ =>
      have r2 : R X.K F G1 H1 ((some vb :: σ).set (i + 1) (some va)) ((b :: ρ1).set (i + 1) a) := R.put (σ := some vb :: σ) (ρ := b :: ρ1) r1 (i + 1) (by simp; exact h1)
      have r3 := R.put (σ := σ.set i (some va)) (ρ := ρ1.set i a) r2 j (by simp; exact h2)
      exact ⟨va, vb, rfl, w.nx _ _ _ _ q e1 r3⟩⟩
def dPar3 (i j l : Nat) (ta : BT) : ST := fun E ρ => ta ρ fun ss ρ1 => ∃ a b c, ss = [a, b, c] ∧ (i < ρ1.length ∧ j < ρ1.length ∧ l < ρ1.length) ∧ E.nx (((ρ1.set i a).set j b).set l c)
theorem ds_par3 {i j l : Nat} {x y z : Str} {a b c : Expr} {ta : BT} {px py pz pt : Pos} {kt k2 pt2} (hc : X.calm = true) (hN : X.N.Nodup) (hi : X.N[i]? = some x) (hj : X.N[j]? = some y) (hl : X.N[l]? = some z) (hij : i ≠ j) (hil : i ≠ l) (hjl : j ≠ l)
    (hx : X.env.scope.names.lookup x = some .local) (hy : X.env.scope.names.lookup y = some .local) (hz : X.env.scope.names.lookup z = some .local) (ha : PA X [a, b, c] (liftB X.K ta))
    (hw : swappedStores [.Tuple [.Name x px, .Name y py, .Name z pz] kt pt] (.Tuple [a, b, c] k2 pt2) X.env = pure (some [x, y, z]) := by rfl) :
    PS X (.Assign [.Tuple [.Name x px, .Name y py, .Name z pz] kt pt] (.Tuple [a, b, c] k2 pt2) pos) (liftS X.K (dPar3 i j l ta)) :=
  psImp (ps_par3 hc hN hi hj hl hij hil hjl hx hy hz ha hw) fun D σ H ⟨F, G, ρ, E, r, h, w⟩ => ⟨F, G, ρ, _, r, h, fun ss ρ1 vs G1 H1 ⟨a, b, c, es, ⟨h1, h2, h3⟩, q⟩ e1 r1 hl => by
    subst es
    match vs, hl with
    | [va, vb, vc], _ =>
      have r2 := R.put (σ := some vb :: some vc :: σ) (ρ := b :: c :: ρ1) r1 (i + 2) (by simp; exact h1)
      have r3 := R.put (σ := some vc :: σ.set i (some va)) (ρ := c :: ρ1.set i a) r2 (j + 1) (by simp; exact h2)
      have r4 := R.put (σ := (σ.set i (some va)).set j (some vb)) (ρ := (ρ1.set i a).set j b) r3 l (by simp; exact h3)
      exact ⟨va, vb, vc, rfl, w.nx _ _ _ _ q e1 r4⟩⟩

/-- what is walked gives xs, one by one -/
def WalkD (K : PySem.W.Frag) (J : It) (G : Hp) (xs : List D) : Prop := ∃ (Gp : Hp → Prop) (Y : Nat → Hp → V → Hp → Prop), Walk J xs.length Gp Y ∧ (∀ {F G' H σ ρ}, Ex G G' → R K F G' H σ ρ → Gp H) ∧
  ∀ {F G' H H' σ ρ i x}, Ex G G' → R K F G' H σ ρ → Y i H x H' → i < xs.length → ∃ d G'', xs[i]? = some d ∧ Ex G' G'' ∧ R K F G'' H' (some x :: σ) (.d d :: ρ)
def liftI (K : PySem.W.Frag) (t : AT) : TI := fun σ H Q => ∃ F G ρ P, R K F G H σ ρ ∧ t ρ P ∧ ∀ xs ρ' G' H' J, P xs ρ' → Ex G G' → R K F G' H' σ ρ' → WalkD K J G' xs → Q J H'
theorem walkD_list {a : Addr} {us : List V} {xs : List D} (h : G a = some (.lst us)) (d : DdL K G us xs) : WalkD K (Itl K a) G xs :=
  ⟨fun H => SqL K H a us, YAt us, by rw [← d.len]; exact walk_list, fun e r => SqL.of (r.gh _ _ (e _ _ h)), fun {F G' H H' σ ρ i x} e r ⟨y1, y2⟩ hi => by
    subst y1
    obtain ⟨z, e1, e2⟩ := d.get' y2
    exact ⟨z, G', e1, .rfl, r.push (e2.ex e)⟩⟩
theorem walkD_tup {a : Addr} {us : List V} {xs : List D} (h : SqT K G a us) (d : DdL K G us xs) : WalkD K (Itt K a) G xs :=
  ⟨fun H => SqT K H a us, YAt us, by rw [← d.len]; exact walk_tup, fun e r => sqT_ex r.gh (sqT_ex e h), fun {F G' H H' σ ρ i x} e r ⟨y1, y2⟩ hi => by
    subst y1
    obtain ⟨z, e1, e2⟩ := d.get' y2
    exact ⟨z, G', e1, .rfl, r.push (e2.ex e)⟩⟩
/-- the ints 0 to n - 1 -/
def upto (n : Int) : List D := (List.range n.toNat).map fun i => .int (i : Nat)
theorem walkD_range (n : Int) : WalkD K (Itr 0 n.toNat) G (upto n) :=
  ⟨fun _ => True, YFn fun i => .int (0 + i), by unfold upto; rw [List.length_map, List.length_range]; exact walk_range, fun _ _ => trivial, fun {F G' H H' σ ρ i x} e r ⟨y1, y2⟩ hi => by
    subst y1 y2
    have hi : i < n.toNat := by unfold upto at hi; simpa using hi
    refine ⟨.int (i : Nat), G', by simp [upto, hi], .rfl, ?_⟩
    show R K F G' H' (some (V.int (0 + (i : Int))) :: σ) (.d (.int (i : Nat)) :: ρ)
    rw [show (0 : Int) + (i : Int) = ((i : Nat) : Int) by omega]
    exact r.push (.int _)⟩
/-- a text's signs -/
def signs (z : Str) : List D := z.cps.toList.map fun c => .str ⟨#[c]⟩
theorem strOk_sign {z : Str} {c i : Nat} (h : sOk z = true) (e : z.cps[i]? = some c) : sOk ⟨#[c]⟩ = true := by
  refine sOk_of ?_ (by show (1 : Nat) ≤ 1000000; decide)
  have h := sOk_1 h
  unfold PyData.strOk at h ⊢
  have := Array.all_eq_true'.mp h c (Array.mem_of_getElem? e)
  simpa using this
theorem walkD_str {z : Str} (ho : sOk z = true) : WalkD K (Its z) G (signs z) :=
  ⟨fun _ => True, fun i H v H' => H' = H ∧ ∃ c, z.cps[i]? = some c ∧ v = .str ⟨#[c]⟩, by unfold signs; rw [List.length_map, Array.length_toList]; exact walk_str, fun _ _ => trivial, fun {F G' H H' σ ρ i x} e r ⟨y1, c, y2, y3⟩ hi => by
    subst y1 y3
    exact ⟨.str ⟨#[c]⟩, G', by simp [signs, y2], .rfl, r.push (.str _ (strOk_sign ho y2))⟩⟩
/-- numbered -/
def numbered (xs : List D) : List D := xs.mapIdx fun i x => .tup [.int (i : Nat), x]
theorem walkD_enum {a : Addr} {us : List V} {xs : List D} (h : SqL K G a us) (d : DdL K G us xs) : WalkD K (Ite K a) G (numbered xs) :=
  ⟨fun H => SqL K H a us, YPair (fun i => some (.int (i : Nat))) (fun i => us[i]?), by unfold numbered; rw [List.length_mapIdx, ← d.len]; exact walk_enum, fun e r => sqL_ex r.gh (sqL_ex e h), fun {F G' H H' σ ρ i x} e r ⟨T, y, z, y1, y2, y3, y4, y5⟩ hi => by
    subst y1 y3
    cases y4
    obtain ⟨w, e1, e2⟩ := d.get' y5
    obtain ⟨e3, r3, d3⟩ := r.tup (us := [.int (i : Nat), z]) (xs := [.int (i : Nat), w]) y2 (.cons (.int _) (.cons (e2.ex e) .nil))
    exact ⟨.tup [.int (i : Nat), w], _, by simp [numbered, e1], e3, r3.push d3⟩⟩
def iL (te : ET) : AT := fun ρ P => te ρ fun s ρ1 => ∃ xs, s.dat = some (.lst xs) ∧ P xs ρ1
def iT (te : ET) : AT := fun ρ P => te ρ fun s ρ1 => ∃ xs, s.dat = some (.tup xs) ∧ P xs ρ1
def iS (te : ET) : AT := fun ρ P => te ρ fun s ρ1 => ∃ z, s.dat = some (.str z) ∧ P (signs z) ρ1
def iR (ta : AT) : AT := fun ρ P => ta ρ fun ys ρ1 => ∃ n : Int, ys = [.int n] ∧ (-1000000 < n ∧ n < 1000000) ∧ P (upto n) ρ1
def iEn (ta : AT) : AT := fun ρ P => ta ρ fun ys ρ1 => ∃ xs, ys = [.lst xs] ∧ P (numbered xs) ρ1
variable {tg : Expr}
theorem di_list (he : PE X e (lift X.K te)) : PI X tg e (liftI X.K (iL te)) :=
  piImp (pi_list he) fun σ H Q ⟨F, G, ρ, P, r, h, k⟩ => goE r h fun s ρ1 v G1 H1 ⟨xs, hs, h1⟩ e1 r1 => by
    obtain ⟨G2, e2, d2, r2⟩ := r1.frz hs
    cases d2 with
    | lst g t => exact ⟨_, rfl, ⟨_, .of (r2.gh _ _ g)⟩, k _ _ _ _ _ h1 (e1.tr e2) r2 (walkD_list g t)⟩
theorem di_tup (he : PE X e (lift X.K te)) : PI X tg e (liftI X.K (iT te)) :=
  piImp (pi_tup he) fun σ H Q ⟨F, G, ρ, P, r, h, k⟩ => goE r h fun s ρ1 v G1 H1 ⟨xs, hs, h1⟩ e1 r1 => by
    obtain ⟨G2, e2, d2, r2⟩ := r1.frz hs
    cases d2 with
    | tup g t => exact ⟨_, rfl, ⟨_, sqT_ex r2.gh g⟩, k _ _ _ _ _ h1 (e1.tr e2) r2 (walkD_tup g t)⟩
theorem di_str (he : PE X e (lift X.K te)) : PI X tg e (liftI X.K (iS te)) :=
  piImp (pi_str he) fun σ H Q ⟨F, G, ρ, P, r, h, k⟩ => goE r h fun s ρ1 v G1 H1 ⟨z, hs, h1⟩ e1 r1 => by
    obtain ⟨G2, e2, d2, r2⟩ := r1.frz hs
    cases d2 with
    | str _ ho => exact ⟨_, rfl, k _ _ _ _ _ h1 (e1.tr e2) r2 (walkD_str ho)⟩
theorem di_range {a : Expr} {ta : AT} {p : Pos} (hg : Gl X "range") (hm : X.mg "range" = none) (ha : PA X [a] (liftA X.K ta)) (hs : starEach [a] X.env = [(false, eval a X.env)] := by rfl) : PI X tg (.Call (.Name "range" p) [a] [] pos) (liftI X.K (iR ta)) :=
  piImp (pi_range1 hg hm ha hs) fun σ H Q ⟨F, G, ρ, P, r, h, k⟩ => goA r h fun ys ρ1 vs G1 H1 ⟨n, hy, hn, h1⟩ e1 r1 d1 => by
    subst hy
    cases d1 with
    | cons a t =>
      cases t
      cases a
      exact ⟨n, rfl, by omega, by omega, k _ _ _ _ _ h1 e1 r1 (walkD_range n)⟩
theorem di_enum {a : Expr} {ta : AT} {p tpos : Pos} {elts : List Expr} {kk : Nat} (hg : Gl X "enumerate") (hm : X.mg "enumerate" = none) (ha : PA X [a] (liftA X.K ta)) (hs : starEach [a] X.env = [(false, eval a X.env)] := by rfl) :
    PI X (.Tuple elts kk tpos) (.Call (.Name "enumerate" p) [a] [] pos) (liftI X.K (iEn ta)) :=
  piImp (pi_enum hg hm ha hs) fun σ H Q ⟨F, G, ρ, P, r, h, k⟩ => goA r h fun ys ρ1 vs G1 H1 ⟨xs, hy, h1⟩ e1 r1 d1 => by
    subst hy
    cases d1 with
    | cons a t =>
      cases t
      cases a with
      | lst g t => exact ⟨_, _, rfl, .of (r1.gh _ _ g), k _ _ _ _ _ h1 e1 r1 (walkD_enum (.of g) t)⟩

def loopS (gd : GT) (tb : ST) (E : DE) : List D → Env' → Prop
  | [], ρ => E.nx ρ
  | x :: xs, ρ => gd (.d x) ρ fun ρ' => tb { E with nx := loopS gd tb E xs, ct := loopS gd tb E xs, bk := E.nx } ρ'
def dFor (ti : AT) (gd : GT) (tb : ST) : ST := fun E ρ => ti ρ fun xs ρ1 => loopS gd tb E xs ρ1
theorem drop_cons {α : Type} {xs : List α} {i : Nat} {x : α} (h : xs[i]? = some x) : xs.drop i = x :: xs.drop (i + 1) := by
  obtain ⟨hl, e⟩ := List.getElem?_eq_some_iff.mp h
  rw [List.drop_eq_getElem_cons hl, e]
theorem ds_for {iter : Expr} {body : List Stmt} {ti : AT} {g0 : TG} {gd : GT} {is : List Nat} {tb : ST} (hp : PassesOwn (model X.prog X.w) X.A X.env X.xe) (hc : X.calm = true) (hi : PI X tg iter (liftI X.K ti)) (hg : PG X tg g0) (ht : Tgt X.K g0 gd is) (hb : PSs X body (liftS X.K tb)) (hs : ∀ x, foldedSetIterable iter X.env x = pure x := by intro _; rfl) :
    PS X (.For tg iter body [] pos) (liftS X.K (dFor ti gd tb)) :=
  psImp (ps_for hp hc hi hg hb hs) fun D σ H ⟨F, G, ρ, E, r, h, w⟩ => ⟨F, G, ρ, _, r, h, fun xs ρ1 G1 H1 J h1 e1 r1 ⟨Gp, Y, wk, wg, wy⟩ => by
    refine for_it wk (fun i σ' H' => ∃ G' ρ', Ex G1 G' ∧ R X.K F G' H' σ' ρ' ∧ loopS gd tb E (xs.drop i) ρ') ⟨G1, ρ1, .rfl, r1, h1⟩ (fun i σ' H' _ ⟨G', ρ', e, r', _⟩ => wg e r') (fun i x σ' H' H2 hi ⟨G', ρ', e, r', l⟩ y => ?_) fun σ' H' ⟨G', ρ', e, r', l⟩ => ?_
    · obtain ⟨d, G2, ed, e2, r2⟩ := wy e r' y hi
      rw [drop_cons ed] at l
      refine ht.up r2 l fun σ3 ρ3 G3 H3 p3 e3 r3 _ => ⟨F, G3, ρ3, _, r3, p3, ⟨fun σ4 ρ4 G4 H4 q e4 r4 => ⟨G4, ρ4, ((e.tr e2).tr e3).tr e4, r4, q⟩, fun σ4 ρ4 G4 H4 q e4 r4 => w.nx _ _ _ _ q (e1.tr (((e.tr e2).tr e3).tr e4)) r4, fun σ4 ρ4 G4 H4 q e4 r4 => ⟨G4, ρ4, ((e.tr e2).tr e3).tr e4, r4, q⟩, fun s v σ4 ρ4 G4 H4 q e4 r4 => w.rt _ _ _ _ _ _ q (e1.tr (((e.tr e2).tr e3).tr e4)) r4⟩⟩
    · rw [List.drop_length] at l
      exact w.nx _ _ _ _ l (e1.tr e) r'⟩
def dWhile (c : TTd) (tb : ST) : ST := fun E ρ => ∃ I : Nat → Env' → Prop, (∃ m, I m ρ) ∧ ∀ m ρ, I m ρ → c ρ fun b ρ1 => if b = true then
  tb { E with nx := fun ρ' => ∃ m', m' < m ∧ I m' ρ', ct := fun ρ' => ∃ m', m' < m ∧ I m' ρ', bk := E.nx } ρ1 else E.nx ρ1
theorem ds_while {c : Expr} {body : List Stmt} {tb : ST} (hp : PassesOwn (model X.prog X.w) X.A X.env X.xe) (hc : PT X c (liftT X.K tc)) (hb : PSs X body (liftS X.K tb)) : PS X (.While c body [] pos) (liftS X.K (dWhile tc tb)) :=
  psImp (ps_while hp hc hb) fun D σ H ⟨F, G, ρ, E, r, ⟨I, h0, h⟩, w⟩ => ⟨fun m σ' H' => ∃ G' ρ', Ex G G' ∧ R X.K F G' H' σ' ρ' ∧ I m ρ', h0.imp fun m hm => ⟨G, ρ, .rfl, r, hm⟩, fun m σ' H' ⟨G', ρ', e, r', hI⟩ => goT r' (h m ρ' hI) fun b ρ1 G1 H1 h1 e1 r1 => by
    cases b with
    | true =>
      refine ⟨fun σ2 H2 => ∃ m', m' < m ∧ ∃ G2 ρ2, Ex G G2 ∧ R X.K F G2 H2 σ2 ρ2 ∧ I m' ρ2, fun σ2 H2 ⟨m', hm, q⟩ => ⟨m', hm, q⟩, ⟨F, G1, ρ1, _, r1, h1, ?_⟩⟩
      exact ⟨fun σ4 ρ4 G4 H4 ⟨m', hm, q⟩ e4 r4 => ⟨m', hm, G4, ρ4, (e.tr e1).tr e4, r4, q⟩, fun σ4 ρ4 G4 H4 q e4 r4 => w.nx _ _ _ _ q ((e.tr e1).tr e4) r4, fun σ4 ρ4 G4 H4 ⟨m', hm, q⟩ e4 r4 => ⟨m', hm, G4, ρ4, (e.tr e1).tr e4, r4, q⟩, fun s v σ4 ρ4 G4 H4 q e4 r4 => w.rt _ _ _ _ _ _ q ((e.tr e1).tr e4) r4⟩
    | false => exact w.nx _ _ _ _ h1 (e.tr e1) r1⟩

def wipeD (ρ : Env') : List Nat → Env'
  | [] => ρ
  | v :: vs => (wipeD ρ vs).set v .no
theorem R.wipe (r : R K F G H σ ρ) : ∀ vs : List Nat, R K F G H (wipe σ vs) (wipeD ρ vs)
  | [] => r
  | v :: vs => by
    have q := (R.wipe r vs).forget v
    by_cases hv : v < (wipeD ρ vs).length
    · exact q.any (by rw [List.getElem?_set_self hv])
    · show R K F G H ((L2.wipe σ vs).set v none) _
      rw [List.set_eq_of_length_le (by have := (R.wipe r vs).len; omega)]
      exact q
theorem wipeD_len (ρ : Env') : ∀ vs : List Nat, (wipeD ρ vs).length = ρ.length
  | [] => rfl
  | v :: vs => by show ((wipeD ρ vs).set v .no).length = _; rw [List.length_set, wipeD_len ρ vs]
theorem wipeD_no {ρ : Env'} : ∀ {vs : List Nat} {i : Nat}, i ∈ vs → i < ρ.length → (wipeD ρ vs)[i]? = some .no
  | v :: vs, i, h, hl => by
    show ((wipeD ρ vs).set v .no)[i]? = _
    by_cases e : v = i
    · subst e; rw [List.getElem?_set_self (by rw [wipeD_len]; exact hl)]
    · rw [List.getElem?_set_ne e]
      exact wipeD_no (by rcases List.mem_cons.mp h with h | h; exact absurd h.symm e; exact h) hl
/-- back: slots that were wiped may hold what they held -/
theorem R.unwipe : ∀ {vs : List Nat} {σ : St}, R K F G H (L2.wipe σ vs) ρ → (∀ i ∈ vs, i < ρ.length → ρ[i]? = some .no) → R K F G H σ ρ
  | [], σ, r, _ => r
  | v :: vs, σ, r, h => by
    have hl : (L2.wipe σ (v :: vs)).length = σ.length := wipe_length σ _
    by_cases hv : v < ρ.length
    · have q := r.any (v := (L2.wipe σ vs)[v]?.join) (h v (by simp) hv)
      have e : (L2.wipe σ (v :: vs)).set v ((L2.wipe σ vs)[v]?.join) = L2.wipe σ vs := by
        show ((L2.wipe σ vs).set v none).set v _ = _
        rw [List.set_set]
        have hv2 : v < (L2.wipe σ vs).length := by rw [wipe_length]; have := r.len; rw [hl] at this; omega
        rw [List.getElem?_eq_getElem hv2]
        exact List.set_getElem_self hv2
      rw [e] at q
      exact R.unwipe q fun i hi => h i (by simp [hi])
    · have e : L2.wipe σ (v :: vs) = L2.wipe σ vs := by
        show (L2.wipe σ vs).set v none = _
        exact List.set_eq_of_length_le (by rw [wipe_length]; have := r.len; rw [hl] at this; omega)
      rw [e] at r
      exact R.unwipe r fun i hi => h i (by simp [hi])
abbrev dYes : TTd := fun ρ P => P true ρ
def liftYes (K : PySem.W.Frag) : TT := liftT K dYes
theorem dts_nil : PTs X [] (liftT X.K dYes) := ⟨fun pins s σ H Q I ⟨F, G, ρ, P, r, h, k⟩ => (pts_nil (X := X)).run pins s σ H Q I (k _ _ _ _ h .rfl r)⟩
theorem dts_one {c : Expr} (h : PT X c (liftT X.K tc)) : PTs X [c] (liftT X.K tc) := pts_one h
theorem wipe_comm (v : Nat) : ∀ (ws : List Nat) (τ : St), L2.wipe (τ.set v none) ws = (L2.wipe τ ws).set v none
  | [], _ => rfl
  | w :: ws, τ => by
    show (L2.wipe (τ.set v none) ws).set w none = ((L2.wipe τ ws).set w none).set v none
    rw [wipe_comm v ws]
    by_cases q : w = v
    · subst q; rfl
    · rw [List.set_comm _ _ (Ne.symm q)]
theorem wipe_wipe : ∀ (vs : List Nat) (σ : St), L2.wipe (L2.wipe σ vs) vs = L2.wipe σ vs
  | [], _ => rfl
  | v :: vs, σ => by
    show (L2.wipe ((L2.wipe σ vs).set v none) vs).set v none = (L2.wipe σ vs).set v none
    rw [wipe_comm, wipe_wipe vs, List.set_set]
def loopC (gd : GT) (tt : TTd) (te : ET) (vs : List Nat) (P : Sl → Env' → Prop) : List D → List D → Env' → Prop
  | [], acc, ρ => P (.ol acc) ρ
  | x :: xs, acc, ρ => gd (.d x) ρ fun ρ1 => tt ρ1 fun b ρ2 => if b = true then te ρ2 fun s ρ3 => ∃ y, s.dat = some y ∧ acc.length < 1000000 ∧ loopC gd tt te vs P xs (acc ++ [y]) (wipeD ρ3 vs) else loopC gd tt te vs P xs acc (wipeD ρ2 vs)
def dLc (ti : AT) (gd : GT) (tt : TTd) (te : ET) (vs : List Nat) : ET := fun ρ P => ti ρ fun xs ρ1 => loopC gd tt te vs P xs [] (wipeD ρ1 vs)
theorem lcGo {ti : AT} {g0 : TG} {gd : GT} {is vs : List Nat} {tt : TTd} {Q : VK} (ht : Tgt K g0 gd is) (hv : ∀ i ∈ is, i ∈ vs) {P : Sl → Env' → Prop} (r : R K F G H σ ρ) (h : dLc ti gd tt te vs ρ P)
    (k : ∀ s ρ' v G' H', P s ρ' → Ex G G' → R K F G' H' (some v :: σ) (s :: ρ') → Q v H') : tLc (liftI K ti) g0 (liftT K tt) (lift K te) vs σ H Q :=
  ⟨F, G, ρ, _, r, h, fun xs ρ1 G1 H1 J h1 e1 r1 ⟨Gp, Y, wk, wg, wy⟩ => fun Dl hD => by
    refine lc_it wk (fun i H' => ∃ G' ρ' us acc, Ex G1 G' ∧ H' Dl = some (.lst us) ∧ DdL K G' us acc ∧ R K (F.aside Dl (.lst us)) G' H' (L2.wipe σ vs) ρ' ∧ F.H0 Dl = none ∧ ¬ InSrc F Dl ∧ (∀ i ∈ vs, i < ρ'.length → ρ'[i]? = some .no) ∧ loopC gd tt te vs P (xs.drop i) acc ρ') ?_ (fun i H' _ ⟨G', ρ', us, acc, e, _, _, r', _⟩ => wg e r') (fun i x H' H2 hi ⟨G', ρ', us, acc, e, hd, da, r', n1, n2, nv, l⟩ y => ?_) fun H' ⟨G', ρ', us, acc, e, hd, da, r', n1, n2, nv, l⟩ => ?_
    · have r2 := (r1.wipe vs).lst (us := []) hD .nil
      obtain ⟨p, us, ep, h3, h4, r3, n1, n2⟩ := r2.aside
      cases ep
      rw [upd_same] at h3
      cases h3
      exact ⟨G1, _, [], [], .rfl, upd_same, .nil, r3, n1, n2, fun i hi hl => wipeD_no hi (by rw [wipeD_len] at hl; exact hl), h1⟩
    · obtain ⟨d, G2, ed, e2, r2⟩ := wy e r' y hi
      rw [drop_cons ed] at l
      refine ht.up r2 l fun σ3 ρ3 G3 H3 p3 e3 r3 w3 => ⟨?_, ?_⟩
      · rw [w3 vs hv]
        exact wipe_wipe vs σ
      · have w4 : L2.wipe σ3 vs = L2.wipe σ vs := by
          rw [w3 vs hv]
          exact wipe_wipe vs σ
        refine goT r3 p3 fun b ρ4 G4 H4 q4 e4 r4 => ?_
        have back : ∀ {G5 H5 us5} {ρ5 : Env'}, R K (F.aside Dl (.lst us5)) G5 H5 σ3 ρ5 → R K (F.aside Dl (.lst us5)) G5 H5 (L2.wipe σ vs) (wipeD ρ5 vs) := fun {G5 H5 us5 ρ5} z => by
          have := z.wipe vs
          rwa [w4] at this
        cases b with
        | true =>
          refine goD r4 q4 fun z ρ5 v G5 H5 ⟨hz, q5⟩ e5 r5 d5 => ?_
          have kp := r5.kp (Dl, .lst us) (by simp [Fr.aside])
          refine ⟨us, kp.1, by rw [da.len]; exact Nat.lt_of_lt_of_le hz (by decide), G5, wipeD ρ5 vs, us ++ [v], acc ++ [z], (((e.tr e2).tr e3).tr e4).tr e5, upd_same, ((da.ex (((e2.tr e3).tr e4).tr e5))).app (.cons d5 .nil), ?_, n1, n2, fun i hi hl => wipeD_no hi (by rw [wipeD_len] at hl; exact hl), q5⟩
          have r6 := back r5
          have r7 := r6.unset (o' := .lst (us ++ [v])) (s := .ol (acc ++ [z])) n1 n2 (fun _ z => nomatch z) (.ol upd_same ((da.ex (((e2.tr e3).tr e4).tr e5)).app (.cons d5 .nil)) n1)
          obtain ⟨p, us', ep, h3, h4, r8, _, _⟩ := r7.aside
          cases ep
          rw [upd_same] at h3
          cases h3
          exact r8
        | false =>
          have kp := r4.kp (Dl, .lst us) (by simp [Fr.aside])
          exact ⟨G4, wipeD ρ4 vs, us, acc, ((e.tr e2).tr e3).tr e4, kp.1, da.ex ((e2.tr e3).tr e4), back r4, n1, n2, fun i hi hl => wipeD_no hi (by rw [wipeD_len] at hl; exact hl), q4⟩
    · rw [List.drop_length] at l
      have r7 := r'.unset (o' := .lst us) (s := .ol acc) n1 n2 (fun _ z => nomatch z) (.ol upd_same da n1)
      rw [upd_self hd] at r7
      refine k _ _ _ _ _ l (e1.tr e) ?_
      obtain ⟨F', r8, f⟩ := r7.pend rfl
      exact f .rfl (R.unwipe r8 nv)⟩
end
end Fl
namespace Fl
open PySem L2

/-- what a def does: of its arguments (data, the source) what it may give -/
abbrev FT := List Sl → (Sl → Prop) → Prop
def argOk : Sl → Bool
  | .d _ => true
  | .src => true
  | _ => false
/-- the promise: the data stay, new ones come, the source is drawn from, nothing else changes -/
def spD (K : PySem.W.Frag) (n : Nat) (f : FT) : Sp := fun vs H Q _ => ∃ G src ss P, R K ⟨G, H, src, none, []⟩ G H (vs.map some) ss ∧ ss.all argOk = true ∧ ss.length = n ∧ f ss P ∧
  ∀ r v G' H', P r → Ex G G' → R K ⟨G, H, src, none, []⟩ G' H' [some v] [r] → Q v H'

section
variable {K : PySem.W.Frag} {F : Fr} {G G' H H' : Hp} {σ τ : St} {ρ ss : Env'} {os : List Addr}
theorem Sls.args (h : Sls K F G H σ ρ os) (a : ρ.all argOk = true) : os = [] := by
  induction h with
  | nil => rfl
  | @cons v s σ ρ os ps x t ih =>
    rw [List.all_cons, Bool.and_eq_true] at a
    rw [ih a.2]
    cases x <;> first | rfl | cases a.1
theorem Sls.split {ss : Env'} : ∀ {τ : St} {os : List Addr}, Sls K F G H (τ ++ σ) (ss ++ ρ) os → τ.length = ss.length → ∃ o1 o2, os = o1 ++ o2 ∧ Sls K F G H τ ss o1 ∧ Sls K F G H σ ρ o2 := by
  induction ss with
  | nil =>
    intro τ os h hl
    obtain rfl : τ = [] := List.length_eq_zero_iff.mp hl
    exact ⟨[], os, rfl, .nil, h⟩
  | cons s ss ih =>
    intro τ os h hl
    match τ, hl with
    | v :: τ, hl =>
      cases h with
      | cons a t =>
        obtain ⟨o1, o2, e, h1, h2⟩ := ih t (by simpa using hl)
        subst e
        exact ⟨_, o2, (List.append_assoc ..).symm, .cons a h1, h2⟩
/-- a call: what the callee wants to see -/
theorem R.enter (r : R K F G H (τ ++ σ) (ss ++ ρ)) (hl : τ.length = ss.length) (ha : ss.all argOk = true) : R K ⟨G, H, F.src, none, []⟩ G H τ ss := by
  obtain ⟨os, h, nd, f⟩ := r.sl
  obtain ⟨o1, o2, rfl, h1, h2⟩ := h.split hl
  have e := h1.args ha
  subst e
  have h3 : Sls K ⟨G, H, F.src, none, []⟩ G H τ ss [] := by
    clear h h2 f nd hl r
    generalize ho : ([] : List Addr) = os at h1
    induction h1 with
    | nil => exact .nil
    | @cons v s σ ρ os ps x t ih =>
      rw [List.all_cons, Bool.and_eq_true] at ha
      have hp : os = [] ∧ ps = [] := by simpa using ho.symm
      obtain ⟨rfl, rfl⟩ := hp
      refine .cons (os := []) (ps := []) ?_ (ih ha.2 rfl)
      cases x with
      | no => exact .no _
      | d h => exact .d h
      | src h => exact .src h
  have is : ∀ b, InSrc ⟨G, H, F.src, none, []⟩ b → InSrc F b := fun b m => by
    rcases m with m | ⟨o, m⟩
    · exact .inl m
    · cases m
  refine ⟨.rfl, r.gh, fun b o e _ _ => e, fun b o e => .inl e, fun b hb => ?_, fun a c e => r.sr a c e, fun q hq => (by cases hq), r.nm, [], h3, List.nodup_nil, by simp⟩
  rcases hb with hb | ⟨a, c, e, _⟩
  · exact r.th b (.inl (is b hb))
  · cases e
/-- a call: what the caller has behind it -/
theorem R.leave {v : V} {s : Sl} (r : R K F G H σ ρ) (c : R K ⟨G, H, F.src, none, []⟩ G' H' [some v] [s]) (hn : s ≠ .no) : R K F G' H' (some v :: σ) (s :: ρ) := by
  obtain ⟨os, h, nd, f⟩ := r.sl
  obtain ⟨ps, hp, ndp, fp⟩ := c.sl
  have is : ∀ b, InSrc ⟨G, H, F.src, none, []⟩ b → InSrc F b := fun b m => by
    rcases m with m | ⟨o, m⟩
    · exact .inl m
    · cases m
  have keep : ∀ b o, H b = some o → ¬ InSrc ⟨G, H, F.src, none, []⟩ b → H' b = some o := fun b o e n => c.fr b o e n fun ⟨a, c, z, _⟩ => by cases z
  have gnone : ∀ b o, H b = some o → G b = none → G' b = none := fun b o e g => by
    cases q : G' b with
    | none => rfl
    | some u =>
      rcases c.nw b u q with z | z
      · have z : G b = some u := z
        rw [g] at z; cases z
      · exact absurd (show H b = none from z) (by rw [e]; simp)
  have eH : ∀ p ∈ os, H' p = H p := fun p hp => by
    obtain ⟨o, e⟩ := h.inH p hp
    rw [e]; exact keep p o e fun m => (f p hp).2 (is p m)
  cases hp with
  | @cons _ _ _ _ o1 o2 a t =>
    cases t
    rw [List.append_nil] at ndp fp
    have pn : ∀ p ∈ o1, H p = none := by
      cases a with
      | no => exact absurd rfl hn
      | d _ => simp
      | ol _ _ z => simpa using z
      | od _ _ _ _ z => simpa using z
      | oi _ _ _ _ z1 z2 => intro p hp; rcases (by simpa using hp : p = _ ∨ p = _) with rfl | rfl; exact z1; exact z2
      | bi _ _ _ _ z => cases z
      | src _ => simp
    have a2 : SlOk K F G' H' (some v) s o1 := by
      cases a with
      | no => exact .no _
      | d h => exact .d h
      | ol h1 h2 z => exact .ol h1 h2 (r.new z).2.1
      | od h1 h2 h3 h4 z => exact .od h1 h2 h3 h4 (r.new z).2.1
      | oi h1 h2 h3 h4 z1 z2 => exact .oi h1 h2 h3 h4 (r.new z1).2.1 (r.new z2).2.1
      | bi _ _ _ _ z => cases z
      | src h => exact .src h
    refine ⟨r.gg.tr c.gg, c.gh, fun b o e n1 n2 => keep b o (r.fr b o e n1 n2) fun m => n1 (is b m), fun b o e => ?_, fun b hb => ?_, fun a c' e => c.sr a c' e, fun q hq => ?_, c.nm, _, .cons a2 (h.keep c.gg eH), ?_, fun p hp => ?_⟩
    · rcases c.nw b o e with z | z
      · exact r.nw b o z
      · exact .inr (r.new z).2.1
    · obtain ⟨o, e⟩ := r.th b hb
      by_cases m : InSrc ⟨G, H, F.src, none, []⟩ b
      · exact c.th b (.inl m)
      · exact ⟨o, keep b o e m⟩
    · obtain ⟨k1, k2, k3⟩ := r.kp q hq
      refine ⟨keep _ _ k1 fun m => ?_, gnone _ _ k1 k2, k3⟩
      rcases m with ⟨a, c', e, m⟩ | ⟨o, m⟩
      · rcases m with m | m
        · exact (k3 a c' e).1 m
        · exact (k3 a c' e).2 m
      · cases m
    · refine List.nodup_append.mpr ⟨ndp, nd, fun x hx y hy e => ?_⟩
      subst e
      obtain ⟨o, q⟩ := h.inH x hy
      rw [pn x hx] at q; cases q
    · rcases List.mem_append.mp hp with m | m
      · exact ⟨(fp p m).1, (r.new (pn p m)).2.2.1⟩
      · obtain ⟨o, e⟩ := h.inH p m
        exact ⟨gnone p o e (f p m).1, (f p m).2⟩
theorem R.top {v : Option V} {s : Sl} (r : R K F G H (v :: σ) (s :: ρ)) : R K F G H [v] [s] := by
  obtain ⟨os, h, nd, f⟩ := r.sl
  cases h with
  | cons a t => exact ⟨r.gg, r.gh, r.fr, r.nw, r.th, r.sr, r.kp, r.nm, _, .cons a .nil, by rw [List.append_nil]; exact (List.nodup_append.mp nd).1, fun p hp => f p (List.mem_append_left _ (by simpa using hp))⟩
/-- slots that are not yet known -/
theorem R.more (r : R K F G H σ ρ) (n : Nat) : R K F G H (σ ++ List.replicate n none) (ρ ++ List.replicate n .no) := by
  obtain ⟨os, h, nd, f⟩ := r.sl
  have key : ∀ {σ : St} {ρ : Env'} {os : List Addr}, Sls K F G H σ ρ os → Sls K F G H (σ ++ List.replicate n none) (ρ ++ List.replicate n .no) os := fun {σ ρ os} h => by
    induction h with
    | nil =>
      show Sls K F G H (List.replicate n none) (List.replicate n .no) []
      clear nd f h r
      induction n with
      | zero => exact .nil
      | succ n ih => exact .cons (os := []) (.no _) ih
    | cons a t ih => exact .cons a ih
  exact ⟨r.gg, r.gh, r.fr, r.nw, r.th, r.sr, r.kp, r.nm, os, key h, nd, f⟩
end

def noNo : Sl → Bool
  | .no => false
  | .bi _ _ _ => false
  | .src => false
  | _ => true
section
variable {P : Program} {w : World} {K : PySem.W.Frag} {mg : Str → Option Value} {base : Heap}
/-- the body's data reading, from the arguments -/
def Body (N : List Str) (n : Nat) (t : ST) (f : FT) : Prop := ∀ ss P, ss.all argOk = true → ss.length = n → f ss P →
  t { nx := fun _ => P (.d .non), rt := fun r => noNo r = true ∧ P r } (ss ++ List.replicate (N.length - n) .no)
theorem liftS_start {N : List Str} {n : Nat} {t : ST} {f : FT} (hb : Body N n t f) {vs : List V} {H : Hp} {Q : VK} {E : XK} (h : spD K n f vs H Q E) : liftS K t { nx := fun _ H' => Q .non H', rt := Q } (start N vs) H := by
  obtain ⟨G, src, ss, P, r, ha, hl, hf, k⟩ := h
  have e : vs.length = n := by have := r.len; rw [List.length_map] at this; omega
  refine ⟨_, G, _, _, ?_, hb ss _ ha hl hf, ⟨fun σ ρ G' H' hP e r' => k _ _ _ _ hP e (r'.push .non).top, fun σ ρ G' H' z => z.elim, fun σ ρ G' H' z => z.elim, fun s v σ ρ G' H' hP e r' => k _ _ _ _ hP.2 e r'.top⟩⟩
  unfold L2.start
  rw [e]
  exact r.more _
end
section
variable {X : Cx} {k n : Nat} {f : Addr} {fd : FuncData} {ps : List Str} {ft : FT} {x : Str} {p pos : Pos} {e : Expr} {es : List Expr} {tb : BT}
/-- f(e, ..) of an own def -/
def dFn (ft : FT) (tb : BT) : ET := fun ρ P => tb ρ fun ss ρ1 => ss.all argOk = true ∧ ft ss fun r => noNo r = true ∧ P r ρ1
theorem pd_call (F : FnOk X.prog X.w X.K X.mg X.base CX0 k f fd ps (spD X.K n ft)) (hr : Room k X.A) (hg : Gl X x) (hm : X.mg x = some (.ref f)) (hk : PySem.W.keepIn X.K (.ref f) = true) (hb : Binds X.K fd ps []) (ha : PA X (e :: es) (liftB X.K tb))
    (hn : (e :: es).length = n := by rfl) (hdb : (x == ("__debug__" : Str)) = false := by decide) (he : starEach (e :: es) X.env = (false, eval e X.env) :: starEach es X.env := by rfl) (hpl : (backTo pos (starEach es X.env)).any (·.1) = false := by rfl) :
    PE X (.Call (.Name x p) (e :: es) [] pos) (lift X.K (dFn ft fun ρ P => tb ρ fun ss ρ1 => ss.length = n ∧ P ss ρ1)) :=
  peImp (pe_call F hr hg hm hk hb .nil pass0 ha hdb he hpl) fun σ H Q ⟨F, G, ρ, P, r, h, q⟩ => ⟨F, G, ρ, _, r, h, fun ss ρ1 vs G1 H1 ⟨hl, h0, h1⟩ e1 r1 l1 => by
    show spD X.K n ft (vs ++ []) H1 Q E0
    rw [List.append_nil]
    refine ⟨G1, F.src, ss, _, r1.enter (by rw [List.length_map]; exact l1) h0, h0, hl, h1, fun s v G2 H2 ⟨hs, hp⟩ e2 r2 => q _ _ _ _ _ hp (e1.tr e2) ?_⟩
    have r0 : R X.K F G1 H1 σ ρ1 := by
      clear h1 r2
      obtain ⟨os, h, nd, f⟩ := r1.sl
      obtain ⟨o1, o2, rfl, h3, h4⟩ := h.split (by rw [List.length_map]; exact l1)
      exact ⟨r1.gg, r1.gh, r1.fr, r1.nw, r1.th, r1.sr, r1.kp, r1.nm, _, h4, (List.nodup_append.mp nd).2.1, fun p hp => f p (List.mem_append_right _ hp)⟩
    exact r0.leave r2 fun z => by rw [z] at hs; cases hs⟩
end
end Fl
namespace Fl
open PySem L2
section
variable {X : Cx} {K : PySem.W.Frag} {F : Fr} {G G' H H' : Hp} {σ : St} {ρ : Env'} {pos : Pos} {e a b c : Expr} {te ta tb tcc : ET} {k : Nat}

theorem pd_lc {elt tg iter : Expr} {ifs : List Expr} {scope : Scope} {own : List (Str × Nat)} {ti : AT} {g0 : TG} {gd : GT} {is : List Nat} {tt : TTd} (hc : X.calm = true) (hN : X.N.Nodup) (hi : PI X tg iter (liftI X.K ti)) (ok : BlkOk X.N X.env.scope scope own)
    (hg : ∀ (s : Shared) (H : Hp) (C : Addr) (cl : List (Str × Addr)) (fp : List Addr), PG (X.blk s H scope (compEnvC scope cl C X.env) fp) tg g0) (ht : Tgt X.K g0 gd is) (hv : ∀ i ∈ is, i ∈ own.map (·.2))
    (hts : ∀ (s : Shared) (H : Hp) (C : Addr) (cl : List (Str × Addr)) (fp : List Addr), PTs (X.blk s H scope (compEnvC scope cl C X.env) fp) ifs (liftT X.K tt))
    (he : ∀ (s : Shared) (H : Hp) (C : Addr) (cl : List (Str × Addr)) (fp : List Addr), PE (X.blk s H scope (compEnvC scope cl C X.env) fp) elt (lift X.K te)) (hs : ∀ x, foldedSetIterable iter X.env x = pure x := by intro _; rfl) :
    PE X (.ListComp elt [⟨tg, iter, ifs, 0⟩] scope pos) (lift X.K (dLc ti gd tt te (own.map (·.2)))) :=
  peImp (pe_lc hc hN hi ok hg hts he hs) fun σ H Q ⟨F, G, ρ, P, r, h, k⟩ => lcGo ht hv r h k
theorem ds_setLc {i : Nat} {y : Str} {py spos : Pos} {elt tg iter : Expr} {ifs : List Expr} {scope : Scope} {own : List (Str × Nat)} {ti : AT} {g0 : TG} {gd : GT} {is : List Nat} {tt : TTd} (hc : X.calm = true) (hN : X.N.Nodup) (hy : X.N[i]? = some y) (hyl : X.env.scope.names.lookup y = some .local)
    (hsw : swapsWith (.ListComp elt [⟨tg, iter, ifs, 0⟩] scope pos) (some (.Name y py)) spos.line X.env = pure true) (hi : PI X tg iter (liftI X.K ti)) (ok : BlkOk X.N X.env.scope scope own)
    (hg : ∀ (s : Shared) (H : Hp) (C : Addr) (cl : List (Str × Addr)) (fp : List Addr), PG (X.blk s H scope (compEnvC scope cl C X.env) fp) tg g0) (ht : Tgt X.K g0 gd is) (hv : ∀ i ∈ is, i ∈ own.map (·.2))
    (hts : ∀ (s : Shared) (H : Hp) (C : Addr) (cl : List (Str × Addr)) (fp : List Addr), PTs (X.blk s H scope (compEnvC scope cl C X.env) fp) ifs (liftT X.K tt))
    (he : ∀ (s : Shared) (H : Hp) (C : Addr) (cl : List (Str × Addr)) (fp : List Addr), PE (X.blk s H scope (compEnvC scope cl C X.env) fp) elt (lift X.K te)) (hs : ∀ x, foldedSetIterable iter X.env x = pure x := by intro _; rfl) :
    PS X (.Assign [.Name y py] (.ListComp elt [⟨tg, iter, ifs, 0⟩] scope pos) spos) (liftS X.K (dAsg (dLc ti gd tt te (own.map (·.2))) (gNm i))) :=
  psImp (ps_setLc hc hN hy hyl hsw hi ok hg hts he hs) fun D σ H ⟨F, G, ρ, E, r, h, w⟩ => lcGo ht hv r h fun x ρ1 v G1 H1 q1 e1 r1 => (tgt_name i).up r1 q1 fun σ' ρ' G' H' p e2 r2 _ => w.nx _ _ _ _ p (e1.tr e2) r2

def atD : D → Int → Option D
  | .lst xs, i => atI xs i
  | .tup xs, i => atI xs i
  | .str z, i => (atI z.cps.toList i).map fun c => .str ⟨#[c]⟩
  | _, _ => none
theorem DdL.atI {us : List V} {xs : List D} (d : DdL K G us xs) {i : Int} {x : D} (h : L2.atI xs i = some x) : ∃ v, L2.atI us i = some v ∧ Dd K G v x := by
  unfold L2.atI at h ⊢
  rw [d.len]
  cases e : ixN xs.length i with
  | none => rw [e] at h; cases h
  | some j =>
    rw [e] at h
    exact d.get h
def ixD (x : D) : D → Option D
  | .int i => atD x i
  | _ => none
def dIx (te ti : ET) : ET := fun ρ P => te ρ fun s ρ1 => ∃ x, s.dat = some x ∧ ti ρ1 fun s2 ρ2 => ∃ j, s2.dat = some j ∧ ∃ y, ixD x j = some y ∧ P (.d y) ρ2
theorem atI_str {z : Str} {i : Int} {c : Nat} (ho : sOk z = true) (h : atI z.cps.toList i = some c) : sOk ⟨#[c]⟩ = true := by
  unfold atI at h
  cases e : ixN z.cps.toList.length i with
  | none => rw [e] at h; cases h
  | some j => rw [e] at h; exact strOk_sign ho (i := j) (by simpa using h)
theorem pd_ix (ha : PE X a (lift X.K ta)) (hb : PE X b (lift X.K tb)) (hs : PlainIx b := by exact fun _ _ => rfl) : PE X (.Subscript a b pos) (lift X.K (dIx ta tb)) :=
  peImp (pe_ix ix_seq ha hb hs) fun σ H Q ⟨F, G, ρ, P, r, h, k⟩ => goD r h fun x ρ1 v G1 H1 h1 e1 r1 d1 => goD r1 h1 fun y ρ2 u G2 H2 h2 e2 r2 d2 => by
    obtain ⟨z, hz, p⟩ := h2
    have : ∃ i, y = .int i := by cases y <;> first | exact ⟨_, rfl⟩ | cases hz
    obtain ⟨i, rfl⟩ := this
    have hz : atD x i = some z := hz
    cases d2
    cases d1.ex e2 with
    | lst g t =>
      obtain ⟨w, w1, w2⟩ := t.atI hz
      exact .inl ⟨_, _, i, w, rfl, rfl, .of (r2.gh _ _ g), w1, k _ _ _ _ _ p (e1.tr e2) (r2.push w2)⟩
    | tup g t =>
      obtain ⟨w, w1, w2⟩ := t.atI hz
      exact .inr (.inl ⟨_, _, i, w, rfl, rfl, sqT_ex r2.gh g, w1, k _ _ _ _ _ p (e1.tr e2) (r2.push w2)⟩)
    | str s ho =>
      have hz : (atI s.cps.toList i).map (fun c => D.str ⟨#[c]⟩) = some z := hz
      cases e : atI s.cps.toList i with
      | none => rw [e] at hz; cases hz
      | some c =>
        rw [e] at hz
        cases hz
        exact .inr (.inr ⟨s, i, c, rfl, rfl, Nat.le_trans (sOk_2 ho) (by decide), e, k _ _ _ _ _ p (e1.tr e2) (r2.push (.str _ (atI_str ho e)))⟩)
    | non => cases hz
    | bl _ => cases hz
    | int _ => cases hz
    | dic _ _ _ _ => cases hz
    | ins _ _ _ _ => cases hz
abbrev OT := Env' → (Option Int → Env' → Prop) → Prop
def liftO (K : PySem.W.Frag) (t : OT) : TO := fun σ H Q => ∃ F G ρ P, R K F G H σ ρ ∧ t ρ P ∧ ∀ o ρ' G' H', P o ρ' → Ex G G' → R K F G' H' σ ρ' → Q o H'
def oNo : OT := fun ρ P => P none ρ
def oSome (te : ET) : OT := fun ρ P => te ρ fun s ρ1 => ∃ i, s = .d (.int i) ∧ P (some i) ρ1
theorem poImp {e : Option Expr} {t t' : TO} (h : PO X e t) (i : ∀ σ H Q, t' σ H Q → t σ H Q) : PO X e t' := ⟨fun pins s σ H Q I q => h.run pins s σ H Q I (i _ _ _ q)⟩
theorem do_none : PO X none (liftO X.K oNo) := poImp po_none fun σ H Q ⟨F, G, ρ, P, r, h, k⟩ => k _ _ _ _ h .rfl r
theorem R.topInt {i : Int} {v : V} (r : R K F G H (some v :: σ) (.d (.int i) :: ρ)) : v = .int i := by
  obtain ⟨G', _, d, _⟩ := r.frz (x := .int i) rfl
  cases d; rfl
theorem do_some (he : PE X e (lift X.K te)) : PO X (some e) (liftO X.K (oSome te)) :=
  poImp (po_some he) fun σ H Q ⟨F, G, ρ, P, r, h, k⟩ => goE r h fun s ρ1 v G1 H1 ⟨i, hs, h1⟩ e1 r1 => by
    subst hs
    exact ⟨i, r1.topInt, k _ _ _ _ h1 e1 r1.pop⟩
def cutD (xs : List D) (lo hi : Option Int) : List D := (xs.drop (HT.sIx xs.length 0 lo)).take (HT.sIx xs.length xs.length hi - HT.sIx xs.length 0 lo)
theorem DdL.cut {us : List V} {xs : List D} (d : DdL K G us xs) (lo hi : Option Int) : DdL K G (cutV us lo hi) (cutD xs lo hi) := by
  unfold cutV cutD
  rw [d.len]
  exact (d.drop _).take _
theorem cut_all {us : List V} {lo hi : Option Int} (h : HT.sIx us.length 0 lo = 0 ∧ HT.sIx us.length us.length hi = us.length) : cutV us lo hi = us := by
  unfold cutV
  rw [h.1, h.2]; simp
def slD (x : D) (lo hi : Option Int) : Option Sl := match x with
  | .lst xs => some (.ol (cutD xs lo hi))
  | .tup xs => some (.d (.tup (cutD xs lo hi)))
  | .str z => some (.d (.str (cutS z lo hi)))
  | _ => none
def dSl (te : ET) (tl th : OT) : ET := fun ρ P => te ρ fun s ρ1 => ∃ x, s.dat = some x ∧ tl ρ1 fun lo ρ2 => th ρ2 fun hi ρ3 => ∃ y, slD x lo hi = some y ∧ P y ρ3
theorem strOk_cut {z : Str} (ho : sOk z = true) (lo hi : Option Int) : sOk (cutS z lo hi) = true := by
  refine sOk_of ?_ (Nat.le_trans ?_ (sOk_2 ho))
  rotate_left
  · unfold cutS
    show (List.toArray _).size ≤ z.cps.size
    rw [List.size_toArray, List.length_take, List.length_drop, Array.length_toList]
    omega
  have ho := sOk_1 ho
  unfold PyData.strOk at ho ⊢
  rw [Array.all_eq_true'] at ho ⊢
  intro x hx
  refine ho x ?_
  unfold cutS at hx
  have : x ∈ z.cps.toList := List.mem_of_mem_drop (List.mem_of_mem_take (by simpa using hx))
  simpa using this
theorem pd_sl {lo hi : Option Expr} {tl th : OT} {p2 : Pos} (he : PE X e (lift X.K te)) (hl : PO X lo (liftO X.K tl)) (hu : PO X hi (liftO X.K th)) : PE X (.Subscript e (.Slice lo hi none p2) pos) (lift X.K (dSl te tl th)) :=
  peImp (pe_slice (SlR.or sl_list (SlR.or sl_tupA sl_str)) he hl hu) fun σ H Q ⟨F, G, ρ, P, r, h, k⟩ => goD r h fun x ρ1 v G1 H1 h1 e1 r1 d1 => ⟨F, G1, ρ1, _, r1, h1, fun l ρ2 G2 H2 h2 e2 r2 => ⟨F, G2, ρ2, _, r2, h2, fun u ρ3 G3 H3 ⟨y, hy, p⟩ e3 r3 => by
    cases d1.ex (e2.tr e3) with
    | lst g t => cases hy; exact .inl ⟨_, _, rfl, .of (r3.gh _ _ g), fun q hq => k _ _ _ _ _ p ((e1.tr e2).tr e3) (r3.lst hq (t.cut l u))⟩
    | tup g t =>
      cases hy
      refine .inr (.inl ⟨_, _, rfl, sqT_ex r3.gh g, fun hz => ?_, fun _ q hq => ?_⟩)
      · have z := t.cut l u
        rw [cut_all hz] at z
        exact k _ _ _ _ _ p ((e1.tr e2).tr e3) (r3.push (.tup g z))
      · obtain ⟨e4, r4, d4⟩ := r3.tup hq (t.cut l u)
        exact k _ _ _ _ _ p (((e1.tr e2).tr e3).tr e4) (r4.push d4)
    | str s ho => cases hy; exact .inr (.inr ⟨s, rfl, Nat.le_trans (sOk_2 ho) (by decide), k _ _ _ _ _ p ((e1.tr e2).tr e3) (r3.push (.str _ (strOk_cut ho l u)))⟩)
    | non => cases hy
    | bl _ => cases hy
    | int _ => cases hy
    | dic _ _ _ _ => cases hy
    | ins _ _ _ _ => cases hy⟩⟩

def dChain (r1 r2 : RO) (ta tb tc : ET) : ET := fun ρ P => ta ρ fun x ρ1 => ∃ dx, x.dat = some dx ∧ tb ρ1 fun y ρ2 => ∃ dy, y.dat = some dy ∧ r1 dx dy fun z => ∃ b, z = .d (.bl b) ∧ if b = true then tc ρ2 fun w ρ3 => ∃ dw, w.dat = some dw ∧ r2 dy dw fun z => P z ρ3 else P (.d (.bl false)) ρ2
theorem chainGo {o1 o2 : CmpOp} {q1 q2 : RO} {r1 r2 : R2} (h1 : ∀ {F : Fr} {G H : Hp} {σ : St} {ρ : Env'} {vx vy : V} {x y : D} {P : Sl → Prop} {Q : VK},
    R X.K F G H σ ρ → Dd X.K G vx x → Dd X.K G vy y → q1 x y P → (∀ s v G' H', P s → Ex G G' → R X.K F G' H' (some v :: σ) (s :: ρ) → Q v H') → r1 vx vy H Q)
    (h2 : ∀ {F : Fr} {G H : Hp} {σ : St} {ρ : Env'} {vx vy : V} {x y : D} {P : Sl → Prop} {Q : VK},
    R X.K F G H σ ρ → Dd X.K G vx x → Dd X.K G vy y → q2 x y P → (∀ s v G' H', P s → Ex G G' → R X.K F G' H' (some v :: σ) (s :: ρ) → Q v H') → r2 vx vy H Q)
    {σ : St} {H : Hp} {Q : VK} (h : lift X.K (dChain q1 q2 ta tb tcc) σ H Q) : tChain r1 r2 (lift X.K ta) (lift X.K tb) (lift X.K tcc) σ H Q := by
  obtain ⟨F, G, ρ, P, r, h, k⟩ := h
  exact goD r h fun x ρ1 v G1 H1 p1 e1 r1 d1 => goD r1 p1 fun y ρ2 u G2 H2 p2 e2 r2 d2 => h1 r2 (d1.ex e2) d2 p2 fun s w G3 H3 ⟨b, hs, p3⟩ e3 r3 => by
    subst hs
    refine ⟨b, r3.topBl, ?_⟩
    cases b with
    | true => exact goD r3.pop p3 fun z ρ4 w2 G4 H4 p4 e4 r4 d4 => h2 r4 ((d2.ex e3).ex e4) d4 p4 fun s w G5 H5 p5 e5 r5 => k _ _ _ _ _ p5 ((((e1.tr e2).tr e3).tr e4).tr e5) r5
    | false => exact k _ _ _ _ _ p3 ((e1.tr e2).tr e3) (r3.pop.push (.bl false))
theorem pd_chain {o1 o2 : CmpOp} {q1 q2 : RO} (h1 : OpD X (compareOp o1) q1) (h2 : OpD X (compareOp o2) q2) (ha : PE X a (lift X.K ta)) (hb : PE X b (lift X.K tb)) (hc : PE X c (lift X.K tcc)) (hm : lastMarks [o1, o2] [b, c] = false := by with_unfolding_all rfl) :
    PE X (.Compare a [o1, o2] [b, c] pos) (lift X.K (dChain q1 q2 ta tb tcc)) := by
  obtain ⟨r1, a1, b1⟩ := h1
  obtain ⟨r2, a2, b2⟩ := h2
  exact peImp (pe_chain a1 a2 ha hb hc hm) fun σ H Q h => chainGo (o1 := o1) (o2 := o2) b1 b2 h
theorem pt_chainD {o1 o2 : CmpOp} {q1 q2 : RO} (h1 : OpD X (compareOp o1) q1) (h2 : OpD X (compareOp o2) q2) (ha : PE X a (lift X.K ta)) (hb : PE X b (lift X.K tb)) (hc : PE X c (lift X.K tcc)) (hm : lastMarks [o1, o2] [b, c] = false := by with_unfolding_all rfl) :
    PT X (.Compare a [o1, o2] [b, c] pos) (liftT X.K (dTst (dChain q1 q2 ta tb tcc))) := by
  obtain ⟨r1, a1, b1⟩ := h1
  obtain ⟨r2, a2, b2⟩ := h2
  exact ptImp (pt_chain a1 a2 ha hb hc hm) fun σ H Q ⟨F, G, ρ, P, r, h, k⟩ => chainGo (o1 := o1) (o2 := o2) b1 b2 (goB r h fun b ρ1 G1 H1 h1 e1 r1 => ⟨b, rfl, k _ _ _ _ h1 e1 r1⟩)

theorem CallR.ofD {f : Value} {r : List V → Hp → VK → Prop} {rc : RCd} (h : CallR X f r) (g : ∀ {F : Fr} {G H : Hp} {σ : St} {ρ : Env'} {vs : List V} {xs : List D} {P : Sl → Prop} {Q : VK},
    R X.K F G H σ ρ → DdL X.K G vs xs → rc xs P → (∀ s v G' H', P s → Ex G G' → R X.K F G' H' (some v :: σ) (s :: ρ) → Q v H') → r vs H Q) : CallD X f rc := ⟨r, h, g⟩
theorem DdL.one {vs : List V} {x : D} (d : DdL K G vs [x]) : ∃ v, vs = [v] ∧ Dd K G v x := by
  cases d with
  | cons a t => cases t; exact ⟨_, rfl, a⟩
theorem DdL.two {vs : List V} {x y : D} (d : DdL K G vs [x, y]) : ∃ v u, vs = [v, u] ∧ Dd K G v x ∧ Dd K G u y := by
  cases d with
  | cons a t => cases t with | cons b t => cases t; exact ⟨_, _, rfl, a, b⟩
def lenD : D → Option Nat
  | .lst xs => some xs.length
  | .tup xs => some xs.length
  | .str z => some z.length
  | .dic ks _ => some ks.length
  | _ => none
def cLen : RCd := fun xs P => ∃ x n, xs = [x] ∧ lenD x = some n ∧ P (.d (.int (n : Nat)))
theorem cd_len : CallD X (.builtin "len") cLen := by
  refine CallR.ofD (CallR.or call_len call_lenD) ?_
  intro F G H σ ρ vs xs P Q r d ⟨x, n, hx, hn, p⟩ k
  subst hx
  obtain ⟨v, rfl, dv⟩ := d.one
  have fin := k _ _ _ _ p .rfl (r.push (.int (n : Nat)))
  cases dv with
  | lst g t => cases hn; exact .inl ⟨_, _, rfl, .inl ⟨_, .of (r.gh _ _ g), t.len.symm⟩, fin⟩
  | tup g t => cases hn; exact .inl ⟨_, _, rfl, .inr ⟨_, sqT_ex r.gh g, t.len.symm⟩, fin⟩
  | str z ho => cases hn; exact .inl ⟨_, _, rfl, ⟨Nat.le_trans (sOk_2 ho) (by decide), rfl⟩, fin⟩
  | @dic _ ks us vs g hl _ t =>
    cases hn
    refine .inr ⟨_, _, rfl, r.gh _ _ g, ?_⟩
    rw [show ((ks.zip us).length : Int) = (ks.length : Nat) by rw [List.length_zip]; omega]
    exact fin
  | non => cases hn
  | bl _ => cases hn
  | int _ => cases hn
  | ins _ _ _ _ => cases hn
def seqD : D → Option (List D)
  | .lst xs => some xs
  | .tup xs => some xs
  | _ => none
theorem Dd.seq {v : V} {x : D} {xs : List D} (d : Dd K G v x) (h : seqD x = some xs) : ∃ a us, v = .ref a ∧ (SqL K G a us ∨ SqT K G a us) ∧ DdL K G us xs := by
  cases d with
  | lst g t => cases h; exact ⟨_, _, rfl, .inl (.of g), t⟩
  | tup g t => cases h; exact ⟨_, _, rfl, .inr g, t⟩
  | non => cases h
  | bl _ => cases h
  | int _ => cases h
  | str _ _ => cases h
  | dic _ _ _ _ => cases h
  | ins _ _ _ _ => cases h
def cList : RCd := fun xs P => ∃ x ys, xs = [x] ∧ seqD x = some ys ∧ P (.ol ys)
theorem cd_list : CallD X (.type "list") cList := by
  refine CallR.ofD call_list_of ?_
  intro F G H σ ρ vs xs P Q r d ⟨x, ys, hx, hn, p⟩ k
  subst hx
  obtain ⟨v, rfl, dv⟩ := d.one
  obtain ⟨a, us, rfl, hs, t⟩ := dv.seq hn
  exact ⟨_, _, rfl, hs.imp (sqL_ex r.gh) (sqT_ex r.gh), fun l hl => k _ _ _ _ p .rfl (r.lst hl t)⟩
def cTuple : RCd := fun xs P => ∃ x ys, xs = [x] ∧ seqD x = some ys ∧ P (.d (.tup ys))
theorem cd_tuple : CallD X (.type "tuple") cTuple := by
  refine CallR.ofD call_tuple_of ?_
  intro F G H σ ρ vs xs P Q r d ⟨x, ys, hx, hn, p⟩ k
  subst hx
  obtain ⟨v, rfl, dv⟩ := d.one
  obtain ⟨a, us, rfl, hs, t⟩ := dv.seq hn
  refine ⟨a, us, rfl, ?_⟩
  rcases hs with hs | hs
  · refine .inl ⟨sqL_ex r.gh hs, fun l hl => ?_⟩
    obtain ⟨e2, r2, d2⟩ := r.tup hl t
    exact k _ _ _ _ p e2 (r2.push d2)
  · exact .inr ⟨sqT_ex r.gh hs, k _ _ _ _ p .rfl (r.push (.tup hs t))⟩
def cInt : RCd := fun xs P => (∃ i, xs = [.int i] ∧ P (.d (.int i))) ∨ ∃ b, xs = [.bl b] ∧ P (.d (.int (if b then 1 else 0)))
theorem cd_int : CallD X (.type "int") cInt := by
  refine CallR.ofD call_int1 ?_
  intro F G H σ ρ vs xs P Q r d h k
  rcases h with ⟨i, rfl, p⟩ | ⟨b, rfl, p⟩
  · obtain ⟨v, rfl, dv⟩ := d.one
    cases dv
    exact .inl ⟨i, rfl, k _ _ _ _ p .rfl (r.push (.int _))⟩
  · obtain ⟨v, rfl, dv⟩ := d.one
    cases dv
    exact .inr ⟨b, rfl, k _ _ _ _ p .rfl (r.push (.int _))⟩
theorem DdL.bls : ∀ {bs : List Bool} {us : List V}, DdL K G us (bs.map D.bl) → us = bs.map V.bl
  | [], _, .nil => rfl
  | _ :: _, _, .cons a t => by cases a; rw [DdL.bls t]; rfl
def cAll : RCd := fun xs P => ∃ bs : List Bool, xs = [.lst (bs.map D.bl)] ∧ P (.d (.bl (bs.all id)))
def cAny : RCd := fun xs P => ∃ bs : List Bool, xs = [.lst (bs.map D.bl)] ∧ P (.d (.bl (bs.any id)))
theorem cd_all (hc : X.calm = true) : CallD X (.builtin "all") cAll := by
  refine CallR.ofD (cr_all hc) ?_
  intro F G H σ ρ vs xs P Q r d ⟨bs, hx, p⟩ k
  subst hx
  obtain ⟨v, rfl, dv⟩ := d.one
  cases dv with
  | lst g t => exact ⟨_, bs, rfl, .of (by rw [← t.bls]; exact r.gh _ _ g), k _ _ _ _ p .rfl (r.push (.bl _))⟩
theorem cd_any (hc : X.calm = true) : CallD X (.builtin "any") cAny := by
  refine CallR.ofD (cr_any hc) ?_
  intro F G H σ ρ vs xs P Q r d ⟨bs, hx, p⟩ k
  subst hx
  obtain ⟨v, rfl, dv⟩ := d.one
  cases dv with
  | lst g t => exact ⟨_, bs, rfl, .of (by rw [← t.bls]; exact r.gh _ _ g), k _ _ _ _ p .rfl (r.push (.bl _))⟩
def cMin2 : RCd := fun xs P => ∃ i j, xs = [.int i, .int j] ∧ P (.d (.int (if j < i then j else i)))
theorem cd_min2 (hc : X.calm = true) : CallD X (.builtin "min") cMin2 := by
  refine CallR.ofD (call_min2 hc) ?_
  intro F G H σ ρ vs xs P Q r d ⟨i, j, hx, p⟩ k
  subst hx
  obtain ⟨v, u, rfl, dv, du⟩ := d.two
  cases dv; cases du
  exact ⟨i, j, rfl, k _ _ _ _ p .rfl (r.push (.int _))⟩
/-- sorted of texts, of a list or of a dict's keys -/
def sortIn : D → Option (List Str)
  | .lst xs => xs.mapM fun x => match x with | .str s => some s | _ => none
  | .dic ks _ => ks.mapM fun x => match x with | .inr s => some s | _ => none
  | _ => none
theorem mapM_str {xs : List D} : ∀ {ws : List Str}, (xs.mapM fun x => match x with | .str s => some s | _ => none) = some ws → xs = ws.map D.str := by
  induction xs with
  | nil => intro ws h; cases h; rfl
  | cons x xs ih =>
    intro ws h
    rw [List.mapM_cons] at h
    cases x with
    | str s =>
      cases e : (xs.mapM fun x => match x with | .str s => some s | _ => none) with
      | none => simp [e] at h
      | some vs => simp [e] at h; subst h; rw [ih e]; rfl
    | _ => simp at h
theorem mapM_key {xs : List Key} : ∀ {ws : List Str}, (xs.mapM fun x => match x with | .inr s => some s | _ => none) = some ws → xs = ws.map Sum.inr := by
  induction xs with
  | nil => intro ws h; cases h; rfl
  | cons x xs ih =>
    intro ws h
    rw [List.mapM_cons] at h
    cases x with
    | inr s =>
      cases e : (xs.mapM fun x => match x with | .inr s => some s | _ => none) with
      | none => simp [e] at h
      | some vs => simp [e] at h; subst h; rw [ih e]; rfl
    | inl _ => simp at h
def cSortS : RCd := fun xs P => ∃ x ws, xs = [x] ∧ sortIn x = some ws ∧ ws.length < 64 ∧ (∀ w ∈ ws, sOk w = true) ∧ ∀ ys : List Str, ys.Perm ws → PyProof.Rows.sortedS ys = true → P (.ol (ys.map D.str))
theorem cd_sortS (hc : X.calm = true) : CallD X (.builtin "sorted") cSortS := by
  refine CallR.ofD (CallR.or cr_sortedS (call_sortedD hc)) ?_
  intro F G H σ ρ vs xs P Q r d ⟨x, ws, hx, hs, hl, ho, p⟩ k
  subst hx
  obtain ⟨v, rfl, dv⟩ := d.one
  have fin : ∀ (ys : List Str) (q : Addr), ys.Perm ws → PyProof.Rows.sortedS ys = true → H q = none → Q (.ref q) (upd H q (.lst (ys.map V.str))) := fun ys q h1 h2 hq =>
    k _ _ _ _ (p ys h1 h2) .rfl (r.lst hq (DdL.ofStrs ys fun w hw => ho w (h1.mem_iff.mp hw)))
  cases dv with
  | lst g t =>
    have e := mapM_str hs
    subst e
    have e2 := t.strs
    subst e2
    exact .inl ⟨_, ws, rfl, .of (r.gh _ _ g), hl, fin⟩
  | dic g h1 h2 t =>
    have e := mapM_key hs
    subst e
    exact .inr ⟨_, _, ws, rfl, .inl (r.gh _ _ g), List.map_fst_zip (by omega), hl, fun ys q h1 h2 hq => fin ys q h1 h2 hq⟩
  | non => cases hs
  | bl _ => cases hs
  | int _ => cases hs
  | str _ _ => cases hs
  | tup _ _ => cases hs
  | ins _ _ _ _ => cases hs

def isTy (T : String) : D → Bool
  | .non => T == "NoneType"
  | .bl _ => T == "bool" || T == "int"
  | .int _ => T == "int"
  | .str _ => T == "str"
  | .lst _ => T == "list"
  | .tup _ => T == "tuple"
  | .dic _ _ => T == "dict"
  | .ins _ _ _ => false
def tyN : D → String
  | .non => "NoneType"
  | .bl _ => "bool"
  | .int _ => "int"
  | .str _ => "str"
  | .lst _ => "list"
  | .tup _ => "tuple"
  | .dic _ _ => "dict"
  | .ins _ _ _ => "object"
def isIns : D → Bool
  | .ins _ _ _ => true
  | _ => false
end
end Fl
namespace Fl
open PySem L2
section
variable {X : Cx} {K : PySem.W.Frag} {F : Fr} {G G' H H' : Hp} {σ : St} {ρ : Env'} {pos : Pos} {e a b c : Expr} {te ta tb tcc : ET} {k : Nat}

/-- the classes of data, asked of T -/
def AskT (T : String) : Prop := ∀ n ∈ ["NoneType", "bool", "int", "str", "list", "tuple", "dict"], kitB n T = some (n == T || (n == "bool" && T == "int"))
theorem askT_str : AskT "str" := by unfold AskT; decide +kernel
theorem askT_int : AskT "int" := by unfold AskT; decide +kernel
theorem askT_bool : AskT "bool" := by unfold AskT; decide +kernel
theorem askT_list : AskT "list" := by unfold AskT; decide +kernel
theorem askT_tuple : AskT "tuple" := by unfold AskT; decide +kernel
theorem askT_dict : AskT "dict" := by unfold AskT; decide +kernel
def isT (T : String) (x : D) : Bool := tyN x == T || (tyN x == "bool" && T == "int")
theorem Dd.tyX {v : V} {x : D} (d : Dd K G v x) (gh : Ex G H) (hi : isIns x = false) : TyX K H v (.type (tyN x)) := by
  cases d with
  | non => exact .base .non
  | bl b => exact .base (.bl b)
  | int i => exact .base (.int i)
  | str s _ => exact .base (.str s)
  | lst g t => exact .base (.lst (gh _ _ g))
  | tup g t =>
    rcases g with (g | ⟨o, g⟩) | ⟨o, its, n, g1, g2, _⟩
    · exact .base (.tup (gh _ _ g))
    · exact .fTuple (gh _ _ g)
    · exact .kTuple g1 g2
  | dic g _ _ t => exact .base (.dK (gh _ _ g))
  | ins _ _ _ _ => cases hi
theorem ask_of {T : String} (h : AskT T) {x : D} (hi : isIns x = false) : PySem.W.kitOne K (.type (tyN x)) (.type T) = some (isT T x) := by
  refine kit_ty (h (tyN x) ?_)
  cases x <;> first | (exact Bool.noConfusion (show (true = false) from hi)) | (simp [tyN])
def dIsi (T : String) (te : ET) : ET := fun ρ P => te ρ fun s ρ1 => ∃ x, s.dat = some x ∧ isIns x = false ∧ P (.d (.bl (isT T x))) ρ1
theorem pd_isi {T : String} {x : Str} {p p2 : Pos} (hT : AskT T) (he : PE X e (lift X.K te)) (hg : Gl X "isinstance") (hm : X.mg "isinstance" = none) (hg2 : Gl X x) (hm2 : X.mg x = none) (hv : bootBuiltins x = some (.type T) := by decide +kernel)
    (hb : bootBuiltins "isinstance" = some (.builtin "isinstance") := by decide +kernel) (hn : x ≠ "__name__" := by decide) (hdb : (x == ("__debug__" : Str)) = false := by decide)
    (hs : starEach [e, .Name x p2] X.env = (false, eval e X.env) :: starEach [.Name x p2] X.env := by rfl) (hs2 : starEach [.Name x p2] X.env = (false, eval (.Name x p2) X.env) :: starEach [] X.env := by rfl) (hpl : (backTo pos (starEach [.Name x p2] X.env)).any (·.1) = false := by rfl) :
    PE X (.Call (.Name "isinstance" p) [e, .Name x p2] [] pos) (lift X.K (dIsi T te)) :=
  peImp (pe_callB call_isi hg hm hb (pa_cons he (pa_cons (pe_bltn (v := .ty T) hg2 hm2 hv rfl hn hdb) pa_nil hs2) hs) (by decide) (by decide) hs hpl) fun σ H Q ⟨F, G, ρ, P, r, h, k⟩ => goD r h fun x ρ1 v G1 H1 ⟨hi, h1⟩ e1 r1 d1 =>
    ⟨v, .ty T, _, _, _, rfl, .ty T, d1.tyX r1.gh hi, ask_of hT hi, k _ _ _ _ _ h1 e1 (r1.push (.bl _))⟩
def dIsi2 (T U : String) (te : ET) : ET := fun ρ P => te ρ fun s ρ1 => ∃ x, s.dat = some x ∧ isIns x = false ∧ P (.d (.bl (isT T x || isT U x))) ρ1
theorem pd_isi2 {T U : String} {x y : Str} {p p2 p3 p4 : Pos} {x1} (hT : AskT T) (hU : AskT U) (he : PE X e (lift X.K te)) (hg : Gl X "isinstance") (hm : X.mg "isinstance" = none) (hg2 : Gl X x) (hm2 : X.mg x = none) (hg3 : Gl X y) (hm3 : X.mg y = none)
    (hv : bootBuiltins x = some (.type T) := by decide +kernel) (hv3 : bootBuiltins y = some (.type U) := by decide +kernel)
    (hb : bootBuiltins "isinstance" = some (.builtin "isinstance") := by decide +kernel) (hn : x ≠ "__name__" := by decide) (hdb : (x == ("__debug__" : Str)) = false := by decide) (hn3 : y ≠ "__name__" := by decide) (hdb3 : (y == ("__debug__" : Str)) = false := by decide)
    (hs : starEach [e, .Tuple [.Name x p2, .Name y p3] x1 p4] X.env = (false, eval e X.env) :: starEach [.Tuple [.Name x p2, .Name y p3] x1 p4] X.env := by rfl) (hs2 : starEach [.Tuple [.Name x p2, .Name y p3] x1 p4] X.env = (false, eval (.Tuple [.Name x p2, .Name y p3] x1 p4) X.env) :: starEach [] X.env := by rfl)
    (hs3 : starEach [.Name x p2, .Name y p3] X.env = (false, eval (.Name x p2) X.env) :: starEach [.Name y p3] X.env := by rfl) (hs4 : starEach [.Name y p3] X.env = (false, eval (.Name y p3) X.env) :: starEach [] X.env := by rfl)
    (hpl : (backTo pos (starEach [.Tuple [.Name x p2, .Name y p3] x1 p4] X.env)).any (·.1) = false := by rfl) :
    PE X (.Call (.Name "isinstance" p) [e, .Tuple [.Name x p2, .Name y p3] x1 p4] [] pos) (lift X.K (dIsi2 T U te)) :=
  peImp (pe_callB call_isiT hg hm hb (pa_cons he (pa_cons (pe_tup (pa_cons (pe_bltn (v := .ty T) hg2 hm2 hv rfl hn hdb) (pa_cons (pe_bltn (v := .ty U) hg3 hm3 hv3 rfl hn3 hdb3) pa_nil hs4) hs3)) pa_nil hs2) hs) (by decide) (by decide) hs hpl) fun σ H Q ⟨F, G, ρ, P, r, h, k⟩ => goD r h fun x ρ1 v G1 H1 ⟨hi, h1⟩ e1 r1 d1 =>
    ⟨(by show 2 ≤ sizeLine; decide), fun q hq => by
      have r2 : R X.K F G1 (upd H1 q (.tup [.ty T, .ty U])) σ ρ1 := r1.grow .rfl (r1.gh.under (r1.new hq).1) (.put hq) fun b u e => .inl e
      refine ⟨v, q, [.ty T, .ty U], _, [.type T, .type U], isT T x || isT U x, rfl, upd_same, .cons (.ty T) (.cons (.ty U) .nil), d1.tyX r2.gh hi, ?_, k _ _ _ _ _ h1 e1 (r2.push (.bl _))⟩
      cases h : isT T x with
      | true => exact kitAny_cons (b := true) (by rw [ask_of hT hi, h]) (fun z => by cases z) fun _ => rfl
      | false =>
        refine kitAny_cons (b := false) (by rw [ask_of hT hi, h]) (fun _ => ?_) (fun z => by cases z)
        cases h2 : isT U x with
        | true => exact kitAny_cons (b := true) (by rw [ask_of hU hi, h2]) (fun z => by cases z) fun _ => rfl
        | false => exact kitAny_cons (b := false) (by rw [ask_of hU hi, h2]) (fun _ => kitAny_nil) (fun z => by cases z)⟩

def keyD : D → Option Key
  | .int i => some (.inl i)
  | .str s => some (.inr s)
  | _ => none
theorem Dd.key {v : V} {x : D} {j : Key} (d : Dd K G v x) (h : keyD x = some j) : v = kV j := by
  cases d <;> first | (cases h; rfl) | cases h
def lkD : List Key → List D → Key → Option D
  | j :: ks, v :: vs, i => if j = i then some v else lkD ks vs i
  | _, _, _ => none
def putD : List Key → List D → Key → D → List Key × List D
  | j :: ks, v :: vs, i, x => if j = i then (j :: ks, x :: vs) else ((j :: (putD ks vs i x).1), (v :: (putD ks vs i x).2))
  | _, _, i, x => ([i], [x])
theorem lk_of : ∀ {ks : List Key} {us : List V} {vs : List D} {i : Key}, ks.length = us.length → DdL K G us vs → (∀ x, lkD ks vs i = some x → ∃ v, valV (ks.zip us) i = some v ∧ Dd K G v x) ∧ (lkD ks vs i = none → valV (ks.zip us) i = none)
  | [], [], [], i, _, .nil => ⟨fun x h => (by cases h), fun _ => rfl⟩
  | j :: ks, u :: us, v :: vs, i, hl, .cons a t => by
    have ih := lk_of (i := i) (by simpa using hl) t
    rw [List.zip_cons_cons]
    by_cases e : j = i
    · refine ⟨fun x h => ?_, fun h => ?_⟩
      · have h : (if j = i then some v else lkD ks vs i) = some x := h
        rw [if_pos e] at h
        cases h
        exact ⟨u, valV_pos (p := (j, u)) e, a⟩
      · have h : (if j = i then some v else lkD ks vs i) = none := h
        rw [if_pos e] at h; cases h
    · refine ⟨fun x h => ?_, fun h => ?_⟩
      · have h : (if j = i then some v else lkD ks vs i) = some x := h
        rw [if_neg e] at h
        rw [valV_neg (p := (j, u)) e]
        exact ih.1 x h
      · have h : (if j = i then some v else lkD ks vs i) = none := h
        rw [if_neg e] at h
        rw [valV_neg (p := (j, u)) e]
        exact ih.2 h
theorem putK_cons {j i : Key} {u z : V} {kvs : List (Key × V)} (e : ¬ j = i) : putK ((j, u) :: kvs) i z = (j, u) :: putK kvs i z := by
  unfold putK
  rw [List.any_cons]
  simp only [decide_eq_false e, Bool.false_or]
  split
  · rw [List.map_cons, if_neg e]
  · rfl
theorem putK_noop {i : Key} {z : V} : ∀ {ks : List Key} {us : List V}, i ∉ ks → (ks.zip us).map (fun kv => if kv.1 = i then (kv.1, z) else kv) = ks.zip us
  | [], _, _ => by simp
  | _ :: _, [], _ => by simp
  | j :: ks, u :: us, h => by
    rw [List.zip_cons_cons, List.map_cons, if_neg (fun e => h (by simp [e.symm] )), putK_noop (fun m => h (List.mem_cons_of_mem _ m))]
theorem put_of : ∀ {ks : List Key} {us : List V} {vs : List D} {i : Key} {z : V} {x : D}, ks.length = us.length → ks.Nodup → DdL K G us vs → Dd K G z x →
    ∃ us', putK (ks.zip us) i z = (putD ks vs i x).1.zip us' ∧ (putD ks vs i x).1.length = us'.length ∧ (putD ks vs i x).1.Nodup ∧ DdL K G us' (putD ks vs i x).2 ∧ (∀ j, j ∈ (putD ks vs i x).1 → j ∈ ks ∨ j = i)
  | [], [], [], i, z, x, _, _, .nil, d => ⟨[z], rfl, rfl, by simp [putD], .cons d .nil, fun j h => .inr (by simpa [putD] using h)⟩
  | j :: ks, u :: us, v :: vs, i, z, x, hl, hn, .cons a t, d => by
    have nd := List.nodup_cons.mp hn
    by_cases e : j = i
    · have e1 : putD (j :: ks) (v :: vs) i x = (j :: ks, x :: vs) := if_pos e
      rw [e1]
      refine ⟨z :: us, ?_, hl, hn, .cons d t, fun j h => .inl h⟩
      rw [List.zip_cons_cons, List.zip_cons_cons]
      unfold putK
      rw [List.any_cons]
      simp only [decide_eq_true e, Bool.true_or, if_true]
      rw [List.map_cons, if_pos e, putK_noop (e ▸ nd.1)]
    · obtain ⟨us', h1, h2, h3, h4, h5⟩ := put_of (i := i) (x := x) (by simpa using hl) nd.2 t d
      have e1 : putD (j :: ks) (v :: vs) i x = ((j :: (putD ks vs i x).1), (v :: (putD ks vs i x).2)) := if_neg e
      rw [e1]
      refine ⟨u :: us', ?_, by simp [h2], List.nodup_cons.mpr ⟨fun m => ?_, h3⟩, .cons a h4, fun j' h => ?_⟩
      · rw [List.zip_cons_cons, putK_cons e, h1, List.zip_cons_cons]
      · rcases h5 j m with m | m
        · exact nd.1 m
        · exact e m
      · rcases List.mem_cons.mp h with h | h
        · exact .inl (by simp [h])
        · rcases h5 j' h with m | m
          · exact .inl (List.mem_cons_of_mem _ m)
          · exact .inr m
/-- d[k], there -/
def dDg (td ty : ET) : ET := fun ρ P => td ρ fun s ρ1 => ∃ x, s.dat = some x ∧ ty ρ1 fun s2 ρ2 => ∃ y, s2.dat = some y ∧ ∃ ks vs, x = .dic ks vs ∧ ∃ j, keyD y = some j ∧ ∃ z, lkD ks vs j = some z ∧ P (.d z) ρ2
theorem pd_dg (hr : Room k X.A) (ha : PE X a (lift X.K ta)) (hb : PE X b (lift X.K tb)) (hs : NoSl b := by exact fun _ _ => rfl) : PE X (.Subscript a b pos) (lift X.K (dDg ta tb)) :=
  peImp (pe_dget (hu_of hr) ha hb hs) fun σ H Q ⟨F, G, ρ, P, r, h, k⟩ => goD r h fun x ρ1 v G1 H1 h1 e1 r1 d1 => goD r1 h1 fun y ρ2 u G2 H2 ⟨ks, vs, hx, j, hj, z, hz, p⟩ e2 r2 d2 => by
    subst hx
    cases d1.ex e2 with
    | dic g hl hn t =>
      obtain ⟨w, w1, w2⟩ := (lk_of hl t).1 z hz
      rw [d2.key hj]
      refine ⟨_, w, rfl, ?_, k _ _ _ _ _ p (e1.tr e2) (r2.push w2)⟩
      rw [← w1]
      exact DGet.k (r2.gh _ _ g)
/-- k in d -/
def dDin (ty td : ET) : ET := fun ρ P => ty ρ fun s2 ρ1 => ∃ y, s2.dat = some y ∧ td ρ1 fun s ρ2 => ∃ x, s.dat = some x ∧ ∃ ks vs, x = .dic ks vs ∧ ∃ j, keyD y = some j ∧ P (.d (.bl (lkD ks vs j).isSome)) ρ2
theorem pd_din (hr : Room k X.A) (ha : PE X a (lift X.K ta)) (hb : PE X b (lift X.K tb)) (hm : behindInMarks .In b = false := by first | rfl | exact nomark _) : PE X (.Compare a [.In] [b] pos) (lift X.K (dDin ta tb)) :=
  peImp (pe_cmp (pc_din (hu_of hr) ha hb) hm) fun σ H Q ⟨F, G, ρ, P, r, h, k⟩ => goD r h fun x ρ1 v G1 H1 h1 e1 r1 d1 => goD r1 h1 fun y ρ2 u G2 H2 ⟨ks, vs, hx, j, hj, p⟩ e2 r2 d2 => by
    subst hx
    rw [d1.key hj]
    cases d2 with
    | dic g hl hn t =>
      cases e : lkD ks vs j with
      | some z =>
        rw [e] at p
        obtain ⟨w, w1, w2⟩ := (lk_of hl t).1 z e
        exact ⟨_, some w, rfl, by rw [← w1]; exact DGet.k (r2.gh _ _ g), k _ _ _ _ _ p (e1.tr e2) (r2.push (.bl _))⟩
      | none =>
        rw [e] at p
        have w1 := (lk_of hl t).2 e
        exact ⟨_, none, rfl, by rw [← w1]; exact DGet.k (r2.gh _ _ g), k _ _ _ _ _ p (e1.tr e2) (r2.push (.bl _))⟩

theorem R.sl_at (r : R K F G H σ ρ) {i : Nat} {xs : List D} (hi : ρ[i]? = some (.ol xs)) : ∃ p us, σ[i]? = some (some (.ref p)) ∧ H p = some (.lst us) ∧ DdL K G us xs := by
  obtain ⟨p, us, h1, h2, h3, _⟩ := r.wrL hi
  exact ⟨p, us, h1, h2, h3⟩
variable {i : Nat} {x : Str} {apos cpos p1 : Pos}
def dApp (i : Nat) (te : ET) : ET := fun ρ P => (∃ xs, ρ[i]? = some (.ol xs)) ∧ te ρ fun s ρ1 => ∃ d, s.dat = some d ∧ ∃ xs, ρ1[i]? = some (.ol xs) ∧ xs.length < 1000000 ∧ P (.d .non) (ρ1.set i (.ol (xs ++ [d])))
theorem pd_append (ho : PE X (.Name x p1) (tVar i)) (he : PE X e (lift X.K te)) (hs : starEach [e] X.env = (false, eval e X.env) :: starEach [] X.env := by rfl)
    (hbase : attributeBase (.Name x p1) "append" X.env (eval (.Name x p1) X.env) = eval (.Name x p1) X.env := by rfl)
    (hfew : ((backTo cpos (starEach [e] X.env)).all (fun x => !x.1) && (backToKw cpos (keywordEach [] X.env)).all (fun x => x.1.isSome) && decide (([e] : List Expr).length + ([] : List Keyword).length + (if ([] : List Keyword).isEmpty then 0 else 1) < 30)) = true := by rfl)
    (hline : (apos.endLine == cpos.line) = true := by rfl) (hplain : (backTo cpos (starEach [] X.env)).any (·.1) = false := by rfl) :
    PE X (.Call (.Attribute (.Name x p1) "append" apos) [e] [] cpos) (lift X.K (dApp i te)) :=
  peImp (pe_bm PySem.F.plainAttrs_list PySem.F.slot_list_append PySem.F.type_list_append mt_append ho (pa_cons he pa_nil hs) hbase hfew hline hs hplain) fun σ H Q ⟨F, G, ρ, P, r, ⟨⟨xs0, h0⟩, h⟩, k⟩ => by
    obtain ⟨p, us, s1, s2, s3⟩ := r.sl_at h0
    refine ⟨.ref p, s1, .inl ⟨rfl, us, .of s2⟩, goD r h fun d ρ1 v G1 H1 ⟨xs, hx, hl, q⟩ e1 r1 d1 => ?_⟩
    obtain ⟨p', us', t1, t2, t3, wr⟩ := r1.wrL hx
    obtain rfl : p' = p := by rw [s1] at t1; cases t1; rfl
    exact ⟨p', us', v, rfl, rfl, t2, by rw [t3.len]; exact Nat.lt_of_lt_of_le hl (by decide), k _ _ _ _ _ q e1 ((wr _ _ (t3.app (.cons d1 .nil))).push .non)⟩
def dExt (i : Nat) (te : ET) : ET := fun ρ P => (∃ xs, ρ[i]? = some (.ol xs)) ∧ te ρ fun s ρ1 => ∃ d, s.dat = some d ∧ ∃ ys, d = .lst ys ∧ ∃ xs, ρ1[i]? = some (.ol xs) ∧ xs.length + ys.length < 1000000 ∧ P (.d .non) (ρ1.set i (.ol (xs ++ ys)))
theorem pd_extend (ho : PE X (.Name x p1) (tVar i)) (he : PE X e (lift X.K te)) (hs : starEach [e] X.env = (false, eval e X.env) :: starEach [] X.env := by rfl)
    (hbase : attributeBase (.Name x p1) "extend" X.env (eval (.Name x p1) X.env) = eval (.Name x p1) X.env := by rfl)
    (hfew : ((backTo cpos (starEach [e] X.env)).all (fun x => !x.1) && (backToKw cpos (keywordEach [] X.env)).all (fun x => x.1.isSome) && decide (([e] : List Expr).length + ([] : List Keyword).length + (if ([] : List Keyword).isEmpty then 0 else 1) < 30)) = true := by rfl)
    (hline : (apos.endLine == cpos.line) = true := by rfl) (hplain : (backTo cpos (starEach [] X.env)).any (·.1) = false := by rfl) :
    PE X (.Call (.Attribute (.Name x p1) "extend" apos) [e] [] cpos) (lift X.K (dExt i te)) :=
  peImp (pe_bm PySem.F.plainAttrs_list PySem.F.slot_list_extend PySem.F.type_list_extend mt_extend ho (pa_cons he pa_nil hs) hbase hfew hline hs hplain) fun σ H Q ⟨F, G, ρ, P, r, ⟨⟨xs0, h0⟩, h⟩, k⟩ => by
    obtain ⟨p, us, s1, s2, s3⟩ := r.sl_at h0
    refine ⟨.ref p, s1, .inl ⟨rfl, us, .of s2⟩, goD r h fun d ρ1 v G1 H1 ⟨ys, hd, xs, hx, hl, q⟩ e1 r1 d1 => ?_⟩
    subst hd
    obtain ⟨p', us', t1, t2, t3, wr⟩ := r1.wrL hx
    obtain rfl : p' = p := by rw [s1] at t1; cases t1; rfl
    cases d1 with
    | lst g t => exact ⟨p', _, us', _, rfl, rfl, t2, r1.gh _ _ g, by rw [t3.len, t.len]; exact Nat.le_of_lt (Nat.lt_of_lt_of_le hl (by decide)), k _ _ _ _ _ q e1 ((wr _ _ (t3.app t)).push .non)⟩
theorem seqIx {n : Nat} {j : Int} (h0 : 0 ≤ j) (h : j < n) : seqIndex? j n = some j.toNat := by
  unfold seqIndex?
  rw [if_neg (show ¬ j < 0 by omega)]
  simp [h0, h]
def dPop (i : Nat) (te : ET) : ET := fun ρ P => (∃ xs, ρ[i]? = some (.ol xs)) ∧ te ρ fun s ρ1 => ∃ d, s.dat = some d ∧ ∃ j : Int, d = .int j ∧ 0 ≤ j ∧ ∃ xs, ρ1[i]? = some (.ol xs) ∧ xs.length < 1000000 ∧ ∃ y, xs[j.toNat]? = some y ∧ P (.d y) (ρ1.set i (.ol (xs.eraseIdx j.toNat)))
theorem pd_pop (ho : PE X (.Name x p1) (tVar i)) (he : PE X e (lift X.K te)) (hs : starEach [e] X.env = (false, eval e X.env) :: starEach [] X.env := by rfl)
    (hbase : attributeBase (.Name x p1) "pop" X.env (eval (.Name x p1) X.env) = eval (.Name x p1) X.env := by rfl)
    (hfew : ((backTo cpos (starEach [e] X.env)).all (fun x => !x.1) && (backToKw cpos (keywordEach [] X.env)).all (fun x => x.1.isSome) && decide (([e] : List Expr).length + ([] : List Keyword).length + (if ([] : List Keyword).isEmpty then 0 else 1) < 30)) = true := by rfl)
    (hline : (apos.endLine == cpos.line) = true := by rfl) (hplain : (backTo cpos (starEach [] X.env)).any (·.1) = false := by rfl) :
    PE X (.Call (.Attribute (.Name x p1) "pop" apos) [e] [] cpos) (lift X.K (dPop i te)) :=
  peImp (pe_bm PySem.F.plainAttrs_list PySem.F.slot_list_pop PySem.F.type_list_pop mt_popAt ho (pa_cons he pa_nil hs) hbase hfew hline hs hplain) fun σ H Q ⟨F, G, ρ, P, r, ⟨⟨xs0, h0⟩, h⟩, k⟩ => by
    obtain ⟨p, us, s1, s2, s3⟩ := r.sl_at h0
    refine ⟨.ref p, s1, .inl ⟨rfl, us, .of s2⟩, goD r h fun d ρ1 v G1 H1 ⟨j, hd, h0, xs, hx, hl, y, hy, q⟩ e1 r1 d1 => ?_⟩
    subst hd
    obtain ⟨p', us', t1, t2, t3, wr⟩ := r1.wrL hx
    obtain rfl : p' = p := by rw [s1] at t1; cases t1; rfl
    cases d1
    obtain ⟨w, w1, w2⟩ := t3.get hy
    have hj : j.toNat < us'.length := (List.getElem?_eq_some_iff.mp w1).1
    have hj2 : us'.length < 1000000 := by rw [t3.len]; exact hl
    exact ⟨p', us', j, j.toNat, w, rfl, rfl, t2, by omega, by omega, seqIx h0 (by omega), w1, k _ _ _ _ _ q e1 ((wr _ _ (t3.erase _)).push w2)⟩
def dIns (i : Nat) (te tf : ET) : ET := fun ρ P => (∃ xs, ρ[i]? = some (.ol xs)) ∧ te ρ fun s ρ1 => ∃ d, s.dat = some d ∧ tf ρ1 fun s2 ρ2 => ∃ y, s2.dat = some y ∧ ∃ j : Int, d = .int j ∧ (0 ≤ j ∧ j < 1000000) ∧ ∃ xs, ρ2[i]? = some (.ol xs) ∧ xs.length < 1000000 ∧ P (.d .non) (ρ2.set i (.ol (xs.take j.toNat ++ [y] ++ xs.drop j.toNat)))
theorem pd_insert {f : Expr} {tf : ET} (ho : PE X (.Name x p1) (tVar i)) (he : PE X e (lift X.K te)) (hf : PE X f (lift X.K tf)) (hs : starEach [e, f] X.env = (false, eval e X.env) :: starEach [f] X.env := by rfl) (hs2 : starEach [f] X.env = (false, eval f X.env) :: starEach [] X.env := by rfl)
    (hbase : attributeBase (.Name x p1) "insert" X.env (eval (.Name x p1) X.env) = eval (.Name x p1) X.env := by rfl)
    (hfew : ((backTo cpos (starEach [e, f] X.env)).all (fun x => !x.1) && (backToKw cpos (keywordEach [] X.env)).all (fun x => x.1.isSome) && decide (([e, f] : List Expr).length + ([] : List Keyword).length + (if ([] : List Keyword).isEmpty then 0 else 1) < 30)) = true := by rfl)
    (hline : (apos.endLine == cpos.line) = true := by rfl) (hplain : (backTo cpos (starEach [f] X.env)).any (·.1) = false := by rfl) :
    PE X (.Call (.Attribute (.Name x p1) "insert" apos) [e, f] [] cpos) (lift X.K (dIns i te tf)) :=
  peImp (pe_bm PySem.F.plainAttrs_list PySem.F.slot_list_insert PySem.F.type_list_insert mt_insert ho (pa_cons he (pa_cons hf pa_nil hs2) hs) hbase hfew hline hs hplain) fun σ H Q ⟨F, G, ρ, P, r, ⟨⟨xs0, h0⟩, h⟩, k⟩ => by
    obtain ⟨p, us, s1, s2, s3⟩ := r.sl_at h0
    refine ⟨.ref p, s1, .inl ⟨rfl, us, .of s2⟩, goD r h fun d ρ1 v G1 H1 h1 e1 r1 d1 => goD r1 h1 fun y ρ2 u G2 H2 ⟨j, hd, ⟨hj0, hj1⟩, xs, hx, hl, q⟩ e2 r2 d2 => ?_⟩
    subst hd
    obtain ⟨p', us', t1, t2, t3, wr⟩ := r2.wrL hx
    obtain rfl : p' = p := by rw [s1] at t1; cases t1; rfl
    cases d1
    exact ⟨p', us', j, u, rfl, rfl, t2, by rw [t3.len]; exact Nat.lt_of_lt_of_le hl (by decide), by omega, by omega, k _ _ _ _ _ q (e1.tr e2) ((wr _ _ (((t3.take _).app (.cons d2 .nil)).app (t3.drop _))).push .non)⟩
/-- x != [], x an own list that stays own -/
def dOwnNe (i : Nat) : TTd := fun ρ P => ∃ xs, ρ[i]? = some (.ol xs) ∧ xs.all (ok 50) = true ∧ P (!xs.isEmpty) ρ
theorem pt_ownNe {p3 : Pos} (hr : Room k X.A) (ho : PE X (.Name x p1) (tVar i)) (hm : behindInMarks .NotEq (.List [] p3) = false := by first | rfl | exact nomark _) : PT X (.Compare (.Name x p1) [.NotEq] [.List [] p3] pos) (liftT X.K (dOwnNe i)) :=
  ptImp (pt_cmpR (op_neD hr.units) ho (pe_lst pa_nil) hm) fun σ H Q ⟨F, G, ρ, P, r, ⟨xs, hx, hk, q⟩, k⟩ => by
    obtain ⟨p, us, s1, s2, s3⟩ := r.sl_at hx
    refine ⟨.ref p, s1, by decide, fun l hl => ?_⟩
    have r2 : R X.K F G (upd H l (.lst [])) σ ρ := r.grow .rfl (r.gh.under (r.new hl).1) (.put hl) fun b u e => .inl e
    have hp : upd H l (.lst []) p = some (.lst us) := by rw [upd_ne (ne_of_none s2 hl)]; exact s2
    obtain ⟨a1, a2, a3⟩ := DdL.py r2.gh s3 hk
    refine ⟨.list (toPys xs), .list [], .lst (.of hp) a1, .lst (.of upd_same) .nil, ?_, by decide, !xs.isEmpty, ?_, k _ _ _ _ q .rfl r2⟩
    · exact shaped_of (x := .lst xs) (n := 51) a2 (Nat.succ_le_succ a3) (by decide)
    · cases xs with
      | nil => rfl
      | cons x xs => rfl
def dOwnLen (i : Nat) : ET := fun ρ P => ∃ xs, ρ[i]? = some (.ol xs) ∧ P (.d (.int (xs.length : Nat))) ρ
theorem pd_ownLen {p : Pos} (ho : PE X (.Name x p1) (tVar i)) (hg : Gl X "len") (hm : X.mg "len" = none) (hs : starEach [.Name x p1] X.env = (false, eval (.Name x p1) X.env) :: starEach [] X.env := by rfl) (hpl : (backTo pos (starEach [] X.env)).any (·.1) = false := by rfl) :
    PE X (.Call (.Name "len" p) [.Name x p1] [] pos) (lift X.K (dOwnLen i)) :=
  peImp (pe_callB call_len_seq hg hm PySem.boot_len (pa_cons ho pa_nil hs) (by decide) (by decide) hs hpl) fun σ H Q ⟨F, G, ρ, P, r, ⟨xs, hx, q⟩, k⟩ => by
    obtain ⟨p, us, s1, s2, s3⟩ := r.sl_at hx
    exact ⟨.ref p, s1, p, us, rfl, .inl (.of s2), by rw [s3.len]; exact k _ _ _ _ _ q .rfl (r.push (.int _))⟩
/-- x[i] of an own list -/
def dOwnIx (i : Nat) (ti : ET) : ET := fun ρ P => ti ρ fun s ρ1 => ∃ d, s.dat = some d ∧ ∃ j : Int, d = .int j ∧ ∃ xs, ρ1[i]? = some (.ol xs) ∧ ∃ y, atI xs j = some y ∧ P (.d y) ρ1
theorem pd_ownIx (ho : PE X (.Name x p1) (tVar i)) (hb : PE X b (lift X.K tb)) (hs : PlainIx b := by exact fun _ _ => rfl) : PE X (.Subscript (.Name x p1) b pos) (lift X.K (fun ρ P => (∃ xs, ρ[i]? = some (.ol xs)) ∧ dOwnIx i tb ρ P)) :=
  peImp (pe_ix ix_list ho hb hs) fun σ H Q ⟨F, G, ρ, P, r, ⟨⟨xs0, h0⟩, h⟩, k⟩ => by
    obtain ⟨p, us, s1, s2, s3⟩ := r.sl_at h0
    refine ⟨.ref p, s1, goD r h fun d ρ1 v G1 H1 ⟨j, hd, xs, hx, y, hy, q⟩ e1 r1 d1 => ?_⟩
    subst hd
    obtain ⟨p', us', t1, t2, t3, wr⟩ := r1.wrL hx
    obtain rfl : p' = p := by rw [s1] at t1; cases t1; rfl
    cases d1
    obtain ⟨w, w1, w2⟩ := t3.atI hy
    exact ⟨p', us', j, w, rfl, rfl, .of t2, w1, k _ _ _ _ _ q e1 (r1.push w2)⟩
/-- x[j] = e, x an own list -/
def dSetL (i : Nat) (te ti : ET) : ST := fun E ρ => te ρ fun s ρ1 => ∃ y, s.dat = some y ∧ (∃ xs, ρ1[i]? = some (.ol xs)) ∧ ti ρ1 fun s2 ρ2 => ∃ d, s2.dat = some d ∧ ∃ j : Int, d = .int j ∧ 0 ≤ j ∧ ∃ xs, ρ2[i]? = some (.ol xs) ∧ j < xs.length ∧ E.nx (ρ2.set i (.ol (xs.set j.toNat y)))
theorem ds_setL {pos' : Pos} (ho : PE X (.Name x p1) (tVar i)) (hi : PE X b (lift X.K tb)) (he : PE X e (lift X.K te)) (hs : swapsWithSole [.Subscript (.Name x p1) b pos'] e pos.line X.env = pure false := by rfl) (hw : swappedStores [.Subscript (.Name x p1) b pos'] e X.env = pure none := by rfl)
    (h1 : (assignEach [.Subscript (.Name x p1) b pos'] X.env).map (·.2) = [assign (.Subscript (.Name x p1) b pos') X.env] := by rfl)
    (ha : ∀ v, assign (.Subscript (.Name x p1) b pos') X.env v = (do
      let ov ← holding [v] (eval (.Name x p1) X.env)
      let iv ← holding [v, ov] (eval b X.env)
      standAt pos'
      holding [v, ov, iv] (setItem ov iv v)
      release [v, ov, iv] []) := by intro _; rfl) : PS X (.Assign [.Subscript (.Name x p1) b pos'] e pos) (liftS X.K (dSetL i te tb)) :=
  psImp (ps_asg he (pg_sub ho hi set_list ha) hs hw h1) fun D σ H ⟨F, G, ρ, E, r, h, w⟩ => goD r h fun y ρ1 v G1 H1 ⟨⟨xs0, h0⟩, h1⟩ e1 r1 d1 => by
    obtain ⟨p, us, s1, s2, s3⟩ := r1.sl_at h0
    refine ⟨.ref p, s1, goD r1 h1 fun d ρ2 u G2 H2 ⟨j, hd, hj0, xs, hx, hj, q⟩ e2 r2 d2 => ?_⟩
    subst hd
    obtain ⟨p', us', t1, t2, t3, wr⟩ := r2.wrL hx
    obtain rfl : p' = p := by rw [s1] at t1; cases t1; rfl
    cases d2
    refine ⟨p', us', j, j.toNat, rfl, rfl, t2, ?_, w.nx _ _ _ _ q (e1.tr e2) (wr _ _ (t3.set (d1.ex e2) j.toNat))⟩
    unfold ixN
    rw [if_pos hj0, if_pos (by rw [t3.len]; exact hj)]
/-- d[k] = v, d an own dict -/
def dSetD (i : Nat) (te ti : ET) : ST := fun E ρ => te ρ fun s ρ1 => ∃ y, s.dat = some y ∧ (∃ ks vs, ρ1[i]? = some (.od ks vs)) ∧ ti ρ1 fun s2 ρ2 => ∃ d, s2.dat = some d ∧ ∃ j, keyD d = some j ∧ ∃ ks vs, ρ2[i]? = some (.od ks vs) ∧ ks.length < 1000000 ∧ E.nx (ρ2.set i (.od (putD ks vs j y).1 (putD ks vs j y).2))
theorem ds_setD {pos' : Pos} (hr : Room k X.A) (ho : PE X (.Name x p1) (tVar i)) (hi : PE X b (lift X.K tb)) (he : PE X e (lift X.K te)) (hs : swapsWith e (some (.Subscript (.Name x p1) b pos')) pos.line X.env = pure false := by rfl) :
    PS X (.Assign [.Subscript (.Name x p1) b pos'] e pos) (liftS X.K (dSetD i te tb)) :=
  psImp (ps_dput (hu_of hr) ho hi he hs) fun D σ H ⟨F, G, ρ, E, r, h, w⟩ => goD r h fun y ρ1 v G1 H1 ⟨⟨ks0, vs0, h0⟩, h1⟩ e1 r1 d1 => by
    obtain ⟨p, us, s1, s2, _, _, _, _⟩ := r1.wrD h0
    refine ⟨.ref p, s1, goD r1 h1 fun d ρ2 u G2 H2 ⟨j, hj, ks, vs, hx, hl, q⟩ e2 r2 d2 => ?_⟩
    obtain ⟨p', us', t1, t2, t3, t4, t5, wr⟩ := r2.wrD hx
    obtain rfl : p' = p := by rw [s1] at t1; cases t1; rfl
    rw [d2.key hj]
    obtain ⟨us2, g1, g2, g3, g4, _⟩ := put_of (i := j) t3 t4 t5 (d1.ex e2)
    refine ⟨p', _, rfl, DPut.k t2 ?_, ?_⟩
    · rw [List.length_zip]
      exact Nat.lt_of_le_of_lt (Nat.min_le_left _ _) (Nat.lt_of_lt_of_le hl (by decide))
    · rw [g1]
      exact w.nx _ _ _ _ q (e1.tr e2) (wr _ _ _ g2 g3 g4)

def joinA (a : Str) (ys : List Str) : Str := PySem.Txt.join a ys
def strsOf : D → Option (List Str)
  | .lst xs => xs.mapM fun x => match x with | .str s => some s | _ => none
  | .tup xs => xs.mapM fun x => match x with | .str s => some s | _ => none
  | _ => none
def dJoin (te tf : ET) : ET := fun ρ P => te ρ fun s ρ1 => ∃ d, s.dat = some d ∧ ∃ a, d = .str a ∧ tf ρ1 fun s2 ρ2 => ∃ y, s2.dat = some y ∧ ∃ ws, strsOf y = some ws ∧ (ws.map (·.length)).sum + ws.length * a.length ≤ 1000000 ∧ sOk (PySem.Txt.join a ws) = true ∧ P (.d (.str (PySem.Txt.join a ws))) ρ2
theorem pd_join {f : Expr} {tf : ET} {apos : Pos} (ho : PE X e (lift X.K te)) (he : PE X f (lift X.K tf)) (hs : starEach [f] X.env = [(false, eval f X.env)] := by rfl) (hbase : attributeBase e "join" X.env (eval e X.env) = eval e X.env := by rfl) (hline : (apos.endLine == pos.line) = true := by rfl) :
    PE X (.Call (.Attribute e "join" apos) [f] [] pos) (lift X.K (dJoin te tf)) :=
  peImp (pe_join ho he hs hbase hline) fun σ H Q ⟨F, G, ρ, P, r, h, k⟩ => goD r h fun d ρ1 v G1 H1 ⟨a, hd, h1⟩ e1 r1 d1 => by
    subst hd
    cases d1
    refine ⟨⟨_, rfl⟩, goD r1 h1 fun y ρ2 u G2 H2 ⟨ws, hw, hl, ho, q⟩ e2 r2 d2 => ?_⟩
    cases d2 with
    | lst g t =>
      have e := mapM_str hw
      subst e
      have e2' := t.strs
      subst e2'
      exact ⟨a, _, ws, rfl, rfl, .inl (.of (r2.gh _ _ g)), Nat.le_trans hl (by decide), k _ _ _ _ _ q (e1.tr e2) (r2.push (.str _ ho))⟩
    | tup g t =>
      have e := mapM_str hw
      subst e
      have e2' := t.strs
      subst e2'
      exact ⟨a, _, ws, rfl, rfl, .inr (sqT_ex r2.gh g), Nat.le_trans hl (by decide), k _ _ _ _ _ q (e1.tr e2) (r2.push (.str _ ho))⟩
    | non => cases hw
    | bl _ => cases hw
    | int _ => cases hw
    | str _ _ => cases hw
    | dic _ _ _ _ => cases hw
    | ins _ _ _ _ => cases hw
end
end Fl
namespace Fl
open PySem L2
section
variable {X : Cx} {K : PySem.W.Frag} {F : Fr} {G G' H H' : Hp} {σ τ : St} {ρ ss : Env'} {pos : Pos} {e a b o : Expr} {te ta tb : ET} {k n : Nat} {C f fa : Addr} {fd : FuncData} {ps ks : List Str} {ft : FT} {x m : Str} {p apos : Pos} {es : List Expr} {bb bk : BT} {kws : List Keyword}

def lkF : List Str → List D → Str → Option D
  | j :: ns, v :: vs, i => if i = j then some v else lkF ns vs i
  | _, _, _ => none
theorem lkF_of : ∀ {ns : List Str} {us : List V} {vs : List D} {i : Str}, ns.length = us.length → DdL K G us vs → (∀ x, lkF ns vs i = some x → ∃ v, (ns.zip us).lookup i = some v ∧ Dd K G v x) ∧ (lkF ns vs i = none → (ns.zip us).lookup i = none)
  | [], [], [], i, _, .nil => ⟨fun x h => (by cases h), fun _ => rfl⟩
  | j :: ns, u :: us, v :: vs, i, hl, .cons a t => by
    have ih := lkF_of (i := i) (by simpa using hl) t
    rw [List.zip_cons_cons, List.lookup_cons]
    by_cases e : i = j
    · subst e
      refine ⟨fun x h => ?_, fun h => ?_⟩
      · have h : (if i = i then some v else lkF ns vs i) = some x := h
        rw [if_pos rfl] at h
        cases h
        exact ⟨u, by simp, a⟩
      · have h : (if i = i then some v else lkF ns vs i) = none := h
        rw [if_pos rfl] at h; cases h
    · have eb : (i == j) = false := beq_eq_false_iff_ne.mpr e
      refine ⟨fun x h => ?_, fun h => ?_⟩
      · have h : (if i = j then some v else lkF ns vs i) = some x := h
        rw [if_neg e] at h
        rw [eb]
        exact ih.1 x h
      · have h : (if i = j then some v else lkF ns vs i) = none := h
        rw [if_neg e] at h
        rw [eb]
        exact ih.2 h
def putN : List Str → List D → Str → D → List Str × List D
  | j :: ns, v :: vs, i, x => if j = i then (j :: ns, x :: vs) else ((j :: (putN ns vs i x).1), (v :: (putN ns vs i x).2))
  | _, _, i, x => ([i], [x])
theorem putN_of : ∀ {ns : List Str} {us : List V} {vs : List D} {i : Str} {z : V} {x : D}, ns.length = us.length → DdL K G us vs → Dd K G z x →
    ∃ us', putF i z (ns.zip us) = (putN ns vs i x).1.zip us' ∧ (putN ns vs i x).1.length = us'.length ∧ DdL K G us' (putN ns vs i x).2
  | [], [], [], i, z, x, _, .nil, d => ⟨[z], rfl, rfl, .cons d .nil⟩
  | j :: ns, u :: us, v :: vs, i, z, x, hl, .cons a t, d => by
    rw [List.zip_cons_cons]
    by_cases e : j = i
    · have e1 : putN (j :: ns) (v :: vs) i x = (j :: ns, x :: vs) := if_pos e
      rw [e1]
      refine ⟨z :: us, ?_, hl, .cons d t⟩
      show (if j = i then (j, z) :: ns.zip us else (j, u) :: putF i z (ns.zip us)) = _
      rw [if_pos e]; rfl
    · obtain ⟨us', h1, h2, h3⟩ := putN_of (i := i) (x := x) (by simpa using hl) t d
      have e1 : putN (j :: ns) (v :: vs) i x = ((j :: (putN ns vs i x).1), (v :: (putN ns vs i x).2)) := if_neg e
      rw [e1]
      refine ⟨u :: us', ?_, by simp [h2], .cons a h3⟩
      show (if j = i then (j, z) :: ns.zip us else (j, u) :: putF i z (ns.zip us)) = _
      rw [if_neg e, h1]; rfl
def insOf (C : Addr) : D → Option (List Str × List D)
  | .ins C' ns vs => if C' = C then some (ns, vs) else none
  | _ => none
theorem Dd.insOf {v : V} {x : D} {ns : List Str} {vs : List D} (d : Dd K G v x) (h : insOf C x = some (ns, vs)) : ∃ a dx us, v = .ref a ∧ x = .ins C ns vs ∧ G a = some (.ins C dx (ns.zip us)) ∧ ns.length = us.length ∧ DdL K G us vs := by
  cases d with
  | @ins a C' dx ns' us vs' g hl _ t =>
    have h : (if C' = C then some (ns', vs') else none) = some (ns, vs) := h
    by_cases e : C' = C
    · rw [if_pos e] at h
      cases h; subst e
      exact ⟨a, dx, us, rfl, rfl, g, hl, t⟩
    · rw [if_neg e] at h; cases h
  | _ => cases h
/-- e.f of a C -/
def dFld (C : Addr) (f : Str) (te : ET) : ET := fun ρ P => te ρ fun s ρ1 => ∃ x, s.dat = some x ∧ ∃ ns vs, insOf C x = some (ns, vs) ∧ ∃ y, lkF ns vs f = some y ∧ P (.d y) ρ1
theorem pd_fld {f : Str} (c : Cls X.K C) (nA : NoAttr X.K C f) (he : PE X e (lift X.K te)) (hb : attributeBase e f X.env (eval e X.env) = eval e X.env := by rfl) : PE X (.Attribute e f pos) (lift X.K (dFld C f te)) :=
  peImp (pe_fld he hb) fun σ H Q ⟨F, G, ρ, P, r, h, k⟩ => goD r h fun x ρ1 v G1 H1 ⟨ns, vs, hi, y, hy, q⟩ e1 r1 d1 => by
    obtain ⟨a, dx, us, rfl, rfl, g, hl, t⟩ := d1.insOf hi
    obtain ⟨w, w1, w2⟩ := (lkF_of hl t).1 y hy
    exact ⟨a, C, dx, _, w, rfl, r1.gh _ _ g, c, nA, w1, k _ _ _ _ _ q e1 (r1.push w2)⟩
/-- x.f = e, x an own (or lent) instance in slot i -/
def dSetF (C : Addr) (i : Nat) (f : Str) (te : ET) : ST := fun E ρ => te ρ fun s ρ1 => ∃ y, s.dat = some y ∧ ∃ s0 ns vs, ρ1[i]? = some s0 ∧ s0.inst = some (C, ns, vs) ∧ ns.length < 1000 ∧ E.nx (ρ1.set i (s0.withF (putN ns vs f y).1 (putN ns vs f y).2))
theorem ds_fld {i : Nat} {f : Str} {p1 pos' : Pos} (c : Cls X.K C) (nA : NoAttr X.K C f) (ho : PE X (.Name x p1) (tVar i)) (he : PE X e (lift X.K te)) (hs : swapsWith e (some (.Attribute (.Name x p1) f pos')) pos.line X.env = pure false := by rfl) :
    PS X (.Assign [.Attribute (.Name x p1) f pos'] e pos) (liftS X.K (dSetF C i f te)) :=
  psImp (ps_fld ho he hs) fun D σ H ⟨F, G, ρ, E, r, h, w⟩ => goD r h fun y ρ1 v G1 H1 ⟨s0, ns, vs, h0, hi, hl, q⟩ e1 r1 d1 => by
    obtain ⟨p, dx, us, s1, s2, s3, s4, wr⟩ := r1.wrI h0 hi
    obtain ⟨us', g1, g2, g3⟩ := putN_of (i := f) s3 s4 d1
    refine ⟨.ref p, s1, p, C, dx, _, rfl, s2, c, nA, ?_, ?_⟩
    · rw [List.length_zip]; exact Nat.lt_of_le_of_lt (Nat.min_le_left _ _) hl
    · rw [g1]
      exact w.nx _ _ _ _ q e1 (wr _ _ _ g2 g3)

theorem R.rest (r : R K F G H (τ ++ σ) (ss ++ ρ)) (hl : τ.length = ss.length) : R K F G H σ ρ := by
  obtain ⟨os, h, nd, f⟩ := r.sl
  obtain ⟨o1, o2, rfl, h3, h4⟩ := h.split hl
  exact ⟨r.gg, r.gh, r.fr, r.nw, r.th, r.sr, r.kp, r.nm, _, h4, (List.nodup_append.mp nd).2.1, fun p hp => f p (List.mem_append_right _ hp)⟩
/-- what a callee's promise gives its caller -/
theorem spGo {vs : List V} {Q : VK} {P : Sl → Env' → Prop} {E : XK} (r : R K F G H (vs.map some ++ σ) (ss ++ ρ)) (hl : vs.length = ss.length) (hn : ss.length = n) (ha : ss.all argOk = true) (h : ft ss fun s => noNo s = true ∧ P s ρ)
    (k : ∀ s v G' H', P s ρ → Ex G G' → R K F G' H' (some v :: σ) (s :: ρ) → Q v H') : spD K n ft vs H Q E :=
  ⟨G, F.src, ss, _, r.enter (by rw [List.length_map]; exact hl) ha, ha, hn, h, fun s v G2 H2 ⟨hs, hp⟩ e2 r2 => k s v G2 H2 hp e2 ((r.rest (by rw [List.length_map]; exact hl)).leave r2 fun z => by rw [z] at hs; cases hs)⟩
/-- o.m(e, ..), m a plain method of o's class C, o data -/
def dMeth (C : Addr) (m : Str) (n : Nat) (ft : FT) (te : ET) (tb : BT) : ET := fun ρ P => te ρ fun s ρ1 => ∃ x, s.dat = some x ∧ (∃ ns vs, insOf C x = some (ns, vs) ∧ lkF ns vs m = none) ∧ tb ρ1 fun ss ρ2 => ss.length + 1 = n ∧ ss.all argOk = true ∧ ft (.d x :: ss) fun s => noNo s = true ∧ P s ρ2
theorem goDB {P : D → Env' → Prop} {tb : BT} {Q : List V → Hp → Prop} {x : D} {v : V} (r : R K F G H σ ρ) (d : Dd K G v x) {P : List Sl → Env' → Prop} (h : tb ρ P)
    (k : ∀ ss ρ' vs G' H', P ss ρ' → Ex G G' → R K F G' H' (some v :: vs.map some ++ σ) (.d x :: ss ++ ρ') → vs.length = ss.length → Q vs H') : liftB K tb σ H Q :=
  ⟨F, G, ρ, P, r, h, fun ss ρ' vs G' H' p e r' hl => k ss ρ' vs G' H' p e (r'.push (d.ex e)) hl⟩
theorem pd_meth {pl : Sem Bool} (c : Cls X.K C) (hm : Meth X.K C m fa) (Fn : FnOk X.prog X.w X.K X.mg X.base CX0 k fa fd ps (spD X.K n ft)) (hr : Room k X.A) (hb : Binds X.K fd ps []) (he : PE X o (lift X.K te)) (ha : PA X (e :: es) (liftB X.K bb))
    (hst : starEach (e :: es) X.env = (false, eval e X.env) :: starEach es X.env := by rfl) (hpl : (backTo pos (starEach es X.env)).any (·.1) = false := by rfl)
    (ht : eval (.Call (.Attribute o m apos) (e :: es) [] pos) X.env = (do
      let ov ← eval o X.env
      standAt apos.atName
      let (f, first) ← holding [ov] (getMethod ov m pl)
      callWith pos f first (backTo pos (starEach (e :: es) X.env)) (backToKw pos (keywordEach [] X.env))) := by rfl) :
    PE X (.Call (.Attribute o m apos) (e :: es) [] pos) (lift X.K (dMeth C m n ft te bb)) :=
  peImp (pe_meth he c hm Fn hr hb .nil pass0 ha hst hpl ht) fun σ H Q ⟨F, G, ρ, P, r, h, k⟩ => goD r h fun x ρ1 v G1 H1 ⟨⟨ns, vs, hi, hl⟩, h1⟩ e1 r1 d1 => by
    obtain ⟨a, dx, us, rfl, rfl, g, hl2, t⟩ := d1.insOf hi
    refine ⟨a, dx, _, rfl, r1.gh _ _ g, (lkF_of hl2 t).2 hl, goDB (P := fun _ _ => True) r1 d1 h1 fun ss ρ2 vs G2 H2 ⟨q1, q2, q3⟩ e2 r2 l2 => ?_⟩
    rw [List.append_nil]
    exact spGo (vs := .ref a :: vs) (ss := .d _ :: ss) r2 (by simp [l2]) (by simpa using q1) (by simpa [argOk] using q2) q3 fun s v G' H' p e3 r3 => k _ _ _ _ _ p ((e1.tr e2).tr e3) r3
def dMeth0 (C : Addr) (m : Str) (ft : FT) (te : ET) : ET := fun ρ P => te ρ fun s ρ1 => ∃ x, s.dat = some x ∧ (∃ ns vs, insOf C x = some (ns, vs) ∧ lkF ns vs m = none) ∧ ft [.d x] fun s => noNo s = true ∧ P s ρ1
theorem pd_meth0 {pl : Sem Bool} (c : Cls X.K C) (hm : Meth X.K C m fa) (Fn : FnOk X.prog X.w X.K X.mg X.base CX0 k fa fd ps (spD X.K 1 ft)) (hr : Room k X.A) (hb : Binds X.K fd ps []) (he : PE X o (lift X.K te))
    (ht : eval (.Call (.Attribute o m apos) [] [] pos) X.env = (do
      let ov ← eval o X.env
      standAt apos.atName
      let (f, first) ← holding [ov] (getMethod ov m pl)
      callWith pos f first (backTo pos (starEach [] X.env)) (backToKw pos (keywordEach [] X.env))) := by rfl) :
    PE X (.Call (.Attribute o m apos) [] [] pos) (lift X.K (dMeth0 C m ft te)) :=
  peImp (pe_meth0 (E := E0) he c hm Fn hr hb .nil pass0 ht) fun σ H Q ⟨F, G, ρ, P, r, h, k⟩ => goD r h fun x ρ1 v G1 H1 ⟨⟨ns, vs, hi, hl⟩, h1⟩ e1 r1 d1 => by
    obtain ⟨a, dx, us, rfl, rfl, g, hl2, t⟩ := d1.insOf hi
    refine ⟨a, dx, _, rfl, r1.gh _ _ g, (lkF_of hl2 t).2 hl, ?_⟩
    exact spGo (E := E0) (vs := [.ref a]) (ss := [.d _]) (σ := σ) (ρ := ρ1) (r1.push d1) rfl rfl rfl h1 fun s v G' H' p e3 r3 => k _ _ _ _ _ p (e1.tr e3) r3

def liftK (K : PySem.W.Frag) (t : BT) : TA := liftB K t
theorem pkImp {t t' : TA} (h : PK X kws t) (i : ∀ σ H Q, t' σ H Q → t σ H Q) : PK X kws t' := ⟨fun p pins s σ H Q I q => h.run p pins s σ H Q I (i _ _ _ q)⟩
theorem dkb_nil : PK X [] (liftB X.K bNil) := pkImp pk_nil fun σ H Q ⟨F, G, ρ, P, r, h, k⟩ => k [] ρ [] G H h .rfl r rfl
theorem dkb_arg {nm : Option Str} {kpos : Pos} (he : PE X e (lift X.K te)) (hr : PK X kws (liftB X.K bk)) : PK X (⟨nm, e, kpos⟩ :: kws) (liftB X.K (bArg te bk)) :=
  pkImp (pk_cons he hr) fun σ H Q ⟨F, G, ρ, P, r, h, k⟩ => goE r h fun s ρ1 v G1 H1 ⟨s', h0, h1⟩ e1 r1 => by
    have dat : ∀ {x : D}, s.dat = some x → s' = .d x → liftB X.K bk σ H1 fun vs H2 => Q (v :: vs) H2 := fun {x} hx hs' => by
      subst hs'
      obtain ⟨G2, e2, d2, r2⟩ := r1.frz hx
      exact ⟨F, G2, ρ1, _, r2, h1, fun ss ρ2 vs G3 H3 h3 e3 r3 hl => k (.d x :: ss) ρ2 (v :: vs) G3 H3 h3 ((e1.tr e2).tr e3) (r3.push (d2.ex e3)) (by simp [hl])⟩
    cases s with
    | src =>
      cases h0
      obtain ⟨F', r2, f⟩ := r1.pend rfl
      exact ⟨F', G1, ρ1, _, r2, h1, fun ss ρ2 vs G2 H2 h2 e2 r3 hl => k (.src :: ss) ρ2 (v :: vs) G2 H2 h2 (e1.tr e2) (f e2 r3) (by simp [hl])⟩
    | d x => cases h0; exact dat rfl rfl
    | ol x => cases h0; exact dat rfl rfl
    | od x y => cases h0; exact dat rfl rfl
    | oi x y z => cases h0; exact dat rfl rfl
    | no => cases h0
    | bi x y z => cases h0
/-- f(k = v, ..), all by keywords, in some order: g puts them in the parameters' order -/
def dFnK (n : Nat) (g : List Sl → List Sl) (ft : FT) (bk : BT) : ET := fun ρ P => bk ρ fun ss ρ1 => (g ss).length = n ∧ (g ss).all argOk = true ∧ ft (g ss) fun s => noNo s = true ∧ P s ρ1
theorem pd_callK0 (Fn : FnOk X.prog X.w X.K X.mg X.base CX0 k fa fd ps (spD X.K n ft)) (hr : Room k X.A) (hg : Gl X x) (hm : X.mg x = some (.ref fa)) (hk : PySem.W.keepIn X.K (.ref fa) = true) (hb : KBn X.K fd ps 0 ks (fun _ ws => ws) (fun _ zs => zs)) (hkw : PK X kws (liftB X.K bk)) (hkl : ks.length = n)
    (hall : (backToKw pos (keywordEach kws X.env)).all (·.1.isSome) = true := by rfl) (hks : (backToKw pos (keywordEach kws X.env)).filterMap (·.1) = ks := by rfl) (hdb : (x == ("__debug__" : Str)) = false := by decide)
    (hpl : ((backTo pos (starEach [] X.env)).any (·.1) || (backToKw pos (keywordEach kws X.env)).any (·.1.isNone)) = false := by rfl) :
    PE X (.Call (.Name x p) [] kws pos) (lift X.K (dFnK n id ft bk)) := by
  refine ⟨fun pins s σ H Q I ⟨F, G, ρ, P, r, h, q⟩ => ?_⟩
  refine wpAny_Call_Name_kw (ld_glob I hg hm ?_ hdb)
  refine PySem.W.callWith_KW0 (h₀ := X.base) I.ok.mod.kin hk hall (thn (hkw.run pos pins s σ H (fun vs H1 => vs.length = ks.length ∧ spD X.K n ft vs H1 Q E0) I ⟨F, G, ρ, _, r, h, fun ss ρ1 vs G1 H1 ⟨q1, q2, q3⟩ e1 r1 l1 => ⟨(l1.trans q1).trans hkl.symm, ?_⟩⟩) fun ws s2 ⟨zs, H2, I2, rz, l2, q2⟩ => ⟨I2.kIn, ?_⟩) hpl
  · exact spGo r1 l1 q1 q2 q3 fun s v G' H' p e3 r3 => q _ _ _ _ _ p (e1.tr e3) r3
  · rw [hks]
    exact run_fnN (us := []) (vs := []) Fn hr hb pass0 I2 .nil rz rfl l2 q2
/-- o.m(k = v, ..) -/
def dMethK (C : Addr) (m : Str) (n : Nat) (ft : FT) (te : ET) (bk : BT) : ET := dMeth C m n ft te bk
theorem pd_methK {pl : Sem Bool} (c : Cls X.K C) (hm : Meth X.K C m fa) (Fn : FnOk X.prog X.w X.K X.mg X.base CX0 k fa fd ps (spD X.K n ft)) (hr : Room k X.A) (hb : KBn X.K fd ps 1 ks (fun us ws => us ++ ws) (fun vs zs => vs ++ zs)) (he : PE X o (lift X.K te)) (hkw : PK X kws (liftB X.K bk)) (hkl : ks.length + 1 = n)
    (hall : (backToKw pos (keywordEach kws X.env)).all (·.1.isSome) = true := by rfl) (hks : (backToKw pos (keywordEach kws X.env)).filterMap (·.1) = ks := by rfl)
    (hpl : ((backTo pos (starEach [] X.env)).any (·.1) || (backToKw pos (keywordEach kws X.env)).any (·.1.isNone)) = false := by rfl)
    (ht : eval (.Call (.Attribute o m apos) [] kws pos) X.env = (do
      let ov ← eval o X.env
      standAt apos.atName
      let (f, first) ← holding [ov] (getMethod ov m pl)
      callWith pos f first (backTo pos (starEach [] X.env)) (backToKw pos (keywordEach kws X.env))) := by rfl) :
    PE X (.Call (.Attribute o m apos) [] kws pos) (lift X.K (dMethK C m n ft te bk)) := by
  refine ⟨fun pins s σ H Q I ⟨F, G, ρ, P, r, h, q⟩ => ?_⟩
  refine PySem.W.methodCall_KW (pl := pl) (thn (he.run pins s σ H (fun v H1 => ∃ a dx fs, v = .ref a ∧ H1 a = some (.ins C dx fs) ∧ fs.lookup m = none ∧ liftB X.K bk σ H1 fun vs H2 => vs.length = ks.length ∧ spD X.K n ft (.ref a :: vs) H2 Q E0) I (goD r h fun x ρ1 v G1 H1 ⟨⟨ns, vs, hi, hl⟩, h1⟩ e1 r1 d1 => ?_)) fun u s1 ⟨v, H1, I1, rv, a, dx, fs, ev, ea, l, q1⟩ => ?_) ht
  · obtain ⟨a, dx, us, rfl, rfl, g, hl2, t⟩ := d1.insOf hi
    refine ⟨a, dx, _, rfl, r1.gh _ _ g, (lkF_of hl2 t).2 hl, goDB (P := fun _ _ => True) r1 d1 h1 fun ss ρ2 vs G2 H2 ⟨q1, q2, q3⟩ e2 r2 l2 => ⟨by omega, ?_⟩⟩
    exact spGo (vs := .ref a :: vs) (ss := .d _ :: ss) r2 (by simp [l2]) (by simpa using q1) (by simpa [argOk] using q2) q3 fun s v G' H' p e3 r3 => q _ _ _ _ _ p ((e1.tr e2).tr e3) r3
  · subst ev
    obtain rfl : u = Value.ref a := rv
    refine getmeth_ok I1 ea c hm l ?_
    refine PySem.W.callWith_KW0 (h₀ := X.base) (first := [.ref a]) I.ok.mod.kin hm.kp hall (thn (hkw.run pos pins s1 σ H1 _ I1 q1) fun ws s2 ⟨zs, H2, I2, rz, l3, q2⟩ => ⟨I2.kIn, ?_⟩) hpl
    rw [hks]
    exact run_fnN (us := [.ref a]) (vs := [.ref a]) Fn hr hb pass0 I2 (.cons rfl .nil) rz rfl l3 q2
/-- e.f, a property -/
def dProp (C : Addr) (ft : FT) (te : ET) : ET := fun ρ P => te ρ fun s ρ1 => ∃ x, s.dat = some x ∧ (∃ ns vs, insOf C x = some (ns, vs)) ∧ ft [.d x] fun s => noNo s = true ∧ P s ρ1
theorem pd_prop {f : Str} {pa : Addr} (c : Cls X.K C) (hp : PropOf X.K C f pa fa) (Fn : FnOk X.prog X.w X.K X.mg X.base CX0 k fa fd ps (spD X.K 1 ft)) (hr : Room (k + 1) X.A) (hb : Binds X.K fd ps []) (he : PE X e (lift X.K te)) (hab : attributeBase e f X.env (eval e X.env) = eval e X.env := by rfl) :
    PE X (.Attribute e f pos) (lift X.K (dProp C ft te)) :=
  peImp (pe_prop he c hp Fn hr hb .nil (E := E0) pass0 hab) fun σ H Q ⟨F, G, ρ, P, r, h, k⟩ => goD r h fun x ρ1 v G1 H1 ⟨⟨ns, vs, hi⟩, h1⟩ e1 r1 d1 => by
    obtain ⟨a, dx, us, rfl, rfl, g, hl2, t⟩ := d1.insOf hi
    exact ⟨a, dx, _, rfl, r1.gh _ _ g, spGo (vs := [.ref a]) (ss := [.d _]) (σ := σ) (ρ := ρ1) (r1.push d1) rfl rfl rfl h1 fun s v G' H' p e3 r3 => k _ _ _ _ _ p (e1.tr e3) r3⟩

/-- __init__'s promise: the fields that it leaves -/
abbrev FI := List Sl → (List Str → List D → Prop) → Prop
def spI (K : PySem.W.Frag) (C : Addr) (n : Nat) (fi : FI) : Sp := fun vs H Q _ => ∃ x dx G src rest ss P, vs = .ref x :: rest ∧ H x = some (.ins C dx []) ∧ H dx = some (.own x) ∧
  R K ⟨G, H, src, some (x, dx), []⟩ G H (vs.map some) (.bi C [] [] :: ss) ∧ ss.all argOk = true ∧ ss.length + 1 = n ∧ fi ss P ∧
  ∀ ns ds us G' H', P ns ds → Ex G G' → H' x = some (.ins C dx (ns.zip us)) → ns.length = us.length → H' dx = some (.own x) → DdL K G' us ds → R K ⟨G, H, src, some (x, dx), []⟩ G' H' [] [] → Q .non H'
end
end Fl
namespace Fl
open PySem L2
section
variable {X : Cx} {K : PySem.W.Frag} {F : Fr} {G G' H H' : Hp} {σ τ : St} {ρ ss : Env'} {pos : Pos} {e a b o : Expr} {te ta tb : ET} {k n : Nat} {C f fa : Addr} {fd : FuncData} {ps ks : List Str} {ft : FT} {fi : FI} {x m : Str} {p apos : Pos} {es : List Expr} {bb bk : BT} {kws : List Keyword}
theorem R.th_ne (r : R K F G H σ ρ) {q : Addr} (h : H q = none) : q ≠ sysModules := fun e => by obtain ⟨so, z⟩ := r.nm; rw [e, z] at h; cases h
/-- arguments kept while others are made -/
theorem R.pendAll : ∀ (vs : List V) {ss : Env'}, R K F G H (vs.map some ++ σ) (ss ++ ρ) → vs.length = ss.length → ss.all argOk = true →
    ∀ {G' H' σ' ρ'}, Ex G G' → R K F G' H' σ' ρ' → R K F G' H' (vs.map some ++ σ') (ss ++ ρ') := by
  intro vs
  induction vs with
  | nil =>
    intro ss _ hl _ G' H' σ' ρ' _ r
    cases ss with
    | nil => exact r
    | cons s ss => cases hl
  | cons v vs ih =>
    intro ss r0 hl ha G' H' σ' ρ' e r
    cases ss with
    | nil => cases hl
    | cons s ss =>
      rw [List.all_cons, Bool.and_eq_true] at ha
      have r1 : R K F G H (some v :: (vs.map some ++ σ)) (s :: (ss ++ ρ)) := r0
      have jh := ih r1.pop (by simpa using hl) ha.2 e r
      obtain ⟨os, h, nd, f⟩ := r1.sl
      cases h with
      | cons a t =>
        cases a with
        | d a => exact jh.push (a.ex e)
        | src a => exact jh.pushSrc a
        | no => exact absurd ha.1 (by simp [argOk])
        | ol _ _ _ => exact absurd ha.1 (by simp [argOk])
        | od _ _ _ _ _ => exact absurd ha.1 (by simp [argOk])
        | oi _ _ _ _ _ _ => exact absurd ha.1 (by simp [argOk])
        | bi _ _ _ _ _ => exact absurd ha.1 (by simp [argOk])
/-- the heap with a new instance at q, its dict at dx -/
abbrev mkH (H : Hp) (C q dx : Addr) : Hp := upd (upd H dx (.own q)) q (.ins C dx [])
theorem mk_q {q dx : Addr} : mkH H C q dx q = some (.ins C dx []) := upd_same
theorem mk_d {q dx : Addr} (ne : dx ≠ q) : mkH H C q dx dx = some (.own q) := by
  show upd (upd H dx (.own q)) q (.ins C dx []) dx = _
  rw [upd_ne ne, upd_same]
theorem mk_ex {q dx : Addr} (hq : H q = none) (hd : H dx = none) (ne : dx ≠ q) : Ex H (mkH H C q dx) := fun b o e => by
  show upd (upd H dx (.own q)) q (.ins C dx []) b = _
  rw [upd_ne (ne_of_none e hq), upd_ne (ne_of_none e hd)]; exact e
theorem Sls.argsTo {F' : Fr} {os : List Addr} (h : Sls K F G H σ ρ os) (ha : ρ.all argOk = true) (hs : F'.src = F.src) : Sls K F' G H' σ ρ [] := by
  induction h with
  | nil => exact .nil
  | @cons v s σ ρ os ps x t ih =>
    rw [List.all_cons, Bool.and_eq_true] at ha
    refine .cons (os := []) (ps := []) ?_ (ih ha.2)
    cases x with
    | no => exact .no _
    | d h => exact .d h
    | src h => exact .src (by rw [hs]; exact h)
    | ol _ _ _ => exact absurd ha.1 (by simp [argOk])
    | od _ _ _ _ _ => exact absurd ha.1 (by simp [argOk])
    | oi _ _ _ _ _ _ => exact absurd ha.1 (by simp [argOk])
    | bi _ _ _ _ _ => exact absurd ha.1 (by simp [argOk])
theorem R.enterI (r : R K F G H (τ ++ σ) (ss ++ ρ)) (hl : τ.length = ss.length) (ha : ss.all argOk = true) {q dx : Addr} (hq : H q = none) (hd : H dx = none) (ne : dx ≠ q) :
    R K ⟨G, mkH H C q dx, F.src, some (q, dx), []⟩ G (mkH H C q dx) (some (.ref q) :: τ) (.bi C [] [] :: ss) := by
  obtain ⟨os, h, nd, f⟩ := r.sl
  obtain ⟨o1, o2, rfl, h1, h2⟩ := h.split hl
  have nq := r.new hq
  have nx := r.new hd
  have is : ∀ b, InSrc ⟨G, mkH H C q dx, F.src, some (q, dx), []⟩ b → InSrc F b := fun b m => by
    rcases m with m | ⟨o, m⟩
    · exact .inl m
    · cases m
  have ex := mk_ex (C := C) hq hd ne
  have a1 : SlOk K ⟨G, mkH H C q dx, F.src, some (q, dx), []⟩ G (mkH H C q dx) (some (.ref q)) (.bi C [] []) [q, dx] :=
    .bi (us := []) upd_same rfl (mk_d ne) .nil rfl
  refine ⟨.rfl, r.gh.tr ex, fun b o e _ _ => e, fun b o e => .inl e, fun b hb => ?_, fun a c e => ?_, fun y hy => (by cases hy), r.nm.imp fun _ => ex _ _, [q, dx], .cons a1 (h1.argsTo ha rfl), ?_, fun y hy => ?_⟩
  · rcases hb with hb | ⟨a, c, e, hb⟩
    · obtain ⟨o, e⟩ := r.th b (.inl (is b hb))
      exact ⟨o, ex _ _ e⟩
    · cases e
      rcases hb with rfl | rfl
      · exact ⟨_, upd_same⟩
      · exact ⟨_, mk_d ne⟩
  · obtain ⟨z, ga, gc⟩ := r.sr a c e
    have i1 : ∃ o, H a = some o := r.th a (.inl (.inl ⟨a, c, e, .inl rfl⟩))
    have i2 : ∃ o, H c = some o := r.th c (.inl (.inl ⟨a, c, e, .inr rfl⟩))
    obtain ⟨o1, q1⟩ := i1
    obtain ⟨o2, q2⟩ := i2
    exact ⟨z.keep (by rw [q1]; exact ex _ _ q1) (by rw [q2]; exact ex _ _ q2), ga, gc⟩
  · exact List.nodup_cons.mpr ⟨by simpa using Ne.symm ne, by simp⟩
  · rcases (by simpa using hy : y = q ∨ y = dx) with rfl | rfl
    · exact ⟨nq.1, fun m => nq.2.2.1 (is _ m)⟩
    · exact ⟨nx.1, fun m => nx.2.2.1 (is _ m)⟩
theorem R.leaveI (r : R K F G H σ ρ) {q dx : Addr} (hq : H q = none) (hd : H dx = none) (ne : dx ≠ q) {ns : List Str} {us : List V} {vs : List D} (c : R K ⟨G, mkH H C q dx, F.src, some (q, dx), []⟩ G' H' [] [])
    (h1 : H' q = some (.ins C dx (ns.zip us))) (h2 : ns.length = us.length) (h3 : H' dx = some (.own q)) (h4 : DdL K G' us vs) : R K F G' H' (some (.ref q) :: σ) (.oi C ns vs :: ρ) := by
  obtain ⟨os, h, nd, f⟩ := r.sl
  have nq := r.new hq
  have nx := r.new hd
  have is : ∀ b, InSrc ⟨G, mkH H C q dx, F.src, some (q, dx), []⟩ b → InSrc F b := fun b m => by
    rcases m with m | ⟨o, m⟩
    · exact .inl m
    · cases m
  have ex := mk_ex (C := C) hq hd ne
  have keep : ∀ b o, H b = some o → ¬ InSrc ⟨G, mkH H C q dx, F.src, some (q, dx), []⟩ b → H' b = some o := fun b o e n => c.fr b o (ex _ _ e) n fun ⟨a, c, z, m⟩ => by
    cases z
    rcases m with rfl | rfl
    · rw [hq] at e; cases e
    · rw [hd] at e; cases e
  have newG : ∀ b o, G' b = some o → G b = some o ∨ H b = none := fun b o e => by
    rcases c.nw b o e with z | z
    · exact .inl z
    · refine .inr ?_
      cases q2 : H b with
      | none => rfl
      | some u => exact absurd (show mkH H C q dx b = none from z) (by rw [ex _ _ q2]; simp)
  have gnone : ∀ b o, H b = some o → G b = none → G' b = none := fun b o e g => by
    cases q2 : G' b with
    | none => rfl
    | some u =>
      rcases newG b u q2 with z | z
      · rw [g] at z; cases z
      · rw [e] at z; cases z
  have gself : ∀ y, (y = q ∨ y = dx) → G' y = none := fun y hy => by
    have g0 : G y = none := by
      rcases hy with rfl | rfl
      · exact nq.1
      · exact nx.1
    have m0 : ∃ o, mkH H C q dx y = some o := by
      rcases hy with rfl | rfl
      · exact ⟨_, mk_q⟩
      · exact ⟨_, mk_d ne⟩
    cases q2 : G' y with
    | none => rfl
    | some u =>
      rcases c.nw y u q2 with z | z
      · exact absurd (show G y = some u from z) (by rw [g0]; simp)
      · obtain ⟨o, e⟩ := m0
        exact absurd (show mkH H C q dx y = none from z) (by rw [e]; simp)
  refine ⟨r.gg.tr c.gg, c.gh, fun b o e n1 n2 => keep b o (r.fr b o e n1 n2) fun m => n1 (is b m), fun b o e => ?_, fun b hb => ?_, fun a c' e => c.sr a c' e, fun y hy => ?_, c.nm, [q, dx] ++ os, .cons (.oi h1 h2 h3 h4 nq.2.1 nx.2.1) (h.keep c.gg fun y hy => ?_), ?_, fun y hy => ?_⟩
  · rcases newG b o e with z | z
    · exact r.nw b o z
    · exact .inr (r.new z).2.1
  · obtain ⟨o, e⟩ := r.th b hb
    by_cases m : InSrc ⟨G, mkH H C q dx, F.src, some (q, dx), []⟩ b
    · exact c.th b (.inl m)
    · exact ⟨o, keep b o e m⟩
  · obtain ⟨k1, k2, k3⟩ := r.kp y hy
    refine ⟨keep _ _ k1 fun m => ?_, gnone _ _ k1 k2, k3⟩
    rcases m with ⟨a, c', e, m⟩ | ⟨o, m⟩
    · rcases m with m | m
      · exact (k3 a c' e).1 m
      · exact (k3 a c' e).2 m
    · cases m
  · obtain ⟨o, e⟩ := h.inH y hy
    rw [e]; exact keep y o e fun m => (f y hy).2 (is y m)
  · have a1 := h.notIn hq
    have a2 := h.notIn hd
    refine List.nodup_append.mpr ⟨List.nodup_cons.mpr ⟨by simpa using Ne.symm ne, by simp⟩, nd, fun y hy z hz e => ?_⟩
    subst e
    rcases (by simpa using hy : y = q ∨ y = dx) with rfl | rfl
    · exact a1 _ hz rfl
    · exact a2 _ hz rfl
  · rcases List.mem_append.mp hy with m | m
    · have m : y = q ∨ y = dx := by simpa using m
      refine ⟨gself y m, ?_⟩
      rcases m with rfl | rfl
      · exact nq.2.2.1
      · exact nx.2.2.1
    · obtain ⟨o, e⟩ := h.inH y m
      exact ⟨gnone y o e (f y m).1, (f y m).2⟩
/-- C(e, .., k = v, ..): positional ones, then keywords that stand in the parameters' order -/
def dMakeK (C : Addr) (n m : Nat) (fi : FI) (tb bk : BT) : ET := fun ρ P => tb ρ fun ss ρ1 => ss.all argOk = true ∧ bk ρ1 fun zs ρ2 => zs.all argOk = true ∧ ss.length = n ∧ zs.length = m ∧ fi (ss ++ zs) fun ns vs => P (.oi C ns vs) ρ2
theorem makeGo {ws zs : List V} {ss zz : Env'} {P : Sl → Env' → Prop} {Q : VK} {E : XK} {q dx : Addr} (r : R K F G H ((ws ++ zs).map some ++ σ) ((ss ++ zz) ++ ρ)) (hl : (ws ++ zs).length = (ss ++ zz).length) (ha : (ss ++ zz).all argOk = true) (hn : (ss ++ zz).length + 1 = n)
    (h : fi (ss ++ zz) fun ns vs => P (.oi C ns vs) ρ) (hq : H q = none) (hd : H dx = none) (ne : dx ≠ q) (k : ∀ s v G' H', P s ρ → Ex G G' → R K F G' H' (some v :: σ) (s :: ρ) → Q v H') :
    spI K C n fi (.ref q :: (ws ++ zs)) (mkH H C q dx) (fun v H2 => v = .non ∧ Q (.ref q) H2) E := by
  refine ⟨q, dx, G, F.src, ws ++ zs, ss ++ zz, _, rfl, upd_same, mk_d ne, r.enterI (by rw [List.length_map]; exact hl) ha hq hd ne, ha, hn, h, fun ns ds us G2 H2 hp e2 g1 g2 g3 g4 c => ⟨rfl, ?_⟩⟩
  exact k _ _ _ _ hp e2 ((r.rest (by rw [List.length_map]; exact hl)).leaveI hq hd ne c g1 g2 g3 g4)
theorem pd_makeK {m : Nat} (M : Mk X.K C fa) (Fn : FnOk X.prog X.w X.K X.mg X.base CX0 k fa fd ps (spI X.K C (n + m + 1) fi)) (hr : Room (k + 1) X.A) (hg : Gl X x) (hm : X.mg x = some (.ref C)) (hb : KBn X.K fd ps (n + 1) ks (fun us ws => us ++ ws) (fun vs zs => vs ++ zs)) (ha : PA X (e :: es) (liftB X.K bb)) (hkw : PK X kws (liftB X.K bk)) (hkl : ks.length = m)
    (hall : (backToKw pos (keywordEach kws X.env)).all (·.1.isSome) = true := by rfl) (hks : (backToKw pos (keywordEach kws X.env)).filterMap (·.1) = ks := by rfl) (hdb : (x == ("__debug__" : Str)) = false := by decide)
    (he : starEach (e :: es) X.env = (false, eval e X.env) :: starEach es X.env := by rfl) (hpl : ((backTo pos (starEach (e :: es) X.env)).any (·.1) || (backToKw pos (keywordEach kws X.env)).any (·.1.isNone)) = false := by rfl) :
    PE X (.Call (.Name x p) (e :: es) kws pos) (lift X.K (dMakeK C n m fi bb bk)) := by
  subst hkl
  refine peImp (pe_makeK (n := n) M Fn hr hg hm hb pass0 ha hkw hall hks hdb he hpl) fun σ H Q ⟨F, G, ρ, P, r, h, q⟩ => ⟨F, G, ρ, _, r, h, fun ss ρ1 vs G1 H1 ⟨a1, h1⟩ e1 r1 l1 => ⟨F, G1, ρ1, _, r1.rest (by rw [List.length_map]; exact l1), h1, fun zz ρ2 zs G2 H2 ⟨a2, n1, n2, h2⟩ e2 r2 l2 => ⟨l1.trans n1, l2.trans n2, fun y dx hy hd ne => ?_⟩⟩⟩
  have r3 := R.pendAll _ r1 l1 a1 e2 r2
  refine makeGo (ws := vs) (zs := zs) (ss := ss) (zz := zz) (σ := σ) (ρ := ρ2) ?_ (by simp [l1, l2]) (by rw [List.all_append, a1, a2]; rfl) (by simp; omega) h2 hy hd ne fun s v G' H' p e3 r4 => q _ _ _ _ _ p ((e1.tr e2).tr e3) r4
  rw [List.map_append, List.append_assoc, List.append_assoc]
  exact r3
/-- C(e, ..) -/
def dMake (C : Addr) (n : Nat) (fi : FI) (tb : BT) : ET := fun ρ P => tb ρ fun ss ρ1 => ss.all argOk = true ∧ ss.length = n ∧ fi ss fun ns vs => P (.oi C ns vs) ρ1
theorem pd_make (M : Mk X.K C fa) (Fn : FnOk X.prog X.w X.K X.mg X.base CX0 k fa fd ps (spI X.K C (n + 1) fi)) (hr : Room (k + 1) X.A) (hg : Gl X x) (hm : X.mg x = some (.ref C)) (hb : Binds X.K fd ps []) (ha : PA X (e :: es) (liftB X.K bb))
    (hdb : (x == ("__debug__" : Str)) = false := by decide) (he : starEach (e :: es) X.env = (false, eval e X.env) :: starEach es X.env := by rfl) (hpl : (backTo pos (starEach es X.env)).any (·.1) = false := by rfl) :
    PE X (.Call (.Name x p) (e :: es) [] pos) (lift X.K (dMake C n fi bb)) :=
  peImp (pe_make M Fn hr hg hm hb .nil pass0 ha hdb he hpl) fun σ H Q ⟨F, G, ρ, P, r, h, q⟩ => ⟨F, G, ρ, _, r, h, fun ss ρ1 vs G1 H1 ⟨a1, n1, h1⟩ e1 r1 l1 => fun y dx hy hd ne => by
    rw [List.append_nil]
    have z := makeGo (ws := vs) (zs := []) (ss := ss) (zz := []) (σ := σ) (ρ := ρ1) (n := n + 1) (E := E0) (fi := fi) (C := C) (P := P) (Q := Q) (by rw [List.append_nil, List.append_nil]; exact r1) (by simp [l1]) (by rw [List.append_nil]; exact a1) (by rw [List.append_nil]; omega) (by rw [List.append_nil]; exact h1) hy hd ne fun s v G' H' p e3 r4 => q _ _ _ _ _ p (e1.tr e3) r4
    rw [List.append_nil] at z
    exact z⟩
/-- __init__ by its body -/
def BodyI (N : List Str) (C : Addr) (n : Nat) (t : ST) (fi : FI) : Prop := ∀ ss P, ss.all argOk = true → ss.length + 1 = n → fi ss P →
  t { nx := fun ρ => ∃ ns vs, ρ[0]? = some (.bi C ns vs) ∧ P ns vs, rt := fun _ => False } (.bi C [] [] :: ss ++ List.replicate (N.length - n) .no)
theorem liftS_startI {N : List Str} {t : ST} (hb : BodyI N C n t fi) {vs : List V} {H : Hp} {Q : VK} {E : XK} (h : spI K C n fi vs H Q E) : liftS K t { nx := fun _ H' => Q .non H', rt := Q } (L2.start N vs) H := by
  obtain ⟨q, dx, G, src, rest, ss, P, rfl, hq, hd, r, ha, hn, hf, k⟩ := h
  have e : (V.ref q :: rest).length = n := by have := r.len; rw [List.length_map] at this; simpa using this.trans hn
  refine ⟨⟨G, H, src, some (q, dx), []⟩, G, _, _, ?_, hb ss _ ha hn hf, ⟨fun σ ρ G' H' ⟨ns, vs, h0, hP⟩ e r' => ?_, fun σ ρ G' H' z => z.elim, fun σ ρ G' H' z => z.elim, fun s v σ ρ G' H' hP e r' => hP.elim⟩⟩
  · unfold L2.start
    rw [e]
    exact r.more _
  · obtain ⟨os, h, nd, f⟩ := r'.sl
    obtain ⟨v, os1, os2, e1, e2, e3, _⟩ := h.at h0
    cases e2 with
    | bi h1 h2 h3 h4 h5 =>
      cases h5
      exact k _ _ _ _ _ hP e h1 h2 h3 h4 r'.nil
end
end Fl
namespace Fl
open PySem PySem.Spec PySem.W PyProof.Rows L2

/-- as FnOk, of a stack on which no repr waits -/
structure FnG (P : Program) (w : World) (K : PySem.W.Frag) (mg : Str → Option Value) (base : Heap) (k : Nat) (f : Addr) (fd : FuncData) (ps : List Str) (sp : Sp) : Prop where
  len : ∀ vs H Q E, sp vs H Q E → vs.length = ps.length
  run : ∀ (A : Around) (outer : List Env) (s : Shared) (H : Hp) (args : Args) (us : List Value) (vs : List V) (Q : VK) (E : XK), A.guards = some [] → Room k A → Env0 P w K mg base A outer s H →
    BindsTo s fd args (ps.zip us) → Vals vs us → sp vs H Q E → codeAny (model P w) A (.call (.ref f) args) (CR CX0 outer P w H s Q E) s
section
variable {P : Program} {w : World} {K : PySem.W.Frag} {mg : Str → Option Value} {base : Heap}
theorem deeper_guards (A : Around) (env : Env) : (A.deeper env).guards = A.guards := rfl
/-- a def by its body; no repr waits ahead of it -/
theorem fnG_of {x qual : Str} {st : Stmt} {f : Addr} {fd : FuncData} {N ps : List Str} {k : Nat} {sp : Sp} (F : Fun K x qual st f fd) (S : FnScope N ps (defScope st)) (len : ∀ vs H Q E, sp vs H Q E → vs.length = ps.length)
    (body : ∀ (cdv : Value) (A : Around) (outer : List Env) (s : Shared) (H : Hp) (vs : List V) (Q : VK) (E : XK), (A.deeper (envOfC qual (defScope st) s.heap.objs.size f cdv)).guards = some [] → Room k (A.deeper (envOfC qual (defScope st) s.heap.objs.size f cdv)) → sp vs H Q E →
      ∃ t, PSs (cxOf CX0 P w K mg base N qual (defScope st) f cdv A outer s H E).nox (defBody st) t ∧ t { nx := fun _ H' => Q .non H', rt := Q } (L2.start N vs) H) : FnG P w K mg base (k + 1) f fd ps sp := by
  obtain ⟨oc, od, kV, doc, pm, an, cdv, ct, osl, hfd, lk, hcd⟩ := F.ex
  constructor
  · exact len
  intro A outer s H args us vs Q E hg hr e0 hb r hsp
  have lens : vs.length = ps.length := len vs H Q E hsp
  have kin : K.In s.heap := (e0.mod.kin).keeps (fun b o z => (e0.bs b o z).left)
  have nolim : s.heap.NoLimit := (e0.mod.nolimit).keeps (fun b o z => (e0.bs b o z).left)
  subst hfd
  apply codeAny_call_function hr.depth (kin f _ lk) rfl S.co S.gen rfl (PySem.W.codeRec_of kin hcd)
  apply hb
  have kinds : ∀ y ∈ ps.zip us, (defScope st).names.lookup y.1 = some .local ∨ ((defScope st).names.lookup y.1 = some .cell ∧ ((cellsFrom (s.heap.objs.size + 1) (defScope st).names []).lookup y.1).isSome = true) := by
    rintro ⟨nm, val⟩ hy
    have hin : nm ∈ ps := (List.of_mem_zip hy).1
    exact (S.par nm hin).imp id fun q => ⟨q, PySem.W.cellsFrom_some _ _ _ (Or.inl q)⟩
  apply wpAny_newFunctionEnv_cells S.kind kinds
  rintro env rfl s1 hx
  constructor
  · exact nolim.keeps hx.toInCall.keep
  apply codeAny_func
  obtain ⟨t, ht, hq⟩ := body cdv A outer s H vs Q E (by rw [deeper_guards]; exact hg) (hr.deeper _) hsp
  have I0 : Inv (cxOf CX0 P w K mg base N qual (defScope st) f cdv A outer s H E) [] (L2.start N vs) H s1 := inv_start S hr.hd e0 lens r hx
  have run := (PSs.nox ht).run [] s1 (L2.start N vs) H { nx := fun _ H' => Q .non H', rt := Q } I0 hq
  apply wpAny_mono run
  · intro fl s' hs
    cases fl with
    | ret u =>
      obtain ⟨v, σ', H', J, rv, q⟩ := hs
      exact ⟨v, H', J.os, J.bare, J.base, J.hok, rv, q⟩
    | next =>
      obtain ⟨σ', H', J, q⟩ := hs
      exact ⟨V.non, H', J.os, J.bare, J.base, J.hok, rfl, q⟩
    | brk =>
      obtain ⟨_, _, _, q⟩ := hs
      cases q
    | cont =>
      obtain ⟨_, _, _, q⟩ := hs
      cases q
  · exact fun e s' z => z
theorem FnG.of {k : Nat} {f : Addr} {fd : FuncData} {ps : List Str} {sp : Sp} (F : FnOk P w K mg base CX0 k f fd ps sp) : FnG P w K mg base k f fd ps sp := ⟨F.len, fun A outer s H args us vs Q E _ hr e hb r h => F.run A outer s H args us vs Q E hr e hb r h⟩
/-- the law's promise -/
def spLaw (K : PySem.W.Frag) : Sp := fun vs H Q _ => ∃ (a : Addr) (ns : List Int), vs = [.ref a] ∧ SqL K H a (ns.map V.int) ∧ ns.length ≤ 63 ∧ (∃ so, H sysModules = some (.frz so sysO)) ∧ ∀ H', Q (.bl true) H'

/-- what is tracked ahead of the law: the script (if the text itself has no such object), sys.modules' place -/
def lawH (so : Obj) (a : Addr) (o : Option HO) : Hp := fun b => if b = sysModules then some (.frz so sysO) else if b = a then o else none
theorem law_entry {mb : Str → Option Value} {k : Nat} {fa a : Addr} {fd : FuncData} {x : Str} {s₁ : Shared} {vs : List Value} {ns : List Int}
    (KX : K.In s₁.heap) (hns : s₁.heap.Ns mainGlobals mg) (hb : s₁.heap.Ns builtinsNs mb) (hbb : ∀ x : Str, x ≠ "__name__" → mb x = bootBuiltins x) (hlim : s₁.heap.NoLimit) (hg : s₁.gens = #[])
    (ha : s₁.heap.get? a = some { cls := .type "list", data := .seq vs.toArray }) (hi : IntsAre vs ns) (hl : ns.length ≤ 63) (hr : Room k callerA) (hsk : K.lookup sysModules = none)
    (hsy : ∃ mm, s₁.heap.Ns sysModules mm)
    (F : ∀ base : Heap, K.In base → base.Ns mainGlobals mg → FnG P w K mg base k fa fd [x] (spLaw K)) (hbind : ∀ (s : Shared) (u : Value), BindsTo s fd ⟨[u], []⟩ [(x, u)]) :
    codeAny (model P w) callerA (.call (.ref fa) ⟨[.ref a], []⟩) (fun r s' => r = .ok (.ret (.bool true)) ∧ OldK s₁.heap s'.heap ∧ s'.os = s₁.os ∧ AllBare s'.gens) s₁ := by
  have rv := L2.vals_ints hi
  have len : ns.length ≤ sizeLine := Nat.le_trans hl (by decide)
  obtain ⟨mm, om, em, pm, hom, dom, _⟩ := hsy
  have anm : a ≠ sysModules := fun e => by
    rw [e, hom] at ha
    cases ha
    cases (show PySem.Data.seq _ _ = PySem.Data.dict _ _ from dom)
  -- the heap that is told of: H, the script in it if the text does not hold it
  have main : ∀ o : Option HO, lawH om a o a = o → (∀ u, o = some u → u = .frz { cls := .type "list", data := .seq vs.toArray } (.lst (ns.map V.int)) ∧ K.lookup a = none) → SqL K (lawH om a o) a (ns.map V.int) →
      codeAny (model P w) callerA (.call (.ref fa) ⟨[.ref a], []⟩) (fun r s' => r = .ok (.ret (.bool true)) ∧ OldK s₁.heap s'.heap ∧ s'.os = s₁.os ∧ AllBare s'.gens) s₁ := by
    intro o hoa ho hS
    have at_ : ∀ b u, lawH om a o b = some u → (b = sysModules ∧ u = .frz om sysO) ∨ (b = a ∧ o = some u) := fun b u e => by
      unfold lawH at e
      by_cases q : b = sysModules
      · rw [if_pos q] at e; exact .inl ⟨q, (Option.some.inj e).symm⟩
      · rw [if_neg q] at e
        by_cases q2 : b = a
        · rw [if_pos q2] at e; exact .inr ⟨q2, e⟩
        · rw [if_neg q2] at e; cases e
    have un : ∀ {b : Addr}, b ≠ sysModules → (b = a → o = none) → lawH om a o b = none := fun {b} n1 n2 => by
      unfold lawH
      rw [if_neg n1]
      by_cases q2 : b = a
      · rw [if_pos q2]; exact n2 q2
      · rw [if_neg q2]
    have ok : HOk P w (lawH om a o) s₁.heap := fun b u e => by
      rcases at_ b u e with ⟨rfl, rfl⟩ | ⟨rfl, e2⟩
      · exact ⟨hom, ⟨om, hom⟩, ⟨om, hom⟩, fun h1 h2 ⟨o1, q1⟩ z => ⟨o1, z o1 q1⟩⟩
      · obtain ⟨rfl, _⟩ := ho u e2
        exact ⟨ha, by rw [List.length_map]; exact len, vs, _, rv, ha⟩
    -- what the text wrote is none of these
    have kN : ∀ b o', K.lookup b = some o' → lawH om a o b = none := fun b o' e => un (fun q => by rw [q, hsk] at e; cases e) fun q => by
      cases z : o with
      | none => rfl
      | some u => rw [q, (ho u z).2] at e; cases e
    have kB : K.In (hidT s₁.heap (lawH om a o)) := fun b o' e => hidT_get (KX b o' e) (kN b o' e)
    have nB : ∀ {b : Addr} {m : Str → Option Value}, b ≠ sysModules → s₁.heap.Ns b m → (hidT s₁.heap (lawH om a o)).Ns b m := fun {b m} n ⟨u, es, ep, e, d, r⟩ => by
      refine ⟨u, es, ep, hidT_get e (un n fun q => ?_), d, r⟩
      rw [q, ha] at e
      cases e
      cases (show PySem.Data.seq _ _ = PySem.Data.dict _ _ from d)
    have M : Mod K mg (hidT s₁.heap (lawH om a o)) := ⟨kB, nB (by decide) hns, ⟨mb, nB (by decide) hb, hbb⟩, let ⟨mc, h1, h2⟩ := hlim; ⟨mc, nB (by decide) h1, h2⟩⟩
    have E0 : Env0 P w K mg (hidT s₁.heap (lawH om a o)) callerA [] s₁ (lawH om a o) := ⟨rfl, M, fun b u e => of_hidT e, Nat.le_of_eq (hidT_size _ _), trivial, fun b z => absurd (show b ∈ ([] : List Addr) from z) (by simp), ok, .of_eq hg⟩
    refine codeAny_mono ((F _ kB (nB (by decide) hns)).run callerA [] s₁ (lawH om a o) ⟨[.ref a], []⟩ [.ref a] [.ref a] (fun v _ => v = .bl true) (fun _ _ _ => False) rfl hr E0 (hbind s₁ (.ref a)) (.cons rfl .nil) ⟨a, ns, rfl, hS, hl, ⟨om, if_pos rfl⟩, fun _ => rfl⟩) fun r s' z => ?_
    cases r with
    | error e => exact False.elim z
    | ok fl =>
      cases fl with
      | next => exact False.elim z
      | brk => exact False.elim z
      | cont => exact False.elim z
      | ret u =>
        obtain ⟨v, H', os, bare, keep, ok', ru, q⟩ := z
        subst q
        obtain rfl : u = Value.bool true := ru
        refine ⟨rfl, OldK.of_keep fun b u e => ?_, os, bare⟩
        cases z : lawH om a o b with
        | none => exact keep.keep b u e z (by intro q; exact absurd (show b ∈ ([] : List Addr) from q) (by simp)) (by simp)
        | some y =>
          have fz : ∃ t, y = .frz u t := by
            rcases at_ b y z with ⟨rfl, rfl⟩ | ⟨rfl, z2⟩
            · rw [hom] at e; cases e; exact ⟨_, rfl⟩
            · rw [ha] at e; cases e; exact ⟨_, (ho y z2).1⟩
          obtain ⟨t, rfl⟩ := fz
          exact (ok' b _ (keep.frzs b u t z)).1
  cases hk : K.lookup a with
  | some o =>
    have e := KX a o hk
    rw [ha] at e
    cases e
    exact main none (by unfold lawH; rw [if_neg anm, if_pos rfl]) (fun u e => nomatch e) (.inr ⟨_, vs.toArray, _, hk, rfl, rfl, rfl, by rw [List.size_toArray, hi.length]; exact len, by simpa using rv⟩)
  | none => exact main (some (.frz { cls := .type "list", data := .seq vs.toArray } (.lst (ns.map V.int)))) (by unfold lawH; rw [if_neg anm, if_pos rfl]) (fun u e => ⟨(Option.some.inj e).symm, hk⟩) (.inl (.inr ⟨_, by unfold lawH; rw [if_neg anm, if_pos rfl]⟩))
end
end Fl
namespace Fl
open PySem PySem.Spec L2

def keyR : Key → PyData
  | .inl i => .int i
  | .inr s => .str s
mutual
/-- data as repr sees them -/
def toR : D → PyData
  | .non => .none
  | .bl b => .bool b
  | .int i => .int i
  | .str s => .str s
  | .lst xs => .list (toRs xs)
  | .tup xs => .tuple (toRs xs)
  | .dic ks vs => .dict (toKv ks vs)
  | .ins _ _ _ => .none
def toRs : List D → List PyData
  | [] => []
  | x :: xs => toR x :: toRs xs
def toKv : List Key → List D → List (PyData × PyData)
  | k :: ks, x :: xs => (keyR k, toR x) :: toKv ks xs
  | _, _ => []
end
def keyWt : Key → Nat
  | .inl i => i.natAbs + 2
  | .inr s => 10 * s.length + 2
def keySk : Key → Bool
  | .inl _ => true
  | .inr s => PyData.strOk s
mutual
/-- no shorter than its repr -/
def wt : D → Nat
  | .non => 5
  | .bl _ => 5
  | .int i => i.natAbs + 2
  | .str s => 10 * s.length + 2
  | .lst xs => 3 + wts xs
  | .tup xs => 3 + wts xs
  | .dic ks vs => 3 + wtk ks vs
  | .ins _ _ _ => 0
def wts : List D → Nat
  | [] => 0
  | x :: xs => wt x + 2 + wts xs
def wtk : List Key → List D → Nat
  | k :: ks, x :: xs => keyWt k + 2 + wt x + 2 + wtk ks xs
  | _, _ => 0
end
mutual
/-- no instance within, at most n deep, keys of valid signs -/
def shw : Nat → D → Bool
  | _, .non => true
  | _, .bl _ => true
  | _, .int _ => true
  | _, .str s => PyData.strOk s
  | 0, _ => false
  | n + 1, .lst xs => shws n xs
  | n + 1, .tup xs => shws n xs
  | n + 1, .dic ks vs => ks.all keySk && shws n vs
  | _ + 1, .ins _ _ _ => false
def shws : Nat → List D → Bool
  | _, [] => true
  | n, x :: xs => shw n x && shws n xs
end
theorem shws_all : ∀ {n : Nat} {xs : List D}, shws n xs = xs.all (shw n)
  | _, [] => by unfold shws; rfl
  | n, x :: xs => by unfold shws; rw [List.all_cons, shws_all]
/-- the text -/
def reprD (x : D) : Str := PyData.shown (toR x)

theorem sok_app {a b : Str} (h1 : PyData.strOk a = true) (h2 : PyData.strOk b = true) : PyData.strOk (a ++ b) = true := by
  show (a.cps ++ b.cps).all _ = true
  rw [Array.all_append]
  exact Bool.and_eq_true_iff.mpr ⟨h1, h2⟩
theorem sok_of (z : String) : PyData.strOk (Str.ofString z) = true := by
  rw [Str.ofString_eq_toList]
  show ((z.toList.map Char.toNat).toArray).all _ = true
  rw [List.all_toArray, List.all_map, List.all_eq_true]
  intro c _
  refine decide_eq_true ?_
  have v := c.valid
  show c.val.toNat < 0x110000
  rcases v with v | v
  · exact Nat.lt_trans v (by decide)
  · exact v.2
theorem sok_cps {x : Str} : PyData.strOk x = true ↔ ∀ c ∈ x.cps.toList, c < 0x110000 := by
  unfold PyData.strOk
  rw [Array.all_eq_true_iff_forall_mem]
  constructor
  · intro h c hc; exact of_decide_eq_true (h c (by simpa using hc))
  · intro h c hc; exact decide_eq_true (h c (by simpa using hc))
theorem hex_ok (w c : Nat) : ∀ y ∈ List.replicate (w - ((Nat.toDigits 16 c).map Char.toNat).length) 48 ++ (Nat.toDigits 16 c).map Char.toNat, y < 0x110000 := by
  intro y hy
  rcases List.mem_append.mp hy with hy | hy
  · rw [List.mem_replicate] at hy; omega
  · obtain ⟨d, _, rfl⟩ := List.mem_map.mp hy
    show d.val.toNat < 0x110000
    rcases d.valid with v | v
    · exact Nat.lt_trans v (by decide)
    · exact v.2
theorem sign_ok {q c : Nat} (hc : c < 0x110000) : ∀ y ∈ Builtin.Str.reprChar q c, y < 0x110000 := by
  have h := fun w => hex_ok w c
  unfold Builtin.Str.reprChar
  dsimp only
  repeat' split
  all_goals intro y hy
  all_goals simp only [List.cons_append, List.nil_append, List.mem_cons, List.not_mem_nil, or_false] at hy
  all_goals first
    | omega
    | (rcases hy with hy | hy | hy; (omega); (omega); exact h _ y hy)
theorem fold_ok {q : Nat} : ∀ (l : List Nat) (acc : Array Nat), (∀ c ∈ l, c < 0x110000) → (∀ c ∈ acc.toList, c < 0x110000) → ∀ c ∈ (l.foldl (fun out c => out ++ (Builtin.Str.reprChar q c).toArray) acc).toList, c < 0x110000
  | [], _, _, h => h
  | y :: r, acc, h, g => by
    rw [List.foldl_cons]
    refine fold_ok r _ (fun c hc => h c (List.mem_cons_of_mem _ hc)) fun c hc => ?_
    rw [Array.toList_append, List.mem_append] at hc
    rcases hc with hc | hc
    · exact g c hc
    · exact sign_ok (h y (by simp)) c (by simpa using hc)
theorem sok_repr {x : Str} (h : PyData.strOk x = true) : PyData.strOk (PySem.reprText x) = true := by
  have h' := sok_cps.mp h
  have q : PySem.reprQuote x < 0x110000 := by unfold PySem.reprQuote; split <;> decide
  rw [sok_cps]
  show ∀ c ∈ ((x.cps.foldl (fun out c => out ++ (Builtin.Str.reprChar (PySem.reprQuote x) c).toArray) #[PySem.reprQuote x]).push (PySem.reprQuote x)).toList, c < 0x110000
  intro c hc
  rw [Array.toList_push, List.mem_append, ← Array.foldl_toList] at hc
  rcases hc with hc | hc
  · exact fold_ok x.cps.toList _ h' (fun y hy => by have e : y = PySem.reprQuote x := by simpa using hy
                                                    rw [e]; exact q) c hc
  · have e : c = PySem.reprQuote x := by simpa using hc
    rw [e]; exact q
theorem sok_join {a : Str} (ha : PyData.strOk a = true) : ∀ ts : List Str, (∀ t ∈ ts, PyData.strOk t = true) → PyData.strOk (Str.join a ts) = true
  | [], _ => sok_of ""
  | [x], h => h x (by simp)
  | x :: y :: r, h => sok_app (sok_app (h x (by simp)) ha) (sok_join ha (y :: r) fun t ht => h t (List.mem_cons_of_mem _ ht))
theorem sok_from : ∀ (ts : List Str) (k : Nat) (acc : Str), PyData.strOk acc = true → (∀ t ∈ ts, PyData.strOk t = true) → PyData.strOk (textFrom k acc ts) = true
  | [], _, _, h, _ => h
  | t :: r, k, acc, h, g => sok_from r (k + 1) _ (sok_app (sok_app h (by split <;> exact sok_of _)) (g t (by simp))) fun u hu => g u (List.mem_cons_of_mem _ hu)
theorem sok_key {k : Key} (h : keySk k = true) : PyData.strOk (PyData.shown (keyR k)) = true := by
  cases k with
  | inl i => simp only [keyR, PyData.shown]; exact sok_of _
  | inr s => simp only [keyR, PyData.shown]; exact sok_repr h
mutual
theorem sok_shown : ∀ (n : Nat) (x : D), shw n x = true → PyData.strOk (PyData.shown (toR x)) = true
  | _, .non, _ => by simp only [toR, PyData.shown]; exact sok_of _
  | _, .bl b, _ => by simp only [toR, PyData.shown]; split <;> exact sok_of _
  | _, .int i, _ => by simp only [toR, PyData.shown]; exact sok_of _
  | n, .str s, h => by simp only [toR, PyData.shown]; exact sok_repr (by cases n <;> simpa [shw] using h)
  | 0, .lst _, h => by simp [shw] at h
  | 0, .tup _, h => by simp [shw] at h
  | 0, .dic _ _, h => by simp [shw] at h
  | 0, .ins _ _ _, h => by simp [shw] at h
  | n + 1, .ins _ _ _, h => by simp [shw] at h
  | n + 1, .lst xs, h => by
    simp only [toR, PyData.shown]
    exact sok_app (sok_from _ _ _ (sok_of _) (sok_all n xs (by simpa only [shw] using h))) (sok_of _)
  | n + 1, .tup xs, h => by
    simp only [toR, PyData.shown]
    exact sok_app (sok_app (sok_of _) (sok_join (sok_of _) _ (sok_all n xs (by simpa only [shw] using h)))) (by split <;> exact sok_of _)
  | n + 1, .dic ks vs, h => by
    simp only [toR, PyData.shown]
    have h' : ks.all keySk = true ∧ shws n vs = true := by simpa only [shw, Bool.and_eq_true] using h
    exact sok_app (sok_app (sok_of _) (sok_join (sok_of _) _ (sok_kv n ks vs h'.1 h'.2))) (sok_of _)
theorem sok_all : ∀ (n : Nat) (xs : List D), shws n xs = true → ∀ t ∈ PyData.shownAll (toRs xs), PyData.strOk t = true
  | _, [], _ => by simp [toRs, PyData.shownAll]
  | n, x :: xs, h => by
    simp only [shws, Bool.and_eq_true] at h
    simp only [toRs, PyData.shownAll, List.mem_cons]
    rintro t (rfl | ht)
    · exact sok_shown n x h.1
    · exact sok_all n xs h.2 t ht
theorem sok_kv : ∀ (n : Nat) (ks : List Key) (xs : List D), ks.all keySk = true → shws n xs = true → ∀ t ∈ PyData.shownKv (toKv ks xs), PyData.strOk t = true
  | _, [], xs, _, _ => by simp [toKv, PyData.shownKv]
  | _, _ :: _, [], _, _ => by simp [toKv, PyData.shownKv]
  | n, k :: ks, x :: xs, g, h => by
    simp only [shws, Bool.and_eq_true] at h
    rw [List.all_cons, Bool.and_eq_true] at g
    simp only [toKv, PyData.shownKv, List.mem_cons]
    rintro t (rfl | ht)
    · exact sok_app (sok_app (sok_key g.1) (sok_of _)) (sok_shown n x h.1)
    · exact sok_kv n ks xs g.2 h.2 t ht
end
theorem lt8_of {x : Str} (h : PyData.strOk x = true) : ∀ c ∈ x.cps.toList, c < 16 ^ 8 := fun c hc => Nat.lt_trans (sok_cps.mp h c hc) (by decide)
theorem wt_int (i : Int) : (Str.ofString (toString i)).length ≤ i.natAbs + 2 := by have := PyProof.Rows.len_str_of_int i; omega
theorem wt_key {k : Key} (h : keySk k = true) : (PyData.shown (keyR k)).length ≤ keyWt k := by
  cases k with
  | inl i => simp only [keyR, PyData.shown]; exact wt_int i
  | inr s => simp only [keyR, PyData.shown]; exact StrLaws.reprText_len s (lt8_of h)
theorem join_le (a : Str) (h : a.length ≤ 2) : ∀ ts : List Str, (Str.join a ts).length ≤ piled ts
  | [] => Nat.zero_le _
  | [x] => by show x.length ≤ piled [x]; simp [piled]
  | x :: y :: r => by
    have ih := join_le a h (y :: r)
    show (x ++ a ++ Str.join a (y :: r)).length ≤ _
    rw [strLen_append, strLen_append, piled_cons]
    omega
mutual
theorem wt_shown : ∀ (n : Nat) (x : D), shw n x = true → (PyData.shown (toR x)).length ≤ wt x
  | _, .non, _ => by simp only [toR, PyData.shown, wt]; decide
  | _, .bl b, _ => by simp only [toR, PyData.shown, wt]; cases b <;> decide
  | _, .int i, _ => by simp only [toR, PyData.shown, wt]; exact wt_int i
  | n, .str s, h => by simp only [toR, PyData.shown, wt]; exact StrLaws.reprText_len s (lt8_of (by cases n <;> simpa [shw] using h))
  | 0, .lst _, h => by simp [shw] at h
  | 0, .tup _, h => by simp [shw] at h
  | 0, .dic _ _, h => by simp [shw] at h
  | 0, .ins _ _ _, h => by simp [shw] at h
  | n + 1, .ins _ _ _, h => by simp [shw] at h
  | n + 1, .lst xs, h => by
    have ih := wt_all n xs (by simpa only [shw] using h)
    simp only [toR, PyData.shown, wt]
    unfold listText
    rw [strLen_append]
    have e2 : (Str.ofString "]").length = 1 := rfl
    have e3 : (Str.ofString "[").length = 1 := rfl
    cases e : PyData.shownAll (toRs xs) with
    | nil =>
      show ("[" : Str).length + _ ≤ _
      omega
    | cons t ts =>
      have := textFrom_length_pos ts 1 (("[" : Str) ++ (if 0 > 0 then ", " else "" : String) ++ t) (by decide)
      show (textFrom 1 (("[" : Str) ++ (if 0 > 0 then ", " else "" : String) ++ t) ts).length + _ ≤ _
      rw [this, strLen_append, strLen_append]
      have e4 : (Str.ofString (if 0 > 0 then ", " else "" : String)).length = 0 := rfl
      rw [e, piled_cons] at ih
      omega
  | n + 1, .tup xs, h => by
    have ih := wt_all n xs (by simpa only [shw] using h)
    simp only [toR, PyData.shown, wt]
    unfold tupleText
    rw [strLen_append, strLen_append]
    have e2 : ((if (PyData.shownAll (toRs xs)).length == 1 then ",)" else ")" : String) : Str).length ≤ 2 := by split <;> decide
    have e3 : (Str.ofString "(").length = 1 := rfl
    have := join_le ", " (by decide) (PyData.shownAll (toRs xs))
    omega
  | n + 1, .dic ks vs, h => by
    have h' : ks.all keySk = true ∧ shws n vs = true := by simpa only [shw, Bool.and_eq_true] using h
    have ih := wt_kv n ks vs h'.1 h'.2
    simp only [toR, PyData.shown, wt]
    unfold dictText
    rw [strLen_append, strLen_append]
    have e2 : (Str.ofString "}").length = 1 := rfl
    have e3 : (Str.ofString "{").length = 1 := rfl
    have := join_le ", " (by decide) (PyData.shownKv (toKv ks vs))
    omega
theorem wt_all : ∀ (n : Nat) (xs : List D), shws n xs = true → piled (PyData.shownAll (toRs xs)) ≤ wts xs
  | _, [], _ => Nat.zero_le _
  | n, x :: xs, h => by
    simp only [shws, Bool.and_eq_true] at h
    have a := wt_shown n x h.1
    have b := wt_all n xs h.2
    simp only [toRs, PyData.shownAll, wts]
    rw [piled_cons]
    omega
theorem wt_kv : ∀ (n : Nat) (ks : List Key) (xs : List D), ks.all keySk = true → shws n xs = true → piled (PyData.shownKv (toKv ks xs)) ≤ wtk ks xs
  | _, [], xs, _, _ => by simp only [toKv, PyData.shownKv]; exact Nat.zero_le _
  | _, _ :: _, [], _, _ => by simp only [toKv, PyData.shownKv]; exact Nat.zero_le _
  | n, k :: ks, x :: xs, g, h => by
    simp only [shws, Bool.and_eq_true] at h
    rw [List.all_cons, Bool.and_eq_true] at g
    have a := wt_shown n x h.1
    have b := wt_kv n ks xs g.2 h.2
    have c := wt_key g.1
    simp only [toKv, PyData.shownKv, wtk]
    rw [piled_cons, strLen_append, strLen_append]
    have e2 : (Str.ofString ": ").length = 2 := rfl
    omega
end
theorem log_of {i : Int} (h : i.natAbs ≤ 1000000) : i.natAbs.log2 < 1920 := by
  by_cases e : i.natAbs = 0
  · rw [e]; decide
  · exact (Nat.log2_lt e).mpr (Nat.lt_of_le_of_lt h (Nat.lt_of_lt_of_le (by decide : 1000000 < 2 ^ 20) (Nat.pow_le_pow_right (by decide) (by decide))))
mutual
theorem able_of : ∀ (n : Nat) (x : D), shw n x = true → wt x ≤ 1000000 → PyData.showable (toR x) = true ∧ (toR x).depth ≤ n
  | _, .non, _, _ => ⟨rfl, Nat.zero_le _⟩
  | _, .bl b, _, _ => ⟨rfl, Nat.zero_le _⟩
  | _, .int i, _, h => ⟨by simp only [toR, PyData.showable]; exact decide_eq_true (log_of (by simp only [wt] at h; omega)), by simp only [toR, PyData.depth]; exact Nat.zero_le _⟩
  | _, .str s, _, _ => ⟨rfl, Nat.zero_le _⟩
  | 0, .lst _, h, _ => by simp [shw] at h
  | 0, .tup _, h, _ => by simp [shw] at h
  | 0, .dic _ _, h, _ => by simp [shw] at h
  | 0, .ins _ _ _, h, _ => by simp [shw] at h
  | n + 1, .ins _ _ _, h, _ => by simp [shw] at h
  | n + 1, .lst xs, h, hw => by
    have ih := able_all n xs (by simpa only [shw] using h) (by simp only [wt] at hw; omega)
    simp only [toR, PyData.showable, PyData.depth]
    exact ⟨ih.1, by omega⟩
  | n + 1, .tup xs, h, hw => by
    have ih := able_all n xs (by simpa only [shw] using h) (by simp only [wt] at hw; omega)
    simp only [toR, PyData.showable, PyData.depth]
    exact ⟨ih.1, by omega⟩
  | n + 1, .dic ks vs, h, hw => by
    have h' : ks.all keySk = true ∧ shws n vs = true := by simpa only [shw, Bool.and_eq_true] using h
    have ih := able_kv n ks vs h'.2 (by simp only [wt] at hw; omega)
    simp only [toR, PyData.showable, PyData.depth]
    exact ⟨ih.1, by omega⟩
theorem able_all : ∀ (n : Nat) (xs : List D), shws n xs = true → wts xs ≤ 1000000 → PyData.showableAll (toRs xs) = true ∧ PyData.depthAll (toRs xs) ≤ n
  | _, [], _, _ => ⟨rfl, Nat.zero_le _⟩
  | n, x :: xs, h, hw => by
    simp only [shws, Bool.and_eq_true] at h
    simp only [wts] at hw
    have a := able_of n x h.1 (by omega)
    have b := able_all n xs h.2 (by omega)
    simp only [toRs, PyData.showableAll, PyData.depthAll, a.1, b.1]
    exact ⟨rfl, by omega⟩
theorem able_kv : ∀ (n : Nat) (ks : List Key) (xs : List D), shws n xs = true → wtk ks xs ≤ 1000000 → PyData.showableKv (toKv ks xs) = true ∧ PyData.depthKv (toKv ks xs) ≤ n
  | _, [], xs, _, _ => by simp only [toKv]; exact ⟨rfl, Nat.zero_le _⟩
  | _, _ :: _, [], _, _ => by simp only [toKv]; exact ⟨rfl, Nat.zero_le _⟩
  | n, k :: ks, x :: xs, h, hw => by
    simp only [shws, Bool.and_eq_true] at h
    simp only [wtk] at hw
    have a := able_of n x h.1 (by omega)
    have b := able_kv n ks xs h.2 (by omega)
    have c : PyData.showable (keyR k) = true ∧ PyData.depth (keyR k) = 0 := by
      cases k with
      | inl i => simp only [keyR, PyData.showable, PyData.depth]; exact ⟨decide_eq_true (log_of (by simp only [keyWt] at hw; omega)), trivial⟩
      | inr s => simp only [keyR, PyData.showable, PyData.depth]; exact ⟨trivial, trivial⟩
    simp only [toKv, PyData.showableKv, PyData.depthKv, a.1, b.1, c.1, c.2]
    exact ⟨rfl, by omega⟩
end
end Fl
namespace Fl
open PySem PySem.Spec PyProof.Rows L2

section
variable {X : Cx} {pins : List (Addr × Obj)} {σ : L2.St} {G H : Hp} {s : Shared}
theorem keys_read : ∀ {es : List DictEntry} {us : List (Key × Value)}, Pairs (mixKind X.prog X.w) es us → ReadsAll s.heap (es.map (·.key)) (us.map fun y => keyR y.1) []
  | _, _, .nil => .nil
  | e :: es, (k, v) :: us, .cons h _ t => by
    have ih := keys_read t
    have hk : Reads s.heap e.key (keyR k) [] := by
      rcases keyIs_shape (show keyIs k e.key = true from h) with ⟨i, t, rfl, q⟩ | ⟨x, t, rfl, q⟩
      · rw [q]; exact .int i t
      · rw [q]; exact .str x t
    exact .cons (as := []) hk ih
theorem vals_pairs : ∀ {es : List DictEntry} {us : List (Key × Value)}, Pairs (mixKind X.prog X.w) es us → es.map (·.val) = us.map (·.2)
  | _, _, .nil => rfl
  | e :: es, (k, v) :: us, .cons _ h t => by
    rw [List.map_cons, List.map_cons, vals_pairs t]
    exact congrArg (· :: _) h
theorem kv_split : ∀ {ks : List Key} {vs : List V} {us : List (Key × Value)}, ks.length = vs.length → KV (ks.zip vs) us → us.map (·.1) = ks ∧ Vals vs (us.map (·.2))
  | [], [], _, _, .nil => ⟨rfl, .nil⟩
  | k :: ks, v :: vs, _, hl, .cons (b := (k', u)) h t => by
    obtain ⟨a, b⟩ := kv_split (by simpa using hl) t
    obtain ⟨e, r⟩ := h
    exact ⟨by rw [List.map_cons, a]; exact congrArg (· :: ks) (Eq.symm e), .cons r b⟩
theorem toKv_1 : ∀ {ks : List Key} {xs : List D}, ks.length = xs.length → (toKv ks xs).map (·.1) = ks.map keyR ∧ (toKv ks xs).map (·.2) = toRs xs
  | [], [], _ => ⟨by simp only [toKv]; rfl, by simp only [toKv, toRs]; rfl⟩
  | k :: ks, x :: xs, h => by
    obtain ⟨a, b⟩ := toKv_1 (ks := ks) (xs := xs) (by simpa using h)
    simp only [toKv, toRs, List.map_cons, a, b, and_self]
mutual
/-- what the object is read as -/
theorem Dd.reads (I : Inv X pins σ H s) (gh : Ex G H) (nm : ∃ so, H sysModules = some (.frz so sysO)) : ∀ {n : Nat} {v : V} {x : D} {u : Value}, Dd X.K G v x → shw n x = true → RelV v u → ∃ as, Reads s.heap u (toR x) as ∧ sysModules ∉ as
  | _, _, _, _, .non, _, r => by cases r; exact ⟨_, by unfold toR; exact Reads.none, by simp⟩
  | _, _, _, _, .bl b, _, r => by cases r; exact ⟨_, by unfold toR; exact Reads.bool b, by simp⟩
  | _, _, _, _, .int i, _, r => by obtain ⟨t, rfl⟩ := r; exact ⟨_, by unfold toR; exact Reads.int i t, by simp⟩
  | _, _, _, _, .str x _, _, r => by obtain ⟨t, rfl⟩ := r; exact ⟨_, by unfold toR; exact Reads.str x t, by simp⟩
  | 0, _, _, _, .lst _ _, h, _ => by simp [shw] at h
  | 0, _, _, _, .tup _ _, h, _ => by simp [shw] at h
  | 0, _, _, _, .dic _ _ _ _, h, _ => by simp [shw] at h
  | 0, _, _, _, .ins _ _ _ _, h, _ => by simp [shw] at h
  | n + 1, _, _, _, .ins _ _ _ _, h, _ => by simp [shw] at h
  | n + 1, _, .lst xs, _, .lst (a := a) g t, h, r => by
    cases r
    obtain ⟨its, rv, ⟨o, m, ho, hc, _, hd⟩, _⟩ := I.list (.of (gh _ _ g))
    obtain ⟨as, hr, hn⟩ := DdL.reads I gh nm t (by simpa only [shw] using h) rv
    refine ⟨_, by unfold toR; exact Reads.list ho hc hd hr, fun m => ?_⟩
    rcases List.mem_cons.mp m with e | m
    · obtain ⟨so, z⟩ := nm
      rw [e] at z; rw [gh _ _ g] at z; cases z
    · exact hn m
  | n + 1, _, .tup xs, _, .tup g t, h, r => by
    cases r
    obtain ⟨its, rv, ⟨o, ho, hc, m, hd⟩, _⟩ := I.tuple (sqT_ex gh g)
    obtain ⟨as, hr, hn⟩ := DdL.reads I gh nm t (by simpa only [shw] using h) rv
    exact ⟨_, by unfold toR; exact Reads.tuple ho hc hd hr, hn⟩
  | n + 1, _, .dic ks vs, _, .dic (a := a) (us := us) g l nd t, h, r => by
    cases r
    have h' : ks.all keySk = true ∧ shws n vs = true := by simpa only [shw, Bool.and_eq_true] using h
    obtain ⟨_, hs, ws, kv, o, es, ep, ho, hx, hd, _, hp, _⟩ := I.hok a _ (gh _ _ g)
    obtain ⟨e1, rv⟩ := kv_split l kv
    obtain ⟨as, hr, hn⟩ := DdL.reads I gh nm t h'.2 rv
    have q := toKv_1 (ks := ks) (xs := vs) (l.trans t.len)
    have r1 : ReadsAll s.heap (es.toList.map (·.key)) ((toKv ks vs).map (·.1)) [] := by
      have := keys_read (s := s) hp
      rw [q.1]
      have e2 : (ws.map fun y => keyR y.1) = ks.map keyR := by rw [← e1, List.map_map]; rfl
      rw [← e2]; exact this
    have r2 : ReadsAll s.heap (es.toList.map (·.val)) ((toKv ks vs).map (·.2)) as := by
      rw [q.2, vals_pairs hp]; exact hr
    refine ⟨_, by unfold toR; exact Reads.dict ho hx.1 hd r1 r2, fun m => ?_⟩
    have m' : sysModules = a ∨ sysModules ∈ as := by simpa using m
    rcases m' with e | m
    · rw [← e] at hs; cases hs
    · exact hn m
theorem DdL.reads (I : Inv X pins σ H s) (gh : Ex G H) (nm : ∃ so, H sysModules = some (.frz so sysO)) : ∀ {n : Nat} {vs : List V} {xs : List D} {us : List Value}, DdL X.K G vs xs → shws n xs = true → Vals vs us → ∃ as, ReadsAll s.heap us (toRs xs) as ∧ sysModules ∉ as
  | _, _, _, _, .nil, _, r => by cases r; exact ⟨_, by unfold toRs; exact ReadsAll.nil, by simp⟩
  | n, _, x :: xs, _, .cons a t, h, r => by
    simp only [shws, Bool.and_eq_true] at h
    cases r with
    | cons r1 r2 =>
      obtain ⟨as, h1, n1⟩ := Dd.reads I gh nm a h.1 r1
      obtain ⟨bs, h2, n2⟩ := DdL.reads I gh nm t h.2 r2
      exact ⟨_, by unfold toRs; exact ReadsAll.cons h1 h2, fun m => (List.mem_append.mp m).elim n1 n2⟩
end

def rRepr (K : PySem.W.Frag) : List V → Hp → VK → Prop := fun vs H Q => ∃ (G : Hp) (v : V) (x : D), vs = [v] ∧ Dd K G v x ∧ Ex G H ∧ (∃ so, H sysModules = some (.frz so sysO)) ∧ shw 60 x = true ∧ wt x ≤ 100000 ∧ Q (.str (reprD x)) H
theorem call_reprD {k : Nat} (hr : Room k X.A) (hg : X.A.guards = some []) : CallR X (.builtin "repr") (rRepr X.K) := by
  intro pins s σ H xs us Q I r h
  obtain ⟨G, v, x, rfl, d, gh, nm, hs, hw, q⟩ := h
  obtain ⟨u, rfl, rx⟩ := vals1 r
  obtain ⟨as, hd, hn⟩ := Dd.reads I gh nm d hs rx
  obtain ⟨h1, h2⟩ := able_of 60 x hs (by omega)
  have h3 : (PyData.shown (toR x)).length ≤ sizeLine := Nat.le_trans (wt_shown 60 x hs) (Nat.le_trans hw (by decide))
  have fin : ∀ (h' : Heap) (t t' : Tok), (∀ b o, s.heap.get? b = some o → h'.get? b = some o) → EP X pins σ Q (.str (PyData.shown (toR x)) t) { s with heap := h', toks := t' } := fun h' t t' k => ⟨.str (reprD x), H, I.kept k, ⟨t, rfl⟩, q⟩
  have far : ∀ {a : Addr}, u = .ref a → wpAny (model X.prog X.w) X.A (call (.builtin "repr") [u]) (EP X pins σ Q) X.xe s := fun {a} e => by
    subst e
    have hu := hr.units
    exact repr_of_reads' hd h1 (fun _ => hn) hg (by have := hr.un; omega) (fun _ _ e => e) (fun h' t t' k => fin h' t t' k) h3
  cases d with
  | non =>
    cases rx
    exact PySem.P.repr_of_none (by have := fin s.heap s.toks (s.toks + 1) fun _ _ e => e; simpa only [toR, PyData.shown] using this)
  | bl b =>
    cases rx
    exact PySem.P.repr_of_bool (by have := fin s.heap s.toks (s.toks + 1) fun _ _ e => e; simpa only [toR, PyData.shown] using this)
  | int i =>
    obtain ⟨t, rfl⟩ := rx
    exact PySem.P.repr_of_int (log_of (by simp only [wt] at hw; omega)) (by have := fin s.heap s.toks (s.toks + 1) fun _ _ e => e; simpa only [toR, PyData.shown] using this)
  | str z _ =>
    obtain ⟨t, rfl⟩ := rx
    exact PySem.P.repr_of_str (by have := fin s.heap s.toks (s.toks + 1) fun _ _ e => e; simpa only [toR, PyData.shown] using this) (by simpa only [toR, PyData.shown] using h3)
  | lst _ _ => cases rx; exact far rfl
  | tup _ _ => cases rx; exact far rfl
  | dic _ _ _ _ => cases rx; exact far rfl
  | ins _ _ _ _ => cases rx; exact far rfl
/-- repr(x) -/
def cRepr : RCd := fun xs P => ∃ x, xs = [x] ∧ shw 60 x = true ∧ wt x ≤ 100000 ∧ P (.d (.str (reprD x)))
theorem cd_repr {k : Nat} (hr : Room k X.A) (hg : X.A.guards = some []) : CallD X (.builtin "repr") cRepr := by
  refine CallR.ofD (call_reprD hr hg) fun {F G H σ ρ vs xs P Q} r d h k => ?_
  obtain ⟨x, rfl, h1, h2, p⟩ := h
  obtain ⟨v, rfl, dv⟩ := d.one
  refine ⟨G, v, x, rfl, dv, r.gh, r.nm, h1, h2, k _ _ _ _ p .rfl (r.push (.str _ ?_))⟩
  have a := sok_shown 60 x h1
  have b := wt_shown 60 x h1
  exact sOk_of a (Nat.le_trans b (by omega))
end
end Fl
namespace Fl
open PySem PySem.W L2
open PyProof.Rows (envOfC)
section
variable {K : PySem.W.Frag} {G H H' : Hp} {σ : St} {ρ : Env'} {a c : Addr}
theorem SrcAt.ne (s : SrcAt H a c) : a ≠ c := by
  obtain ⟨i, m, ns, h1, h2, _⟩ := s
  intro e
  subst e
  rw [h1] at h2
  cases ns with
  | nil => cases h2
  | cons n ns => cases h2
/-- drawn from: nothing but the source has changed -/
theorem R.drawn (r : R K ⟨G, H, some (a, c), none, []⟩ G H σ ρ) (hk : ∀ b, b ≠ a → b ≠ c → H' b = H b) (hs : SrcAt H' a c) (j : Int) : R K ⟨G, H, some (a, c), none, []⟩ G H' [some (.int j)] [.d (.int j)] := by
  obtain ⟨s, ga, gc⟩ := r.sr a c rfl
  obtain ⟨i, m, ns, h1, h2, _⟩ := s
  have ne : ∀ {b : Addr} {o : HO}, H b = some o → ¬ InSrc ⟨G, H, some (a, c), none, []⟩ b → H' b = some o := fun {b o} e n => by
    rw [hk b (fun q => n (.inl ⟨a, c, rfl, .inl q⟩)) (fun q => n (.inl ⟨a, c, rfl, .inr q⟩))]; exact e
  refine ⟨.rfl, fun b o e => ?_, fun b o e n _ => ne e n, fun b o e => .inl e, fun b hb => ?_, fun a' c' e => ?_, fun q hq => (by cases hq), ?_, [], .cons (os := []) (ps := []) (.d (.int j)) .nil, List.nodup_nil, by simp⟩
  · rw [hk b (fun q => by rw [q, ga] at e; cases e) (fun q => by rw [q, gc] at e; cases e)]; exact r.gh b o e
  · obtain ⟨i', m', ns', g1, g2, _⟩ := hs
    rcases hb with (⟨a', c', e, q⟩ | ⟨o, q⟩) | ⟨a', c', e, q⟩
    · cases e
      rcases q with rfl | rfl
      · exact ⟨_, g1⟩
      · exact ⟨_, g2⟩
    · cases q
    · cases e
  · cases e
    exact ⟨hs, ga, gc⟩
  · obtain ⟨so, e⟩ := r.nm
    refine ⟨so, ?_⟩
    rw [hk sysModules (fun q => by rw [q, h1] at e; cases e) (fun q => by rw [q, h2] at e; cases e)]; exact e
/-- the promise of a draw below m -/
def ftDraw : FT := fun ss P => ∃ m : Int, ss = [.src, .d (.int m)] ∧ 0 < m ∧ m < 1000000000 ∧ ∀ r : Int, 0 ≤ r → r < m → P (.d (.int r))
/-- what the draw's body sees, what it must bring about -/
theorem draw_of {vs : List V} {Q : VK} {E : XK} (h : spD K 2 ftDraw vs H Q E) : ∃ (a c : Addr) (m i j : Int) (ns : List Int), vs = [.ref a, .int m] ∧ 0 < m ∧ m < 1000000000 ∧ a ≠ c ∧ H a = some (.lst [.ref c, .int i, .int j]) ∧ H c = some (.lst (ns.map V.int)) ∧ ns ≠ [] ∧ ns.length ≤ 63 ∧
    ∀ (r : Int) (H' : Hp), 0 ≤ r → r < m → (∀ b, b ≠ a → b ≠ c → H' b = H b) → SrcAt H' a c → Q (.int r) H' := by
  obtain ⟨G, src, ss, P, r, _, _, ⟨m, rfl, m0, m1, k⟩, q⟩ := h
  obtain ⟨os, hs, _, _⟩ := id r.sl
  have hv := r.len
  rw [List.length_map] at hv
  rcases vs with _ | ⟨v, _ | ⟨u, _ | ⟨_, _⟩⟩⟩
  · cases hv
  · cases hv
  · have hs' : Sls K ⟨G, H, src, none, []⟩ G H [some v, some u] [.src, .d (.int m)] os := hs
    cases hs' with
    | cons x t =>
      cases t with
      | cons y t =>
        cases x with
        | @src a c e =>
          cases y with
          | d y =>
            cases y
            have e : src = some (a, c) := e
            subst e
            obtain ⟨s, _, _⟩ := r.sr a c rfl
            obtain ⟨i, j, ns, h1, h2, h3, h4⟩ := id s
            exact ⟨a, c, m, i, j, ns, rfl, m0, m1, s.ne, h1, h2, h3, h4, fun z H' z0 z1 hk hs' => q _ _ G H' (k z z0 z1) .rfl (r.drawn hk hs' z)⟩
  · simp at hv
end
section
variable {X : Cx} {a : Expr} {ta : ET} {pos : Pos}
def dNeg (ta : ET) : ET := fun ρ P => ta ρ fun s ρ1 => ∃ i, s = .d (.int i) ∧ P (.d (.int (-i))) ρ1
theorem pd_neg (ha : PE X a (lift X.K ta)) : PE X (.UnaryOp .USub a pos) (lift X.K (dNeg ta)) :=
  peImp (pe_un un_neg ha) fun σ H Q ⟨F, G, ρ, P, r, h, k⟩ => ⟨F, G, ρ, _, r, h, fun x ρ1 v G1 H1 ⟨i, hx, q⟩ e1 r1 => by
    subst hx
    rw [r1.topInt]
    exact ⟨i, rfl, k _ _ _ _ _ q e1 (r1.pop.push (.int _))⟩⟩
end
section
variable {P : Program} {w : World} {K : PySem.W.Frag} {mg : Str → Option Value} {base : Heap} {x qual : Str} {st : Stmt} {f : Addr} {fd : FuncData} {N ps : List Str} {k n : Nat} {ft : FT}
theorem spD_len {vs : List V} {H : Hp} {Q : VK} {E : XK} (h : spD K n ft vs H Q E) : vs.length = n := by
  obtain ⟨G, src, ss, P, r, ha, hl, hf, k⟩ := h
  have := r.len
  rw [List.length_map] at this
  omega
/-- a def by its body's data reading -/
theorem fun_d (F : Fun K x qual st f fd) (S : FnScope N ps (defScope st)) (hn : ps.length = n)
    (hb : ∀ (cdv : Value) (A : Around) (outer : List Env) (s : Shared) (H : Hp) (E : XK), Room k (A.deeper (envOfC qual (defScope st) s.heap.objs.size f cdv)) →
      ∃ t, PSs (cxOf CX0 P w K mg base N qual (defScope st) f cdv A outer s H E).nox (defBody st) (liftS K t) ∧ Body N n t ft) : FnOk P w K mg base CX0 (k + 1) f fd ps (spD K n ft) := by
  refine F.ok S (fun vs H Q E h => (spD_len h).trans hn.symm) fun cdv A outer s H vs Q E hr h => ?_
  obtain ⟨t, h1, h2⟩ := hb cdv A outer s H E hr
  exact ⟨_, h1, liftS_start h2 h⟩
theorem fun_g (F : Fun K x qual st f fd) (S : FnScope N ps (defScope st)) (hn : ps.length = n)
    (hb : ∀ (cdv : Value) (A : Around) (outer : List Env) (s : Shared) (H : Hp) (E : XK), (A.deeper (envOfC qual (defScope st) s.heap.objs.size f cdv)).guards = some [] → Room k (A.deeper (envOfC qual (defScope st) s.heap.objs.size f cdv)) →
      ∃ t, PSs (cxOf CX0 P w K mg base N qual (defScope st) f cdv A outer s H E).nox (defBody st) (liftS K t) ∧ Body N n t ft) : FnG P w K mg base (k + 1) f fd ps (spD K n ft) := by
  refine fnG_of F S (fun vs H Q E h => (spD_len h).trans hn.symm) fun cdv A outer s H vs Q E hg hr h => ?_
  obtain ⟨t, h1, h2⟩ := hb cdv A outer s H E hg hr
  exact ⟨_, h1, liftS_start h2 h⟩
theorem fun_i {C : Addr} {fi : FI} (F : Fun K x qual st f fd) (S : FnScope N ps (defScope st)) (hn : ps.length = n)
    (hb : ∀ (cdv : Value) (A : Around) (outer : List Env) (s : Shared) (H : Hp) (E : XK), Room k (A.deeper (envOfC qual (defScope st) s.heap.objs.size f cdv)) →
      ∃ t, PSs (cxOf CX0 P w K mg base N qual (defScope st) f cdv A outer s H E).nox (defBody st) (liftS K t) ∧ BodyI N C n t fi) (hl : ∀ vs H Q E, spI K C n fi vs H Q E → vs.length = n) : FnOk P w K mg base CX0 (k + 1) f fd ps (spI K C n fi) := by
  refine F.ok S (fun vs H Q E h => (hl vs H Q E h).trans hn.symm) fun cdv A outer s H vs Q E hr h => ?_
  obtain ⟨t, h1, h2⟩ := hb cdv A outer s H E hr
  exact ⟨_, h1, liftS_startI h2 h⟩
theorem ifB {A B : Prop} {c : Bool} (h1 : c = true → A) (h2 : c = false → B) : if c = true then A else B := by
  cases c with
  | true => exact (if_pos rfl).mpr (h1 rfl)
  | false => exact (if_neg Bool.false_ne_true).mpr (h2 rfl)
end
end Fl
namespace Fl
open PySem L2
section
variable {X : Cx} {K : PySem.W.Frag} {F : Fr} {G G' H H' : Hp} {σ : St} {ρ : Env'} {pos : Pos} {e a b c : Expr} {te ta tb tcc : ET} {k : Nat}

def loopK (gd : GT) (tt : TTd) (tk tv : ET) (vs : List Nat) (P : Sl → Env' → Prop) : List D → List Key → List D → Env' → Prop
  | [], ks, us, ρ => P (.od ks us) ρ
  | x :: xs, ks, us, ρ => gd (.d x) ρ fun ρ1 => tt ρ1 fun b ρ2 => if b = true then tk ρ2 fun s ρ3 => ∃ y, s.dat = some y ∧ tv ρ3 fun s2 ρ4 => ∃ z, s2.dat = some z ∧ ∃ j, keyD y = some j ∧ ks.length < 1000000 ∧
      loopK gd tt tk tv vs P xs (putD ks us j z).1 (putD ks us j z).2 (wipeD ρ4 vs) else loopK gd tt tk tv vs P xs ks us (wipeD ρ2 vs)
def dDc (ti : AT) (gd : GT) (tt : TTd) (tk tv : ET) (vs : List Nat) : ET := fun ρ P => ti ρ fun xs ρ1 => loopK gd tt tk tv vs P xs [] [] (wipeD ρ1 vs)
theorem dcWalk {J : It} {n : Nat} {Gp : Hp → Prop} {Y : Nat → Hp → V → Hp → Prop} (w : Walk J n Gp Y) {g : TG} {tt : TT} {tk tv : TE} {vs : List Nat} {σ : St} {H1 : Hp} {D : Addr} {Q : VK} (Pv : Nat → Hp → Prop) (h0 : Pv 0 (upd H1 D (.dK []))) (hG : ∀ i H, i ≤ n → Pv i H → Gp H)
    (hs : ∀ i x H H', i < n → Pv i H → Y i H x H' → g x (L2.wipe σ vs) H' fun σ2 H2 => L2.wipe σ2 vs = L2.wipe σ vs ∧ tt σ2 H2 fun b H3 =>
      if b = true then tk σ2 H3 fun y H4 => tv σ2 H4 fun z H5 => ∃ kvs k, y = kV k ∧ H5 D = some (.dK kvs) ∧ kvs.length < sizeLine ∧ Pv (i + 1) (upd H5 D (.dK (putK kvs k z))) else Pv (i + 1) H3) (hd : ∀ H, Pv n H → Q (.ref D) H) :
    ∃ W : Nat → Nat → Hp → Prop, (∃ m, W 0 m (upd H1 D (.dK []))) ∧ ∀ i m H, W i m H →
      (J.stop i H ∧ Q (.ref D) H) ∨ (J.go i H ∧ ∃ Nx : Hp → Prop, (∀ H', Nx H' → ∃ m', m' < m ∧ W (i + 1) m' H') ∧ ∀ x H', J.yld i H x H' → g x (L2.wipe σ vs) H' fun σ2 H2 => L2.wipe σ2 vs = L2.wipe σ vs ∧ tt σ2 H2 fun b H3 =>
        if b = true then tk σ2 H3 fun y H4 => tv σ2 H4 fun z H5 => ∃ kvs k, y = kV k ∧ H5 D = some (.dK kvs) ∧ kvs.length < sizeLine ∧ Nx (upd H5 D (.dK (putK kvs k z))) else Nx H3) := by
  refine ⟨fun i m H => Pv i H ∧ i ≤ n ∧ m + i = n, ⟨n, h0, Nat.zero_le _, rfl⟩, fun i m H h => ?_⟩
  obtain ⟨p, hi, hm⟩ := h
  have q := hG i H hi p
  rcases Nat.lt_or_ge i n with lt | ge
  · exact .inr ⟨w.goes i H lt q, Pv (i + 1), fun H' p' => ⟨m - 1, by omega, p', lt, by omega⟩, fun x H' y => hs i x H H' lt p (w.yields i H x H' lt q y)⟩
  · obtain rfl : i = n := by omega
    exact .inl ⟨w.stops H q, hd H p⟩
theorem dcGo {ti : AT} {g0 : TG} {gd : GT} {is vs : List Nat} {tt : TTd} {tk tv : ET} {Q : VK} (ht : Tgt K g0 gd is) (hv : ∀ i ∈ is, i ∈ vs) {P : Sl → Env' → Prop} (r : R K F G H σ ρ) (h : dDc ti gd tt tk tv vs ρ P)
    (k : ∀ s ρ' v G' H', P s ρ' → Ex G G' → R K F G' H' (some v :: σ) (s :: ρ') → Q v H') : tDc (liftI K ti) g0 (liftT K tt) (lift K tk) (lift K tv) vs σ H Q :=
  ⟨F, G, ρ, _, r, h, fun xs ρ1 G1 H1 J h1 e1 r1 ⟨Gp, Y, wk, wg, wy⟩ => fun Dl hD => by
    refine dcWalk wk (fun i H' => ∃ G' ρ' us ks acc, Ex G1 G' ∧ H' Dl = some (.dK (ks.zip us)) ∧ ks.length = us.length ∧ ks.Nodup ∧ DdL K G' us acc ∧ R K (F.aside Dl (.dK (ks.zip us))) G' H' (L2.wipe σ vs) ρ' ∧ F.H0 Dl = none ∧ ¬ InSrc F Dl ∧ (∀ i ∈ vs, i < ρ'.length → ρ'[i]? = some .no) ∧ loopK gd tt tk tv vs P (xs.drop i) ks acc ρ') ?_ (fun i H' _ ⟨G', ρ', us, ks, acc, e, _, _, _, _, r', _⟩ => wg e r') (fun i x H' H2 hi ⟨G', ρ', us, ks, acc, e, hd, hl, nd, da, r', n1, n2, nv, l⟩ y => ?_) fun H' ⟨G', ρ', us, ks, acc, e, hd, hl, nd, da, r', n1, n2, nv, l⟩ => ?_
    · have r2 := (r1.wipe vs).dic (ks := []) (us := []) hD rfl List.nodup_nil .nil
      obtain ⟨p, us, ep, h3, h4, h5, h6, r3, n1, n2⟩ := r2.asideD
      cases ep
      have hu : us = [] := List.length_eq_zero_iff.mp h4.symm
      subst hu
      exact ⟨G1, _, [], [], [], .rfl, upd_same, rfl, List.nodup_nil, .nil, r3, n1, n2, fun i hi hl => wipeD_no hi (by rw [wipeD_len] at hl; exact hl), h1⟩
    · obtain ⟨d, G2, ed, e2, r2⟩ := wy e r' y hi
      rw [drop_cons ed] at l
      refine ht.up r2 l fun σ3 ρ3 G3 H3 p3 e3 r3 w3 => ⟨?_, ?_⟩
      · rw [w3 vs hv]
        exact wipe_wipe vs σ
      · have w4 : L2.wipe σ3 vs = L2.wipe σ vs := by
          rw [w3 vs hv]
          exact wipe_wipe vs σ
        refine goT r3 p3 fun b ρ4 G4 H4 q4 e4 r4 => ?_
        have back : ∀ {G5 H5 o5} {ρ5 : Env'}, R K (F.aside Dl o5) G5 H5 σ3 ρ5 → R K (F.aside Dl o5) G5 H5 (L2.wipe σ vs) (wipeD ρ5 vs) := fun {G5 H5 o5 ρ5} z => by
          have := z.wipe vs
          rwa [w4] at this
        cases b with
        | true =>
          refine goD r4 q4 fun y1 ρ5 u1 G5 H5 q5 e5 r5 d5 => goD r5 q5 fun z ρ6 v G6 H6 ⟨j, hj, hz, q6⟩ e6 r6 d6 => ?_
          have kp := r6.kp (Dl, .dK (ks.zip us)) (by simp [Fr.aside])
          have eG : Ex G' G6 := ((((e2.tr e3).tr e4).tr e5).tr e6)
          obtain ⟨us', g1, g2, g3, g4, _⟩ := put_of (i := j) hl nd (da.ex eG) d6
          refine ⟨ks.zip us, j, (d5.key hj), kp.1, by rw [List.length_zip]; exact Nat.lt_of_le_of_lt (Nat.min_le_left _ _) (Nat.lt_trans hz (by decide)), G6, wipeD ρ6 vs, us', (putD ks acc j z).1, (putD ks acc j z).2, e.tr eG, by rw [g1]; exact upd_same, g2, g3, g4, ?_, n1, n2, fun i hi hl => wipeD_no hi (by rw [wipeD_len] at hl; exact hl), q6⟩
          have r7 := back r6
          rw [g1]
          have r8 := r7.unset (o' := .dK ((putD ks acc j z).1.zip us')) (s := .od (putD ks acc j z).1 (putD ks acc j z).2) n1 n2 (fun _ z => nomatch z) (.od upd_same g2 g3 g4 n1)
          obtain ⟨p, us2, ep, h3, h4, h5, h6, r9, _, _⟩ := r8.asideD
          cases ep
          rw [upd_same] at h3
          rw [← Option.some.inj h3] at r9
          exact r9
        | false =>
          have kp := r4.kp (Dl, .dK (ks.zip us)) (by simp [Fr.aside])
          exact ⟨G4, wipeD ρ4 vs, us, ks, acc, ((e.tr e2).tr e3).tr e4, kp.1, hl, nd, da.ex ((e2.tr e3).tr e4), back r4, n1, n2, fun i hi hl => wipeD_no hi (by rw [wipeD_len] at hl; exact hl), q4⟩
    · rw [List.drop_length] at l
      have r7 := r'.unset (o' := .dK (ks.zip us)) (s := .od ks acc) n1 n2 (fun _ z => nomatch z) (.od upd_same hl nd da n1)
      rw [upd_self hd] at r7
      refine k _ _ _ _ _ l (e1.tr e) ?_
      obtain ⟨F', r8, f⟩ := r7.pend rfl
      exact f .rfl (R.unwipe r8 nv)⟩
theorem pd_dc {kx vx tg iter : Expr} {ifs : List Expr} {scope : Scope} {own : List (Str × Nat)} {ti : AT} {g0 : TG} {gd : GT} {is : List Nat} {tt : TTd} {tk tv : ET} (hc : X.calm = true) (hN : X.N.Nodup) (hi : PI X tg iter (liftI X.K ti)) (ok : BlkOk X.N X.env.scope scope own)
    (hg : ∀ (s : Shared) (H : Hp) (C : Addr) (cl : List (Str × Addr)) (fp : List Addr), PG (X.blk s H scope (compEnvC scope cl C X.env) fp) tg g0) (ht : Tgt X.K g0 gd is) (hv : ∀ i ∈ is, i ∈ own.map (·.2))
    (hts : ∀ (s : Shared) (H : Hp) (C : Addr) (cl : List (Str × Addr)) (fp : List Addr), PTs (X.blk s H scope (compEnvC scope cl C X.env) fp) ifs (liftT X.K tt))
    (hk : ∀ (s : Shared) (H : Hp) (C : Addr) (cl : List (Str × Addr)) (fp : List Addr), PE (X.blk s H scope (compEnvC scope cl C X.env) fp) kx (lift X.K tk))
    (he : ∀ (s : Shared) (H : Hp) (C : Addr) (cl : List (Str × Addr)) (fp : List Addr), PE (X.blk s H scope (compEnvC scope cl C X.env) fp) vx (lift X.K tv)) (hs : ∀ x, foldedSetIterable iter X.env x = pure x := by intro _; rfl) :
    PE X (.DictComp kx vx [⟨tg, iter, ifs, 0⟩] scope pos) (lift X.K (dDc ti gd tt tk tv (own.map (·.2)))) :=
  peImp (pe_dc hc hN hi ok hg hts hk he hs) fun σ H Q ⟨F, G, ρ, P, r, h, k⟩ => dcGo ht hv r h k

def timesS (x : Str) (n : Nat) : Str := ⟨(List.replicate n x.cps).foldl (· ++ ·) #[]⟩
def rTimes : R2 := fun x y H Q => ∃ (z : Str) (n : Int), x = .str z ∧ y = .int n ∧ 2 ≤ n ∧ n ≤ 1000 ∧ 1 ≤ z.length ∧ z.length ≤ 1000 ∧ (timesS z n.toNat).length ≤ sizeLine ∧ Q (.str (timesS z n.toNat)) H
theorem op_times : OpR X (binaryOp .Mult) rTimes := by
  intro pins s σ H x y v u Q I rx ry h
  obtain ⟨z, n, rfl, rfl, h1, h2, h3, h4, h5, q⟩ := h
  obtain ⟨t, rfl⟩ := rx
  obtain ⟨t', rfl⟩ := ry
  have n1 : ¬ n < 1 := by omega
  have e1 : (n == 1 || z.length == 0) = false := by
    rw [Bool.or_eq_false_iff]
    exact ⟨beq_eq_false_iff_ne.mpr (by omega), beq_eq_false_iff_ne.mpr (by omega)⟩
  refine PySem.P.mul_str ?_ (fun _ _ => ?_) (fun _ _ => ?_) ?_
  · rw [decide_eq_false (by omega), decide_eq_false (by omega)]; rfl
  · have : (2 ^ 63 - 1 : Int) / n ≥ (2 ^ 63 - 1) / 1000 := by
      refine Int.le_ediv_of_mul_le (by omega) ?_
      have : (2 ^ 63 - 1 : Int) / 1000 * n ≤ (2 ^ 63 - 1 : Int) / 1000 * 1000 := Int.mul_le_mul_of_nonneg_left h2 (by decide)
      omega
    omega
  · have : z.length * n.toNat ≤ 1000 * 1000 := Nat.mul_le_mul h4 (by omega)
    unfold Builtin.Str.tooLong
    exact decide_eq_false (by have : sizeLine = 2 ^ 24 := rfl; omega)
  · rw [if_neg n1, e1]
    simp only [Bool.false_eq_true, if_false]
    exact ⟨h5, ⟨.str _, H, I.tok _, ⟨_, rfl⟩, q⟩⟩
def dTimes : RO := fun x y P => ∃ (z : Str) (n : Int), x = .str z ∧ y = .int n ∧ 2 ≤ n ∧ n ≤ 1000 ∧ 1 ≤ z.length ∧ z.length ≤ 1000 ∧ sOk (timesS z n.toNat) = true ∧ P (.d (.str (timesS z n.toNat)))
theorem od_times : OpD X (binaryOp .Mult) dTimes := by
  refine OpR.ofD op_times ?_
  intro F G H σ ρ vx vy x y P Q r hx hy h k
  obtain ⟨z, n, rfl, rfl, h1, h2, h3, h4, h5, p⟩ := h
  cases hx
  cases hy
  exact ⟨z, n, rfl, rfl, h1, h2, h3, h4, Nat.le_trans (sOk_2 h5) (by decide), k _ _ _ _ p .rfl (r.push (.str _ h5))⟩
end
end Fl
namespace Fl
open PySem L2

section
variable {gd : GT} {tt : TTd} {te : ET} {vs : List Nat} {P : Sl → Env' → Prop} {ρ : Env'}
/-- a comprehension by a relation of what is done and what is gathered -/
theorem loopC_inv (I : List D → List D → Prop) (hl : ∀ pre acc, I pre acc → acc.length < 1000000) : ∀ (xs pre acc : List D), I pre acc →
    (∀ p x q a, pre ++ xs = p ++ x :: q → I p a → ∀ (Qs : Sl → Env' → Prop) (Q0 : Env' → Prop), (∀ s y ρ', s.dat = some y → wipeD ρ' vs = ρ → I (p ++ [x]) (a ++ [y]) → Qs s ρ') → (∀ ρ', wipeD ρ' vs = ρ → I (p ++ [x]) a → Q0 ρ') →
      gd (.d x) ρ fun ρ1 => tt ρ1 fun b ρ2 => if b = true then te ρ2 Qs else Q0 ρ2) →
    (∀ a, I (pre ++ xs) a → P (.ol a) ρ) → loopC gd tt te vs P xs acc ρ
  | [], pre, acc, h0, _, hd => hd acc (by rw [List.append_nil]; exact h0)
  | x :: xs, pre, acc, h0, hs, hd => by
    unfold loopC
    have go := fun a' (h : I (pre ++ [x]) a') => loopC_inv I hl xs (pre ++ [x]) a' h (fun p y q a e => hs p y q a (by rw [← e]; simp)) fun a h => hd a (by simpa using h)
    exact hs pre x xs acc rfl h0 _ _ (fun s y ρ' hy hw hI => ⟨y, hy, hl pre acc h0, by rw [hw]; exact go _ hI⟩) fun ρ' hw hI => by rw [hw]; exact go _ hI
/-- every item gives one value -/
theorem loopC_map (f : D → D) {xs : List D} (hn : xs.length < 1000000) (hs : ∀ x ∈ xs, ∀ (Qs : Sl → Env' → Prop), (∀ s ρ', s.dat = some (f x) → wipeD ρ' vs = ρ → Qs s ρ') → gd (.d x) ρ fun ρ1 => te ρ1 Qs) (hd : P (.ol (xs.map f)) ρ) :
    loopC gd dYes te vs P xs [] ρ := by
  refine loopC_inv (fun p a => a = p.map f ∧ p.length ≤ xs.length) (fun p a h => by rw [h.1, List.length_map]; omega) xs [] [] ⟨rfl, Nat.zero_le _⟩ (fun p x q a e h Qs Q0 k _ => ?_) fun a h => by rw [h.1]; exact hd
  have e : xs = p ++ x :: q := e
  have hx : x ∈ xs := by rw [e]; simp
  have := hs x hx Qs fun s ρ' h1 h2 => k s _ ρ' h1 h2 ⟨by rw [h.1]; simp, by rw [e]; simp⟩
  exact this
/-- every item gives a value of which something is known -/
theorem loopC_rel (Rf : D → D → Prop) {xs : List D} (hn : xs.length < 1000000) (hs : ∀ x ∈ xs, ∀ (Qs : Sl → Env' → Prop), (∀ s y ρ', s.dat = some y → Rf x y → wipeD ρ' vs = ρ → Qs s ρ') → gd (.d x) ρ fun ρ1 => te ρ1 Qs)
    (hd : ∀ ys, ys.length = xs.length → (∀ y ∈ ys, ∃ x ∈ xs, Rf x y) → P (.ol ys) ρ) : loopC gd dYes te vs P xs [] ρ := by
  refine loopC_inv (fun p a => a.length = p.length ∧ p.length ≤ xs.length ∧ ∀ y ∈ a, ∃ x ∈ xs, Rf x y) (fun p a h => by omega) xs [] [] ⟨rfl, Nat.zero_le _, by simp⟩ (fun p x q a e h Qs Q0 k _ => ?_) fun a h => hd a h.1 h.2.2
  have e : xs = p ++ x :: q := e
  have hx : x ∈ xs := by rw [e]; simp
  have := hs x hx Qs fun s y ρ' h1 h2 h3 => k s y ρ' h1 h3 ⟨by simp [h.1], by rw [e]; simp, fun z hz => ?_⟩
  · exact this
  · rcases List.mem_append.mp hz with hz | hz
    · exact h.2.2 z hz
    · have : z = y := by simpa using hz
      exact ⟨x, hx, by rw [this]; exact h2⟩
/-- the items that pass a test -/
theorem loopC_filter (t : D → Bool) {xs : List D} (hn : xs.length < 1000000) (hs : ∀ x ∈ xs, ∀ (Qs : Sl → Env' → Prop) (Q0 : Env' → Prop), (t x = true → ∀ s ρ', s.dat = some x → wipeD ρ' vs = ρ → Qs s ρ') → (t x = false → ∀ ρ', wipeD ρ' vs = ρ → Q0 ρ') →
      gd (.d x) ρ fun ρ1 => tt ρ1 fun b ρ2 => if b = true then te ρ2 Qs else Q0 ρ2) (hd : P (.ol (xs.filter t)) ρ) : loopC gd tt te vs P xs [] ρ := by
  refine loopC_inv (fun p a => a = p.filter t ∧ p.length ≤ xs.length) (fun p a h => by rw [h.1]; have := List.length_filter_le t p; omega) xs [] [] ⟨rfl, Nat.zero_le _⟩ (fun p x q a e h Qs Q0 k1 k0 => ?_) fun a h => by rw [h.1]; exact hd
  have e : xs = p ++ x :: q := e
  have hx : x ∈ xs := by rw [e]; simp
  have hl : (p ++ [x]).length ≤ xs.length := by rw [e]; simp
  refine hs x hx Qs Q0 (fun ht s ρ' h1 h2 => k1 s x ρ' h1 h2 ⟨?_, hl⟩) fun ht ρ' h2 => k0 ρ' h2 ⟨?_, hl⟩
  · rw [h.1, List.filter_append]; simp [ht]
  · rw [h.1, List.filter_append]; simp [ht]
end
section
variable {gd : GT} {tb : ST} {E : DE}
/-- a loop by an invariant of what is done -/
theorem loopS_inv (I : List D → Env' → Prop) : ∀ (xs pre : List D) (ρ : Env'), I pre ρ →
    (∀ p x q ρ, pre ++ xs = p ++ x :: q → I p ρ → ∀ (Nx : Env' → Prop), (∀ ρ', I (p ++ [x]) ρ' → Nx ρ') → gd (.d x) ρ fun ρ1 => tb { E with nx := Nx, ct := Nx, bk := E.nx } ρ1) → (∀ ρ, I (pre ++ xs) ρ → E.nx ρ) → loopS gd tb E xs ρ
  | [], pre, ρ, h0, _, hd => hd ρ (by rw [List.append_nil]; exact h0)
  | x :: xs, pre, ρ, h0, hs, hd => by
    unfold loopS
    exact hs pre x xs ρ rfl h0 _ fun ρ' h => loopS_inv I xs (pre ++ [x]) ρ' h (fun p y q ρ e => hs p y q ρ (by rw [← e]; simp)) fun ρ h => hd ρ (by simpa using h)
/-- .. that does not look at it -/
theorem loopS_same (I : Env' → Prop) {xs : List D} {ρ : Env'} (h0 : I ρ) (hs : ∀ x ∈ xs, ∀ ρ, I ρ → ∀ (Nx : Env' → Prop), (∀ ρ', I ρ' → Nx ρ') → gd (.d x) ρ fun ρ1 => tb { E with nx := Nx, ct := Nx, bk := E.nx } ρ1) (hd : ∀ ρ, I ρ → E.nx ρ) : loopS gd tb E xs ρ :=
  loopS_inv (fun _ => I) xs [] ρ h0 (fun p x q ρ e h Nx k => hs x (by rw [show xs = p ++ x :: q from e]; simp) ρ h Nx k) hd
end
theorem eqD_len {xs ys : List D} : (PyData.eqvAll (toPys xs) (toPys ys) = true) → xs.length = ys.length := by
  induction xs generalizing ys with
  | nil =>
    intro h
    cases ys with
    | nil => rfl
    | cons y ys => simp [toPys, PyData.eqvAll] at h
  | cons x xs ih =>
    intro h
    cases ys with
    | nil => simp [toPys, PyData.eqvAll] at h
    | cons y ys =>
      simp only [toPys, PyData.eqvAll, Bool.and_eq_true] at h
      simp [ih h.2]
theorem eqD_nil (xs : List D) : eqD (.lst xs) (.lst []) = xs.isEmpty := by
  cases xs with
  | nil => rfl
  | cons x xs => rfl
theorem eqD_str (a b : Str) : eqD (.str a) (.str b) = (a == b) := by
  simp only [eqD, toPy, PyData.eqv]
theorem eqD_int (a b : Int) : eqD (.int a) (.int b) = (a == b) := by
  simp only [eqD, toPy, PyData.eqv]
theorem eqvAll_strs : ∀ (xs ys : List Str), PyData.eqvAll (toPys (xs.map D.str)) (toPys (ys.map D.str)) = decide (xs = ys)
  | [], [] => rfl
  | [], y :: ys => rfl
  | x :: xs, [] => rfl
  | x :: xs, y :: ys => by
    simp only [List.map_cons, toPys, PyData.eqvAll, toPy, PyData.eqv, eqvAll_strs xs ys]
    by_cases h : x = y
    · subst h
      by_cases h2 : xs = ys
      · simp [h2]
      · simp [h2]
    · simp [h]
theorem ok_flat {n : Nat} {x : D} (h : flat x = true) : ok n x = true := by
  cases x <;> first | (cases n <;> rfl) | cases h
theorem ok_strs (n : Nat) (xs : List Str) : ok (n + 1) (.lst (xs.map D.str)) = true ∧ ok (n + 1) (.tup (xs.map D.str)) = true := by
  have h : (xs.map D.str).all (ok n) = true := List.all_eq_true.mpr fun y hy => by
    obtain ⟨s, _, rfl⟩ := List.mem_map.mp hy
    exact ok_flat rfl
  exact ⟨h, h⟩
theorem flat_strs (xs : List Str) : (xs.map D.str).all flat = true := List.all_eq_true.mpr fun y hy => by
    obtain ⟨s, _, rfl⟩ := List.mem_map.mp hy
    rfl
theorem inD_strs (s : Str) (xs : List Str) : inD (.str s) (xs.map D.str) = decide (s ∈ xs) := by
  unfold inD
  rw [List.any_map]
  induction xs with
  | nil => simp
  | cons x xs ih =>
    rw [List.any_cons, ih]
    have : ((fun y => eqD y (D.str s)) ∘ D.str) x = (x == s) := eqD_str x s
    rw [this]
    by_cases h : x = s
    · subst h; simp
    · have h2 : ¬ s = x := fun e => h e.symm
      simp [h, h2]
theorem in_strs (s : Str) (xs : List Str) : inSeq (.str s) (.lst (xs.map D.str)) = some (decide (s ∈ xs)) ∧ inSeq (.str s) (.tup (xs.map D.str)) = some (decide (s ∈ xs)) := by
  have h : (flat (.str s) && (xs.map D.str).all flat) = true := by rw [flat_strs]; rfl
  exact ⟨by show (if _ then _ else _) = _; rw [if_pos h, inD_strs], by show (if _ then _ else _) = _; rw [if_pos h, inD_strs]⟩
end Fl
namespace Fl
open PySem L2
section
variable {X : Cx} {K : PySem.W.Frag} {F : Fr} {G G' H H' : Hp} {σ : St} {ρ : Env'} {pos p1 : Pos} {e a b c : Expr} {te ta tb tcc : ET} {k i n : Nat} {x : Str}
/-- e (not) in x, x an own list -/
def dOwnIn (neg : Bool) (i : Nat) (te : ET) : ET := fun ρ P => te ρ fun s ρ1 => ∃ d, s.dat = some d ∧ flat d = true ∧ ∃ xs, ρ1[i]? = some (.ol xs) ∧ xs.all flat = true ∧ P (.d (.bl (if neg then !inD d xs else inD d xs))) ρ1
theorem pd_ownNotIn (ho : PE X (.Name x p1) (tVar i)) (he : PE X e (lift X.K te)) (hm : behindInMarks .NotIn (.Name x p1) = false := by first | rfl | exact nomark _) : PE X (.Compare e [.NotIn] [.Name x p1] pos) (lift X.K (dOwnIn true i te)) :=
  peImp (pe_cmpR op_notIn_seq he ho hm) fun σ H Q ⟨F, G, ρ, P, r, h, k⟩ => goD r h fun d ρ1 v G1 H1 ⟨f1, xs, hx, f2, q⟩ e1 r1 d1 => by
    obtain ⟨p, us, t1, t2, t3⟩ := r1.sl_at hx
    exact ⟨.ref p, t1, ⟨_, _, rfl, .inl (.of t2), d1.flatV f1, t3.flatV f2, by rw [t3.inV d1 f1 f2]; exact k _ _ _ _ _ q e1 (r1.push (.bl _))⟩⟩
theorem pd_ownIn (ho : PE X (.Name x p1) (tVar i)) (he : PE X e (lift X.K te)) (hm : behindInMarks .In (.Name x p1) = false := by first | rfl | exact nomark _) : PE X (.Compare e [.In] [.Name x p1] pos) (lift X.K (dOwnIn false i te)) :=
  peImp (pe_cmpR op_in_seq he ho hm) fun σ H Q ⟨F, G, ρ, P, r, h, k⟩ => goD r h fun d ρ1 v G1 H1 ⟨f1, xs, hx, f2, q⟩ e1 r1 d1 => by
    obtain ⟨p, us, t1, t2, t3⟩ := r1.sl_at hx
    exact ⟨.ref p, t1, ⟨_, _, rfl, .inl (.of t2), d1.flatV f1, t3.flatV f2, by rw [t3.inV d1 f1 f2]; exact k _ _ _ _ _ q e1 (r1.push (.bl _))⟩⟩
theorem spI_len {C : Addr} {fi : FI} {vs : List V} {Q : VK} {E : XK} (h : spI K C n fi vs H Q E) : vs.length = n := by
  obtain ⟨q, dx, G, src, rest, ss, P, rfl, hq, hd, r, ha, hn, hf, k⟩ := h
  have := r.len
  rw [List.length_map] at this
  simpa using this.trans hn
theorem var_dat {s : Sl} {x : D} {P : Sl → Env' → Prop} (h : ρ[i]? = some s) (hd : s.dat = some x) (p : P (.d x) (ρ.set i (.d x))) : dVar i ρ P := by
  unfold dVar
  rw [h]
  cases s <;> first | (cases hd; exact p) | cases hd
theorem len_le1000 {n : Nat} (h : n ≤ 1000) : n ≤ 1000 := h
end
end Fl
namespace Fl
open PySem L2
theorem isT_str (x : D) : isT "str" x = (match x with | .str _ => true | _ => false) := by cases x <;> rfl
theorem isT_int (x : D) : isT "int" x = (match x with | .int _ => true | .bl _ => true | _ => false) := by cases x <;> rfl
theorem isT_bool (x : D) : isT "bool" x = (match x with | .bl _ => true | _ => false) := by cases x <;> rfl
theorem isT_tuple (x : D) : isT "tuple" x = (match x with | .tup _ => true | _ => false) := by cases x <;> rfl
theorem isT_list (x : D) : isT "list" x = (match x with | .lst _ => true | _ => false) := by cases x <;> rfl
theorem isT_dict (x : D) : isT "dict" x = (match x with | .dic _ _ => true | _ => false) := by cases x <;> rfl
/-- one argument, a value -/
def ft1 (ok : D → Prop) (f : D → D) : FT := fun ss P => ∃ x, ss = [.d x] ∧ ok x ∧ P (.d (f x))
def leS (a b : Str) : Prop := a.cps.toList ≤ b.cps.toList
theorem leS_of {a b : Str} (h : (!PySem.Spec.ltCps b.cps.toList a.cps.toList) = true) : leS a b := by
  rw [PyProof.Rows.ltCps_eq] at h
  have h : ¬ b.cps.toList < a.cps.toList := by simpa using h
  exact h
theorem rising_le : ∀ (l : List Str) (p : Str), PyProof.Rows.risingS p l = true → (p :: l).Pairwise leS
  | [], p, _ => by simp
  | x :: r, p, h => by
    have h : (!PySem.Spec.ltCps x.cps.toList p.cps.toList && PyProof.Rows.risingS x r) = true := h
    rw [Bool.and_eq_true] at h
    have ih := rising_le r x h.2
    have h1 := leS_of h.1
    refine List.pairwise_cons.mpr ⟨fun y hy => ?_, ih⟩
    rcases List.mem_cons.mp hy with e | hy
    · rw [e]; exact h1
    · exact List.le_trans h1 ((List.pairwise_cons.mp ih).1 y hy)
theorem sorted_le : ∀ (l : List Str), PyProof.Rows.sortedS l = true → l.Pairwise leS
  | [], _ => List.Pairwise.nil
  | x :: r, h => rising_le r x h
theorem str_ext {a b : Str} (h : a.cps.toList = b.cps.toList) : a = b := by
  obtain ⟨⟨a⟩⟩ := a
  obtain ⟨⟨b⟩⟩ := b
  have h : a = b := h
  rw [h]
theorem sorted_eq {xs ys : List Str} (h1 : PyProof.Rows.sortedS xs = true) (h2 : PyProof.Rows.sortedS ys = true) (p : xs.Perm ys) : xs = ys :=
  List.Perm.eq_of_pairwise (le := leS) (fun a b _ _ h h' => str_ext (List.le_antisymm h h')) (sorted_le xs h1) (sorted_le ys h2) p
theorem putD_new : ∀ {ks : List Key} {us : List D} {j : Key} {z : D}, ks.length = us.length → j ∉ ks → putD ks us j z = (ks ++ [j], us ++ [z])
  | [], [], j, z, _, _ => rfl
  | i :: ks, u :: us, j, z, hl, hn => by
    have e : ¬ i = j := fun q => hn (by simp [q])
    have ih := putD_new (ks := ks) (us := us) (j := j) (z := z) (by simpa using hl) fun m => hn (List.mem_cons_of_mem _ m)
    show (if i = j then _ else _) = _
    rw [if_neg e, ih]; rfl
theorem lkD_mem : ∀ {ks : List Key} {us : List D} {j : Key}, ks.length = us.length → j ∈ ks → ∃ u, lkD ks us j = some u ∧ u ∈ us
  | i :: ks, u :: us, j, hl, hm => by
    by_cases e : i = j
    · exact ⟨u, by show (if i = j then _ else _) = _; rw [if_pos e], by simp⟩
    · obtain ⟨u', h1, h2⟩ := lkD_mem (ks := ks) (us := us) (j := j) (by simpa using hl) (by rcases List.mem_cons.mp hm with h | h; exact absurd h.symm e; exact h)
      exact ⟨u', by show (if i = j then _ else _) = _; rw [if_neg e]; exact h1, List.mem_cons_of_mem _ h2⟩
/-- the keys' list of a dict made by one pass -/
theorem loopK_map {gd : GT} {tk tv : ET} {vs : List Nat} {P : Sl → Env' → Prop} {ρ : Env'} (fk : D → Key) (fv : D → D) : ∀ (xs pre : List D), (pre ++ xs).length < 1000000 → ((pre ++ xs).map fk).Nodup →
    (∀ x ∈ pre ++ xs, ∀ (Q : Sl → Env' → Prop), (∀ s y ρ', s.dat = some y → keyD y = some (fk x) → (∀ (Q2 : Sl → Env' → Prop), (∀ s2 ρ2, s2.dat = some (fv x) → wipeD ρ2 vs = ρ → Q2 s2 ρ2) → tv ρ' Q2) → Q s ρ') → gd (.d x) ρ fun ρ1 => tk ρ1 Q) →
    P (.od ((pre ++ xs).map fk) ((pre ++ xs).map fv)) ρ → loopK gd dYes tk tv vs P xs (pre.map fk) (pre.map fv) ρ
  | [], pre, _, _, _, hd => by simpa [loopK] using hd
  | x :: xs, pre, hn, nd, hs, hd => by
    unfold loopK
    have e : pre ++ x :: xs = (pre ++ [x]) ++ xs := by simp
    have ih := loopK_map (gd := gd) (tk := tk) (tv := tv) (vs := vs) (P := P) (ρ := ρ) fk fv xs (pre ++ [x]) (by rw [← e]; exact hn) (by rw [← e]; exact nd) (by rw [← e]; exact hs) (by rw [← e]; exact hd)
    refine hs x (by simp) _ fun s y ρ' h1 h2 k => ⟨y, h1, k _ fun s2 ρ2 h3 h4 => ⟨fv x, h3, fk x, h2, ?_, ?_⟩⟩
    · rw [List.length_map]; rw [List.length_append] at hn; omega
    · have nm : fk x ∉ pre.map fk := fun m => by
        rw [List.map_append, List.map_cons] at nd
        exact (List.nodup_append.mp nd).2.2 _ m _ (by simp) rfl
      rw [putD_new (by simp) nm, h4]
      simpa using ih
end Fl
namespace Fl
open PySem L2
section
variable {X : Cx} {K : PySem.W.Frag} {F : Fr} {G G' H H' : Hp} {σ : St} {ρ : Env'} {pos : Pos}
theorem R.aloof (r : R K F G H σ ρ) {p : Addr} {o : HO} (h : H p = none) : R K F G (upd H p o) σ ρ :=
  r.grow .rfl (r.gh.under (r.new h).1) (.put h) fun b u e => .inl e
theorem ds_parT {i j : Nat} {t1 t2 a b : Expr} {ta : BT} {pt : Pos} {kt k2 pt2} (hc : X.calm = true) (h1 : PG X t1 (gName i)) (h2 : PG X t2 (gName j)) (ha : PA X [a, b] (liftB X.K ta))
    (hs : swapsWithSole [.Tuple [t1, t2] kt pt] (.Tuple [a, b] k2 pt2) pos.line X.env = pure false := by rfl) (hw : swappedStores [.Tuple [t1, t2] kt pt] (.Tuple [a, b] k2 pt2) X.env = pure none := by rfl)
    (h0 : (assignEach [.Tuple [t1, t2] kt pt] X.env).map (·.2) = [assign (.Tuple [t1, t2] kt pt) X.env] := by rfl)
    (e1 : (assignEach [t1, t2] X.env).map (·.2) = assign t1 X.env :: (assignEach [t2] X.env).map (·.2) := by rfl) (e2 : (assignEach [t2] X.env).map (·.2) = assign t2 X.env :: (assignEach [] X.env).map (·.2) := by rfl)
    (hn : (assignEach [t1, t2] X.env).length = 2 := by rfl) (hst : (assignEach [t1, t2] X.env).findIdx? (·.1) = none := by rfl) :
    PS X (.Assign [.Tuple [t1, t2] kt pt] (.Tuple [a, b] k2 pt2) pos) (liftS X.K (dPar i j ta)) :=
  psImp (ps_asg (pe_tup ha) (pg_tup hc (pgs_cons h1 (pgs_cons h2 pgs_nil e2) e1) hn hst) hs hw h0) fun D σ H ⟨F, G, ρ, E, r, h, w⟩ => ⟨F, G, ρ, _, r, h, fun ss ρ1 vs G1 H1 ⟨a, b, es, ⟨q1, q2⟩, q⟩ e1 r1 hl => by
    subst es
    match vs, hl with
    | [va, vb], _ =>
      refine ⟨by show 2 ≤ _; decide, fun p hp => ⟨p, [va, vb], rfl, .inl (.inl upd_same), rfl, va, [vb], rfl, vb, [], rfl, rfl, ?_⟩⟩
      have r1' := r1.aloof (o := .tup [va, vb]) hp
      have r2 : R X.K F G1 _ ((some vb :: σ).set (i + 1) (some va)) ((b :: ρ1).set (i + 1) a) := R.put (σ := some vb :: σ) (ρ := b :: ρ1) r1' (i + 1) (by simp; exact q1)
      have r3 := R.put (σ := σ.set i (some va)) (ρ := ρ1.set i a) r2 j (by simp; exact q2)
      exact w.nx _ _ _ _ q e1 r3⟩
theorem ds_parT3 {i j l : Nat} {t1 t2 t3 a b c : Expr} {ta : BT} {pt : Pos} {kt k2 pt2} (hc : X.calm = true) (h1 : PG X t1 (gName i)) (h2 : PG X t2 (gName j)) (h3 : PG X t3 (gName l)) (ha : PA X [a, b, c] (liftB X.K ta))
    (hs : swapsWithSole [.Tuple [t1, t2, t3] kt pt] (.Tuple [a, b, c] k2 pt2) pos.line X.env = pure false := by rfl) (hw : swappedStores [.Tuple [t1, t2, t3] kt pt] (.Tuple [a, b, c] k2 pt2) X.env = pure none := by rfl)
    (h0 : (assignEach [.Tuple [t1, t2, t3] kt pt] X.env).map (·.2) = [assign (.Tuple [t1, t2, t3] kt pt) X.env] := by rfl)
    (e1 : (assignEach [t1, t2, t3] X.env).map (·.2) = assign t1 X.env :: (assignEach [t2, t3] X.env).map (·.2) := by rfl) (e2 : (assignEach [t2, t3] X.env).map (·.2) = assign t2 X.env :: (assignEach [t3] X.env).map (·.2) := by rfl)
    (e3 : (assignEach [t3] X.env).map (·.2) = assign t3 X.env :: (assignEach [] X.env).map (·.2) := by rfl)
    (hn : (assignEach [t1, t2, t3] X.env).length = 3 := by rfl) (hst : (assignEach [t1, t2, t3] X.env).findIdx? (·.1) = none := by rfl) :
    PS X (.Assign [.Tuple [t1, t2, t3] kt pt] (.Tuple [a, b, c] k2 pt2) pos) (liftS X.K (dPar3 i j l ta)) :=
  psImp (ps_asg (pe_tup ha) (pg_tup hc (pgs_cons h1 (pgs_cons h2 (pgs_cons h3 pgs_nil e3) e2) e1) hn hst) hs hw h0) fun D σ H ⟨F, G, ρ, E, r, h, w⟩ => ⟨F, G, ρ, _, r, h, fun ss ρ1 vs G1 H1 ⟨a, b, c, es, ⟨q1, q2, q3⟩, q⟩ e1 r1 hl => by
    subst es
    match vs, hl with
    | [va, vb, vc], _ =>
      refine ⟨by show 3 ≤ _; decide, fun p hp => ⟨p, [va, vb, vc], rfl, .inl (.inl upd_same), rfl, va, [vb, vc], rfl, vb, [vc], rfl, vc, [], rfl, rfl, ?_⟩⟩
      have r1' := r1.aloof (o := .tup [va, vb, vc]) hp
      have r2 := R.put (σ := some vb :: some vc :: σ) (ρ := b :: c :: ρ1) r1' (i + 2) (by simp; exact q1)
      have r3 := R.put (σ := some vc :: σ.set i (some va)) (ρ := c :: ρ1.set i a) r2 (j + 1) (by simp; exact q2)
      have r4 := R.put (σ := (σ.set i (some va)).set j (some vb)) (ρ := (ρ1.set i a).set j b) r3 l (by simp; exact q3)
      exact w.nx _ _ _ _ q e1 r4⟩
theorem pt_ownNotIn {x : Str} {e : Expr} {te : ET} {p1 : Pos} {i : Nat} (ho : PE X (.Name x p1) (tVar i)) (he : PE X e (lift X.K te)) (hm : behindInMarks .NotIn (.Name x p1) = false := by first | rfl | exact nomark _) : PT X (.Compare e [.NotIn] [.Name x p1] pos) (liftT X.K (dTst (dOwnIn true i te))) :=
  ptImp (pt_cmpR op_notIn_seq he ho hm) fun σ H Q ⟨F, G, ρ, P, r, h, k⟩ => goD r h fun d ρ1 v G1 H1 ⟨f1, xs, hx, f2, b, hb, q⟩ e1 r1 d1 => by
    obtain ⟨p, us, t1, t2, t3⟩ := r1.sl_at hx
    cases hb
    exact ⟨.ref p, t1, ⟨_, _, rfl, .inl (.of t2), d1.flatV f1, t3.flatV f2, _, by rw [t3.inV d1 f1 f2], k _ _ _ _ q e1 r1⟩⟩
end
theorem ix0 (x : D) (xs : List D) : ixD (.lst (x :: xs)) (.int 0) = some x := by
  show atI (x :: xs) 0 = some x
  unfold atI ixN
  rw [if_pos (by decide), if_pos (by rw [List.length_cons]; omega)]
  rfl
end Fl
namespace Fl
open PySem L2
section
variable {K : PySem.W.Frag} {F : Fr} {G G' H H' : Hp} {σ : St} {ρ : Env'}
/-- turns of a body of which an invariant is known -/
theorem loopR {tb : ST} {Dn : Ends} {i : Nat} {n : Int} (r : R K F G H σ ρ) (I : Env' → Prop) (h0 : I ρ) (hs : ∀ (x : D) (ρ : Env'), I ρ → i < ρ.length ∧ tb { nx := I, ct := I, bk := fun _ => False, rt := fun _ => False } (ρ.set i (.d x)))
    (hd : ∀ G' H' σ' ρ', Ex G G' → R K F G' H' σ' ρ' → I ρ' → Dn.nx σ' H') :
    ∃ W : Nat → Nat → St → Hp → Prop, (∃ m, W 0 m σ H) ∧ ∀ j m σ H, W j m σ H →
      ((Itr 0 n.toNat).stop j H ∧ Dn.nx σ H) ∨ ((Itr 0 n.toNat).go j H ∧ ∃ N : St → Hp → Prop, (∀ σ' H', N σ' H' → ∃ m', m' < m ∧ W (j + 1) m' σ' H') ∧ ∀ x H', (Itr 0 n.toNat).yld j H x H' → gName i x σ H' fun σ2 H2 => liftS K tb { Dn with nx := N, ct := N, bk := Dn.nx } σ2 H2) := by
  obtain ⟨Gp, Y, wk, wg, wy⟩ := walkD_range (K := K) (G := G) n
  refine for_it wk (fun _ σ' H' => ∃ G' ρ', Ex G G' ∧ R K F G' H' σ' ρ' ∧ I ρ') ⟨G, ρ, .rfl, r, h0⟩ (fun i σ' H' _ ⟨G', ρ', e, r', _⟩ => wg e r') (fun j x σ' H' H2 hj ⟨G', ρ', e, r', l⟩ y => ?_) fun σ' H' ⟨G', ρ', e, r', l⟩ => hd G' H' σ' ρ' e r' l
  obtain ⟨d, G2, ed, e2, r2⟩ := wy e r' y hj
  refine (tgt_name i).up r2 (P := fun ρ2 => tb { nx := I, ct := I, bk := fun _ => False, rt := fun _ => False } ρ2) (hs d ρ' l) fun σ3 ρ3 G3 H3 p3 e3 r3 _ => ⟨F, G3, ρ3, _, r3, p3, ?_⟩
  exact ⟨fun σ4 ρ4 G4 H4 q e4 r4 => ⟨G4, ρ4, ((e.tr e2).tr e3).tr e4, r4, q⟩, fun σ4 ρ4 G4 H4 q e4 r4 => q.elim, fun σ4 ρ4 G4 H4 q e4 r4 => ⟨G4, ρ4, ((e.tr e2).tr e3).tr e4, r4, q⟩, fun s v σ4 ρ4 G4 H4 q e4 r4 => q.elim⟩
/-- the promise of the def that makes the source -/
def spState (K : PySem.W.Frag) : Sp := fun vs H Q _ => ∃ (a : Addr) (ns : List Int), vs = [.ref a] ∧ SqL K H a (ns.map V.int) ∧ ns.length ≤ 63 ∧
  ∀ (p c : Addr) (H' : Hp) (ms : List Int), H p = none → H c = none → p ≠ c → H' p = some (.lst [.ref c, .int 0, .int 1]) → H' c = some (.lst (ms.map V.int)) → ms ≠ [] → ms.length ≤ 63 → (∀ b o, H b = some o → H' b = some o) → Q (.ref p) H'
theorem sqL_keep {a : Addr} {xs : List V} (h : SqL K H a xs) (k : ∀ b o, H b = some o → H' b = some o) : SqL K H' a xs := sqL_ex k h
theorem cut_ints {ns : List Int} {lo hi : Option Int} {i : Nat} {x : V} (h : (cutV (ns.map V.int) lo hi)[i]? = some x) : ∃ z, x = .int z := by
  have hm : x ∈ cutV (ns.map V.int) lo hi := List.mem_of_getElem? h
  unfold cutV at hm
  obtain ⟨z, _, e⟩ := List.mem_map.mp (List.mem_of_mem_drop (List.mem_of_mem_take hm))
  exact ⟨z, e.symm⟩
theorem cut_len (xs : List V) (lo hi : Option Int) : (cutV xs lo hi).length ≤ xs.length := by
  unfold cutV
  rw [List.length_take, List.length_drop]; omega
/-- the frame of the law behind the making of the source -/
theorem R.begin {p c : Addr} {v : Option V} (h1 : SrcAt H p c) (nm : ∃ so, H sysModules = some (.frz so sysO)) (n : Nat) :
    R K ⟨fun _ => none, H, some (p, c), none, []⟩ (fun _ => none) H ([v, some (.ref p)] ++ List.replicate n none) ([.no, .src] ++ List.replicate n .no) := by
  refine R.more ⟨.rfl, fun b o e => (by cases e), fun b o e _ _ => e, fun b o e => (by cases e), fun b hb => ?_, fun a c' e => ?_, fun q hq => (by cases hq), nm, [], .cons (os := []) (ps := []) (.no _) (.cons (os := []) (ps := []) (.src rfl) .nil), List.nodup_nil, by simp⟩ n
  · obtain ⟨i, m, ns, g1, g2, _⟩ := h1
    rcases hb with (⟨a, c', e, q⟩ | ⟨o, q⟩) | ⟨a, c', e, q⟩
    · cases e
      rcases q with rfl | rfl
      · exact ⟨_, g1⟩
      · exact ⟨_, g2⟩
    · cases q
    · cases e
  · cases e
    exact ⟨h1, rfl, rfl⟩
end
end Fl
namespace Sv
open PySem L2 Fl
def lets : List Nat := (Str.ofString "abcdefghijklmnopqrstuvwxyz").cps.toList
def nameS (s : Str) : Bool := decide (1 ≤ s.length) && (decide (s.length ≤ 8) && s.cps.toList.all fun c => decide (c ∈ lets))
def nameD : D → Bool
  | .str s => nameS s
  | _ => false
def intD : D → Bool
  | .int _ => true
  | _ => false
def indexD (n : Int) : D → Bool
  | .int i => decide (0 ≤ i) && decide (i < n)
  | _ => false
def wordD (ws : List Str) : D → Bool
  | .str s => decide (s ∈ ws)
  | _ => false
def wordsOf (y : D) (ws : List Str) : Prop := y = .tup (ws.map .str) ∨ y = .lst (ws.map .str)
def flatIns : D → Bool
  | .tup xs => xs.all fun y => !isIns y
  | x => !isIns x
def filledD (n : Int) : D → Bool
  | .tup [u, v] => indexD n u && wordD ["r", "w"] v
  | _ => false
def ftName : FT := ft1 (fun x => isIns x = false) fun x => .bl (nameD x)
def ftInteger : FT := ft1 (fun x => isIns x = false) fun x => .bl (intD x)
def ftIndex : FT := fun ss P => ∃ x n, ss = [.d x, .d (.int n)] ∧ isIns x = false ∧ P (.d (.bl (indexD n x)))
def ftWord : FT := fun ss P => ∃ x y ws, ss = [.d x, .d y] ∧ isIns x = false ∧ wordsOf y ws ∧ P (.d (.bl (wordD ws x)))
def ftFilled : FT := fun ss P => ∃ x n, ss = [.d x, .d (.int n)] ∧ flatIns x = true ∧ P (.d (.bl (filledD n x)))
/-- labels, as the law makes them -/
structure LabelsOk (ls : List Str) : Prop where
  lo : 1 ≤ ls.length
  hi : ls.length ≤ 3
  nm : ∀ s ∈ ls, nameS s = true
  so : PyProof.Rows.sortedS ls = true
  nd : ls.Nodup
def cellOk (f : Int) (x : D) : Prop := x = .non ∨ ∃ (i : Int) (s : Str), x = .tup [.int i, .str s] ∧ 0 ≤ i ∧ i < f ∧ (s = "r" ∨ s = "w")
def rowOk (p : Nat) (f : Int) (x : D) : Prop := ∃ cs : List D, x = .tup cs ∧ cs.length = p ∧ ∀ c ∈ cs, cellOk f c
structure GridOk (ls : List Str) (p : Nat) (f : Int) (ks : List Key) (vs : List D) : Prop where
  ln : ks.length = vs.length
  sz : ks.length = ls.length
  al : ∀ s ∈ ls, Sum.inr s ∈ ks
  rw_ : ∀ v ∈ vs, rowOk p f v
/-- the parts of a world -/
structure Parts where
  ls : List Str
  p : Nat
  f : Int
  ks : List Key
  vs : List D
  t : Bool
  c : Bool
  e : Bool
structure Parts.Ok (q : Parts) : Prop where
  l : LabelsOk q.ls
  p1 : 1 ≤ q.p
  p4 : q.p ≤ 4
  f1 : 1 ≤ q.f
  f4 : q.f ≤ 4
  g : GridOk q.ls q.p q.f q.ks q.vs
def Parts.lsD (q : Parts) : D := .tup (q.ls.map .str)
def Parts.rules (q : Parts) : D := .tup [.bl q.t, .bl q.c, .bl q.e]
def Parts.grid (q : Parts) : D := .dic q.ks q.vs
def Parts.d (q : Parts) : D := .tup [q.lsD, .int q.p, .int q.f, q.grid, q.rules]
def Parts.rowOf (q : Parts) (s : Str) : D := (lkD q.ks q.vs (.inr s)).getD .non
def fldN : List Str := ["own_spaces", "own_pages", "own_frames", "own_tables", "own_rules"]
def Parts.flds (q : Parts) : List D := [q.lsD, .int q.p, .int q.f, .dic (q.ls.map .inr) (q.ls.map q.rowOf), q.rules]
def ftSpaces : FT := fun ss P => ∃ ls, ss = [.d (.tup (ls.map .str))] ∧ LabelsOk ls ∧ P (.d (.bl true))
def ftTable : FT := fun ss P => ∃ x p f, ss = [.d x, .d (.int (p : Nat)), .d (.int f)] ∧ p ≤ 4 ∧ rowOk p f x ∧ P (.d (.bl true))
def ftTables : FT := fun ss P => ∃ q : Parts, ss = [.d q.grid, .d q.lsD, .d (.int q.p), .d (.int q.f)] ∧ q.Ok ∧ P (.d (.bl true))
def fiWorld : FI := fun ss P => ∃ q : Parts, ss = [.d q.lsD, .d (.int q.p), .d (.int q.f), .d q.grid, .d (.bl q.t), .d (.bl q.c), .d (.bl q.e)] ∧ q.Ok ∧ P fldN q.flds
theorem nameS_ok {s : Str} (h : nameS s = true) : sOk s = true := by
  unfold nameS at h
  simp only [Bool.and_eq_true, decide_eq_true_eq, List.all_eq_true] at h
  refine sOk_of (sok_cps.mpr fun c hc => ?_) (by omega)
  have := h.2.2 c hc
  have hz : ∀ c ∈ lets, c < 0x110000 := by decide +kernel
  exact hz c this
theorem len_signs (s : Str) : (signs s).length = s.length := by
  unfold signs Str.length
  rw [List.length_map]; simp
end Sv
namespace Sv
open PySem L2 Fl
def keyOf : D → Key
  | .str s => .inr s
  | _ => .inl 0
theorem map_keyOf (ls : List Str) : (ls.map D.str).map keyOf = ls.map Sum.inr := by rw [List.map_map]; rfl
theorem nodup_inr {ls : List Str} (h : ls.Nodup) : (ls.map (Sum.inr : Str → Key)).Nodup := by
  induction ls with
  | nil => exact List.nodup_nil
  | cons x ls ih =>
    have h := List.nodup_cons.mp h
    refine List.nodup_cons.mpr ⟨fun m => ?_, ih h.2⟩
    obtain ⟨y, hy, e⟩ := List.mem_map.mp m
    have : y = x := Sum.inr.inj e
    exact h.1 (this ▸ hy)
theorem sortIn_keys (ls : List Str) (vs : List D) : sortIn (.dic (ls.map Sum.inr) vs) = some ls := by
  show (ls.map Sum.inr).mapM _ = some ls
  induction ls with
  | nil => rfl
  | cons x ls ih => rw [List.map_cons, List.mapM_cons, ih]; rfl
theorem sortIn_strs (ls : List Str) : sortIn (.lst (ls.map D.str)) = some ls := by
  show (ls.map D.str).mapM _ = some ls
  induction ls with
  | nil => rfl
  | cons x ls ih => rw [List.map_cons, List.mapM_cons, ih]; rfl
theorem eqD_strs (xs ys : List Str) : eqD (.lst (xs.map .str)) (.lst (ys.map .str)) = decide (xs = ys) := by
  unfold eqD
  simp only [toPy, PyData.eqv]
  exact eqvAll_strs xs ys
end Sv
namespace Sv
open PySem L2 Fl
theorem insOf_self (C : Addr) (ns : List Str) (vs : List D) : insOf C (.ins C ns vs) = some (ns, vs) := by simp [insOf]
theorem flds_lk (q : Parts) : lkF fldN q.flds "own_spaces" = some q.lsD ∧ lkF fldN q.flds "own_pages" = some (.int q.p) ∧ lkF fldN q.flds "own_frames" = some (.int q.f) ∧ lkF fldN q.flds "own_rules" = some q.rules := by
  have h1 : ¬ ("own_pages" : Str) = "own_spaces" := by decide +kernel
  have h2 : ¬ ("own_frames" : Str) = "own_spaces" := by decide +kernel
  have h3 : ¬ ("own_rules" : Str) = "own_spaces" := by decide +kernel
  have h4 : ¬ ("own_frames" : Str) = "own_pages" := by decide +kernel
  have h5 : ¬ ("own_rules" : Str) = "own_pages" := by decide +kernel
  have h6 : ¬ ("own_rules" : Str) = "own_frames" := by decide +kernel
  have h7 : ¬ ("own_rules" : Str) = "own_tables" := by decide +kernel
  simp [fldN, Parts.flds, lkF, h1, h2, h3, h4, h5, h6, h7]
theorem flds_no (q : Parts) {m : Str} (h : m ∉ fldN) : lkF fldN q.flds m = none := by
  have h : ¬ (m = "own_spaces" ∨ m = "own_pages" ∨ m = "own_frames" ∨ m = "own_tables" ∨ m = "own_rules") := by simpa [fldN] using h
  simp only [not_or] at h
  simp [fldN, Parts.flds, lkF, h.1, h.2.1, h.2.2.1, h.2.2.2.1, h.2.2.2.2]
theorem flds_put (a b c d e : D) : putN [] [] "own_spaces" a = (fldN.take 1, [a]) ∧ putN (fldN.take 1) [a] "own_pages" b = (fldN.take 2, [a, b]) ∧
    putN (fldN.take 2) [a, b] "own_frames" c = (fldN.take 3, [a, b, c]) ∧ putN (fldN.take 3) [a, b, c] "own_tables" d = (fldN.take 4, [a, b, c, d]) ∧
    putN (fldN.take 4) [a, b, c, d] "own_rules" e = (fldN, [a, b, c, d, e]) := by
  have h1 : ¬ ("own_spaces" : Str) = "own_pages" := by decide +kernel
  have h2 : ¬ ("own_spaces" : Str) = "own_frames" := by decide +kernel
  have h3 : ¬ ("own_spaces" : Str) = "own_rules" := by decide +kernel
  have h4 : ¬ ("own_pages" : Str) = "own_frames" := by decide +kernel
  have h5 : ¬ ("own_pages" : Str) = "own_rules" := by decide +kernel
  have h6 : ¬ ("own_frames" : Str) = "own_rules" := by decide +kernel
  have h7 : ¬ ("own_tables" : Str) = "own_rules" := by decide +kernel
  have h8 : ¬ ("own_spaces" : Str) = "own_tables" := by decide +kernel
  have h9 : ¬ ("own_pages" : Str) = "own_tables" := by decide +kernel
  have h10 : ¬ ("own_frames" : Str) = "own_tables" := by decide +kernel
  simp [fldN, putN, h1, h2, h3, h4, h5, h6, h7, h8, h9, h10]
def Parts.obj (C : Addr) (q : Parts) : D := .ins C fldN q.flds
def ftPage (C : Addr) : FT := fun ss P => ∃ q x, ss = [.d (Parts.obj C q), .d x] ∧ isIns x = false ∧ P (.d (.bl (indexD q.p x)))
def entryD (q : Parts) : D → Bool
  | .tup [a, b, c, d] => wordD q.ls a && (indexD q.p b && filledD q.f (.tup [c, d]))
  | _ => false
def ftEntry (C : Addr) : FT := fun ss P => ∃ q x, ss = [.d (Parts.obj C q), .d x] ∧ flatIns x = true ∧ P (.d (.bl (entryD q x)))
theorem filled_cell {f : Int} {x : D} (h : cellOk f x) (n : x ≠ .non) : filledD f x = true ∧ flatIns x = true := by
  rcases h with h | ⟨i, s, rfl, h0, h1, h2⟩
  · exact absurd h n
  · refine ⟨?_, rfl⟩
    show (decide (0 ≤ i) && decide (i < f) && decide (s ∈ (["r", "w"] : List Str))) = true
    rw [decide_eq_true h0, decide_eq_true h1]
    rcases h2 with rfl | rfl <;> decide +kernel
theorem Parts.Ok.row {q : Parts} (ok : q.Ok) {s : Str} (hs : s ∈ q.ls) : lkD q.ks q.vs (.inr s) = some (q.rowOf s) ∧ rowOk q.p q.f (q.rowOf s) := by
  obtain ⟨u, h1, h2⟩ := lkD_mem ok.g.ln (ok.g.al s hs)
  have e : q.rowOf s = u := by unfold Parts.rowOf; rw [h1]; rfl
  rw [e]
  exact ⟨h1, ok.g.rw_ u h2⟩
end Sv
namespace Sv
open PySem L2 Fl
/-- what a draw's body computes -/
theorem spot_of {ns : List Int} (hn : ns ≠ []) (i : Int) : ∃ z, atI (ns.map V.int) (i % ((ns.map V.int).length : Nat)) = some (.int z) ∧ ∃ j, ixN (ns.map V.int).length (i % ((ns.map V.int).length : Nat)) = some j := by
  have hl : 0 < (ns.map V.int).length := by rw [List.length_map]; exact List.length_pos_iff.mpr hn
  have h0 : 0 ≤ i % (((ns.map V.int).length : Nat) : Int) := Int.emod_nonneg _ (by omega)
  have h1 : i % (((ns.map V.int).length : Nat) : Int) < ((ns.map V.int).length : Nat) := Int.emod_lt_of_pos _ (by omega)
  have e : ixN (ns.map V.int).length (i % ((ns.map V.int).length : Nat)) = some (i % ((ns.map V.int).length : Nat)).toNat := by
    unfold ixN
    rw [if_pos h0, if_pos h1]
  have hj : (i % ((ns.map V.int).length : Nat)).toNat < ns.length := by rw [List.length_map] at h0 h1 ⊢; omega
  refine ⟨ns[(i % ((ns.map V.int).length : Nat)).toNat], ?_, _, e⟩
  unfold atI
  rw [e]
  simp only [Option.bind_some, List.getElem?_map, List.getElem?_eq_getElem hj, Option.map_some]
end Sv
namespace Sv
open PySem L2 Fl
theorem atI_mem {α : Type} {xs : List α} {r : Int} (h0 : 0 ≤ r) (h1 : r < (xs.length : Nat)) : ∃ x, atI xs r = some x ∧ x ∈ xs := by
  have e : ixN xs.length r = some r.toNat := by unfold ixN; rw [if_pos h0, if_pos h1]
  have hj : r.toNat < xs.length := by omega
  refine ⟨xs[r.toNat], ?_, List.getElem_mem hj⟩
  unfold atI
  rw [e]
  simp only [Option.bind_some, List.getElem?_eq_getElem hj]
/-- what can be picked from -/
def pickIn (y : D) (xs : List D) : Prop := y = .lst xs ∨ y = .tup xs ∨ ∃ z, y = .str z ∧ xs = signs z
theorem pick_len {y : D} {xs : List D} (h : pickIn y xs) : lenD y = some xs.length := by
  rcases h with rfl | rfl | ⟨z, rfl, rfl⟩
  · rfl
  · rfl
  · rw [len_signs]; rfl
theorem pick_at {y : D} {xs : List D} (h : pickIn y xs) {r : Int} (h0 : 0 ≤ r) (h1 : r < (xs.length : Nat)) : ∃ x, ixD y (.int r) = some x ∧ x ∈ xs := by
  rcases h with rfl | rfl | ⟨z, rfl, rfl⟩
  · exact atI_mem h0 h1
  · exact atI_mem h0 h1
  · obtain ⟨c, h2, h3⟩ := atI_mem (xs := z.cps.toList) h0 (by rw [len_signs] at h1; simpa [Str.length] using h1)
    refine ⟨.str ⟨#[c]⟩, ?_, List.mem_map.mpr ⟨c, h3, rfl⟩⟩
    show (atI z.cps.toList r).map _ = _
    rw [h2]; rfl
def ftPick : FT := fun ss P => ∃ y xs, ss = [.src, .d y] ∧ pickIn y xs ∧ xs ≠ [] ∧ xs.length < 1000000 ∧ ∀ x ∈ xs, P (.d x)
def ftShuffled : FT := fun ss P => ∃ y xs, ss = [.src, .d y] ∧ seqD y = some xs ∧ xs.length ≤ 1000 ∧ xs.all (ok 50) = true ∧ ∀ ys : List D, ys.Perm xs → P (.d (.lst ys))
def ftCell : FT := fun ss P => ∃ n : Int, ss = [.src, .d (.int n)] ∧ 0 < n ∧ n < 1000000 ∧ ∀ x, cellOk n x → P (.d x)
def numD (lo hi : Int) : D → Bool
  | .int i => decide (lo ≤ i) && decide (i ≤ hi)
  | _ => false
def ftNumber : FT := fun ss P => ∃ x lo hi, ss = [.d x, .d (.int lo), .d (.int hi)] ∧ isIns x = false ∧ P (.d (.bl (numD lo hi x)))
theorem num_index (n : Int) (x : D) : numD 0 (n - 1) x = indexD n x := by
  cases x with
  | int i =>
    show (decide (0 ≤ i) && decide (i ≤ n - 1)) = (decide (0 ≤ i) && decide (i < n))
    rw [Bool.eq_iff_iff]
    simp only [Bool.and_eq_true, decide_eq_true_eq]
    omega
  | _ => rfl
def ftLawEntry : FT := fun ss P => ∃ q x, ss = [.d (Parts.d q), .d x] ∧ flatIns x = true ∧ P (.d (.bl (entryD q x)))
def ftString : FT := fun ss P => ss = [.src] ∧ ∀ s : Str, sOk s = true → s.length ≤ 9 → P (.d (.str s))
theorem perm_pop {l f : List D} {j : Nat} {y : D} (h : l[j]? = some y) : (l.eraseIdx j ++ (f ++ [y])).Perm (l ++ f) := by
  obtain ⟨hl, e⟩ := List.getElem?_eq_some_iff.mp h
  have p : (y :: l.eraseIdx j).Perm l := by
    rw [← e, List.eraseIdx_eq_take_drop_succ]
    refine List.perm_middle.symm.trans (List.Perm.of_eq ?_)
    rw [List.getElem_cons_drop, List.take_append_drop]
  refine List.Perm.trans ?_ (p.append_right f)
  rw [← List.append_assoc]
  exact List.perm_append_comm.trans (by simp)
theorem join_cps : ∀ ws : List Str, (Str.join ("" : Str) ws).cps.toList = (ws.map fun w => w.cps.toList).flatten
  | [] => rfl
  | [x] => by show x.cps.toList = _; simp
  | x :: y :: r => by
    have ih := join_cps (y :: r)
    have e : (Str.join ("" : Str) (x :: y :: r)) = x ++ ("" : Str) ++ Str.join ("" : Str) (y :: r) := rfl
    rw [e]
    show ((x.cps ++ ("" : Str).cps) ++ (Str.join ("" : Str) (y :: r)).cps).toList = _
    have e0 : ("" : Str).cps.toList = [] := rfl
    rw [Array.toList_append, Array.toList_append, ih, e0, List.append_nil]
    simp
theorem txt_join (ws : List Str) : PySem.Txt.join ("" : Str) ws = Str.join ("" : Str) ws := by
  have := PyProof.Rows.join_plain_closes ("" : Str) ws
  exact beq_iff_eq.mp this
theorem ones_len : ∀ {ws : List Str}, (∀ w ∈ ws, w.length = 1) → (ws.map fun w => w.cps.toList).flatten.length = ws.length ∧ (ws.map (·.length)).sum = ws.length
  | [], _ => ⟨rfl, rfl⟩
  | w :: ws, h => by
    obtain ⟨a, b⟩ := ones_len (ws := ws) fun x hx => h x (List.mem_cons_of_mem _ hx)
    have e : w.cps.toList.length = 1 := by have := h w (by simp); simpa [Str.length] using this
    constructor
    · rw [List.map_cons, List.flatten_cons, List.length_append, a, e, List.length_cons]; omega
    · rw [List.map_cons, List.sum_cons, b, h w (by simp), List.length_cons]; omega
/-- one-sign texts joined -/
theorem join_ones {ws : List Str} (h : ∀ w ∈ ws, sOk w = true ∧ w.length = 1) (hl : ws.length ≤ 1000) :
    (ws.map (·.length)).sum + ws.length * ("" : Str).length ≤ 1000000 ∧ sOk (PySem.Txt.join ("" : Str) ws) = true ∧ (PySem.Txt.join ("" : Str) ws).length = ws.length ∧ ∀ c ∈ (PySem.Txt.join ("" : Str) ws).cps.toList, ∃ w ∈ ws, c ∈ w.cps.toList := by
  obtain ⟨a, b⟩ := ones_len fun w hw => (h w hw).2
  have hlen : (PySem.Txt.join ("" : Str) ws).length = ws.length := by
    rw [txt_join]
    have := congrArg List.length (join_cps ws)
    rw [a] at this
    simpa [Str.length] using this
  have e0 : ("" : Str).length = 0 := rfl
  refine ⟨by rw [b, e0]; omega, ?_, hlen, fun c hc => ?_⟩
  · refine sOk_of ?_ (by rw [hlen]; omega)
    rw [txt_join]
    exact sok_join (by decide +kernel) ws fun w hw => sOk_1 (h w hw).1
  · rw [txt_join, join_cps] at hc
    obtain ⟨l, hl, hc⟩ := List.mem_flatten.mp hc
    obtain ⟨w, hw, rfl⟩ := List.mem_map.mp hl
    exact ⟨w, hw, hc⟩
end Sv
namespace Sv
open PySem L2 Fl
/-- what follows is looked at through I alone -/
theorem seq_by {t u : ST} {E : DE} {ρ : Env'} (I : Env' → Prop) (h2 : ∀ ρ, I ρ → u E ρ) (h1 : ∀ N : Env' → Prop, (∀ ρ, I ρ → N ρ) → t { E with nx := N } ρ) : dSeq t u E ρ := h1 (u E) h2
theorem nameS_iff (s : Str) : nameS s = true ↔ 1 ≤ s.length ∧ s.length ≤ 8 ∧ ∀ c ∈ s.cps.toList, c ∈ lets := by
  unfold nameS
  simp only [Bool.and_eq_true, decide_eq_true_eq, List.all_eq_true]
theorem cut6 (w : Str) : (cutS w none (some 6)).cps.toList = w.cps.toList.take 6 := by
  unfold cutS
  have h0 : HT.sIx w.length 0 none = 0 := rfl
  have h6 : HT.sIx w.length w.length (some 6) = min 6 w.length := HT.sIx_nat _ _ 6
  rw [h0, h6]
  show (List.toArray _).toList = _
  simp only [List.drop_zero, Nat.sub_zero]
  rw [List.take_eq_take_iff]
  have : w.cps.toList.length = w.length := by simp [Str.length]
  omega
def other (w : Str) (c : Nat) : Str := cutS w none (some 6) ++ "x" ++ ⟨#[c]⟩
theorem other_cps (w : Str) (c : Nat) : (other w c).cps.toList = w.cps.toList.take 6 ++ [120] ++ [c] := by
  unfold other
  show (((cutS w none (some 6)).cps ++ ("x" : Str).cps) ++ #[c]).toList = _
  rw [Array.toList_append, Array.toList_append, cut6]
  rfl
theorem other_name {w : Str} {c : Nat} (h : nameS w = true) (hc : c ∈ lets) : nameS (other w c) = true := by
  rw [nameS_iff] at h ⊢
  have hl : (other w c).length = (other w c).cps.toList.length := by simp [Str.length]
  have h6 : (w.cps.toList.take 6).length ≤ 6 := by rw [List.length_take]; omega
  refine ⟨?_, ?_, fun d hd => ?_⟩
  · rw [hl, other_cps]; simp
  · rw [hl, other_cps]; simp only [List.length_append, List.length_cons, List.length_nil]; omega
  · rw [other_cps] at hd
    rcases List.mem_append.mp hd with hd | hd
    · rcases List.mem_append.mp hd with hd | hd
      · exact h.2.2 d (List.mem_of_mem_take hd)
      · have : d = 120 := by simpa using hd
        rw [this]; decide +kernel
    · have : d = c := by simpa using hd
      rw [this]; exact hc
theorem other_inj {w : Str} {c d : Nat} (h : other w c = other w d) : c = d := by
  have := congrArg (fun s : Str => s.cps.toList) h
  simp only [other_cps] at this
  have := List.append_cancel_left this
  simpa using this
theorem letD : signs ("abcdefghijklmnopqrstuvwxyz" : Str) = lets.map fun c => D.str ⟨#[c]⟩ := rfl
/-- one of the candidates is new -/
theorem cand_new {f : List Str} {w : Str} (hf : f.length ≤ 2) : ∃ c ∈ lets, other w c ∉ f := by
  have h97 : (97 : Nat) ∈ lets := by decide +kernel
  have h98 : (98 : Nat) ∈ lets := by decide +kernel
  have h99 : (99 : Nat) ∈ lets := by decide +kernel
  refine Classical.byContradiction fun hn => ?_
  have all : ∀ c ∈ lets, other w c ∈ f := fun c hc => Classical.byContradiction fun q => hn ⟨c, hc, q⟩
  have a := all 97 h97
  have b := all 98 h98
  have c := all 99 h99
  have n1 : other w 97 ≠ other w 98 := fun e => by have := other_inj e; omega
  have n2 : other w 97 ≠ other w 99 := fun e => by have := other_inj e; omega
  have n3 : other w 98 ≠ other w 99 := fun e => by have := other_inj e; omega
  match f, hf, a, b, c with
  | [], _, a, _, _ => cases a
  | [p], _, a, b, _ =>
    have a : other w 97 = p := by simpa using a
    have b : other w 98 = p := by simpa using b
    exact n1 (a.trans b.symm)
  | [p, q], _, a, b, c =>
    have a : other w 97 = p ∨ other w 97 = q := by simpa using a
    have b : other w 98 = p ∨ other w 98 = q := by simpa using b
    have c : other w 99 = p ∨ other w 99 = q := by simpa using c
    rcases a with a | a <;> rcases b with b | b <;> rcases c with c | c <;> first | exact n1 (a.trans b.symm) | exact n2 (a.trans c.symm) | exact n3 (b.trans c.symm)
theorem strs_of {p : Str → Prop} : ∀ {ys : List D}, (∀ y ∈ ys, ∃ w, y = .str w ∧ p w) → ∃ ws : List Str, ys = ws.map .str ∧ ∀ w ∈ ws, p w
  | [], _ => ⟨[], rfl, by simp⟩
  | y :: ys, h => by
    obtain ⟨ws, h1, h2⟩ := strs_of (ys := ys) fun z hz => h z (List.mem_cons_of_mem _ hz)
    obtain ⟨w, h3, h4⟩ := h y (by simp)
    exact ⟨w :: ws, by rw [h1, h3]; rfl, fun z hz => by rcases List.mem_cons.mp hz with e | e; rw [e]; exact h4; exact h2 z e⟩
theorem strsOf_strs (ws : List Str) : strsOf (.lst (ws.map .str)) = some ws := by
  show (ws.map D.str).mapM _ = some ws
  induction ws with
  | nil => rfl
  | cons x ls ih => rw [List.map_cons, List.mapM_cons, ih]; rfl
theorem upto_len (n : Int) : (upto n).length = n.toNat := by unfold upto; simp
def ftLabels : FT := fun ss P => ∃ m : Int, ss = [.src, .d (.int m)] ∧ 0 ≤ m ∧ m ≤ 3 ∧ ∀ ls : List Str, ls.length = m.toNat → ls.Nodup → (∀ s ∈ ls, nameS s = true) → P (.d (.lst (ls.map .str)))
def ownL : List Str := ["a", "b", "c", "all", "running", "node", "wait", "any", "abcdefgh"]
theorem ownL_ok : ∀ s ∈ ownL, nameS s = true := by decide +kernel
theorem name_sign {c : Nat} (hc : c ∈ lets) : sOk ⟨#[c]⟩ = true ∧ (⟨#[c]⟩ : Str).length = 1 := by
  have hz : ∀ c ∈ lets, c < 0x110000 := by decide +kernel
  refine ⟨sOk_of (sok_cps.mpr fun d hd => ?_) (by show 1 ≤ _; decide), rfl⟩
  have : d = c := by simpa using hd
  rw [this]; exact hz c hc
end Sv
namespace Sv
open PySem L2 Fl
def ftParts : FT := fun ss P => ∃ m : Int, ss = [.src, .d (.int m)] ∧ 1 ≤ m ∧ m ≤ 3 ∧ ∀ q : Parts, q.Ok → P (.d q.d)
def ftBase (C : Addr) : FT := fun ss P => ∃ q : Parts, ss = [.d q.d] ∧ q.Ok ∧ P (.oi C fldN q.flds)
def ftOdd : FT := fun ss P => ∃ x n W, ss = [.src, .d x] ∧ shw n x = true ∧ wt x ≤ W ∧ W ≤ 50000 ∧ ∀ y, shw 1 y = true → wt y ≤ W + 110 → P (.d y)
def ftBent (n : Nat) : FT := fun ss P => ∃ x W, ss = [.src, .d x] ∧ shw n x = true ∧ wt x ≤ W ∧ W ≤ 10000 ∧ ∀ y, shw (n + 1) y = true → wt y ≤ 2 * W + 200 → P (.d y)
theorem bls_of : ∀ {ys : List D}, (∀ y ∈ ys, ∃ b, y = .bl b) → ∃ bs : List Bool, ys = bs.map .bl
  | [], _ => ⟨[], rfl⟩
  | y :: ys, h => by
    obtain ⟨bs, e⟩ := bls_of (ys := ys) fun z hz => h z (List.mem_cons_of_mem _ hz)
    obtain ⟨b, e2⟩ := h y (by simp)
    exact ⟨b :: bs, by rw [e, e2]; rfl⟩
theorem wts_app : ∀ (xs ys : List D), wts (xs ++ ys) = wts xs + wts ys
  | [], ys => by simp [wts]
  | x :: xs, ys => by rw [List.cons_append, wts, wts, wts_app xs ys]; omega
theorem wts_erase : ∀ {xs : List D} {i : Nat} {x : D}, xs[i]? = some x → wts (xs.eraseIdx i) + wt x + 2 = wts xs
  | x :: xs, 0, y, h => by cases h; rw [List.eraseIdx_cons_zero, wts]; omega
  | x :: xs, i + 1, y, h => by
    have ih := wts_erase (xs := xs) (i := i) (x := y) (by simpa using h)
    rw [List.eraseIdx_cons_succ, wts, wts]; omega
theorem wts_set : ∀ {xs : List D} {i : Nat} {x y : D}, xs[i]? = some x → wts (xs.set i y) + wt x = wts xs + wt y
  | x :: xs, 0, z, y, h => by cases h; rw [List.set_cons_zero, wts, wts]; omega
  | x :: xs, i + 1, z, y, h => by
    have ih := wts_set (xs := xs) (i := i) (x := z) (y := y) (by simpa using h)
    rw [List.set_cons_succ, wts, wts]; omega
theorem wts_ins {xs : List D} {i : Nat} {y : D} : wts (xs.take i ++ [y] ++ xs.drop i) = wts xs + wt y + 2 := by
  have e := wts_app (xs.take i) (xs.drop i)
  rw [List.take_append_drop] at e
  rw [wts_app, wts_app, e]
  simp only [wts]; omega
theorem wts_mem : ∀ {xs : List D} {x : D}, x ∈ xs → wt x + 2 ≤ wts xs
  | y :: ys, x, h => by
    rw [wts]
    rcases List.mem_cons.mp h with e | h
    · rw [e]; omega
    · have := wts_mem h; omega
theorem wts_len : ∀ (xs : List D), 2 * xs.length ≤ wts xs
  | [] => Nat.zero_le _
  | x :: xs => by have := wts_len xs; rw [List.length_cons, wts]; omega
theorem shw_mono : ∀ (n : Nat) (x : D), shw n x = true → shw (n + 1) x = true
  | _, .non, _ => by simp [shw]
  | _, .bl _, _ => by simp [shw]
  | _, .int _, _ => by simp [shw]
  | n, .str s, h => by cases n <;> simpa [shw] using h
  | 0, .lst _, h => by simp [shw] at h
  | 0, .tup _, h => by simp [shw] at h
  | 0, .dic _ _, h => by simp [shw] at h
  | 0, .ins _ _ _, h => by simp [shw] at h
  | n + 1, .ins _ _ _, h => by simp [shw] at h
  | n + 1, .lst xs, h => by
    simp only [shw, shws_all, List.all_eq_true] at h ⊢
    exact fun y hy => shw_mono n y (h y hy)
  | n + 1, .tup xs, h => by
    simp only [shw, shws_all, List.all_eq_true] at h ⊢
    exact fun y hy => shw_mono n y (h y hy)
  | n + 1, .dic ks vs, h => by
    simp only [shw, shws_all, Bool.and_eq_true, List.all_eq_true] at h ⊢
    exact ⟨h.1, fun y hy => shw_mono n y (h.2 y hy)⟩
theorem shw_le {n m : Nat} {x : D} (h : shw n x = true) (hl : n ≤ m) : shw m x = true := by
  induction hl with
  | refl => exact h
  | step _ ih => exact shw_mono _ _ ih
theorem shw_ins {n : Nat} {x : D} (h : shw n x = true) : isIns x = false := by
  cases x with
  | ins _ _ _ => cases n <;> simp [shw] at h
  | _ => rfl
theorem odds_ok : ∀ y ∈ ([.non, .bl true, .bl false, .int 0, .int 1, .int (-1), .int 4, .int 99, .str "", .str "A", .str "r", .str "w", .str "all", .str "zzzzzzzzz"] ++ [.tup [], .lst [], .dic [] [], .tup [.int 0], .tup [.str "skip"]] : List D), shw 1 y = true ∧ wt y ≤ 110 := by
  intro y hy
  simp only [List.cons_append, List.nil_append, List.mem_cons, List.not_mem_nil, or_false] at hy
  rcases hy with rfl | rfl | rfl | rfl | rfl | rfl | rfl | rfl | rfl | rfl | rfl | rfl | rfl | rfl | rfl | rfl | rfl | rfl | rfl
  all_goals constructor
  all_goals first
    | (simp [shw, shws]; done)
    | (simp [wt, wts, wtk]; done)
    | (simp only [shw, shws, Bool.and_true]; decide +kernel)
    | (simp only [wt, wts, wtk]; decide +kernel)
end Sv
namespace Sv
open PySem L2 Fl
def Wk : Nat → Nat
  | 0 => 200
  | n + 1 => 2 * Wk n + 200
theorem Wk_le {n : Nat} (h : n ≤ 3) : Wk n ≤ 3000 := by
  match n, h with
  | 0, _ => decide
  | 1, _ => decide
  | 2, _ => decide
  | 3, _ => decide
theorem shw_flat {n : Nat} {x : D} (h : shw n x = true) : flatIns x = true := by
  cases x with
  | tup xs =>
    cases n with
    | zero => simp [shw] at h
    | succ n =>
      simp only [shw, shws_all, List.all_eq_true] at h
      refine List.all_eq_true.mpr fun y hy => ?_
      rw [shw_ins (h y hy)]; rfl
  | ins _ _ _ => cases n <;> simp [shw] at h
  | _ => rfl
theorem two_ok (b : Bool) : shw 60 (.lst [.bl b, .bl b]) = true ∧ wt (.lst [.bl b, .bl b]) ≤ 100000 := ⟨by simp [shw, shws], by simp [wt, wts]⟩
theorem val_ok {s : Str} {i j p f : Int} (h : nameS s = true) (i0 : 0 ≤ i) (i1 : i < p) (p4 : p ≤ 4) (j0 : 0 ≤ j) (j1 : j < f) (f4 : f ≤ 4) : shw 1 (.tup [.str s, .int i, .int j, .str "r"]) = true ∧ wt (.tup [.str s, .int i, .int j, .str "r"]) ≤ 200 := by
  have h8 := ((nameS_iff s).mp h).2.1
  have hr : ("r" : Str).length = 1 := rfl
  refine ⟨?_, ?_⟩
  · simp only [shw, shws, Bool.and_true, Bool.true_and, Bool.and_eq_true]
    exact ⟨sOk_1 (nameS_ok h), by decide +kernel⟩
  · simp only [wt, wts]; omega
end Sv
namespace K04
open PySem L2 Fl Sv
def top (i : Nat) : Stmt := PySem.Challenge.pw_staleview_k04_names_and_entries_judged.main.body.getD i (.Pass ⟨0, 0, 0, 0⟩)
abbrev s_is_name : Stmt := top 11
abbrev s_is_integer : Stmt := top 12
abbrev s_is_index : Stmt := top 13
abbrev s_is_word : Stmt := top 14
abbrev s_are_spaces : Stmt := top 15
abbrev s_is_filled : Stmt := top 16
abbrev s_is_table : Stmt := top 17
abbrev s_are_tables : Stmt := top 18
abbrev s_World_init : Stmt := inClass (top 19) 0
abbrev s_World_is_page : Stmt := inClass (top 19) 10
abbrev s_World_is_entry : Stmt := inClass (top 19) 12
abbrev s__law_state : Stmt := top 21
abbrev s__law_draw : Stmt := top 22
abbrev s__law_pick : Stmt := top 23
abbrev s__law_shuffled : Stmt := top 24
abbrev s__law_labels : Stmt := top 25
abbrev s__law_cell : Stmt := top 26
abbrev s__law_parts : Stmt := top 27
abbrev s__law_base : Stmt := top 28
abbrev s__law_is_word : Stmt := top 29
abbrev s__law_is_number : Stmt := top 30
abbrev s__law_is_name : Stmt := top 31
abbrev s__law_odd : Stmt := top 33
abbrev s__law_bent : Stmt := top 32
abbrev s__law_is_entry : Stmt := top 34
abbrev s__law_string : Stmt := top 35
abbrev s_law : Stmt := top 36
theorem sc_is_name : FnScope ["thing", "sign"] ["thing"] (defScope s_is_name) := ⟨rfl, rfl, rfl, by decide +kernel, rfl, by decide +kernel, by decide +kernel⟩
theorem sc_is_integer : FnScope ["thing"] ["thing"] (defScope s_is_integer) := ⟨rfl, rfl, rfl, by decide +kernel, rfl, by decide +kernel, by decide +kernel⟩
theorem sc_is_index : FnScope ["thing", "size"] ["thing", "size"] (defScope s_is_index) := ⟨rfl, rfl, rfl, by decide +kernel, rfl, by decide +kernel, by decide +kernel⟩
theorem sc_is_word : FnScope ["thing", "words"] ["thing", "words"] (defScope s_is_word) := ⟨rfl, rfl, rfl, by decide +kernel, rfl, by decide +kernel, by decide +kernel⟩
theorem sc_are_spaces : FnScope ["thing", "one"] ["thing"] (defScope s_are_spaces) := ⟨rfl, rfl, rfl, by decide +kernel, rfl, by decide +kernel, by decide +kernel⟩
theorem sc_is_filled : FnScope ["thing", "frames"] ["thing", "frames"] (defScope s_is_filled) := ⟨rfl, rfl, rfl, by decide +kernel, rfl, by decide +kernel, by decide +kernel⟩
theorem sc_is_table : FnScope ["thing", "pages", "frames", "one"] ["thing", "pages", "frames"] (defScope s_is_table) := ⟨rfl, rfl, rfl, by decide +kernel, rfl, by decide +kernel, by decide +kernel⟩
theorem sc_are_tables : FnScope ["thing", "spaces", "pages", "frames", "space"] ["thing", "spaces", "pages", "frames"] (defScope s_are_tables) := ⟨rfl, rfl, rfl, by decide +kernel, rfl, by decide +kernel, by decide +kernel⟩
theorem sc_World_init : FnScope ["self", "spaces", "pages", "frames", "tables", "tags", "checks", "early", "word", "rule", "space"] ["self", "spaces", "pages", "frames", "tables", "tags", "checks", "early"] (defScope s_World_init) := ⟨rfl, rfl, rfl, by decide +kernel, rfl, by decide +kernel, by decide +kernel⟩
theorem sc_World_is_page : FnScope ["self", "thing"] ["self", "thing"] (defScope s_World_is_page) := ⟨rfl, rfl, rfl, by decide +kernel, rfl, by decide +kernel, by decide +kernel⟩
theorem sc_World_is_entry : FnScope ["self", "thing"] ["self", "thing"] (defScope s_World_is_entry) := ⟨rfl, rfl, rfl, by decide +kernel, rfl, by decide +kernel, by decide +kernel⟩
theorem sc__law_state : FnScope ["_law_script", "_law_cell_here"] ["_law_script"] (defScope s__law_state) := ⟨rfl, rfl, rfl, by decide +kernel, rfl, by decide +kernel, by decide +kernel⟩
theorem sc__law_draw : FnScope ["_law_draws", "_law_many", "_law_cells", "_law_spot", "_law_cell_here", "_law_mixed"] ["_law_draws", "_law_many"] (defScope s__law_draw) := ⟨rfl, rfl, rfl, by decide +kernel, rfl, by decide +kernel, by decide +kernel⟩
theorem sc__law_pick : FnScope ["_law_draws", "_law_some"] ["_law_draws", "_law_some"] (defScope s__law_pick) := ⟨rfl, rfl, rfl, by decide +kernel, rfl, by decide +kernel, by decide +kernel⟩
theorem sc__law_shuffled : FnScope ["_law_draws", "_law_some", "_law_left", "_law_found"] ["_law_draws", "_law_some"] (defScope s__law_shuffled) := ⟨rfl, rfl, rfl, by decide +kernel, rfl, by decide +kernel, by decide +kernel⟩
theorem sc__law_labels : FnScope ["_law_draws", "_law_many", "_law_letters", "_law_found", "_law_own", "_law_k", "_law_label", "_law_j", "_law_others", "_law_sign", "_law_one"] ["_law_draws", "_law_many"] (defScope s__law_labels) := ⟨rfl, rfl, rfl, by decide +kernel, rfl, by decide +kernel, by decide +kernel⟩
theorem sc__law_cell : FnScope ["_law_draws", "_law_count"] ["_law_draws", "_law_count"] (defScope s__law_cell) := ⟨rfl, rfl, rfl, by decide +kernel, rfl, by decide +kernel, by decide +kernel⟩
theorem sc__law_parts : FnScope ["_law_draws", "_law_most", "_law_labels_here", "_law_size", "_law_count", "_law_grid", "_law_label", "_law_k"] ["_law_draws", "_law_most"] (defScope s__law_parts) := ⟨rfl, rfl, rfl, by decide +kernel, rfl, by decide +kernel, by decide +kernel⟩
theorem sc__law_base : FnScope ["_law_parts_here", "_law_labels_here", "_law_size", "_law_count", "_law_grid", "_law_rules"] ["_law_parts_here"] (defScope s__law_base) := ⟨rfl, rfl, rfl, by decide +kernel, rfl, by decide +kernel, by decide +kernel⟩
theorem sc__law_is_word : FnScope ["_law_value", "_law_words"] ["_law_value", "_law_words"] (defScope s__law_is_word) := ⟨rfl, rfl, rfl, by decide +kernel, rfl, by decide +kernel, by decide +kernel⟩
theorem sc__law_is_number : FnScope ["_law_value", "_law_low", "_law_high"] ["_law_value", "_law_low", "_law_high"] (defScope s__law_is_number) := ⟨rfl, rfl, rfl, by decide +kernel, rfl, by decide +kernel, by decide +kernel⟩
theorem sc__law_is_name : FnScope ["_law_value", "_law_sign"] ["_law_value"] (defScope s__law_is_name) := ⟨rfl, rfl, rfl, by decide +kernel, rfl, by decide +kernel, by decide +kernel⟩
theorem sc__law_odd : FnScope ["_law_draws", "_law_value", "_law_near", "_law_some"] ["_law_draws", "_law_value"] (defScope s__law_odd) := ⟨rfl, rfl, rfl, by decide +kernel, rfl, by decide +kernel, by decide +kernel⟩
theorem sc__law_bent : FnScope ["_law_draws", "_law_value", "_law_items", "_law_at", "_law_way"] ["_law_draws", "_law_value"] (defScope s__law_bent) := ⟨rfl, rfl, rfl, by decide +kernel, rfl, by decide +kernel, by decide +kernel⟩
theorem sc__law_is_entry : FnScope ["_law_parts_here", "_law_value", "_law_labels_here", "_law_size", "_law_count", "_law_grid", "_law_rules"] ["_law_parts_here", "_law_value"] (defScope s__law_is_entry) := ⟨rfl, rfl, rfl, by decide +kernel, rfl, by decide +kernel, by decide +kernel⟩
theorem sc__law_string : FnScope ["_law_draws", "_law_signs", "_law_k"] ["_law_draws"] (defScope s__law_string) := ⟨rfl, rfl, rfl, by decide +kernel, rfl, by decide +kernel, by decide +kernel⟩
theorem sc_law : FnScope ["_law_script", "_law_draws", "_law_turn", "_law_parts_here", "_law_base_here", "_law_labels_here", "_law_size", "_law_count", "_law_grid", "_law_rules", "_law_again", "_law_value", "_law_change", "_law_due", "_law_before", "_law_word"] ["_law_script"] (defScope s_law) := ⟨rfl, rfl, rfl, by decide +kernel, rfl, by decide +kernel, by decide +kernel⟩
/-- where the top has put things -/
structure Ad where
  World : Addr
  is_name : Addr
  fd_is_name : FuncData
  is_integer : Addr
  fd_is_integer : FuncData
  is_index : Addr
  fd_is_index : FuncData
  is_word : Addr
  fd_is_word : FuncData
  are_spaces : Addr
  fd_are_spaces : FuncData
  is_filled : Addr
  fd_is_filled : FuncData
  is_table : Addr
  fd_is_table : FuncData
  are_tables : Addr
  fd_are_tables : FuncData
  World_init : Addr
  fd_World_init : FuncData
  World_is_page : Addr
  fd_World_is_page : FuncData
  World_is_entry : Addr
  fd_World_is_entry : FuncData
  _law_state : Addr
  fd__law_state : FuncData
  _law_draw : Addr
  fd__law_draw : FuncData
  _law_pick : Addr
  fd__law_pick : FuncData
  _law_shuffled : Addr
  fd__law_shuffled : FuncData
  _law_labels : Addr
  fd__law_labels : FuncData
  _law_cell : Addr
  fd__law_cell : FuncData
  _law_parts : Addr
  fd__law_parts : FuncData
  _law_base : Addr
  fd__law_base : FuncData
  _law_is_word : Addr
  fd__law_is_word : FuncData
  _law_is_number : Addr
  fd__law_is_number : FuncData
  _law_is_name : Addr
  fd__law_is_name : FuncData
  _law_odd : Addr
  fd__law_odd : FuncData
  _law_bent : Addr
  fd__law_bent : FuncData
  _law_is_entry : Addr
  fd__law_is_entry : FuncData
  _law_string : Addr
  fd__law_string : FuncData
  law : Addr
  fd_law : FuncData
structure Txt (K : PySem.W.Frag) (mg : Str → Option Value) (a : Ad) : Prop where
  z_isinstance : mg "isinstance" = none
  z_str : mg "str" = none
  z_int : mg "int" = none
  z_bool : mg "bool" = none
  z_list : mg "list" = none
  z_tuple : mg "tuple" = none
  z_dict : mg "dict" = none
  z_len : mg "len" = none
  z_all : mg "all" = none
  z_sorted : mg "sorted" = none
  z_range : mg "range" = none
  z_repr : mg "repr" = none
  z_min : mg "min" = none
  z_abs : mg "abs" = none
  v_LETTERS : ∃ t, mg "LETTERS" = some (.str "abcdefghijklmnopqrstuvwxyz" t)
  v_MOST_LETTERS : ∃ t, mg "MOST_LETTERS" = some (.int 8 t)
  v_MOST_SPACES : ∃ t, mg "MOST_SPACES" = some (.int 3 t)
  v_MOST_PAGES : ∃ t, mg "MOST_PAGES" = some (.int 4 t)
  v_MOST_FRAMES : ∃ t, mg "MOST_FRAMES" = some (.int 4 t)
  v_RIGHTS : ∃ r, mg "RIGHTS" = some (.ref r) ∧ ∀ G, SqT K G r [.str "r", .str "w"]
  c_World : Cls K a.World
  g_World : mg "World" = some (.ref a.World)
  n_World_own_spaces : NoAttr K a.World "own_spaces"
  n_World_own_pages : NoAttr K a.World "own_pages"
  n_World_own_frames : NoAttr K a.World "own_frames"
  n_World_own_tables : NoAttr K a.World "own_tables"
  n_World_own_rules : NoAttr K a.World "own_rules"
  F_is_name : Fun K "is_name" "is_name" s_is_name a.is_name a.fd_is_name
  g_is_name : mg "is_name" = some (.ref a.is_name)
  k_is_name : PySem.W.keepIn K (.ref a.is_name) = true
  b_is_name : Binds K a.fd_is_name ["thing"] []
  kb_is_name : KBn K a.fd_is_name ["thing"] 0 ["thing"] (fun _ ws => ws) (fun _ zs => zs)
  F_is_integer : Fun K "is_integer" "is_integer" s_is_integer a.is_integer a.fd_is_integer
  g_is_integer : mg "is_integer" = some (.ref a.is_integer)
  k_is_integer : PySem.W.keepIn K (.ref a.is_integer) = true
  b_is_integer : Binds K a.fd_is_integer ["thing"] []
  F_is_index : Fun K "is_index" "is_index" s_is_index a.is_index a.fd_is_index
  g_is_index : mg "is_index" = some (.ref a.is_index)
  k_is_index : PySem.W.keepIn K (.ref a.is_index) = true
  b_is_index : Binds K a.fd_is_index ["thing", "size"] []
  F_is_word : Fun K "is_word" "is_word" s_is_word a.is_word a.fd_is_word
  g_is_word : mg "is_word" = some (.ref a.is_word)
  k_is_word : PySem.W.keepIn K (.ref a.is_word) = true
  b_is_word : Binds K a.fd_is_word ["thing", "words"] []
  F_are_spaces : Fun K "are_spaces" "are_spaces" s_are_spaces a.are_spaces a.fd_are_spaces
  g_are_spaces : mg "are_spaces" = some (.ref a.are_spaces)
  k_are_spaces : PySem.W.keepIn K (.ref a.are_spaces) = true
  b_are_spaces : Binds K a.fd_are_spaces ["thing"] []
  F_is_filled : Fun K "is_filled" "is_filled" s_is_filled a.is_filled a.fd_is_filled
  g_is_filled : mg "is_filled" = some (.ref a.is_filled)
  k_is_filled : PySem.W.keepIn K (.ref a.is_filled) = true
  b_is_filled : Binds K a.fd_is_filled ["thing", "frames"] []
  F_is_table : Fun K "is_table" "is_table" s_is_table a.is_table a.fd_is_table
  g_is_table : mg "is_table" = some (.ref a.is_table)
  k_is_table : PySem.W.keepIn K (.ref a.is_table) = true
  b_is_table : Binds K a.fd_is_table ["thing", "pages", "frames"] []
  F_are_tables : Fun K "are_tables" "are_tables" s_are_tables a.are_tables a.fd_are_tables
  g_are_tables : mg "are_tables" = some (.ref a.are_tables)
  k_are_tables : PySem.W.keepIn K (.ref a.are_tables) = true
  b_are_tables : Binds K a.fd_are_tables ["thing", "spaces", "pages", "frames"] []
  F_World_init : Fun K "__init__" "World.__init__" s_World_init a.World_init a.fd_World_init
  m_World : Mk K a.World a.World_init
  kb_World : KBn K a.fd_World_init ["self", "spaces", "pages", "frames", "tables", "tags", "checks", "early"] 5 ["tags", "checks", "early"] (fun us ws => us ++ ws) (fun vs zs => vs ++ zs)
  F_World_is_page : Fun K "is_page" "World.is_page" s_World_is_page a.World_is_page a.fd_World_is_page
  me_World_is_page : Meth K a.World "is_page" a.World_is_page
  b_World_is_page : Binds K a.fd_World_is_page ["self", "thing"] []
  F_World_is_entry : Fun K "is_entry" "World.is_entry" s_World_is_entry a.World_is_entry a.fd_World_is_entry
  me_World_is_entry : Meth K a.World "is_entry" a.World_is_entry
  b_World_is_entry : Binds K a.fd_World_is_entry ["self", "thing"] []
  kb_World_is_entry : KBn K a.fd_World_is_entry ["self", "thing"] 1 ["thing"] (fun us ws => us ++ ws) (fun vs zs => vs ++ zs)
  F__law_state : Fun K "_law_state" "_law_state" s__law_state a._law_state a.fd__law_state
  g__law_state : mg "_law_state" = some (.ref a._law_state)
  k__law_state : PySem.W.keepIn K (.ref a._law_state) = true
  b__law_state : Binds K a.fd__law_state ["_law_script"] []
  F__law_draw : Fun K "_law_draw" "_law_draw" s__law_draw a._law_draw a.fd__law_draw
  g__law_draw : mg "_law_draw" = some (.ref a._law_draw)
  k__law_draw : PySem.W.keepIn K (.ref a._law_draw) = true
  b__law_draw : Binds K a.fd__law_draw ["_law_draws", "_law_many"] []
  F__law_pick : Fun K "_law_pick" "_law_pick" s__law_pick a._law_pick a.fd__law_pick
  g__law_pick : mg "_law_pick" = some (.ref a._law_pick)
  k__law_pick : PySem.W.keepIn K (.ref a._law_pick) = true
  b__law_pick : Binds K a.fd__law_pick ["_law_draws", "_law_some"] []
  F__law_shuffled : Fun K "_law_shuffled" "_law_shuffled" s__law_shuffled a._law_shuffled a.fd__law_shuffled
  g__law_shuffled : mg "_law_shuffled" = some (.ref a._law_shuffled)
  k__law_shuffled : PySem.W.keepIn K (.ref a._law_shuffled) = true
  b__law_shuffled : Binds K a.fd__law_shuffled ["_law_draws", "_law_some"] []
  F__law_labels : Fun K "_law_labels" "_law_labels" s__law_labels a._law_labels a.fd__law_labels
  g__law_labels : mg "_law_labels" = some (.ref a._law_labels)
  k__law_labels : PySem.W.keepIn K (.ref a._law_labels) = true
  b__law_labels : Binds K a.fd__law_labels ["_law_draws", "_law_many"] []
  F__law_cell : Fun K "_law_cell" "_law_cell" s__law_cell a._law_cell a.fd__law_cell
  g__law_cell : mg "_law_cell" = some (.ref a._law_cell)
  k__law_cell : PySem.W.keepIn K (.ref a._law_cell) = true
  b__law_cell : Binds K a.fd__law_cell ["_law_draws", "_law_count"] []
  F__law_parts : Fun K "_law_parts" "_law_parts" s__law_parts a._law_parts a.fd__law_parts
  g__law_parts : mg "_law_parts" = some (.ref a._law_parts)
  k__law_parts : PySem.W.keepIn K (.ref a._law_parts) = true
  b__law_parts : Binds K a.fd__law_parts ["_law_draws", "_law_most"] []
  F__law_base : Fun K "_law_base" "_law_base" s__law_base a._law_base a.fd__law_base
  g__law_base : mg "_law_base" = some (.ref a._law_base)
  k__law_base : PySem.W.keepIn K (.ref a._law_base) = true
  b__law_base : Binds K a.fd__law_base ["_law_parts_here"] []
  F__law_is_word : Fun K "_law_is_word" "_law_is_word" s__law_is_word a._law_is_word a.fd__law_is_word
  g__law_is_word : mg "_law_is_word" = some (.ref a._law_is_word)
  k__law_is_word : PySem.W.keepIn K (.ref a._law_is_word) = true
  b__law_is_word : Binds K a.fd__law_is_word ["_law_value", "_law_words"] []
  F__law_is_number : Fun K "_law_is_number" "_law_is_number" s__law_is_number a._law_is_number a.fd__law_is_number
  g__law_is_number : mg "_law_is_number" = some (.ref a._law_is_number)
  k__law_is_number : PySem.W.keepIn K (.ref a._law_is_number) = true
  b__law_is_number : Binds K a.fd__law_is_number ["_law_value", "_law_low", "_law_high"] []
  F__law_is_name : Fun K "_law_is_name" "_law_is_name" s__law_is_name a._law_is_name a.fd__law_is_name
  g__law_is_name : mg "_law_is_name" = some (.ref a._law_is_name)
  k__law_is_name : PySem.W.keepIn K (.ref a._law_is_name) = true
  b__law_is_name : Binds K a.fd__law_is_name ["_law_value"] []
  F__law_odd : Fun K "_law_odd" "_law_odd" s__law_odd a._law_odd a.fd__law_odd
  g__law_odd : mg "_law_odd" = some (.ref a._law_odd)
  k__law_odd : PySem.W.keepIn K (.ref a._law_odd) = true
  b__law_odd : Binds K a.fd__law_odd ["_law_draws", "_law_value"] []
  F__law_bent : Fun K "_law_bent" "_law_bent" s__law_bent a._law_bent a.fd__law_bent
  g__law_bent : mg "_law_bent" = some (.ref a._law_bent)
  k__law_bent : PySem.W.keepIn K (.ref a._law_bent) = true
  b__law_bent : Binds K a.fd__law_bent ["_law_draws", "_law_value"] []
  F__law_is_entry : Fun K "_law_is_entry" "_law_is_entry" s__law_is_entry a._law_is_entry a.fd__law_is_entry
  g__law_is_entry : mg "_law_is_entry" = some (.ref a._law_is_entry)
  k__law_is_entry : PySem.W.keepIn K (.ref a._law_is_entry) = true
  b__law_is_entry : Binds K a.fd__law_is_entry ["_law_parts_here", "_law_value"] []
  F__law_string : Fun K "_law_string" "_law_string" s__law_string a._law_string a.fd__law_string
  g__law_string : mg "_law_string" = some (.ref a._law_string)
  k__law_string : PySem.W.keepIn K (.ref a._law_string) = true
  b__law_string : Binds K a.fd__law_string ["_law_draws"] []
  F_law : Fun K "law" "law" s_law a.law a.fd_law
  g_law : mg "law" = some (.ref a.law)
  k_law : PySem.W.keepIn K (.ref a.law) = true
theorem g_LETTERS {a : Ad} {X : Cx} {pos : Pos} (T : Txt X.K X.mg a) (hg : Gl X "LETTERS") : PE X (.Name "LETTERS" pos) (lift X.K (dC (.str "abcdefghijklmnopqrstuvwxyz"))) := by
  obtain ⟨t, h⟩ := T.v_LETTERS
  exact pd_glob (v := .str "abcdefghijklmnopqrstuvwxyz") hg h ⟨t, rfl⟩ fun G => .str _ (by decide +kernel)
theorem g_MOST_LETTERS {a : Ad} {X : Cx} {pos : Pos} (T : Txt X.K X.mg a) (hg : Gl X "MOST_LETTERS") : PE X (.Name "MOST_LETTERS" pos) (lift X.K (dC (.int 8))) := by
  obtain ⟨t, h⟩ := T.v_MOST_LETTERS
  exact pd_glob (v := .int 8) hg h ⟨t, rfl⟩ fun G => .int _
theorem g_MOST_SPACES {a : Ad} {X : Cx} {pos : Pos} (T : Txt X.K X.mg a) (hg : Gl X "MOST_SPACES") : PE X (.Name "MOST_SPACES" pos) (lift X.K (dC (.int 3))) := by
  obtain ⟨t, h⟩ := T.v_MOST_SPACES
  exact pd_glob (v := .int 3) hg h ⟨t, rfl⟩ fun G => .int _
theorem g_MOST_PAGES {a : Ad} {X : Cx} {pos : Pos} (T : Txt X.K X.mg a) (hg : Gl X "MOST_PAGES") : PE X (.Name "MOST_PAGES" pos) (lift X.K (dC (.int 4))) := by
  obtain ⟨t, h⟩ := T.v_MOST_PAGES
  exact pd_glob (v := .int 4) hg h ⟨t, rfl⟩ fun G => .int _
theorem g_MOST_FRAMES {a : Ad} {X : Cx} {pos : Pos} (T : Txt X.K X.mg a) (hg : Gl X "MOST_FRAMES") : PE X (.Name "MOST_FRAMES" pos) (lift X.K (dC (.int 4))) := by
  obtain ⟨t, h⟩ := T.v_MOST_FRAMES
  exact pd_glob (v := .int 4) hg h ⟨t, rfl⟩ fun G => .int _
theorem g_RIGHTS {a : Ad} {X : Cx} {pos : Pos} (T : Txt X.K X.mg a) (hg : Gl X "RIGHTS") : PE X (.Name "RIGHTS" pos) (lift X.K (dC (.tup [.str "r", .str "w"]))) := by
  obtain ⟨r, h, q⟩ := T.v_RIGHTS
  exact pd_glob (v := .ref r) hg h rfl fun G => .tup (q G) (.cons (.str _ (by decide +kernel)) (.cons (.str _ (by decide +kernel)) .nil))
end K04
namespace K04
open PySem L2 Fl Sv
section
variable {P : Program} {w : World} {K : PySem.W.Frag} {mg : Str → Option Value} {base : Heap} {a : Ad}
theorem f_is_name (T : Txt K mg a) : FnOk P w K mg base CX0 1 a.is_name a.fd_is_name ["thing"] (spD K 1 ftName) := by
  refine fun_d T.F_is_name sc_is_name rfl fun cdv A outer s H E hr => ?_
  refine ⟨_, (dss_cons (ds_if (PW.pt (pwd_or (pt_notD (pt_valD (pd_isi askT_str (pd_var 0) rfl T.z_isinstance rfl T.z_str))) (pwd_or1 (pt_notD (pt_chainD od_le od_le pd_int (pd_callB cd_len rfl T.z_len (by decide +kernel) (pda_cons (pd_var 0) pda_nil)) (g_MOST_LETTERS T rfl)))))) (dss_one (ds_ret pd_bl)) dss_nil) (dss_one (ds_ret (pd_callB (cd_all rfl) rfl T.z_all (by decide +kernel) (pda_cons (pd_lc (own := [("sign", 1)]) rfl sc_is_name.nd (di_str (pd_var 0)) (blkOk_by (by rfl)) (fun _ _ _ _ _ => (pg_name (i := 1) sc_is_name.nd rfl (by first | exact .inl rfl | exact .inr rfl))) (tgt_name 1) (by decide) (fun _ _ _ _ _ => dts_nil) (fun _ _ _ _ _ => (pd_cmp od_in (pd_var 1) (g_LETTERS T rfl)))) pda_nil))))), ?_⟩
  rintro ss P ha hl ⟨x, rfl, hi, p⟩
  refine ⟨x, rfl, hi, _, rfl, ?_⟩
  rw [isT_str]
  cases x with
  | str s =>
    have p : P (.d (.bl (nameS s))) := p
    have no : ¬ (1 ≤ s.length ∧ s.length ≤ 8) → nameS s = false := fun h => by
      unfold nameS
      by_cases h1 : 1 ≤ s.length
      · rw [decide_eq_false (fun q => h ⟨h1, q⟩)]; simp
      · rw [decide_eq_false h1]; rfl
    refine ifB (fun h => by cases h) fun _ => ?_
    refine ⟨_, rfl, _, rfl, _, _, rfl, rfl, _, rfl, _, rfl, ?_⟩
    refine ifB (fun h1 => ?_) fun h1 => ?_
    · have h1 : (1 : Int) ≤ (s.length : Nat) := of_decide_eq_true h1
      refine ⟨_, rfl, _, rfl, ?_⟩
      refine ifB (fun h2 => ?_) fun h2 => ?_
      · have h2 : ¬ ((s.length : Nat) : Int) ≤ 8 := by simpa using h2
        refine ⟨rfl, ?_⟩
        rw [no (by omega)] at p
        exact p
      · have h2 : ((s.length : Nat) : Int) ≤ 8 := by simpa using h2
        refine ⟨s, rfl, loopC_map (fun y => .bl ((inSeq y (.str "abcdefghijklmnopqrstuvwxyz")).getD false)) (by rw [len_signs]; omega) (fun y hy Qs k => ?_) ?_⟩
        · obtain ⟨c, hc, rfl⟩ := List.mem_map.mp hy
          exact ⟨Nat.le_of_ble_eq_true rfl, _, rfl, _, rfl, _, rfl, k _ _ rfl rfl⟩
        · refine ⟨_, rfl, s.cps.toList.map fun c => decide (c ∈ lets), ?_, rfl, ?_⟩
          · unfold signs
            rw [List.map_map, List.map_map]; rfl
          · rw [List.all_map]
            have e : nameS s = s.cps.toList.all (id ∘ fun c => decide (c ∈ lets)) := by
              unfold nameS
              rw [decide_eq_true (by omega), decide_eq_true (by omega)]; rfl
            rw [← e]; exact p
    · have h1 : ¬ (1 : Int) ≤ (s.length : Nat) := of_decide_eq_false h1
      refine ⟨_, rfl, ?_⟩
      refine ifB (fun _ => ?_) (fun h => by cases h)
      refine ⟨rfl, ?_⟩
      rw [no (by omega)] at p
      exact p
  | _ =>
    refine ifB (fun _ => ?_) (fun h => by cases h)
    refine ifB (fun _ => ?_) (fun h => by cases h)
    exact ⟨rfl, p⟩
theorem f_is_integer (T : Txt K mg a) : FnOk P w K mg base CX0 1 a.is_integer a.fd_is_integer ["thing"] (spD K 1 ftInteger) := by
  refine fun_d T.F_is_integer sc_is_integer rfl fun cdv A outer s H E hr => ?_
  refine ⟨_, (dss_one (ds_ret (pd_and (pd_isi askT_int (pd_var 0) rfl T.z_isinstance rfl T.z_int) (pd_one (pd_not (pd_isi askT_bool (pd_var 0) rfl T.z_isinstance rfl T.z_bool)))))), ?_⟩
  rintro ss P ha hl ⟨x, rfl, hi, p⟩
  refine ⟨x, rfl, hi, _, rfl, ?_⟩
  rw [isT_int]
  refine ifB (fun h => ⟨x, rfl, hi, _, rfl, rfl, ?_⟩) fun h => ⟨rfl, ?_⟩
  · rw [isT_bool]
    cases x <;> first | exact p | cases h
  · cases x <;> first | exact p | cases h
theorem f_is_index (T : Txt K mg a) : FnOk P w K mg base CX0 2 a.is_index a.fd_is_index ["thing", "size"] (spD K 2 ftIndex) := by
  refine fun_d T.F_is_index sc_is_index rfl fun cdv A outer s H E hr => ?_
  refine ⟨_, (dss_one (ds_ret (pd_and (pd_call (f_is_integer T) (hr.mono (by decide)) rfl T.g_is_integer T.k_is_integer T.b_is_integer (dab_arg (pd_var 0) dab_nil)) (pd_one (pd_chain od_le od_lt pd_int (pd_var 0) (pd_var 1)))))), ?_⟩
  rintro ss P ha hl ⟨x, n, rfl, hi, p⟩
  refine ⟨_, rfl, rfl, rfl, _, rfl, hi, rfl, _, rfl, ?_⟩
  cases x with
  | int i =>
    refine ifB (fun _ => ?_) (fun h => by cases h)
    refine ⟨_, rfl, _, rfl, _, rfl, ?_⟩
    refine ifB (fun h => ⟨_, rfl, rfl, ?_⟩) fun h => ⟨rfl, ?_⟩
    · have p : P (.d (.bl (decide (0 ≤ i) && decide (i < n)))) := p
      have h : decide (0 ≤ i) = true := h
      rw [h] at p; exact p
    · have p : P (.d (.bl (decide (0 ≤ i) && decide (i < n)))) := p
      have h : decide (0 ≤ i) = false := h
      rw [h] at p; exact p
  | _ =>
    refine ifB (fun h => by cases h) fun _ => ?_
    exact ⟨rfl, p⟩
theorem f_is_word (T : Txt K mg a) : FnOk P w K mg base CX0 1 a.is_word a.fd_is_word ["thing", "words"] (spD K 2 ftWord) := by
  refine fun_d T.F_is_word sc_is_word rfl fun cdv A outer s H E hr => ?_
  refine ⟨_, (dss_one (ds_ret (pd_and (pd_isi askT_str (pd_var 0) rfl T.z_isinstance rfl T.z_str) (pd_one (pd_cmp od_in (pd_var 0) (pd_var 1)))))), ?_⟩
  rintro ss P ha hl ⟨x, y, ws, rfl, hi, hw, p⟩
  refine ⟨x, rfl, hi, _, rfl, ?_⟩
  rw [isT_str]
  cases x with
  | str s =>
    refine ifB (fun _ => ?_) (fun h => by cases h)
    rcases hw with rfl | rfl
    · exact ⟨_, rfl, _, rfl, _, (in_strs s ws).2, rfl, p⟩
    · exact ⟨_, rfl, _, rfl, _, (in_strs s ws).1, rfl, p⟩
  | _ =>
    refine ifB (fun h => by cases h) fun _ => ?_
    exact ⟨rfl, p⟩
end
end K04
namespace K04
open PySem L2 Fl Sv
section
variable {P : Program} {w : World} {K : PySem.W.Frag} {mg : Str → Option Value} {base : Heap} {a : Ad}
theorem f_are_spaces (T : Txt K mg a) : FnOk P w K mg base CX0 2 a.are_spaces a.fd_are_spaces ["thing"] (spD K 1 ftSpaces) := by
  refine fun_d T.F_are_spaces sc_are_spaces rfl fun cdv A outer s H E hr => ?_
  refine ⟨_, (dss_cons (ds_if (PW.pt (pwd_or (pt_notD (pt_valD (pd_isi askT_tuple (pd_var 0) rfl T.z_isinstance rfl T.z_tuple))) (pwd_or1 (pt_notD (pt_chainD od_le od_le pd_int (pd_callB cd_len rfl T.z_len (by decide +kernel) (pda_cons (pd_var 0) pda_nil)) (g_MOST_SPACES T rfl)))))) (dss_one (ds_ret pd_bl)) dss_nil) (dss_one (ds_ret (pd_and (pd_callB (cd_all rfl) rfl T.z_all (by decide +kernel) (pda_cons (pd_lc (own := [("one", 1)]) rfl sc_are_spaces.nd (di_tup (pd_var 0)) (blkOk_by (by rfl)) (fun _ _ _ _ _ => (pg_name (i := 1) sc_are_spaces.nd rfl (by first | exact .inl rfl | exact .inr rfl))) (tgt_name 1) (by decide) (fun _ _ _ _ _ => dts_nil) (fun _ _ _ _ _ => (pd_call (f_is_name T) (hr.mono (by decide)) rfl T.g_is_name T.k_is_name T.b_is_name (dab_arg (pd_var 1) dab_nil)))) pda_nil)) (pd_one (pd_cmp (od_eq hr) (pd_callTy cd_list rfl T.z_list (by decide +kernel) (pda_cons (pd_var 0) pda_nil)) (pd_callB (cd_sortS rfl) rfl T.z_sorted (by decide +kernel) (pda_cons (pd_dc (own := [("one", 1)]) rfl sc_are_spaces.nd (di_tup (pd_var 0)) (blkOk_by (by rfl)) (fun _ _ _ _ _ => (pg_name (i := 1) sc_are_spaces.nd rfl (by first | exact .inl rfl | exact .inr rfl))) (tgt_name 1) (by decide) (fun _ _ _ _ _ => dts_nil) (fun _ _ _ _ _ => (pd_var 1)) (fun _ _ _ _ _ => pd_bl)) pda_nil)))))))), ?_⟩
  rintro ss P ha hl ⟨ls, rfl, ok, p⟩
  have l1 := ok.lo
  have l3 := ok.hi
  have ll : (ls.map D.str).length = ls.length := List.length_map _
  refine ⟨_, rfl, rfl, _, rfl, ?_⟩
  rw [isT_tuple]
  refine ifB (fun h => by cases h) fun _ => ?_
  refine ⟨_, rfl, _, rfl, _, _, rfl, rfl, _, rfl, _, rfl, ?_⟩
  refine ifB (fun _ => ⟨_, rfl, _, rfl, ?_⟩) fun h => absurd (of_decide_eq_false h) (fun q => q (by rw [ll]; omega))
  refine ifB (fun h => ?_) fun _ => ?_
  · have h : ¬ (((ls.map D.str).length : Nat) : Int) ≤ 3 := by simpa using h
    exact absurd h (fun q => q (by rw [ll]; omega))
  refine ⟨_, rfl, loopC_map (fun _ => .bl true) (by omega) (fun y hy Qs k => ?_) ?_⟩
  · obtain ⟨s, hs, rfl⟩ := List.mem_map.mp hy
    refine ⟨Nat.le_of_ble_eq_true rfl, _, rfl, rfl, rfl, _, rfl, rfl, rfl, ?_⟩
    show Qs (.d (.bl (nameS s))) _
    rw [ok.nm s hs]
    exact k _ _ rfl rfl
  refine ⟨_, rfl, ls.map fun _ => true, by rw [List.map_map, List.map_map]; rfl, _, rfl, ?_⟩
  refine ifB (fun _ => ?_) fun h => absurd h (by simp)
  refine ⟨_, rfl, _, _, rfl, rfl, _, rfl, _, rfl, ?_⟩
  refine loopK_map keyOf (fun _ => .bl true) (ls.map D.str) [] (by simp; omega) (by rw [List.nil_append, map_keyOf]; exact nodup_inr ok.nd) (fun y hy Q k => ?_) ?_
  · obtain ⟨s, hs, rfl⟩ := List.mem_map.mp hy
    exact ⟨Nat.le_of_ble_eq_true rfl, k _ _ _ rfl rfl fun Q2 k2 => k2 _ _ rfl rfl⟩
  rw [List.nil_append, map_keyOf]
  refine ⟨_, rfl, _, ls, rfl, sortIn_keys _ _, by omega, fun s hs => nameS_ok (ok.nm s hs), fun ys hp hy => ?_⟩
  refine ⟨_, rfl, (ok_strs _ ls).1, (ok_strs _ ys).1, rfl, ?_⟩
  rw [eqD_strs, decide_eq_true (sorted_eq hy ok.so hp).symm]
  exact p
theorem f_is_filled (T : Txt K mg a) : FnOk P w K mg base CX0 3 a.is_filled a.fd_is_filled ["thing", "frames"] (spD K 2 ftFilled) := by
  refine fun_d T.F_is_filled sc_is_filled rfl fun cdv A outer s H E hr => ?_
  refine ⟨_, (dss_cons (ds_if (PW.pt (pwd_or (pt_notD (pt_valD (pd_isi askT_tuple (pd_var 0) rfl T.z_isinstance rfl T.z_tuple))) (pwd_or1 (pt_cmpD (od_ne hr) (pd_callB cd_len rfl T.z_len (by decide +kernel) (pda_cons (pd_var 0) pda_nil)) pd_int)))) (dss_one (ds_ret pd_bl)) dss_nil) (dss_one (ds_ret (pd_and (pd_call (f_is_index T) (hr.mono (by decide)) rfl T.g_is_index T.k_is_index T.b_is_index (dab_arg (pd_ix (pd_var 0) pd_int) (dab_arg (pd_var 1) dab_nil))) (pd_one (pd_call (f_is_word T) (hr.mono (by decide)) rfl T.g_is_word T.k_is_word T.b_is_word (dab_arg (pd_ix (pd_var 0) pd_int) (dab_arg (g_RIGHTS T rfl) dab_nil)))))))), ?_⟩
  rintro ss P ha hl ⟨x, n, rfl, hf, p⟩
  have hi : isIns x = false := by cases x <;> first | rfl | cases hf
  refine ⟨x, rfl, hi, _, rfl, ?_⟩
  rw [isT_tuple]
  cases x with
  | tup xs =>
    refine ifB (fun h => by cases h) fun _ => ?_
    refine ⟨_, rfl, _, _, rfl, rfl, _, rfl, _, rfl, rfl, rfl, _, rfl, ?_⟩
    rw [eqD_int]
    match xs, hf, p with
    | [u, v], hf, p =>
      have p : P (.d (.bl (indexD n u && wordD ["r", "w"] v))) := p
      have hf : (!isIns u && (!isIns v && true)) = true := hf
      rw [Bool.and_true, Bool.and_eq_true] at hf
      have h1 : isIns u = false := by simpa using hf.1
      have h2 : isIns v = false := by simpa using hf.2
      refine ifB (fun h => by cases h) fun _ => ?_
      refine ⟨_, rfl, _, rfl, _, rfl, _, rfl, _, rfl, rfl, rfl, _, _, rfl, h1, rfl, _, rfl, ?_⟩
      cases e : indexD n u with
      | true =>
        rw [e] at p
        refine ifB (fun _ => ?_) fun h => by cases h
        exact ⟨_, rfl, _, rfl, _, rfl, _, rfl, _, rfl, rfl, rfl, _, _, ["r", "w"], rfl, h2, .inl rfl, rfl, rfl, p⟩
      | false =>
        rw [e] at p
        refine ifB (fun h => by cases h) fun _ => ?_
        exact ⟨rfl, p⟩
    | [], _, p =>
      refine ifB (fun _ => ?_) (fun h => by cases h)
      exact ⟨rfl, p⟩
    | [u], _, p =>
      refine ifB (fun _ => ?_) (fun h => by cases h)
      exact ⟨rfl, p⟩
    | u :: v :: z :: xs, _, p =>
      refine ifB (fun _ => ?_) (fun h => ?_)
      · exact ⟨rfl, p⟩
      · have h : (((u :: v :: z :: xs).length : Nat) : Int) = 2 := by simpa using h
        rw [List.length_cons, List.length_cons, List.length_cons] at h
        omega
  | _ =>
    refine ifB (fun _ => ?_) (fun h => by cases h)
    exact ⟨rfl, p⟩
end
end K04
namespace K04
open PySem L2 Fl Sv
section
variable {P : Program} {w : World} {K : PySem.W.Frag} {mg : Str → Option Value} {base : Heap} {a : Ad}
theorem f_is_table (T : Txt K mg a) : FnOk P w K mg base CX0 4 a.is_table a.fd_is_table ["thing", "pages", "frames"] (spD K 3 ftTable) := by
  refine fun_d T.F_is_table sc_is_table rfl fun cdv A outer s H E hr => ?_
  refine ⟨_, (dss_cons (ds_if (PW.pt (pwd_or (pt_notD (pt_valD (pd_isi askT_tuple (pd_var 0) rfl T.z_isinstance rfl T.z_tuple))) (pwd_or1 (pt_cmpD (od_ne hr) (pd_callB cd_len rfl T.z_len (by decide +kernel) (pda_cons (pd_var 0) pda_nil)) (pd_var 1))))) (dss_one (ds_ret pd_bl)) dss_nil) (dss_one (ds_ret (pd_callB (cd_all rfl) rfl T.z_all (by decide +kernel) (pda_cons (pd_lc (own := [("one", 3)]) rfl sc_is_table.nd (di_tup (pd_var 0)) (blkOk_by (by rfl)) (fun _ _ _ _ _ => (pg_name (i := 3) sc_is_table.nd rfl (by first | exact .inl rfl | exact .inr rfl))) (tgt_name 3) (by decide) (fun _ _ _ _ _ => dts_nil) (fun _ _ _ _ _ => (pd_or (pd_cmp od_isN (pd_var 3) pd_non) (pd_one (pd_call (f_is_filled T) (hr.mono (by decide)) rfl T.g_is_filled T.k_is_filled T.b_is_filled (dab_arg (pd_var 3) (dab_arg (pd_var 2) dab_nil))))))) pda_nil))))), ?_⟩
  rintro ss P ha hl ⟨x, n, f, rfl, hn, ⟨cs, rfl, hc, hcell⟩, p⟩
  refine ⟨_, rfl, rfl, _, rfl, ?_⟩
  rw [isT_tuple]
  refine ifB (fun h => by cases h) fun _ => ?_
  refine ⟨_, rfl, _, _, rfl, rfl, _, rfl, _, rfl, rfl, rfl, _, rfl, ?_⟩
  rw [eqD_int]
  refine ifB (fun h => ?_) fun _ => ?_
  · rw [hc] at h; simp at h
  refine ⟨_, rfl, loopC_map (fun _ => .bl true) (by omega) (fun y hy Qs k => ?_) ?_⟩
  · refine ⟨Nat.le_of_ble_eq_true rfl, _, rfl, _, rfl, rfl, _, rfl, ?_⟩
    have hy := hcell y hy
    by_cases e : y = .non
    · subst e
      exact ifB (fun _ => k _ _ rfl rfl) (fun h => by cases h)
    · have q := filled_cell hy e
      refine ifB (fun h => ?_) fun _ => ?_
      · cases y <;> first | exact absurd rfl e | cases h
      refine ⟨_, rfl, _, rfl, rfl, rfl, _, _, rfl, q.2, rfl, ?_⟩
      rw [q.1]
      exact k _ _ rfl rfl
  refine ⟨_, rfl, cs.map fun _ => true, by rw [List.map_map]; rfl, rfl, ?_⟩
  have e : (cs.map fun _ => true).all id = true := by simp
  rw [e]
  exact p
theorem f_are_tables (T : Txt K mg a) : FnOk P w K mg base CX0 5 a.are_tables a.fd_are_tables ["thing", "spaces", "pages", "frames"] (spD K 4 ftTables) := by
  refine fun_d T.F_are_tables sc_are_tables rfl fun cdv A outer s H E hr => ?_
  refine ⟨_, (dss_cons (ds_if (PW.pt (pwd_or (pt_notD (pt_valD (pd_isi askT_dict (pd_var 0) rfl T.z_isinstance rfl T.z_dict))) (pwd_or1 (pt_cmpD (od_ne hr) (pd_callB cd_len rfl T.z_len (by decide +kernel) (pda_cons (pd_var 0) pda_nil)) (pd_callB cd_len rfl T.z_len (by decide +kernel) (pda_cons (pd_var 1) pda_nil)))))) (dss_one (ds_ret pd_bl)) dss_nil) (dss_one (ds_ret (pd_callB (cd_all rfl) rfl T.z_all (by decide +kernel) (pda_cons (pd_lc (own := [("space", 4)]) rfl sc_are_tables.nd (di_tup (pd_var 1)) (blkOk_by (by rfl)) (fun _ _ _ _ _ => (pg_name (i := 4) sc_are_tables.nd rfl (by first | exact .inl rfl | exact .inr rfl))) (tgt_name 4) (by decide) (fun _ _ _ _ _ => dts_nil) (fun _ _ _ _ _ => (pd_and (pd_din hr (pd_var 4) (pd_var 0)) (pd_one (pd_call (f_is_table T) (hr.mono (by decide)) rfl T.g_is_table T.k_is_table T.b_is_table (dab_arg (pd_dg hr (pd_var 0) (pd_var 4)) (dab_arg (pd_var 2) (dab_arg (pd_var 3) dab_nil)))))))) pda_nil))))), ?_⟩
  rintro ss P ha hl ⟨q, rfl, ok, p⟩
  have l1 := ok.l.lo
  have l3 := ok.l.hi
  refine ⟨_, rfl, rfl, _, rfl, ?_⟩
  rw [isT_dict]
  refine ifB (fun h => by cases h) fun _ => ?_
  refine ⟨_, rfl, _, _, rfl, rfl, _, rfl, _, rfl, _, _, rfl, rfl, _, rfl, rfl, rfl, _, rfl, ?_⟩
  rw [eqD_int]
  refine ifB (fun h => ?_) fun _ => ?_
  · rw [List.length_map, ok.g.sz] at h; simp at h
  refine ⟨_, rfl, loopC_map (fun _ => .bl true) (by rw [List.length_map]; omega) (fun y hy Qs k => ?_) ?_⟩
  · obtain ⟨s, hs, rfl⟩ := List.mem_map.mp hy
    obtain ⟨r1, r2⟩ := ok.row hs
    refine ⟨Nat.le_of_ble_eq_true rfl, _, rfl, _, rfl, _, _, rfl, _, rfl, _, rfl, ?_⟩
    rw [r1]
    refine ifB (fun _ => ?_) (fun h => by cases h)
    exact ⟨_, rfl, _, rfl, _, _, rfl, _, rfl, _, r1, _, rfl, _, rfl, _, rfl, rfl, rfl, _, _, _, rfl, ok.p4, r2, rfl, k _ _ rfl rfl⟩
  refine ⟨_, rfl, q.ls.map fun _ => true, by rw [List.map_map, List.map_map]; rfl, rfl, ?_⟩
  have e : (q.ls.map fun _ => true).all id = true := by simp
  rw [e]
  exact p
end
end K04
namespace K04
open PySem L2 Fl Sv
section
variable {P : Program} {w : World} {K : PySem.W.Frag} {mg : Str → Option Value} {base : Heap} {a : Ad}
theorem f_World_init (T : Txt K mg a) : FnOk P w K mg base CX0 6 a.World_init a.fd_World_init ["self", "spaces", "pages", "frames", "tables", "tags", "checks", "early"] (spI K a.World 8 fiWorld) := by
  refine fun_i T.F_World_init sc_World_init rfl (fun cdv A outer s H E hr => ?_) fun vs H Q E h => spI_len h
  refine ⟨_, (dss_cons (ds_if (pt_notD (pt_valD (pd_call (f_are_spaces T) (hr.mono (by decide)) rfl T.g_are_spaces T.k_are_spaces T.b_are_spaces (dab_arg (pd_var 1) dab_nil)))) (dss_one ds_never) dss_nil) (dss_cons (ds_if (PW.pt (pwd_or (pt_notD (pt_valD (pd_call (f_is_integer T) (hr.mono (by decide)) rfl T.g_is_integer T.k_is_integer T.b_is_integer (dab_arg (pd_var 2) dab_nil)))) (pwd_or1 (pt_notD (pt_chainD od_le od_le pd_int (pd_var 2) (g_MOST_PAGES T rfl)))))) (dss_one ds_never) dss_nil) (dss_cons (ds_if (PW.pt (pwd_or (pt_notD (pt_valD (pd_call (f_is_integer T) (hr.mono (by decide)) rfl T.g_is_integer T.k_is_integer T.b_is_integer (dab_arg (pd_var 3) dab_nil)))) (pwd_or1 (pt_notD (pt_chainD od_le od_le pd_int (pd_var 3) (g_MOST_FRAMES T rfl)))))) (dss_one ds_never) dss_nil) (dss_cons (ds_if (pt_notD (pt_valD (pd_call (f_are_tables T) (hr.mono (by decide)) rfl T.g_are_tables T.k_are_tables T.b_are_tables (dab_arg (pd_var 4) (dab_arg (pd_var 1) (dab_arg (pd_var 2) (dab_arg (pd_var 3) dab_nil))))))) (dss_one ds_never) dss_nil) (dss_cons (ds_for PassesOwn.never rfl (di_list (pd_lst (pda_cons (pd_tup (pda_cons pd_str (pda_cons (pd_var 5) pda_nil))) (pda_cons (pd_tup (pda_cons pd_str (pda_cons (pd_var 6) pda_nil))) (pda_cons (pd_tup (pda_cons pd_str (pda_cons (pd_var 7) pda_nil))) pda_nil))))) (pg_tup rfl (pgs_cons (pg_name (i := 8) sc_World_init.nd rfl (by first | exact .inl rfl | exact .inr rfl)) (pgs_cons (pg_name (i := 9) sc_World_init.nd rfl (by first | exact .inl rfl | exact .inr rfl)) pgs_nil))) (tgt_tup (tgts_cons (tgt_name 8) (tgts_cons (tgt_name 9) tgts_nil))) (dss_one (ds_if (pt_notD (pt_valD (pd_isi askT_bool (pd_var 9) rfl T.z_isinstance rfl T.z_bool))) (dss_one ds_never) dss_nil))) (dss_cons (ds_fld (i := 0) T.c_World T.n_World_own_spaces (pv 0) (pd_var 1)) (dss_cons (ds_fld (i := 0) T.c_World T.n_World_own_pages (pv 0) (pd_var 2)) (dss_cons (ds_fld (i := 0) T.c_World T.n_World_own_frames (pv 0) (pd_var 3)) (dss_cons (ds_fld (i := 0) T.c_World T.n_World_own_tables (pv 0) (pd_dc (own := [("space", 10)]) rfl sc_World_init.nd (di_tup (pd_var 1)) (blkOk_by (by rfl)) (fun _ _ _ _ _ => (pg_name (i := 10) sc_World_init.nd rfl (by first | exact .inl rfl | exact .inr rfl))) (tgt_name 10) (by decide) (fun _ _ _ _ _ => dts_nil) (fun _ _ _ _ _ => (pd_var 10)) (fun _ _ _ _ _ => (pd_dg hr (pd_var 4) (pd_var 10))))) (dss_one (ds_fld (i := 0) T.c_World T.n_World_own_rules (pv 0) (pd_tup (pda_cons (pd_var 5) (pda_cons (pd_var 6) (pda_cons (pd_var 7) pda_nil))))))))))))))), ?_⟩
  rintro ss P ha hl ⟨q, rfl, ok, p⟩
  have l1 := ok.p1
  have l2 := ok.p4
  have l3 := ok.f1
  have l4 := ok.f4
  refine ⟨_, rfl, rfl, rfl, _, rfl, ok.l, rfl, _, rfl, ?_⟩
  refine ifB (fun h => by cases h) fun _ => ?_
  (try simp only [List.set_cons_zero, List.set_cons_succ, List.cons_append, List.nil_append, List.replicate_succ, List.replicate_zero, List.length_cons, List.length_nil, Nat.reduceSub, Nat.reduceAdd])
  refine ⟨_, rfl, rfl, rfl, _, rfl, rfl, rfl, _, rfl, ?_⟩
  refine ifB (fun h => by cases h) fun _ => ?_
  refine ⟨_, rfl, _, rfl, _, rfl, ?_⟩
  refine ifB (fun _ => ⟨_, rfl, _, rfl, ?_⟩) fun h => absurd (of_decide_eq_false h) (fun q => q (by omega))
  refine ifB (fun h => ?_) fun _ => ?_
  · have h : ¬ (q.p : Int) ≤ 4 := by simpa using h
    exact h (by omega)
  (try simp only [List.set_cons_zero, List.set_cons_succ, List.cons_append, List.nil_append, List.replicate_succ, List.replicate_zero, List.length_cons, List.length_nil, Nat.reduceSub, Nat.reduceAdd])
  refine ⟨_, rfl, rfl, rfl, _, rfl, rfl, rfl, _, rfl, ?_⟩
  refine ifB (fun h => by cases h) fun _ => ?_
  refine ⟨_, rfl, _, rfl, _, rfl, ?_⟩
  refine ifB (fun _ => ⟨_, rfl, _, rfl, ?_⟩) fun h => absurd (of_decide_eq_false h) (fun q => q (by omega))
  refine ifB (fun h => ?_) fun _ => ?_
  · have h : ¬ q.f ≤ 4 := by simpa using h
    exact h (by omega)
  (try simp only [List.set_cons_zero, List.set_cons_succ, List.cons_append, List.nil_append, List.replicate_succ, List.replicate_zero, List.length_cons, List.length_nil, Nat.reduceSub, Nat.reduceAdd])
  refine ⟨_, rfl, _, rfl, _, rfl, _, rfl, rfl, rfl, q, rfl, ok, rfl, _, rfl, ?_⟩
  refine ifB (fun h => by cases h) fun _ => ?_
  obtain ⟨e1, e2, e3, e4, e5⟩ := flds_put q.lsD (.int q.p) (.int q.f) (.dic (q.ls.map .inr) (q.ls.map q.rowOf)) q.rules
  (try simp only [List.set_cons_zero, List.set_cons_succ, List.cons_append, List.nil_append, List.replicate_succ, List.replicate_zero, List.length_cons, List.length_nil, Nat.reduceSub, Nat.reduceAdd])
  refine ⟨_, rfl, _, rfl, Nat.le_of_ble_eq_true rfl, _, rfl, _, rfl, _, rfl, Nat.le_of_ble_eq_true rfl, _, rfl, _, rfl, _, rfl, Nat.le_of_ble_eq_true rfl, _, rfl, Nat.le_of_ble_eq_true rfl, _, rfl, ?_⟩
  (try simp only [List.set_cons_zero, List.set_cons_succ, List.cons_append, List.nil_append, List.replicate_succ, List.replicate_zero, List.length_cons, List.length_nil, Nat.reduceSub, Nat.reduceAdd])
  refine ⟨_, rfl, rfl, Nat.le_of_ble_eq_true rfl, Nat.le_of_ble_eq_true rfl, _, rfl, rfl, _, rfl, ?_⟩
  rw [isT_bool]
  refine ifB (fun h => by cases h) fun _ => ?_
  (try simp only [List.set_cons_zero, List.set_cons_succ, List.cons_append, List.nil_append, List.replicate_succ, List.replicate_zero, List.length_cons, List.length_nil, Nat.reduceSub, Nat.reduceAdd])
  refine ⟨_, rfl, rfl, Nat.le_of_ble_eq_true rfl, Nat.le_of_ble_eq_true rfl, _, rfl, rfl, _, rfl, ?_⟩
  rw [isT_bool]
  refine ifB (fun h => by cases h) fun _ => ?_
  (try simp only [List.set_cons_zero, List.set_cons_succ, List.cons_append, List.nil_append, List.replicate_succ, List.replicate_zero, List.length_cons, List.length_nil, Nat.reduceSub, Nat.reduceAdd])
  refine ⟨_, rfl, rfl, Nat.le_of_ble_eq_true rfl, Nat.le_of_ble_eq_true rfl, _, rfl, rfl, _, rfl, ?_⟩
  rw [isT_bool]
  refine ifB (fun h => by cases h) fun _ => ?_
  (try simp only [List.set_cons_zero, List.set_cons_succ, List.cons_append, List.nil_append, List.replicate_succ, List.replicate_zero, List.length_cons, List.length_nil, Nat.reduceSub, Nat.reduceAdd])
  refine ⟨_, rfl, _, _, _, rfl, rfl, Nat.le_of_ble_eq_true rfl, ?_⟩
  (try simp only [List.set_cons_zero, List.set_cons_succ, List.cons_append, List.nil_append, List.replicate_succ, List.replicate_zero, List.length_cons, List.length_nil, Nat.reduceSub, Nat.reduceAdd])
  refine ⟨_, rfl, _, _, _, rfl, rfl, (by rw [e1]; exact Nat.le_of_ble_eq_true rfl), ?_⟩
  (try simp only [List.set_cons_zero, List.set_cons_succ, List.cons_append, List.nil_append, List.replicate_succ, List.replicate_zero, List.length_cons, List.length_nil, Nat.reduceSub, Nat.reduceAdd])
  refine ⟨_, rfl, _, _, _, rfl, rfl, (by rw [e1]; show (putN _ _ _ _).1.length < _; rw [e2]; exact Nat.le_of_ble_eq_true rfl), ?_⟩
  (try simp only [List.set_cons_zero, List.set_cons_succ, List.cons_append, List.nil_append, List.replicate_succ, List.replicate_zero, List.length_cons, List.length_nil, Nat.reduceSub, Nat.reduceAdd])
  refine ⟨_, rfl, ?_⟩
  refine loopK_map keyOf (fun y => match y with | .str s => q.rowOf s | _ => .non) (q.ls.map D.str) [] (by have := ok.l.hi; simp; omega) (by rw [List.nil_append, map_keyOf]; exact nodup_inr ok.l.nd) (fun y hy Q k => ?_) ?_
  · obtain ⟨s, hs, rfl⟩ := List.mem_map.mp hy
    obtain ⟨r1, r2⟩ := ok.row hs
    exact ⟨Nat.le_of_ble_eq_true rfl, k _ _ _ rfl rfl fun Q2 k2 => ⟨_, rfl, _, rfl, _, _, rfl, _, rfl, _, r1, k2 _ _ rfl rfl⟩⟩
  rw [List.nil_append, map_keyOf]
  have ev : ((q.ls.map D.str).map fun y => match y with | .str s => q.rowOf s | _ => .non) = q.ls.map q.rowOf := by rw [List.map_map]; rfl
  rw [ev]
  (try simp only [List.set_cons_zero, List.set_cons_succ, List.cons_append, List.nil_append, List.replicate_succ, List.replicate_zero, List.length_cons, List.length_nil, Nat.reduceSub, Nat.reduceAdd])
  refine ⟨_, rfl, _, _, _, rfl, rfl, (by rw [e1]; show (putN (putN _ _ _ _).1 _ _ _).1.length < _; rw [e2]; show (putN _ _ _ _).1.length < _; rw [e3]; exact Nat.le_of_ble_eq_true rfl), ?_⟩
  (try simp only [List.set_cons_zero, List.set_cons_succ, List.cons_append, List.nil_append, List.replicate_succ, List.replicate_zero, List.length_cons, List.length_nil, Nat.reduceSub, Nat.reduceAdd])
  refine ⟨_, rfl, _, rfl, _, rfl, Nat.le_of_ble_eq_true rfl, _, rfl, _, _, _, rfl, rfl, ?_, ?_⟩
  · simp only [e1, e2, e3, e4]; exact Nat.le_of_ble_eq_true rfl
  refine ⟨_, _, rfl, ?_⟩
  simp only [e1, e2, e3, e4]
  have e5' := e5
  unfold Parts.rules at e5'
  simp only [e5']
  exact p
end
end K04
namespace K04
open PySem L2 Fl Sv
section
variable {P : Program} {w : World} {K : PySem.W.Frag} {mg : Str → Option Value} {base : Heap} {a : Ad}
theorem f_World_is_page (T : Txt K mg a) : FnOk P w K mg base CX0 3 a.World_is_page a.fd_World_is_page ["self", "thing"] (spD K 2 (ftPage a.World)) := by
  refine fun_d T.F_World_is_page sc_World_is_page rfl fun cdv A outer s H E hr => ?_
  refine ⟨_, (dss_one (ds_ret (pd_call (f_is_index T) (hr.mono (by decide)) rfl T.g_is_index T.k_is_index T.b_is_index (dab_arg (pd_var 1) (dab_arg (pd_fld T.c_World T.n_World_own_pages (pd_var 0)) dab_nil))))), ?_⟩
  rintro ss P ha hl ⟨q, x, rfl, hi, p⟩
  exact ⟨_, rfl, _, rfl, _, _, insOf_self _ _ _, _, (flds_lk q).2.1, _, rfl, rfl, rfl, _, _, rfl, hi, rfl, rfl, p⟩
theorem f_World_is_entry (T : Txt K mg a) : FnOk P w K mg base CX0 4 a.World_is_entry a.fd_World_is_entry ["self", "thing"] (spD K 2 (ftEntry a.World)) := by
  refine fun_d T.F_World_is_entry sc_World_is_entry rfl fun cdv A outer s H E hr => ?_
  refine ⟨_, (dss_cons (ds_if (PW.pt (pwd_or (pt_notD (pt_valD (pd_isi askT_tuple (pd_var 1) rfl T.z_isinstance rfl T.z_tuple))) (pwd_or (pt_cmpD (od_ne hr) (pd_callB cd_len rfl T.z_len (by decide +kernel) (pda_cons (pd_var 1) pda_nil)) pd_int) (pwd_or1 (pt_notD (pt_valD (pd_call (f_is_word T) (hr.mono (by decide)) rfl T.g_is_word T.k_is_word T.b_is_word (dab_arg (pd_ix (pd_var 1) pd_int) (dab_arg (pd_fld T.c_World T.n_World_own_spaces (pd_var 0)) dab_nil))))))))) (dss_one (ds_ret pd_bl)) dss_nil) (dss_one (ds_ret (pd_and (pd_meth T.c_World T.me_World_is_page (f_World_is_page T) (hr.mono (by decide)) T.b_World_is_page (pd_var 0) (dab_arg (pd_ix (pd_var 1) pd_int) dab_nil)) (pd_one (pd_call (f_is_filled T) (hr.mono (by decide)) rfl T.g_is_filled T.k_is_filled T.b_is_filled (dab_arg (pd_sl (pd_var 1) (do_some pd_int) do_none) (dab_arg (pd_fld T.c_World T.n_World_own_frames (pd_var 0)) dab_nil)))))))), ?_⟩
  rintro ss P ha hl ⟨q, x, rfl, hf, p⟩
  have hi : isIns x = false := by cases x <;> first | rfl | cases hf
  refine ⟨x, rfl, hi, _, rfl, ?_⟩
  rw [isT_tuple]
  (try simp only [List.set_cons_zero, List.set_cons_succ, List.cons_append, List.nil_append, List.replicate_succ, List.replicate_zero, List.length_cons, List.length_nil, Nat.reduceSub, Nat.reduceAdd])
  cases x with
  | tup xs =>
    refine ifB (fun h => by cases h) fun _ => ?_
    refine ⟨_, rfl, _, _, rfl, rfl, _, rfl, _, rfl, rfl, rfl, _, rfl, ?_⟩
    rw [eqD_int]
    (try simp only [List.set_cons_zero, List.set_cons_succ, List.cons_append, List.nil_append, List.replicate_succ, List.replicate_zero, List.length_cons, List.length_nil, Nat.reduceSub, Nat.reduceAdd])
    match xs, hf, p with
    | [x1, x2, x3, x4], hf, p =>
      have p : P (.d (.bl (wordD q.ls x1 && (indexD q.p x2 && filledD q.f (.tup [x3, x4]))))) := p
      have hf : (!isIns x1 && (!isIns x2 && (!isIns x3 && (!isIns x4 && true)))) = true := hf
      simp only [Bool.and_true, Bool.and_eq_true, Bool.not_eq_true'] at hf
      obtain ⟨h1, h2, h3, h4⟩ := hf
      refine ifB (fun h => by cases h) fun _ => ?_
      refine ⟨_, rfl, _, rfl, _, rfl, _, rfl, _, rfl, _, _, insOf_self _ _ _, _, (flds_lk q).1, _, rfl, rfl, rfl, _, _, q.ls, rfl, h1, .inl rfl, rfl, _, rfl, ?_⟩
      cases e : wordD q.ls x1 with
      | false =>
        rw [e] at p
        refine ifB (fun _ => ?_) (fun h => by cases h)
        exact ⟨rfl, p⟩
      | true =>
        rw [e] at p
        refine ifB (fun h => by cases h) fun _ => ?_
        (try simp only [List.set_cons_zero, List.set_cons_succ, List.cons_append, List.nil_append, List.replicate_succ, List.replicate_zero, List.length_cons, List.length_nil, Nat.reduceSub, Nat.reduceAdd])
        refine ⟨_, rfl, ⟨_, _, insOf_self _ _ _, flds_no q (by decide +kernel)⟩, _, rfl, _, rfl, _, rfl, _, rfl, rfl, rfl, q, x2, rfl, h2, rfl, _, rfl, ?_⟩
        cases e2 : indexD q.p x2 with
        | false =>
          rw [e2] at p
          refine ifB (fun h => by cases h) fun _ => ?_
          exact ⟨rfl, p⟩
        | true =>
          rw [e2] at p
          refine ifB (fun _ => ?_) (fun h => by cases h)
          (try simp only [List.set_cons_zero, List.set_cons_succ, List.cons_append, List.nil_append, List.replicate_succ, List.replicate_zero, List.length_cons, List.length_nil, Nat.reduceSub, Nat.reduceAdd])
          exact ⟨_, rfl, _, rfl, _, rfl, _, rfl, _, rfl, _, _, insOf_self _ _ _, _, (flds_lk q).2.2.1, _, rfl, rfl, rfl, _, _, rfl, (by show (!isIns x3 && (!isIns x4 && true)) = true; rw [h3, h4]; rfl), rfl, rfl, p⟩
    | [], _, p =>
      refine ifB (fun _ => ?_) (fun h => by cases h)
      exact ⟨rfl, p⟩
    | [_], _, p =>
      refine ifB (fun _ => ?_) (fun h => by cases h)
      exact ⟨rfl, p⟩
    | [_, _], _, p =>
      refine ifB (fun _ => ?_) (fun h => by cases h)
      exact ⟨rfl, p⟩
    | [_, _, _], _, p =>
      refine ifB (fun _ => ?_) (fun h => by cases h)
      exact ⟨rfl, p⟩
    | x1 :: x2 :: x3 :: x4 :: x5 :: xs, _, p =>
      refine ifB (fun _ => ?_) (fun h => ?_)
      · exact ⟨rfl, p⟩
      · have h : (((x1 :: x2 :: x3 :: x4 :: x5 :: xs).length : Nat) : Int) = 4 := by simpa using h
        simp only [List.length_cons] at h
        omega
  | _ =>
    refine ifB (fun _ => ?_) (fun h => by cases h)
    exact ⟨rfl, p⟩
end
end K04
namespace K04
open PySem L2 Fl Sv
section
variable {P : Program} {w : World} {K : PySem.W.Frag} {mg : Str → Option Value} {base : Heap} {a : Ad}
theorem f__law_draw (T : Txt K mg a) : FnOk P w K mg base CX0 1 a._law_draw a.fd__law_draw ["_law_draws", "_law_many"] (spD K 2 ftDraw) := by
  refine T.F__law_draw.ok sc__law_draw (fun vs H Q E h => spD_len h) (fun cdv A outer s H vs Q E hr h => ?_)
  obtain ⟨a1, c, m, i, j, ns, rfl, m0, m1, nac, h1, h2, hn, h63, k⟩ := draw_of h
  refine ⟨_, (pss_cons (ps_set sc__law_draw.nd (i := 2) rfl (by first | exact .inl rfl | exact .inr rfl) (pe_ix ix_list (pv 0) pe_int (fun _ _ => rfl)))
    (pss_cons (ps_set sc__law_draw.nd (i := 3) rfl (by first | exact .inl rfl | exact .inr rfl) (pe_op op_mod (pe_callTy call_int1 rfl T.z_int (by decide +kernel) (pa_cons (pe_ix ix_list (pv 0) pe_int (fun _ _ => rfl)) pa_nil)) (pe_callB call_len_seq rfl T.z_len (by decide +kernel) (pa_cons (pv 2) pa_nil))))
    (pss_cons (ps_set sc__law_draw.nd (i := 4) rfl (by first | exact .inl rfl | exact .inr rfl) (pe_ix ix_list (pv 2) (pv 3) (fun _ _ => rfl)))
    (pss_cons (ps_if (pt_cmpR op_ge (pv 4) (pe_op op_pow pe_int pe_int) rfl) (pss_cons (ps_asg (pe_op op_fdivN (pv 4) (pv 1)) (pg_sub (pv 2) (pv 3) set_list)) (pss_one (ps_ret (pe_op op_mod (pe_callTy call_int1 rfl T.z_int (by decide +kernel) (pa_cons (pv 4) pa_nil)) (pv 1))))) pss_nil)
    (pss_cons (ps_asg (pe_op op_add (pe_ix ix_list (pv 0) pe_int (fun _ _ => rfl)) pe_int) (pg_sub (pv 0) pe_int set_list))
    (pss_cons (ps_asg (pe_op op_mod (pe_callTy call_int1 rfl T.z_int (by decide +kernel) (pa_cons (pe_op op_add (pe_op op_add (pe_op op_add (pe_op op_mul (pe_ix ix_list (pv 0) pe_int (fun _ _ => rfl)) pe_int) (pv 4)) (pe_op op_mul pe_int (pe_ix ix_list (pv 0) pe_int (fun _ _ => rfl)))) pe_int) pa_nil)) pe_int) (pg_sub (pv 0) pe_int set_list))
    (pss_cons (ps_set sc__law_draw.nd (i := 5) rfl (by first | exact .inl rfl | exact .inr rfl) (pe_op op_mod (pe_callTy call_int1 rfl T.z_int (by decide +kernel) (pa_cons (pe_op op_mul (pe_ix ix_list (pv 0) pe_int (fun _ _ => rfl)) (pe_ix ix_list (pv 0) pe_int (fun _ _ => rfl))) pa_nil)) pe_int))
    (pss_one (ps_ret (pe_op op_mod (pe_callTy call_int1 rfl T.z_int (by decide +kernel) (pa_cons (pe_op op_fdivN (pv 5) pe_int) pa_nil)) (pv 1))))))))))), ?_⟩
  obtain ⟨z, hz, jn, hj⟩ := spot_of hn i
  have fin : ∀ (y : Int) (H' : Hp) (i' j' : Int) (ms : List Int), H' a1 = some (.lst [.ref c, .int i', .int j']) → H' c = some (.lst (ms.map V.int)) → ms ≠ [] → ms.length ≤ 63 → (∀ b, b ≠ a1 → b ≠ c → H' b = H b) → Q (.int (y % m)) H' := fun y H' i' j' ms e1 e2 e3 e4 e5 =>
    k _ _ (Int.emod_nonneg _ (by omega)) (Int.emod_lt_of_pos _ m0) e5 ⟨i', j', ms, e1, e2, e3, e4⟩
  refine ⟨_, rfl, a1, _, 0, .ref c, rfl, rfl, .of h1, rfl, ?_⟩
  refine ⟨_, rfl, a1, _, 1, .int i, rfl, rfl, .of h1, rfl, .inl ⟨i, rfl, ?_⟩⟩
  refine ⟨_, rfl, c, ns.map V.int, rfl, .inl (.of h2), i, _, rfl, rfl, ?_, ?_⟩
  · show (0 : Int) < ((ns.map V.int).length : Nat)
    rw [List.length_map]; have := List.length_pos_iff.mpr hn; omega
  refine ⟨_, rfl, _, rfl, c, _, _, .int z, rfl, rfl, .of h2, hz, ?_⟩
  refine ⟨_, rfl, 10, 18, rfl, rfl, ⟨by decide, by decide, by decide⟩, z, _, rfl, rfl, _, rfl, ?_⟩
  refine ifB (fun hb => ?_) (fun hb => ?_)
  · refine ⟨_, rfl, _, rfl, z, m, rfl, rfl, ⟨by omega, by omega⟩, _, rfl, _, rfl, c, _, _, jn, rfl, rfl, h2, hj, ?_⟩
    refine ⟨_, rfl, .inl ⟨z, rfl, _, rfl, z, m, rfl, rfl, m0, ?_⟩⟩
    refine fin z _ i j (ns.set jn (z.fdiv m)) (by rw [upd_ne nac]; exact h1) (by rw [upd_same, List.map_set]) (fun q => hn ?_) (by rw [List.length_set]; exact h63) fun b n1 n2 => upd_ne n2
    have := congrArg List.length q
    rw [List.length_set] at this
    exact List.length_eq_zero_iff.mp this
  · refine ⟨_, rfl, a1, _, 1, .int i, rfl, rfl, .of h1, rfl, i, 1, rfl, rfl, _, rfl, a1, _, 1, 1, rfl, rfl, h1, rfl, ?_⟩
    generalize hH1 : upd H a1 _ = H1
    have g1 : H1 a1 = some (.lst [.ref c, .int (i + 1), .int j]) := by rw [← hH1, upd_same]; rfl
    have g2 : ∀ b, b ≠ a1 → H1 b = H b := fun b n => by rw [← hH1, upd_ne n]
    refine ⟨_, rfl, a1, _, 2, .int j, rfl, rfl, .of g1, rfl, j, 48271, rfl, rfl, .inr ⟨by decide, by decide⟩, _, rfl, _, z, rfl, rfl, _, rfl, a1, _, 1, .int (i + 1), rfl, rfl, .of g1, rfl, 7919, _, rfl, rfl, .inl ⟨by decide, by decide⟩, _, _, rfl, rfl, _, _, rfl, rfl, .inl ⟨_, rfl, _, 2147483647, rfl, rfl, (by show (0 : Int) < 2147483647; decide), _, rfl, a1, _, 2, 2, rfl, rfl, g1, rfl, ?_⟩⟩
    generalize hJ : (j * 48271 + z + 7919 * (i + 1) + 12345) % 2147483647 = J
    have j0 : 0 ≤ J := by rw [← hJ]; exact Int.emod_nonneg _ (by decide)
    have j1 : J < 2147483647 := by rw [← hJ]; exact Int.emod_lt_of_pos _ (by decide)
    generalize hH2 : upd H1 a1 _ = H2
    have k1 : H2 a1 = some (.lst [.ref c, .int (i + 1), .int J]) := by rw [← hH2, upd_same, ← hJ]; rfl
    have k2 : ∀ b, b ≠ a1 → H2 b = H b := fun b n => by rw [← hH2, upd_ne n, g2 b n]
    refine ⟨_, rfl, a1, _, 2, .int J, rfl, rfl, .of k1, rfl, _, rfl, a1, _, 2, .int J, rfl, rfl, .of k1, rfl, J, J, rfl, rfl, .inl ⟨by omega, by omega⟩, .inl ⟨_, rfl, _, 2147483629, rfl, rfl, (by show (0 : Int) < 2147483629; decide), ?_⟩⟩
    refine ⟨_, rfl, _, 16, rfl, rfl, ⟨by decide, by decide⟩, .inl ⟨_, rfl, _, rfl, _, m, rfl, rfl, m0, ?_⟩⟩
    exact fin _ _ (i + 1) J ns k1 (by rw [k2 c nac.symm]; exact h2) hn h63 fun b n1 _ => k2 b n1
end
end K04
namespace K04
open PySem L2 Fl Sv
section
variable {P : Program} {w : World} {K : PySem.W.Frag} {mg : Str → Option Value} {base : Heap} {a : Ad}
theorem f__law_pick (T : Txt K mg a) : FnOk P w K mg base CX0 2 a._law_pick a.fd__law_pick ["_law_draws", "_law_some"] (spD K 2 ftPick) := by
  refine fun_d T.F__law_pick sc__law_pick rfl fun cdv A outer s H E hr => ?_
  refine ⟨_, (dss_one (ds_ret (pd_ix (pd_var 1) (pd_call (f__law_draw T) (hr.mono (by decide)) rfl T.g__law_draw T.k__law_draw T.b__law_draw (dab_arg (pd_var 0) (dab_arg (pd_callB cd_len rfl T.z_len (by decide +kernel) (pda_cons (pd_var 1) pda_nil)) dab_nil)))))), ?_⟩
  rintro ss P ha hl ⟨y, xs, rfl, hy, hn, hl2, p⟩
  have h0 := List.length_pos_iff.mpr hn
  refine ⟨_, rfl, _, rfl, _, rfl, _, _, rfl, pick_len hy, _, rfl, rfl, rfl, _, rfl, by omega, by omega, fun r r0 r1 => ?_⟩
  obtain ⟨x, h1, h2⟩ := pick_at hy r0 r1
  exact ⟨rfl, _, rfl, x, h1, rfl, p x h2⟩
theorem f__law_shuffled (T : Txt K mg a) : FnOk P w K mg base CX0 2 a._law_shuffled a.fd__law_shuffled ["_law_draws", "_law_some"] (spD K 2 ftShuffled) := by
  refine fun_d T.F__law_shuffled sc__law_shuffled rfl fun cdv A outer s H E hr => ?_
  refine ⟨_, (dss_cons (ds_par (i := 2) (j := 3) rfl sc__law_shuffled.nd rfl rfl (by decide) rfl rfl (dab_cons (pd_callTy cd_list rfl T.z_list (by decide +kernel) (pda_cons (pd_var 1) pda_nil)) (dab_cons (pd_lst pda_nil) dab_nil))) (dss_cons (ds_while PassesOwn.never (pt_ownNe hr (pv 2)) (dss_one (ds_expr (pd_append (pv 3) (pd_pop (pv 2) (pd_call (f__law_draw T) (hr.mono (by decide)) rfl T.g__law_draw T.k__law_draw T.b__law_draw (dab_arg (pd_var 0) (dab_arg (pd_ownLen (pv 2) rfl T.z_len) dab_nil)))))))) (dss_one (ds_ret (pd_var 3))))), ?_⟩
  rintro ss P ha hl ⟨y, xs, rfl, hy, hl2, hok, p⟩
  refine ⟨_, rfl, y, xs, rfl, hy, rfl, Nat.le_of_ble_eq_true rfl, rfl, _, _, rfl, ⟨Nat.le_of_ble_eq_true rfl, Nat.le_of_ble_eq_true rfl⟩, ?_⟩
  (try simp only [List.set_cons_zero, List.set_cons_succ, List.cons_append, List.nil_append, List.replicate_succ, List.replicate_zero, List.length_cons, List.length_nil, Nat.reduceSub, Nat.reduceAdd])
  refine ⟨fun m ρ => ∃ l f, ρ = [.src, .d y, .ol l, .ol f] ∧ l.length = m ∧ (l ++ f).Perm xs, ⟨xs.length, xs, [], rfl, rfl, by simp⟩, fun m ρ h => ?_⟩
  obtain ⟨l, f, rfl, hm, hp⟩ := h
  have hlen := hp.length_eq
  rw [List.length_append] at hlen
  have hall : l.all (ok 50) = true := List.all_eq_true.mpr fun x hx => List.all_eq_true.mp hok x (hp.mem_iff.mp (List.mem_append_left _ hx))
  refine ⟨l, rfl, hall, ifB (fun h => ?_) fun h => ?_⟩
  · have h0 : l.length ≠ 0 := fun q => by rw [List.length_eq_zero_iff.mp q] at h; cases h
    refine ⟨⟨f, rfl⟩, ⟨l, rfl⟩, _, rfl, l, rfl, _, rfl, rfl, rfl, _, rfl, by omega, by omega, fun r r0 r1 => ⟨rfl, _, rfl, r, rfl, r0, l, rfl, by omega, ?_⟩⟩
    have hj : r.toNat < l.length := by omega
    refine ⟨l[r.toNat], List.getElem?_eq_getElem hj, _, rfl, f, rfl, by omega, m - 1, by omega, l.eraseIdx r.toNat, f ++ [l[r.toNat]], rfl, ?_, (perm_pop (List.getElem?_eq_getElem hj)).trans hp⟩
    rw [List.length_eraseIdx, if_pos hj]; omega
  · have e : l = [] := by
      cases l with
      | nil => rfl
      | cons x l => cases h
    subst e
    exact ⟨rfl, p f (by simpa using hp)⟩
theorem f__law_cell (T : Txt K mg a) : FnOk P w K mg base CX0 3 a._law_cell a.fd__law_cell ["_law_draws", "_law_count"] (spD K 2 ftCell) := by
  refine fun_d T.F__law_cell sc__law_cell rfl fun cdv A outer s H E hr => ?_
  refine ⟨_, (dss_cons (ds_if (pt_cmpD (od_eq hr) (pd_call (f__law_draw T) (hr.mono (by decide)) rfl T.g__law_draw T.k__law_draw T.b__law_draw (dab_arg (pd_var 0) (dab_arg pd_int dab_nil))) pd_int) (dss_one (ds_ret pd_non)) dss_nil) (dss_one (ds_ret (pd_tup (pda_cons (pd_call (f__law_draw T) (hr.mono (by decide)) rfl T.g__law_draw T.k__law_draw T.b__law_draw (dab_arg (pd_var 0) (dab_arg (pd_var 1) dab_nil))) (pda_cons (pd_call (f__law_pick T) (hr.mono (by decide)) rfl T.g__law_pick T.k__law_pick T.b__law_pick (dab_arg (pd_var 0) (dab_arg (pd_lst (pda_cons pd_str (pda_cons pd_str pda_nil))) dab_nil))) pda_nil)))))), ?_⟩
  rintro ss P ha hl ⟨n, rfl, h0, h1, p⟩
  refine ⟨_, rfl, _, rfl, rfl, rfl, _, rfl, by decide, by decide, fun r r0 r1 => ⟨rfl, _, rfl, _, rfl, rfl, rfl, _, rfl, ?_⟩⟩
  refine ifB (fun _ => ⟨rfl, p _ (.inl rfl)⟩) fun _ => ?_
  refine ⟨_, rfl, _, rfl, rfl, rfl, _, rfl, h0, by omega, fun r r0 r1 => ⟨rfl, _, rfl, _, rfl, _, rfl, _, rfl, Nat.le_of_ble_eq_true rfl, _, rfl, rfl, rfl, _, _, rfl, .inl rfl, by simp, by simp, fun x hx => ⟨rfl, ?_⟩⟩⟩
  have hx : x = .str "r" ∨ x = .str "w" := by simpa using hx
  rcases hx with rfl | rfl
  · exact ⟨_, rfl, Nat.le_of_ble_eq_true rfl, rfl, p _ (.inr ⟨r, "r", rfl, r0, r1, .inl rfl⟩)⟩
  · exact ⟨_, rfl, Nat.le_of_ble_eq_true rfl, rfl, p _ (.inr ⟨r, "w", rfl, r0, r1, .inr rfl⟩)⟩
theorem f__law_is_word (T : Txt K mg a) : FnOk P w K mg base CX0 1 a._law_is_word a.fd__law_is_word ["_law_value", "_law_words"] (spD K 2 ftWord) := by
  refine fun_d T.F__law_is_word sc__law_is_word rfl fun cdv A outer s H E hr => ?_
  refine ⟨_, (dss_one (ds_ret (pd_and (pd_isi askT_str (pd_var 0) rfl T.z_isinstance rfl T.z_str) (pd_one (pd_cmp od_in (pd_var 0) (pd_var 1)))))), ?_⟩
  rintro ss P ha hl ⟨x, y, ws, rfl, hi, hw, p⟩
  refine ⟨x, rfl, hi, _, rfl, ?_⟩
  rw [isT_str]
  cases x with
  | str s =>
    refine ifB (fun _ => ?_) (fun h => by cases h)
    rcases hw with rfl | rfl
    · exact ⟨_, rfl, _, rfl, _, (in_strs s ws).2, rfl, p⟩
    · exact ⟨_, rfl, _, rfl, _, (in_strs s ws).1, rfl, p⟩
  | _ =>
    refine ifB (fun h => by cases h) fun _ => ?_
    exact ⟨rfl, p⟩
theorem f__law_is_number (T : Txt K mg a) : FnOk P w K mg base CX0 1 a._law_is_number a.fd__law_is_number ["_law_value", "_law_low", "_law_high"] (spD K 3 ftNumber) := by
  refine fun_d T.F__law_is_number sc__law_is_number rfl fun cdv A outer s H E hr => ?_
  refine ⟨_, (dss_one (ds_ret (pd_and (pd_isi askT_int (pd_var 0) rfl T.z_isinstance rfl T.z_int) (pd_and (pd_not (pd_isi askT_bool (pd_var 0) rfl T.z_isinstance rfl T.z_bool)) (pd_one (pd_chain od_le od_le (pd_var 1) (pd_var 0) (pd_var 2))))))), ?_⟩
  rintro ss P ha hl ⟨x, lo, hi_, rfl, hi, p⟩
  refine ⟨x, rfl, hi, _, rfl, ?_⟩
  rw [isT_int]
  refine ifB (fun h => ⟨x, rfl, hi, _, rfl, _, rfl, ?_⟩) fun h => ⟨rfl, ?_⟩
  · rw [isT_bool]
    cases x with
    | int i =>
      have p : P (.d (.bl (decide (lo ≤ i) && decide (i ≤ hi_)))) := p
      refine ifB (fun _ => ?_) (fun h => by cases h)
      refine ⟨_, rfl, _, rfl, _, rfl, ?_⟩
      refine ifB (fun h => ⟨_, rfl, rfl, ?_⟩) fun h => ⟨rfl, ?_⟩
      · have h : decide (lo ≤ i) = true := h
        rw [h] at p; exact p
      · have h : decide (lo ≤ i) = false := h
        rw [h] at p; exact p
    | bl b =>
      refine ifB (fun h => by cases h) fun _ => ?_
      exact ⟨rfl, p⟩
    | _ => cases h
  · cases x <;> first | exact p | cases h
end
end K04
namespace K04
open PySem L2 Fl Sv
section
variable {P : Program} {w : World} {K : PySem.W.Frag} {mg : Str → Option Value} {base : Heap} {a : Ad}
theorem f__law_is_name (T : Txt K mg a) : FnOk P w K mg base CX0 1 a._law_is_name a.fd__law_is_name ["_law_value"] (spD K 1 ftName) := by
  refine fun_d T.F__law_is_name sc__law_is_name rfl fun cdv A outer s H E hr => ?_
  refine ⟨_, (dss_cons (ds_if (PW.pt (pwd_or (pt_notD (pt_valD (pd_isi askT_str (pd_var 0) rfl T.z_isinstance rfl T.z_str))) (pwd_or1 (pt_notD (pt_chainD od_le od_le pd_int (pd_callB cd_len rfl T.z_len (by decide +kernel) (pda_cons (pd_var 0) pda_nil)) pd_int))))) (dss_one (ds_ret pd_bl)) dss_nil) (dss_one (ds_ret (pd_cmp (od_eq hr) (pd_lc (own := [("_law_sign", 1)]) rfl sc__law_is_name.nd (di_str (pd_var 0)) (blkOk_by (by rfl)) (fun _ _ _ _ _ => (pg_name (i := 1) sc__law_is_name.nd rfl (by first | exact .inl rfl | exact .inr rfl))) (tgt_name 1) (by decide) (fun _ _ _ _ _ => (dts_one (pt_cmpD od_notIn (pd_var 1) pd_str))) (fun _ _ _ _ _ => (pd_var 1))) (pd_lst pda_nil))))), ?_⟩
  rintro ss P ha hl ⟨x, rfl, hi, p⟩
  refine ⟨x, rfl, hi, _, rfl, ?_⟩
  rw [isT_str]
  cases x with
  | str s =>
    have p : P (.d (.bl (nameS s))) := p
    have no : ¬ (1 ≤ s.length ∧ s.length ≤ 8) → nameS s = false := fun h => by
      unfold nameS
      by_cases h1 : 1 ≤ s.length
      · rw [decide_eq_false (fun q => h ⟨h1, q⟩)]; simp
      · rw [decide_eq_false h1]; rfl
    refine ifB (fun h => by cases h) fun _ => ?_
    refine ⟨_, rfl, _, rfl, _, _, rfl, rfl, _, rfl, _, rfl, ?_⟩
    refine ifB (fun h1 => ?_) fun h1 => ?_
    · have h1 : (1 : Int) ≤ (s.length : Nat) := of_decide_eq_true h1
      refine ⟨_, rfl, _, rfl, ?_⟩
      refine ifB (fun h2 => ?_) fun h2 => ?_
      · have h2 : ¬ ((s.length : Nat) : Int) ≤ 8 := by simpa using h2
        refine ⟨rfl, ?_⟩
        rw [no (by omega)] at p
        exact p
      · have h2 : ((s.length : Nat) : Int) ≤ 8 := by simpa using h2
        (try simp only [List.set_cons_zero, List.set_cons_succ, List.cons_append, List.nil_append, List.replicate_succ, List.replicate_zero, List.length_cons, List.length_nil, Nat.reduceSub, Nat.reduceAdd])
        refine ⟨s, rfl, loopC_filter (fun y => !(inSeq y (.str "abcdefghijklmnopqrstuvwxyz")).getD false) (by rw [len_signs]; omega) (fun y hy Qs Q0 k1 k0 => ?_) ?_⟩
        · obtain ⟨c, hc, rfl⟩ := List.mem_map.mp hy
          exact ⟨Nat.le_of_ble_eq_true rfl, _, rfl, _, rfl, _, rfl, _, rfl, ifB (fun h => k1 h _ _ rfl rfl) (fun h => k0 h _ rfl)⟩
        · have e : ∀ cs : List Nat, ((cs.map fun c => D.str ⟨#[c]⟩).filter fun y => !(inSeq y (.str "abcdefghijklmnopqrstuvwxyz")).getD false).isEmpty = cs.all fun c => decide (c ∈ lets) := by
            intro cs
            induction cs with
            | nil => rfl
            | cons c cs ih =>
              have e1 : inSeq (.str ⟨#[c]⟩) (.str "abcdefghijklmnopqrstuvwxyz") = some (decide (c ∈ lets)) := rfl
              rw [List.map_cons, List.filter_cons, e1, List.all_cons, Option.getD_some]
              cases h : decide (c ∈ lets) with
              | true => simpa using ih
              | false => rfl
          have okL : ok 60 (.lst ((signs s).filter fun y => !(inSeq y (.str "abcdefghijklmnopqrstuvwxyz")).getD false)) = true := by
            refine List.all_eq_true.mpr fun y hy => ?_
            obtain ⟨c, _, rfl⟩ := List.mem_map.mp (List.mem_filter.mp hy).1
            exact ok_flat rfl
          refine ⟨_, rfl, Nat.le_of_ble_eq_true rfl, _, rfl, okL, rfl, rfl, ?_⟩
          rw [eqD_nil]
          have e2 : nameS s = ((signs s).filter fun y => !(inSeq y (.str "abcdefghijklmnopqrstuvwxyz")).getD false).isEmpty := by
            unfold signs
            rw [e]
            unfold nameS
            rw [decide_eq_true (by omega), decide_eq_true (by omega)]; rfl
          rw [← e2]; exact p
    · have h1 : ¬ (1 : Int) ≤ (s.length : Nat) := of_decide_eq_false h1
      refine ⟨_, rfl, ?_⟩
      refine ifB (fun _ => ?_) (fun h => by cases h)
      refine ⟨rfl, ?_⟩
      rw [no (by omega)] at p
      exact p
  | _ =>
    refine ifB (fun _ => ?_) (fun h => by cases h)
    refine ifB (fun _ => ?_) (fun h => by cases h)
    exact ⟨rfl, p⟩
theorem f__law_is_entry (T : Txt K mg a) : FnOk P w K mg base CX0 2 a._law_is_entry a.fd__law_is_entry ["_law_parts_here", "_law_value"] (spD K 2 ftLawEntry) := by
  refine fun_d T.F__law_is_entry sc__law_is_entry rfl fun cdv A outer s H E hr => ?_
  refine ⟨_, (dss_cons (ds_asg (pd_var 0) (pg_tup rfl (pgs_cons (pg_name (i := 2) sc__law_is_entry.nd rfl (by first | exact .inl rfl | exact .inr rfl)) (pgs_cons (pg_name (i := 3) sc__law_is_entry.nd rfl (by first | exact .inl rfl | exact .inr rfl)) (pgs_cons (pg_name (i := 4) sc__law_is_entry.nd rfl (by first | exact .inl rfl | exact .inr rfl)) (pgs_cons (pg_name (i := 5) sc__law_is_entry.nd rfl (by first | exact .inl rfl | exact .inr rfl)) (pgs_cons (pg_name (i := 6) sc__law_is_entry.nd rfl (by first | exact .inl rfl | exact .inr rfl)) pgs_nil)))))) (tgt_tup (tgts_cons (tgt_name 2) (tgts_cons (tgt_name 3) (tgts_cons (tgt_name 4) (tgts_cons (tgt_name 5) (tgts_cons (tgt_name 6) tgts_nil))))))) (dss_cons (ds_if (PW.pt (pwd_or (pt_notD (pt_valD (pd_isi askT_tuple (pd_var 1) rfl T.z_isinstance rfl T.z_tuple))) (pwd_or (pt_cmpD (od_ne hr) (pd_callB cd_len rfl T.z_len (by decide +kernel) (pda_cons (pd_var 1) pda_nil)) pd_int) (pwd_or1 (pt_notD (pt_valD (pd_call (f__law_is_word T) (hr.mono (by decide)) rfl T.g__law_is_word T.k__law_is_word T.b__law_is_word (dab_arg (pd_ix (pd_var 1) pd_int) (dab_arg (pd_var 2) dab_nil))))))))) (dss_one (ds_ret pd_bl)) dss_nil) (dss_cons (ds_if (PW.pt (pwd_or (pt_notD (pt_valD (pd_call (f__law_is_number T) (hr.mono (by decide)) rfl T.g__law_is_number T.k__law_is_number T.b__law_is_number (dab_arg (pd_ix (pd_var 1) pd_int) (dab_arg pd_int (dab_arg (pd_op od_sub (pd_var 3) pd_int) dab_nil)))))) (pwd_or1 (pt_notD (pt_valD (pd_call (f__law_is_number T) (hr.mono (by decide)) rfl T.g__law_is_number T.k__law_is_number T.b__law_is_number (dab_arg (pd_ix (pd_var 1) pd_int) (dab_arg pd_int (dab_arg (pd_op od_sub (pd_var 4) pd_int) dab_nil))))))))) (dss_one (ds_ret pd_bl)) dss_nil) (dss_one (ds_ret (pd_call (f__law_is_word T) (hr.mono (by decide)) rfl T.g__law_is_word T.k__law_is_word T.b__law_is_word (dab_arg (pd_ix (pd_var 1) pd_int) (dab_arg (pd_lst (pda_cons pd_str (pda_cons pd_str pda_nil))) dab_nil)))))))), ?_⟩
  rintro ss P ha hl ⟨q, x, rfl, hf, p⟩
  have hi : isIns x = false := by cases x <;> first | rfl | cases hf
  refine ⟨_, rfl, rfl, Nat.le_of_ble_eq_true rfl, Nat.le_of_ble_eq_true rfl, Nat.le_of_ble_eq_true rfl, Nat.le_of_ble_eq_true rfl, Nat.le_of_ble_eq_true rfl, ?_⟩
  (try simp only [List.set_cons_zero, List.set_cons_succ, List.cons_append, List.nil_append, List.replicate_succ, List.replicate_zero, List.length_cons, List.length_nil, Nat.reduceSub, Nat.reduceAdd])
  refine ⟨x, rfl, hi, _, rfl, ?_⟩
  rw [isT_tuple]
  (try simp only [List.set_cons_zero, List.set_cons_succ, List.cons_append, List.nil_append, List.replicate_succ, List.replicate_zero, List.length_cons, List.length_nil, Nat.reduceSub, Nat.reduceAdd])
  cases x with
  | tup xs =>
    refine ifB (fun h => by cases h) fun _ => ?_
    refine ⟨_, rfl, _, _, rfl, rfl, _, rfl, _, rfl, rfl, rfl, _, rfl, ?_⟩
    rw [eqD_int]
    (try simp only [List.set_cons_zero, List.set_cons_succ, List.cons_append, List.nil_append, List.replicate_succ, List.replicate_zero, List.length_cons, List.length_nil, Nat.reduceSub, Nat.reduceAdd])
    match xs, hf, p with
    | [x1, x2, x3, x4], hf, p =>
      have p : P (.d (.bl (wordD q.ls x1 && (indexD q.p x2 && (indexD q.f x3 && wordD ["r", "w"] x4))))) := p
      have hf : (!isIns x1 && (!isIns x2 && (!isIns x3 && (!isIns x4 && true)))) = true := hf
      simp only [Bool.and_true, Bool.and_eq_true, Bool.not_eq_true'] at hf
      obtain ⟨h1, h2, h3, h4⟩ := hf
      refine ifB (fun h => by cases h) fun _ => ?_
      refine ⟨_, rfl, _, rfl, _, rfl, _, rfl, _, rfl, rfl, rfl, _, _, q.ls, rfl, h1, .inl rfl, rfl, _, rfl, ?_⟩
      cases e : wordD q.ls x1 with
      | false =>
        rw [e] at p
        refine ifB (fun _ => ?_) (fun h => by cases h)
        exact ⟨rfl, p⟩
      | true =>
        rw [e] at p
        refine ifB (fun h => by cases h) fun _ => ?_
        (try simp only [List.set_cons_zero, List.set_cons_succ, List.cons_append, List.nil_append, List.replicate_succ, List.replicate_zero, List.length_cons, List.length_nil, Nat.reduceSub, Nat.reduceAdd])
        refine ⟨_, rfl, _, rfl, _, rfl, _, rfl, _, rfl, _, rfl, _, rfl, _, rfl, rfl, rfl, _, _, _, rfl, h2, rfl, _, rfl, ?_⟩
        rw [num_index]
        cases e2 : indexD q.p x2 with
        | false =>
          rw [e2] at p
          refine ifB (fun _ => ?_) (fun h => by cases h)
          refine ifB (fun _ => ?_) (fun h => by cases h)
          exact ⟨rfl, p⟩
        | true =>
          rw [e2] at p
          refine ifB (fun h => by cases h) fun _ => ?_
          (try simp only [List.set_cons_zero, List.set_cons_succ, List.cons_append, List.nil_append, List.replicate_succ, List.replicate_zero, List.length_cons, List.length_nil, Nat.reduceSub, Nat.reduceAdd])
          refine ⟨_, rfl, _, rfl, _, rfl, _, rfl, _, rfl, _, rfl, _, rfl, _, rfl, rfl, rfl, _, _, _, rfl, h3, rfl, _, rfl, ?_⟩
          rw [num_index]
          cases e3 : indexD q.f x3 with
          | false =>
            rw [e3] at p
            refine ifB (fun _ => ?_) (fun h => by cases h)
            exact ⟨rfl, p⟩
          | true =>
            rw [e3] at p
            refine ifB (fun h => by cases h) fun _ => ?_
            (try simp only [List.set_cons_zero, List.set_cons_succ, List.cons_append, List.nil_append, List.replicate_succ, List.replicate_zero, List.length_cons, List.length_nil, Nat.reduceSub, Nat.reduceAdd])
            exact ⟨_, rfl, _, rfl, _, rfl, _, rfl, _, rfl, _, rfl, Nat.le_of_ble_eq_true rfl, _, rfl, rfl, rfl, _, _, ["r", "w"], rfl, h4, .inr rfl, rfl, rfl, p⟩
    | [], _, p =>
      refine ifB (fun _ => ?_) (fun h => by cases h)
      exact ⟨rfl, p⟩
    | [_], _, p =>
      refine ifB (fun _ => ?_) (fun h => by cases h)
      exact ⟨rfl, p⟩
    | [_, _], _, p =>
      refine ifB (fun _ => ?_) (fun h => by cases h)
      exact ⟨rfl, p⟩
    | [_, _, _], _, p =>
      refine ifB (fun _ => ?_) (fun h => by cases h)
      exact ⟨rfl, p⟩
    | x1 :: x2 :: x3 :: x4 :: x5 :: xs, _, p =>
      refine ifB (fun _ => ?_) (fun h => ?_)
      · exact ⟨rfl, p⟩
      · have h : (((x1 :: x2 :: x3 :: x4 :: x5 :: xs).length : Nat) : Int) = 4 := by simpa using h
        simp only [List.length_cons] at h
        omega
  | _ =>
    refine ifB (fun _ => ?_) (fun h => by cases h)
    exact ⟨rfl, p⟩
theorem f__law_string (T : Txt K mg a) : FnOk P w K mg base CX0 3 a._law_string a.fd__law_string ["_law_draws"] (spD K 1 ftString) := by
  refine fun_d T.F__law_string sc__law_string rfl fun cdv A outer s H E hr => ?_
  refine ⟨_, (dss_cons (ds_set sc__law_string.nd (i := 1) rfl (by first | exact .inl rfl | exact .inr rfl) (pd_op od_add (pd_op od_times pd_str pd_int) pd_str)) (dss_one (ds_ret (pd_join pd_str (pd_lc (own := [("_law_k", 2)]) rfl sc__law_string.nd (di_range rfl T.z_range (pda_cons (pd_call (f__law_draw T) (hr.mono (by decide)) rfl T.g__law_draw T.k__law_draw T.b__law_draw (dab_arg (pd_var 0) (dab_arg pd_int dab_nil))) pda_nil)) (blkOk_by (by rfl)) (fun _ _ _ _ _ => (pg_name (i := 2) sc__law_string.nd rfl (by first | exact .inl rfl | exact .inr rfl))) (tgt_name 2) (by decide) (fun _ _ _ _ _ => dts_nil) (fun _ _ _ _ _ => (pd_call (f__law_pick T) (hr.mono (by decide)) rfl T.g__law_pick T.k__law_pick T.b__law_pick (dab_arg (pd_var 0) (dab_arg (pd_var 1) dab_nil))))))))), ?_⟩
  rintro ss P ha hl ⟨rfl, p⟩
  have a1 : sOk (timesS ("abcxyz" : Str) 6) = true := by decide +kernel
  have a2 : ∀ c ∈ (timesS ("abcxyz" : Str) 6 ++ ("A1 -" : Str)).cps.toList, c < 0x110000 := by decide +kernel
  refine ⟨_, rfl, _, rfl, _, _, rfl, rfl, by decide, by decide, by decide +kernel, by decide +kernel, a1, _, rfl, _, rfl, by decide +kernel, Nat.le_of_ble_eq_true rfl, ?_⟩
  (try simp only [List.set_cons_zero, List.set_cons_succ, List.cons_append, List.nil_append, List.replicate_succ, List.replicate_zero, List.length_cons, List.length_nil, Nat.reduceSub, Nat.reduceAdd])
  generalize hz : timesS ("abcxyz" : Str) 6 ++ ("A1 -" : Str) = z0 at a2
  have hz0 : z0.length = 40 := by rw [← hz]; decide +kernel
  refine ⟨_, rfl, _, rfl, _, rfl, _, rfl, rfl, rfl, _, rfl, by decide, by decide, fun r r0 r1 => ⟨rfl, _, rfl, r, rfl, ⟨by omega, by omega⟩, ?_⟩⟩
  refine loopC_rel (fun _ y => ∃ w, y = .str w ∧ (sOk w = true ∧ w.length = 1)) (by rw [upto_len]; omega) (fun x hx Qs k => ?_) fun ys hl2 hy => ?_
  · refine ⟨Nat.le_of_ble_eq_true rfl, _, rfl, _, rfl, rfl, rfl, _, signs z0, rfl, .inr (.inr ⟨_, (by rw [← hz]; rfl), rfl⟩), ?_, by rw [len_signs, hz0]; decide, fun y hy => ⟨rfl, ?_⟩⟩
    · intro e
      have := congrArg List.length e
      rw [len_signs, hz0] at this
      cases this
    · obtain ⟨c, hc, rfl⟩ := List.mem_map.mp hy
      refine k _ _ _ rfl ⟨_, rfl, sOk_of (sok_cps.mpr fun d hd => ?_) (by show 1 ≤ _; decide), rfl⟩ rfl
      have : d = c := by simpa using hd
      rw [this]
      exact a2 c hc
  · obtain ⟨ws, rfl, hw⟩ := strs_of (p := fun w => sOk w = true ∧ w.length = 1) fun y h => let ⟨_, _, q⟩ := hy y h; q
    have hwl : ws.length = r.toNat := by rw [List.length_map, upto_len] at hl2; exact hl2
    obtain ⟨j1, j2, j3, _⟩ := join_ones hw (by omega)
    exact ⟨_, rfl, ws, strsOf_strs ws, j1, j2, rfl, p _ j2 (by omega)⟩
end
end K04
namespace K04
open PySem L2 Fl Sv
section
variable {P : Program} {w : World} {K : PySem.W.Frag} {mg : Str → Option Value} {base : Heap} {a : Ad}
theorem f__law_labels (T : Txt K mg a) : FnOk P w K mg base CX0 3 a._law_labels a.fd__law_labels ["_law_draws", "_law_many"] (spD K 2 ftLabels) := by
  refine fun_d T.F__law_labels sc__law_labels rfl fun cdv A outer s H E hr => ?_
  refine ⟨_, (dss_cons (ds_parT rfl (pg_name (i := 2) sc__law_labels.nd rfl (by first | exact .inl rfl | exact .inr rfl)) (pg_name (i := 3) sc__law_labels.nd rfl (by first | exact .inl rfl | exact .inr rfl)) (dab_cons pd_str (dab_cons (pd_lst pda_nil) dab_nil))) (dss_cons (ds_set sc__law_labels.nd (i := 4) rfl (by first | exact .inl rfl | exact .inr rfl) (pd_lst (pda_cons pd_str (pda_cons pd_str (pda_cons pd_str (pda_cons pd_str (pda_cons pd_str (pda_cons pd_str (pda_cons pd_str (pda_cons pd_str (pda_cons pd_str pda_nil))))))))))) (dss_cons (ds_for PassesOwn.never rfl (di_range rfl T.z_range (pda_cons (pd_var 1) pda_nil)) (pg_name (i := 5) sc__law_labels.nd rfl (by first | exact .inl rfl | exact .inr rfl)) (tgt_name 5) (dss_cons (ds_set sc__law_labels.nd (i := 6) rfl (by first | exact .inl rfl | exact .inr rfl) (pd_call (f__law_pick T) (hr.mono (by decide)) rfl T.g__law_pick T.k__law_pick T.b__law_pick (dab_arg (pd_var 0) (dab_arg (pd_var 4) dab_nil)))) (dss_cons (ds_if (pt_cmpD od_gt (pd_call (f__law_draw T) (hr.mono (by decide)) rfl T.g__law_draw T.k__law_draw T.b__law_draw (dab_arg (pd_var 0) (dab_arg pd_int dab_nil))) pd_int) (dss_one (ds_set sc__law_labels.nd (i := 6) rfl (by first | exact .inl rfl | exact .inr rfl) (pd_join pd_str (pd_lc (own := [("_law_j", 7)]) rfl sc__law_labels.nd (di_range rfl T.z_range (pda_cons (pd_call (f__law_pick T) (hr.mono (by decide)) rfl T.g__law_pick T.k__law_pick T.b__law_pick (dab_arg (pd_var 0) (dab_arg (pd_lst (pda_cons pd_int (pda_cons pd_int (pda_cons pd_int (pda_cons pd_int pda_nil))))) dab_nil))) pda_nil)) (blkOk_by (by rfl)) (fun _ _ _ _ _ => (pg_name (i := 7) sc__law_labels.nd rfl (by first | exact .inl rfl | exact .inr rfl))) (tgt_name 7) (by decide) (fun _ _ _ _ _ => dts_nil) (fun _ _ _ _ _ => (pd_call (f__law_pick T) (hr.mono (by decide)) rfl T.g__law_pick T.k__law_pick T.b__law_pick (dab_arg (pd_var 0) (dab_arg (pd_var 2) dab_nil)))))))) dss_nil) (dss_cons (ds_setLc (i := 8) (own := [("_law_sign", 9)]) rfl sc__law_labels.nd rfl rfl rfl (di_str (pd_var 2)) (blkOk_by (by rfl)) (fun _ _ _ _ _ => (pg_name (i := 9) sc__law_labels.nd rfl (by first | exact .inl rfl | exact .inr rfl))) (tgt_name 9) (by decide) (fun _ _ _ _ _ => dts_nil) (fun _ _ _ _ _ => (pd_op od_add (pd_op od_add (pd_sl (pd_var 6) do_none (do_some pd_int)) pd_str) (pd_var 9)))) (dss_one (ds_expr (pd_append (pv 3) (pd_ix (pd_lc (own := [("_law_one", 10)]) rfl sc__law_labels.nd (di_list (pd_op od_add (pd_lst (pda_cons (pd_var 6) pda_nil)) (pd_var 8))) (blkOk_by (by rfl)) (fun _ _ _ _ _ => (pg_name (i := 10) sc__law_labels.nd rfl (by first | exact .inl rfl | exact .inr rfl))) (tgt_name 10) (by decide) (fun _ _ _ _ _ => (dts_one (pt_ownNotIn (pv 3) (pd_var 10)))) (fun _ _ _ _ _ => (pd_var 10))) pd_int)))))))) (dss_one (ds_ret (pd_var 3)))))), ?_⟩
  rintro ss P ha hl ⟨m, rfl, m0, m3, p⟩
  refine ⟨rfl, Nat.le_of_ble_eq_true rfl, rfl, _, _, rfl, ⟨Nat.le_of_ble_eq_true rfl, Nat.le_of_ble_eq_true rfl⟩, ?_⟩
  (try simp only [List.set_cons_zero, List.set_cons_succ, List.cons_append, List.nil_append, List.replicate_succ, List.replicate_zero, List.length_cons, List.length_nil, Nat.reduceSub, Nat.reduceAdd])
  refine ⟨_, rfl, _, rfl, _, rfl, _, rfl, _, rfl, _, rfl, _, rfl, _, rfl, _, rfl, Nat.le_of_ble_eq_true rfl, Nat.le_of_ble_eq_true rfl, ?_⟩
  (try simp only [List.set_cons_zero, List.set_cons_succ, List.cons_append, List.nil_append, List.replicate_succ, List.replicate_zero, List.length_cons, List.length_nil, Nat.reduceSub, Nat.reduceAdd])
  refine ⟨_, rfl, m, rfl, ⟨by omega, by omega⟩, ?_⟩
  (try simp only [List.set_cons_zero, List.set_cons_succ, List.cons_append, List.nil_append, List.replicate_succ, List.replicate_zero, List.length_cons, List.length_nil, Nat.reduceSub, Nat.reduceAdd])
  refine loopS_inv (fun pre ρ => ∃ (f : List Str) (s4 s5 s6 s8 : Sl), ρ = [.src, .d (.int m), .d (.str "abcdefghijklmnopqrstuvwxyz"), .ol (f.map .str), s4, s5, s6, .no, s8, .no, .no] ∧ s4.dat = some (.lst (ownL.map .str)) ∧ f.length = pre.length ∧ f.Nodup ∧ ∀ s ∈ f, nameS s = true) _ [] _ ⟨[], _, _, _, _, rfl, rfl, rfl, List.nodup_nil, by simp⟩ ?_ ?_
  · rintro pr x q ρ e ⟨f, s4, s5, s6, s8, rfl, h4, hfl, hnd, hnm⟩ Nx k
    have hf2 : f.length ≤ 2 := by
      have := congrArg List.length e
      rw [List.nil_append, upto_len, List.length_append, List.length_cons] at this
      omega
    refine ⟨Nat.le_of_ble_eq_true rfl, ?_⟩
    (try simp only [List.set_cons_zero, List.set_cons_succ, List.cons_append, List.nil_append, List.replicate_succ, List.replicate_zero, List.length_cons, List.length_nil, Nat.reduceSub, Nat.reduceAdd])
    -- a label from the list
    refine ⟨_, rfl, var_dat rfl h4 ⟨_, rfl, rfl, rfl, _, ownL.map .str, rfl, .inl rfl, by decide, by decide, fun y hy => ⟨rfl, Nat.le_of_ble_eq_true rfl, ?_⟩⟩⟩
    (try simp only [List.set_cons_zero, List.set_cons_succ, List.cons_append, List.nil_append, List.replicate_succ, List.replicate_zero, List.length_cons, List.length_nil, Nat.reduceSub, Nat.reduceAdd])
    obtain ⟨w, hw, rfl⟩ := List.mem_map.mp hy
    -- or a text made of letters
    refine seq_by (fun ρ => ∃ (w : Str) (x5 : Sl), ρ = [.src, .d (.int m), .d (.str "abcdefghijklmnopqrstuvwxyz"), .ol (f.map .str), .d (.lst (ownL.map .str)), x5, .d (.str w), .no, s8, .no, .no] ∧ nameS w = true) ?_ ?_
    · rintro ρ ⟨w, x5, rfl, hw⟩
      -- the others
      refine ⟨_, rfl, ?_⟩
      refine loopC_map (fun y => match y with | .str z => .str (cutS w none (some 6) ++ "x" ++ z) | _ => .non) (by rw [letD, List.length_map]; decide) (fun y hy Qs k2 => ?_) ?_
      · obtain ⟨c, hc, rfl⟩ := List.mem_map.mp hy
        have hc : c ∈ lets := hc
        have l1 := ((nameS_iff _).mp (other_name hw hc)).2.1
        have l2 : (cutS w none (some 6) ++ ("x" : Str)).length + (⟨#[c]⟩ : Str).length ≤ 8 := by rw [← app_len]; exact l1
        have l3 : (cutS w none (some 6)).length + ("x" : Str).length + (⟨#[c]⟩ : Str).length ≤ 8 := by rw [← app_len]; exact l2
        refine ⟨Nat.le_of_ble_eq_true rfl, _, rfl, _, rfl, _, rfl, _, rfl, _, rfl, by omega, _, rfl, _, rfl, by omega, ?_⟩
        exact k2 _ _ rfl rfl
      have eo : ((signs ("abcdefghijklmnopqrstuvwxyz" : Str)).map fun y => match y with | .str z => D.str (cutS w none (some 6) ++ "x" ++ z) | _ => .non) = (lets.map (other w)).map .str := by
        rw [letD, List.map_map, List.map_map]; rfl
      rw [eo]
      refine ⟨Nat.le_of_ble_eq_true rfl, ?_⟩
      (try simp only [List.set_cons_zero, List.set_cons_succ, List.cons_append, List.nil_append, List.replicate_succ, List.replicate_zero, List.length_cons, List.length_nil, Nat.reduceSub, Nat.reduceAdd])
      -- the first that is new
      refine ⟨⟨_, rfl⟩, _, rfl, Nat.le_of_ble_eq_true rfl, _, rfl, _, rfl, ?_, _, rfl, ?_⟩
      · rw [List.length_map, List.length_map]; show 1 + lets.length ≤ 100000; decide +kernel
      refine loopC_filter (fun y => !inD y (f.map .str)) (by rw [List.length_append, List.length_map, List.length_map]; show 1 + lets.length < 1000000; decide +kernel) (fun y hy Qs Q0 k1 k0 => ?_) ?_
      · have hs : ∃ z, y = .str z := by
          rcases List.mem_append.mp hy with hy | hy
          · exact ⟨w, by simpa using hy⟩
          · obtain ⟨z, _, rfl⟩ := List.mem_map.mp hy; exact ⟨z, rfl⟩
        obtain ⟨z, rfl⟩ := hs
        exact ⟨Nat.le_of_ble_eq_true rfl, _, rfl, rfl, _, rfl, flat_strs f, _, rfl, ifB (fun h => k1 h _ _ rfl rfl) (fun h => k0 h _ rfl)⟩
      · have er : ([D.str w] ++ (lets.map (other w)).map D.str).filter (fun y => !inD y (f.map D.str)) = ((w :: lets.map (other w)).filter fun z => !decide (z ∈ f)).map D.str := by
          show ((w :: lets.map (other w)).map D.str).filter _ = _
          rw [List.filter_map]
          congr 1
          refine List.filter_congr fun z _ => ?_
          show (!inD (.str z) (f.map D.str)) = _
          rw [inD_strs]
        rw [er]
        obtain ⟨c, hc, hcn⟩ := cand_new (w := w) hf2
        have hmem : other w c ∈ (w :: lets.map (other w)).filter fun z => !decide (z ∈ f) := List.mem_filter.mpr ⟨List.mem_cons_of_mem _ (List.mem_map.mpr ⟨c, hc, rfl⟩), by simpa using hcn⟩
        cases hg : (w :: lets.map (other w)).filter fun z => !decide (z ∈ f) with
        | nil => rw [hg] at hmem; cases hmem
        | cons z zs =>
          have hz : z ∈ (w :: lets.map (other w)).filter fun z => !decide (z ∈ f) := by rw [hg]; simp
          obtain ⟨z1, z2⟩ := List.mem_filter.mp hz
          have z2 : z ∉ f := by simpa using z2
          have z3 : nameS z = true := by
            rcases List.mem_cons.mp z1 with e | z1
            · rw [e]; exact hw
            · obtain ⟨d, hd, rfl⟩ := List.mem_map.mp z1; exact other_name hw hd
          refine ⟨_, rfl, _, rfl, .str z, ix0 _ _, _, rfl, _, rfl, by rw [List.length_map]; omega, k _ ⟨f ++ [z], .d (.lst (ownL.map .str)), x5, .d (.str w), .d (.lst ((lets.map (other w)).map .str)), ?_, rfl, by rw [List.length_append, List.length_append, hfl]; rfl, ?_, fun y hy => ?_⟩⟩
          · (try simp only [List.set_cons_zero, List.set_cons_succ, List.cons_append, List.nil_append, List.replicate_succ, List.replicate_zero, List.length_cons, List.length_nil, Nat.reduceSub, Nat.reduceAdd])
            rw [List.map_append]; rfl
          · rw [List.nodup_append]
            exact ⟨hnd, by simp, fun a ha b hb e => by have : b = z := by simpa using hb
                                                       rw [e, this] at ha; exact z2 ha⟩
          · rcases List.mem_append.mp hy with hy | hy
            · exact hnm y hy
            · have : y = z := by simpa using hy
              rw [this]; exact z3
    · intro N hN
      refine ⟨_, rfl, _, rfl, rfl, rfl, _, rfl, by decide, by decide, fun r r0 r1 => ⟨rfl, _, rfl, _, rfl, _, rfl, ?_⟩⟩
      refine ifB (fun _ => ?_) fun _ => hN _ ⟨w, _, rfl, ownL_ok w hw⟩
      refine ⟨_, rfl, _, rfl, _, rfl, _, rfl, _, rfl, _, rfl, _, rfl, Nat.le_of_ble_eq_true rfl, _, rfl, rfl, rfl, _, _, rfl, .inl rfl, by simp, by decide, fun y hy => ⟨rfl, ?_⟩⟩
      have hn : ∃ n : Int, y = .int n ∧ 1 ≤ n ∧ n ≤ 8 := by
        simp only [List.mem_cons, List.not_mem_nil, or_false] at hy
        rcases hy with rfl | rfl | rfl | rfl
        · exact ⟨1, rfl, by decide, by decide⟩
        · exact ⟨1, rfl, by decide, by decide⟩
        · exact ⟨2, rfl, by decide, by decide⟩
        · exact ⟨8, rfl, by decide, by decide⟩
      obtain ⟨n, rfl, n1, n8⟩ := hn
      refine ⟨_, rfl, n, rfl, ⟨by omega, by omega⟩, ?_⟩
      refine loopC_rel (fun _ y => ∃ w, y = .str w ∧ ((sOk w = true ∧ w.length = 1) ∧ ∃ c ∈ lets, w = ⟨#[c]⟩)) (by rw [upto_len]; omega) (fun x hx Qs k => ?_) fun ys hl2 hy => ?_
      · refine ⟨Nat.le_of_ble_eq_true rfl, _, rfl, _, rfl, rfl, rfl, _, _, rfl, .inr (.inr ⟨_, rfl, rfl⟩), by decide +kernel, by decide +kernel, fun y hy => ⟨rfl, ?_⟩⟩
        obtain ⟨c, hc, rfl⟩ := List.mem_map.mp hy
        exact k _ _ _ rfl ⟨_, rfl, name_sign hc, c, hc, rfl⟩ rfl
      · obtain ⟨ws, rfl, hws⟩ := strs_of (p := fun w => (sOk w = true ∧ w.length = 1) ∧ ∃ c ∈ lets, w = ⟨#[c]⟩) fun y h => let ⟨_, _, q⟩ := hy y h; q
        have hwl : ws.length = n.toNat := by rw [List.length_map, upto_len] at hl2; exact hl2
        obtain ⟨j1, j2, j3, j4⟩ := join_ones (fun w hw => (hws w hw).1) (by omega)
        refine ⟨_, rfl, ws, strsOf_strs ws, j1, j2, Nat.le_of_ble_eq_true rfl, hN _ ⟨_, _, rfl, (nameS_iff _).mpr ⟨by omega, by omega, fun c hc => ?_⟩⟩⟩
        obtain ⟨w2, hw2, hc2⟩ := j4 c hc
        obtain ⟨_, d, hd, rfl⟩ := hws w2 hw2
        have : c = d := by simpa using hc2
        rw [this]; exact hd
  · rintro ρ ⟨f, s4, s5, s6, s8, rfl, h4, hfl, hnd, hnm⟩
    exact ⟨rfl, p f (by rw [hfl, List.nil_append, upto_len]) hnd hnm⟩
end
end K04
namespace K04
open PySem L2 Fl Sv
section
variable {P : Program} {w : World} {K : PySem.W.Frag} {mg : Str → Option Value} {base : Heap} {a : Ad}
theorem f__law_parts (T : Txt K mg a) : FnOk P w K mg base CX0 4 a._law_parts a.fd__law_parts ["_law_draws", "_law_most"] (spD K 2 ftParts) := by
  refine fun_d T.F__law_parts sc__law_parts rfl fun cdv A outer s H E hr => ?_
  refine ⟨_, (dss_cons (ds_set sc__law_parts.nd (i := 2) rfl (by first | exact .inl rfl | exact .inr rfl) (pd_callTy cd_tuple rfl T.z_tuple (by decide +kernel) (pda_cons (pd_callB (cd_sortS rfl) rfl T.z_sorted (by decide +kernel) (pda_cons (pd_call (f__law_labels T) (hr.mono (by decide)) rfl T.g__law_labels T.k__law_labels T.b__law_labels (dab_arg (pd_var 0) (dab_arg (pd_op od_add pd_int (pd_call (f__law_draw T) (hr.mono (by decide)) rfl T.g__law_draw T.k__law_draw T.b__law_draw (dab_arg (pd_var 0) (dab_arg (pd_var 1) dab_nil)))) dab_nil))) pda_nil)) pda_nil))) (dss_cons (ds_parT3 rfl (pg_name (i := 3) sc__law_parts.nd rfl (by first | exact .inl rfl | exact .inr rfl)) (pg_name (i := 4) sc__law_parts.nd rfl (by first | exact .inl rfl | exact .inr rfl)) (pg_name (i := 5) sc__law_parts.nd rfl (by first | exact .inl rfl | exact .inr rfl)) (dab_cons (pd_op od_add pd_int (pd_call (f__law_draw T) (hr.mono (by decide)) rfl T.g__law_draw T.k__law_draw T.b__law_draw (dab_arg (pd_var 0) (dab_arg pd_int dab_nil)))) (dab_cons (pd_op od_add pd_int (pd_call (f__law_draw T) (hr.mono (by decide)) rfl T.g__law_draw T.k__law_draw T.b__law_draw (dab_arg (pd_var 0) (dab_arg pd_int dab_nil)))) (dab_cons pd_dic0 dab_nil)))) (dss_cons (ds_for PassesOwn.never rfl (di_list (pd_call (f__law_shuffled T) (hr.mono (by decide)) rfl T.g__law_shuffled T.k__law_shuffled T.b__law_shuffled (dab_arg (pd_var 0) (dab_arg (pd_var 2) dab_nil)))) (pg_name (i := 6) sc__law_parts.nd rfl (by first | exact .inl rfl | exact .inr rfl)) (tgt_name 6) (dss_one (ds_setD hr (pv 5) (pd_var 6) (pd_callTy cd_tuple rfl T.z_tuple (by decide +kernel) (pda_cons (pd_lc (own := [("_law_k", 7)]) rfl sc__law_parts.nd (di_range rfl T.z_range (pda_cons (pd_var 3) pda_nil)) (blkOk_by (by rfl)) (fun _ _ _ _ _ => (pg_name (i := 7) sc__law_parts.nd rfl (by first | exact .inl rfl | exact .inr rfl))) (tgt_name 7) (by decide) (fun _ _ _ _ _ => dts_nil) (fun _ _ _ _ _ => (pd_call (f__law_cell T) (hr.mono (by decide)) rfl T.g__law_cell T.k__law_cell T.b__law_cell (dab_arg (pd_var 0) (dab_arg (pd_var 4) dab_nil))))) pda_nil))))) (dss_one (ds_ret (pd_tup (pda_cons (pd_var 2) (pda_cons (pd_var 3) (pda_cons (pd_var 4) (pda_cons (pd_var 5) (pda_cons (pd_callTy cd_tuple rfl T.z_tuple (by decide +kernel) (pda_cons (pd_lc (own := [("_law_k", 7)]) rfl sc__law_parts.nd (di_range rfl T.z_range (pda_cons pd_int pda_nil)) (blkOk_by (by rfl)) (fun _ _ _ _ _ => (pg_name (i := 7) sc__law_parts.nd rfl (by first | exact .inl rfl | exact .inr rfl))) (tgt_name 7) (by decide) (fun _ _ _ _ _ => dts_nil) (fun _ _ _ _ _ => (pd_cmp (od_eq hr) (pd_call (f__law_draw T) (hr.mono (by decide)) rfl T.g__law_draw T.k__law_draw T.b__law_draw (dab_arg (pd_var 0) (dab_arg pd_int dab_nil))) pd_int))) pda_nil)) pda_nil))))))))))), ?_⟩
  rintro ss P ha hl ⟨m, rfl, m1, m3, p⟩
  refine ⟨_, rfl, _, rfl, _, rfl, _, rfl, rfl, rfl, _, rfl, by omega, by omega, fun r r0 r1 => ⟨rfl, _, rfl, _, rfl, rfl, rfl, _, rfl, by omega, by omega, fun ls0 l1 l2 l3 => ?_⟩⟩
  refine ⟨rfl, _, rfl, _, ls0, rfl, sortIn_strs ls0, by omega, fun s hs => nameS_ok (l3 s hs), fun ls hp hs => ⟨_, rfl, _, _, rfl, rfl, Nat.le_of_ble_eq_true rfl, ?_⟩⟩
  (try simp only [List.set_cons_zero, List.set_cons_succ, List.cons_append, List.nil_append, List.replicate_succ, List.replicate_zero, List.length_cons, List.length_nil, Nat.reduceSub, Nat.reduceAdd])
  have L0 : LabelsOk ls := ⟨by rw [hp.length_eq, l1]; omega, by rw [hp.length_eq, l1]; omega, fun s h => l3 s (hp.mem_iff.mp h), hs, hp.nodup_iff.mpr l2⟩
  refine ⟨_, rfl, _, rfl, _, rfl, rfl, rfl, _, rfl, by decide, by decide, fun pp p0 p1 => ⟨rfl, _, rfl, rfl, _, rfl, _, rfl, _, rfl, rfl, rfl, _, rfl, by decide, by decide, fun ff f0 f1 => ⟨rfl, _, rfl, rfl, rfl, _, _, _, rfl, ⟨Nat.le_of_ble_eq_true rfl, Nat.le_of_ble_eq_true rfl, Nat.le_of_ble_eq_true rfl⟩, ?_⟩⟩⟩
  (try simp only [List.set_cons_zero, List.set_cons_succ, List.cons_append, List.nil_append, List.replicate_succ, List.replicate_zero, List.length_cons, List.length_nil, Nat.reduceSub, Nat.reduceAdd])
  obtain ⟨pn, hpn⟩ : ∃ n : Nat, 1 + pp = (n : Int) := ⟨(1 + pp).toNat, by omega⟩
  generalize hf : 1 + ff = f
  rw [hpn]
  -- the rows, in some order
  refine ⟨_, rfl, _, rfl, rfl, rfl, _, _, rfl, rfl, by have := L0.hi; rw [List.length_map]; omega, (by have := (ok_strs 50 ls).1; exact this), fun zs hz => ⟨rfl, _, rfl, ?_⟩⟩
  obtain ⟨us, rfl, hu⟩ := strs_of (ys := zs) (p := fun s => s ∈ ls) fun y hy => by
    obtain ⟨s, h1, h2⟩ := List.mem_map.mp (hz.mem_iff.mp hy)
    exact ⟨s, h2.symm, h1⟩
  have und : (us.map (Sum.inr : Str → Key)).Nodup := by
    have h := nodup_inr L0.nd
    rw [← map_keyOf] at h ⊢
    exact (hz.map keyOf).nodup_iff.mpr h
  have uln : us.length = ls.length := by have := hz.length_eq; simpa using this
  refine loopS_inv (fun pre ρ => ∃ (vs : List D) (s6 : Sl), ρ = [.src, .d (.int m), .d (.tup (ls.map .str)), .d (.int pn), .d (.int f), .od (pre.map keyOf) vs, s6, .no] ∧ pre.length = vs.length ∧ ∀ v ∈ vs, rowOk pn f v) _ [] _ ⟨[], _, rfl, rfl, by simp⟩ ?_ ?_
  · rintro pr x q ρ e ⟨vs, s6, rfl, hvl, hvr⟩ Nx k
    have e : us.map D.str = pr ++ x :: q := e
    obtain ⟨s, rfl⟩ : ∃ s, x = .str s := by
      have : x ∈ us.map D.str := by rw [e]; simp
      obtain ⟨s, _, h⟩ := List.mem_map.mp this
      exact ⟨s, h.symm⟩
    have hnew : (Sum.inr s : Key) ∉ pr.map keyOf := fun hm => by
      have h := und
      rw [← map_keyOf, e, List.map_append, List.map_cons] at h
      exact (List.nodup_append.mp h).2.2 _ hm (keyOf (.str s)) (by simp) rfl
    have hpl : pr.length ≤ 3 := by
      have := congrArg List.length e
      rw [List.length_map, List.length_append] at this
      have := L0.hi
      omega
    refine ⟨Nat.le_of_ble_eq_true rfl, ?_⟩
    (try simp only [List.set_cons_zero, List.set_cons_succ, List.cons_append, List.nil_append, List.replicate_succ, List.replicate_zero, List.length_cons, List.length_nil, Nat.reduceSub, Nat.reduceAdd])
    refine ⟨_, rfl, pn, rfl, ⟨by omega, by omega⟩, ?_⟩
    refine loopC_rel (fun _ y => cellOk f y) (by rw [upto_len]; omega) (fun y hy Qs k2 => ⟨Nat.le_of_ble_eq_true rfl, _, rfl, _, rfl, rfl, rfl, _, rfl, by omega, by omega, fun z hz => ⟨rfl, k2 _ _ _ rfl hz rfl⟩⟩) fun ys hyl hyc => ?_
    refine ⟨_, rfl, _, _, rfl, rfl, _, rfl, ⟨_, _, rfl⟩, _, rfl, _, rfl, _, _, rfl, by rw [List.length_map]; omega, ?_⟩
    rw [putD_new (by rw [List.length_map]; exact hvl) hnew]
    refine k _ ⟨vs ++ [.tup ys], .d (.str s), ?_, ?_, fun v hv => ?_⟩
    rotate_left
    · rw [List.length_append, List.length_append, hvl]; rfl
    · rcases List.mem_append.mp hv with hv | hv
      · exact hvr v hv
      · have : v = .tup ys := by simpa using hv
        exact ⟨ys, this, by rw [hyl, upto_len]; omega, fun c hc => let ⟨_, _, h⟩ := hyc c hc; h⟩
    · (try simp only [List.set_cons_zero, List.set_cons_succ, List.cons_append, List.nil_append, List.replicate_succ, List.replicate_zero, List.length_cons, List.length_nil, Nat.reduceSub, Nat.reduceAdd])
      rw [List.map_append]; rfl
  · rintro ρ ⟨vs, s6, rfl, hvl, hvr⟩
    rw [List.nil_append, map_keyOf]
    refine ⟨_, rfl, _, rfl, _, rfl, _, rfl, _, rfl, 3, rfl, ⟨by decide, by decide⟩, ?_⟩
    (try simp only [List.set_cons_zero, List.set_cons_succ, List.cons_append, List.nil_append, List.replicate_succ, List.replicate_zero, List.length_cons, List.length_nil, Nat.reduceSub, Nat.reduceAdd])
    refine loopC_rel (fun _ y => ∃ b, y = .bl b) (by rw [upto_len]; decide) (fun y hy Qs k2 => ⟨Nat.le_of_ble_eq_true rfl, _, rfl, _, rfl, rfl, rfl, _, rfl, by decide, by decide, fun z z0 z1 => ⟨rfl, _, rfl, _, rfl, rfl, rfl, k2 _ _ _ rfl ⟨_, rfl⟩ rfl⟩⟩) fun ys hyl hyc => ?_
    obtain ⟨bs, rfl⟩ := bls_of fun y hy => let ⟨_, _, h⟩ := hyc y hy; h
    have hb : bs.length = 3 := by rw [List.length_map, upto_len] at hyl; exact hyl
    match bs, hb with
    | [b1, b2, b3], _ =>
      refine ⟨_, rfl, _, _, rfl, rfl, _, rfl, Nat.le_of_ble_eq_true rfl, rfl, ?_⟩
      refine p ⟨ls, pn, f, us.map Sum.inr, vs, b1, b2, b3⟩ ⟨L0, ?_, ?_, ?_, ?_, ⟨?_, ?_, fun s hs => ?_, hvr⟩⟩
      · show 1 ≤ pn; omega
      · show pn ≤ 4; omega
      · show 1 ≤ f; omega
      · show f ≤ 4; omega
      · show (us.map Sum.inr).length = vs.length
        rw [← hvl]; simp
      · show (us.map Sum.inr).length = ls.length
        rw [List.length_map]; exact uln
      · have : D.str s ∈ us.map D.str := hz.mem_iff.mpr (List.mem_map.mpr ⟨s, hs, rfl⟩)
        obtain ⟨s', h1, h2⟩ := List.mem_map.mp this
        cases h2
        exact List.mem_map.mpr ⟨s, h1, rfl⟩
theorem f__law_base (T : Txt K mg a) : FnOk P w K mg base CX0 8 a._law_base a.fd__law_base ["_law_parts_here"] (spD K 1 (ftBase a.World)) := by
  refine fun_d T.F__law_base sc__law_base rfl fun cdv A outer s H E hr => ?_
  refine ⟨_, (dss_cons (ds_asg (pd_var 0) (pg_tup rfl (pgs_cons (pg_name (i := 1) sc__law_base.nd rfl (by first | exact .inl rfl | exact .inr rfl)) (pgs_cons (pg_name (i := 2) sc__law_base.nd rfl (by first | exact .inl rfl | exact .inr rfl)) (pgs_cons (pg_name (i := 3) sc__law_base.nd rfl (by first | exact .inl rfl | exact .inr rfl)) (pgs_cons (pg_name (i := 4) sc__law_base.nd rfl (by first | exact .inl rfl | exact .inr rfl)) (pgs_cons (pg_name (i := 5) sc__law_base.nd rfl (by first | exact .inl rfl | exact .inr rfl)) pgs_nil)))))) (tgt_tup (tgts_cons (tgt_name 1) (tgts_cons (tgt_name 2) (tgts_cons (tgt_name 3) (tgts_cons (tgt_name 4) (tgts_cons (tgt_name 5) tgts_nil))))))) (dss_one (ds_ret (pd_makeK T.m_World (f_World_init T) (hr.mono (by decide)) rfl T.g_World T.kb_World (dab_arg (pd_var 1) (dab_arg (pd_var 2) (dab_arg (pd_var 3) (dab_arg (pd_var 4) dab_nil)))) (dkb_arg (pd_ix (pd_var 5) pd_int) (dkb_arg (pd_ix (pd_var 5) pd_int) (dkb_arg (pd_ix (pd_var 5) pd_int) dkb_nil))) rfl)))), ?_⟩
  rintro ss P ha hl ⟨q, rfl, ok, p⟩
  refine ⟨_, rfl, rfl, Nat.le_of_ble_eq_true rfl, Nat.le_of_ble_eq_true rfl, Nat.le_of_ble_eq_true rfl, Nat.le_of_ble_eq_true rfl, Nat.le_of_ble_eq_true rfl, ?_⟩
  (try simp only [List.set_cons_zero, List.set_cons_succ, List.cons_append, List.nil_append, List.replicate_succ, List.replicate_zero, List.length_cons, List.length_nil, Nat.reduceSub, Nat.reduceAdd])
  exact ⟨_, rfl, _, rfl, _, rfl, _, rfl, rfl, _, rfl, _, rfl, _, rfl, _, rfl, _, rfl, _, rfl, _, rfl, _, rfl, _, rfl, _, rfl, _, rfl, _, rfl, rfl, rfl, rfl, q, rfl, ok, rfl, p⟩
end
end K04
namespace K04
open PySem L2 Fl Sv
section
variable {P : Program} {w : World} {K : PySem.W.Frag} {mg : Str → Option Value} {base : Heap} {a : Ad}
theorem f__law_odd (T : Txt K mg a) : FnOk P w K mg base CX0 3 a._law_odd a.fd__law_odd ["_law_draws", "_law_value"] (spD K 2 ftOdd) := by
  refine fun_d T.F__law_odd sc__law_odd rfl fun cdv A outer s H E hr => ?_
  refine ⟨_, (dss_cons (ds_set sc__law_odd.nd (i := 2) rfl (by first | exact .inl rfl | exact .inr rfl) (pd_lst pda_nil)) (dss_cons (ds_if (PW.pt (pwd_and (pt_valD (pd_isi askT_int (pd_var 1) rfl T.z_isinstance rfl T.z_int)) (pwd_and1 (pt_notD (pt_valD (pd_isi askT_bool (pd_var 1) rfl T.z_isinstance rfl T.z_bool)))))) (dss_one (ds_set sc__law_odd.nd (i := 2) rfl (by first | exact .inl rfl | exact .inr rfl) (pd_lst (pda_cons (pd_op od_add (pd_var 1) pd_int) (pda_cons (pd_op od_sub (pd_var 1) pd_int) (pda_cons (pd_op od_sub pd_int (pd_var 1)) pda_nil)))))) dss_nil) (dss_cons (ds_if (pt_valD (pd_isi askT_str (pd_var 1) rfl T.z_isinstance rfl T.z_str)) (dss_one (ds_set sc__law_odd.nd (i := 2) rfl (by first | exact .inl rfl | exact .inr rfl) (pd_lst (pda_cons (pd_op od_add (pd_var 1) pd_str) (pda_cons (pd_sl (pd_var 1) do_none (do_some (pd_neg pd_int))) (pda_cons pd_str pda_nil)))))) dss_nil) (dss_cons (ds_set sc__law_odd.nd (i := 3) rfl (by first | exact .inl rfl | exact .inr rfl) (pd_lst (pda_cons pd_non (pda_cons pd_bl (pda_cons pd_bl (pda_cons pd_int (pda_cons pd_int (pda_cons (pd_neg pd_int) (pda_cons pd_int (pda_cons pd_int (pda_cons pd_str (pda_cons pd_str (pda_cons pd_str (pda_cons pd_str (pda_cons pd_str (pda_cons pd_str pda_nil)))))))))))))))) (dss_cons (ds_set sc__law_odd.nd (i := 3) rfl (by first | exact .inl rfl | exact .inr rfl) (pd_op od_add (pd_var 3) (pd_lst (pda_cons (pd_tup pda_nil) (pda_cons (pd_lst pda_nil) (pda_cons pd_dic0 (pda_cons (pd_tup (pda_cons pd_int pda_nil)) (pda_cons (pd_tup (pda_cons pd_str pda_nil)) pda_nil)))))))) (dss_one (ds_ret (pd_call (f__law_pick T) (hr.mono (by decide)) rfl T.g__law_pick T.k__law_pick T.b__law_pick (dab_arg (pd_var 0) (dab_arg (pd_lst (pda_cons (pd_call (f__law_pick T) (hr.mono (by decide)) rfl T.g__law_pick T.k__law_pick T.b__law_pick (dab_arg (pd_var 0) (dab_arg (pd_op od_add (pd_var 2) (pd_var 3)) dab_nil))) (pda_cons (pd_call (f__law_pick T) (hr.mono (by decide)) rfl T.g__law_pick T.k__law_pick T.b__law_pick (dab_arg (pd_var 0) (dab_arg (pd_var 3) dab_nil))) pda_nil))) dab_nil)))))))))), ?_⟩
  rintro ss P ha hl ⟨x, n, W, rfl, hs, hw, hW, p⟩
  have hi := shw_ins hs
  refine ⟨Nat.le_of_ble_eq_true rfl, Nat.le_of_ble_eq_true rfl, ?_⟩
  (try simp only [List.set_cons_zero, List.set_cons_succ, List.cons_append, List.nil_append, List.replicate_succ, List.replicate_zero, List.length_cons, List.length_nil, Nat.reduceSub, Nat.reduceAdd])
  refine seq_by (fun ρ => ∃ N : List D, ρ = [.src, .d x, .ol N, .no] ∧ N.length ≤ 3 ∧ ∀ y ∈ N, shw 1 y = true ∧ wt y ≤ W + 110) ?_ ?_
  rotate_left
  · intro R hR
    have skip : R [.src, .d x, .ol [], .no] := hR _ ⟨[], rfl, by simp, by simp⟩
    refine ⟨x, rfl, hi, _, rfl, ?_⟩
    rw [isT_int]
    cases x with
    | int i =>
      refine ifB (fun _ => ⟨_, rfl, hi, _, rfl, ?_⟩) (fun h => by cases h)
      rw [isT_bool]
      refine ifB (fun _ => ?_) (fun h => by cases h)
      refine ⟨_, rfl, _, rfl, _, rfl, _, rfl, _, rfl, _, rfl, _, rfl, _, rfl, _, rfl, Nat.le_of_ble_eq_true rfl, Nat.le_of_ble_eq_true rfl, hR _ ⟨_, rfl, by simp, fun y hy => ?_⟩⟩
      simp only [wt] at hw
      simp only [List.mem_cons, List.not_mem_nil, or_false] at hy
      rcases hy with rfl | rfl | rfl
      · exact ⟨by simp [shw], by simp only [wt]; omega⟩
      · exact ⟨by simp [shw], by simp only [wt]; omega⟩
      · exact ⟨by simp [shw], by simp only [wt]; omega⟩
    | bl b =>
      refine ifB (fun _ => ⟨_, rfl, hi, _, rfl, ?_⟩) (fun h => by cases h)
      rw [isT_bool]
      exact ifB (fun h => by cases h) fun _ => skip
    | _ =>
      refine ifB (fun h => by cases h) fun _ => ?_
      exact ifB (fun h => by cases h) fun _ => skip
  rintro ρ ⟨N0, rfl, hN0, hN0k⟩
  refine seq_by (fun ρ => ∃ N : List D, ρ = [.src, .d x, .ol N, .no] ∧ N.length ≤ 3 ∧ ∀ y ∈ N, shw 1 y = true ∧ wt y ≤ W + 110) ?_ ?_
  rotate_left
  · intro R hR
    have skip : R [.src, .d x, .ol N0, .no] := hR _ ⟨N0, rfl, hN0, hN0k⟩
    refine ⟨x, rfl, hi, _, rfl, ?_⟩
    rw [isT_str]
    cases x with
    | str s =>
      have so : PyData.strOk s = true := by cases n <;> simpa [shw] using hs
      simp only [wt] at hw
      have sok : sOk s = true := sOk_of so (by omega)
      have a1 : ("a" : Str).length = 1 := rfl
      refine ifB (fun _ => ?_) (fun h => by cases h)
      refine ⟨_, rfl, _, rfl, by omega, _, rfl, _, rfl, _, rfl, _, rfl, _, rfl, _, rfl, _, rfl, Nat.le_of_ble_eq_true rfl, Nat.le_of_ble_eq_true rfl, hR _ ⟨_, rfl, by simp, fun y hy => ?_⟩⟩
      simp only [List.mem_cons, List.not_mem_nil, or_false] at hy
      rcases hy with rfl | rfl | rfl
      · exact ⟨by simp only [shw]; exact sok_app so (by decide +kernel), by simp only [wt]; rw [app_len]; omega⟩
      · refine ⟨by simp only [shw]; exact sOk_1 (strOk_cut sok _ _), ?_⟩
        simp only [wt]
        have : (cutS s none (some (-1))).length ≤ s.length := by
          unfold cutS
          show (List.toArray _).size ≤ s.cps.size
          rw [List.size_toArray, List.length_take, List.length_drop, Array.length_toList]
          omega
        omega
      · exact ⟨by simp only [shw]; decide +kernel, by simp only [wt]; have : ("any" : Str).length = 3 := rfl; omega⟩
    | _ => exact ifB (fun h => by cases h) fun _ => skip
  rintro ρ ⟨N, rfl, hN, hNk⟩
  refine ⟨_, rfl, _, rfl, _, rfl, _, rfl, _, rfl, _, rfl, _, rfl, _, rfl, _, rfl, _, rfl, _, rfl, _, rfl, _, rfl, _, rfl, _, rfl, Nat.le_of_ble_eq_true rfl, Nat.le_of_ble_eq_true rfl, ?_⟩
  (try simp only [List.set_cons_zero, List.set_cons_succ, List.cons_append, List.nil_append, List.replicate_succ, List.replicate_zero, List.length_cons, List.length_nil, Nat.reduceSub, Nat.reduceAdd])
  refine ⟨_, rfl, Nat.le_of_ble_eq_true rfl, _, rfl, Nat.le_of_ble_eq_true rfl, _, rfl, _, rfl, _, rfl, Nat.le_of_ble_eq_true rfl, _, rfl, _, rfl, Nat.le_of_ble_eq_true rfl, _, rfl, Nat.le_of_ble_eq_true rfl, _, rfl, Nat.le_of_ble_eq_true rfl, Nat.le_of_ble_eq_true rfl, ?_⟩
  (try simp only [List.set_cons_zero, List.set_cons_succ, List.cons_append, List.nil_append, List.replicate_succ, List.replicate_zero, List.length_cons, List.length_nil, Nat.reduceSub, Nat.reduceAdd])
  refine ⟨_, rfl, _, rfl, _, rfl, _, rfl, ?_, _, rfl, rfl, rfl, _, _, rfl, .inl rfl, by simp, ?_, fun y1 hy1 => ⟨rfl, _, rfl, _, rfl, _, rfl, rfl, rfl, _, _, rfl, .inl rfl, by simp, by simp, fun y2 hy2 => ⟨rfl, _, rfl, Nat.le_of_ble_eq_true rfl, _, rfl, rfl, rfl, _, _, rfl, .inl rfl, by simp, by simp, fun y hy => ⟨rfl, ?_⟩⟩⟩⟩
  · simp; omega
  · simp; omega
  · have h2 := odds_ok y2 hy2
    have hy : y = y1 ∨ y = y2 := by simpa using hy
    rcases hy with rfl | rfl
    · rcases List.mem_append.mp hy1 with h | h
      · exact ⟨rfl, p _ (hNk _ h).1 (hNk _ h).2⟩
      · have h1 := odds_ok _ h
        exact ⟨rfl, p _ h1.1 (by omega)⟩
    · exact ⟨rfl, p _ h2.1 (by omega)⟩
end
end K04
namespace K04
open PySem L2 Fl Sv
section
variable {P : Program} {w : World} {K : PySem.W.Frag} {mg : Str → Option Value} {base : Heap} {a : Ad}
theorem f__law_bent (T : Txt K mg a) : ∀ n, FnOk P w K mg base CX0 (4 + n) a._law_bent a.fd__law_bent ["_law_draws", "_law_value"] (spD K 2 (ftBent n)) := by
  intro n
  induction n with
  | zero =>
    refine fun_d (k := 3) T.F__law_bent sc__law_bent rfl fun cdv A outer s H E hr => ?_
    refine ⟨_, (dss_cons (ds_if (PW.pt (pwd_or (pt_notD (pt_valD (pd_isi2 askT_list askT_tuple (pd_var 1) rfl T.z_isinstance rfl T.z_list rfl T.z_tuple))) (pwd_or (pt_cmpD (od_eq hr) (pd_callB cd_len rfl T.z_len (by decide +kernel) (pda_cons (pd_var 1) pda_nil)) pd_int) (pwd_or1 (pt_cmpD (od_eq hr) (pd_call (f__law_draw T) (hr.mono (by omega)) rfl T.g__law_draw T.k__law_draw T.b__law_draw (dab_arg (pd_var 0) (dab_arg pd_int dab_nil))) pd_int))))) (dss_one (ds_ret (pd_call (f__law_odd T) (hr.mono (by omega)) rfl T.g__law_odd T.k__law_odd T.b__law_odd (dab_arg (pd_var 0) (dab_arg (pd_var 1) dab_nil))))) dss_nil) dss_never), ?_⟩
    have leaf : ∀ x, shw 0 x = true → (isT "list" x || isT "tuple" x) = false := fun x h => by cases x <;> first | rfl | simp [shw] at h
    rintro ss P ha hl ⟨x, W, rfl, hs, hw, hW, p⟩
    have hi := shw_ins hs
    refine ⟨x, rfl, hi, _, rfl, ?_⟩
    rw [leaf x hs]
    refine ifB (fun _ => ?_) (fun h => by cases h)
    refine ifB (fun _ => ?_) (fun h => by cases h)
    refine ⟨_, rfl, _, rfl, rfl, rfl, x, 0, W, rfl, hs, hw, by omega, fun y h1 h2 => ⟨rfl, rfl, p y h1 (by omega)⟩⟩
  | succ n ih =>
    refine fun_d (k := 4 + n) T.F__law_bent sc__law_bent rfl fun cdv A outer s H E hr => ?_
    refine ⟨_, (dss_cons (ds_if (PW.pt (pwd_or (pt_notD (pt_valD (pd_isi2 askT_list askT_tuple (pd_var 1) rfl T.z_isinstance rfl T.z_list rfl T.z_tuple))) (pwd_or (pt_cmpD (od_eq hr) (pd_callB cd_len rfl T.z_len (by decide +kernel) (pda_cons (pd_var 1) pda_nil)) pd_int) (pwd_or1 (pt_cmpD (od_eq hr) (pd_call (f__law_draw T) (hr.mono (by omega)) rfl T.g__law_draw T.k__law_draw T.b__law_draw (dab_arg (pd_var 0) (dab_arg pd_int dab_nil))) pd_int))))) (dss_one (ds_ret (pd_call (f__law_odd T) (hr.mono (by omega)) rfl T.g__law_odd T.k__law_odd T.b__law_odd (dab_arg (pd_var 0) (dab_arg (pd_var 1) dab_nil))))) dss_nil) (dss_cons (ds_par3 (i := 2) (j := 3) (l := 4) rfl sc__law_bent.nd rfl rfl rfl (by decide) (by decide) (by decide) rfl rfl rfl (dab_cons (pd_callTy cd_list rfl T.z_list (by decide +kernel) (pda_cons (pd_var 1) pda_nil)) (dab_cons (pd_call (f__law_draw T) (hr.mono (by omega)) rfl T.g__law_draw T.k__law_draw T.b__law_draw (dab_arg (pd_var 0) (dab_arg (pd_callB cd_len rfl T.z_len (by decide +kernel) (pda_cons (pd_var 1) pda_nil)) dab_nil))) (dab_cons (pd_call (f__law_draw T) (hr.mono (by omega)) rfl T.g__law_draw T.k__law_draw T.b__law_draw (dab_arg (pd_var 0) (dab_arg pd_int dab_nil))) dab_nil)))) (dss_cons (ds_if (pt_cmpD (od_eq hr) (pd_var 4) pd_int) (dss_one (ds_expr (pd_pop (pv 2) (pd_var 3)))) (dss_one (ds_if (pt_cmpD (od_eq hr) (pd_var 4) pd_int) (dss_one (ds_expr (pd_insert (pv 2) (pd_var 3) (pd_ownIx (pv 2) (pd_var 3))))) (dss_one (ds_if (pt_cmpD (od_eq hr) (pd_var 4) pd_int) (dss_one (ds_expr (pd_insert (pv 2) (pd_var 3) (pd_pop (pv 2) (pd_call (f__law_draw T) (hr.mono (by omega)) rfl T.g__law_draw T.k__law_draw T.b__law_draw (dab_arg (pd_var 0) (dab_arg (pd_ownLen (pv 2) rfl T.z_len) dab_nil))))))) (dss_one (ds_setL (pv 2) (pd_var 3) (pd_call ih (hr.mono (by omega)) rfl T.g__law_bent T.k__law_bent T.b__law_bent (dab_arg (pd_var 0) (dab_arg (pd_ownIx (pv 2) (pd_var 3)) dab_nil)))))))))) (dss_one (ds_ret (pd_if (PW.pt (pwd_and (pt_valD (pd_isi askT_list (pd_var 1) rfl T.z_isinstance rfl T.z_list)) (pwd_and1 (pt_cmpD od_gt (pd_call (f__law_draw T) (hr.mono (by omega)) rfl T.g__law_draw T.k__law_draw T.b__law_draw (dab_arg (pd_var 0) (dab_arg pd_int dab_nil))) pd_int)))) (pd_var 2) (pd_callTy cd_tuple rfl T.z_tuple (by decide +kernel) (pda_cons (pd_var 2) pda_nil)))))))), ?_⟩
    rintro ss P ha hl ⟨x, W, rfl, hs, hw, hW, p⟩
    have hi := shw_ins hs
    -- a value by _law_odd
    have odd : ∀ (Q : Sl → Prop), (∀ y, shw (n + 1 + 1) y = true → wt y ≤ 2 * W + 200 → Q (.d y)) → ftOdd [.src, .d x] Q := fun Q h => ⟨x, n + 1, W, rfl, hs, hw, by omega, fun y h1 h2 => h y (shw_le h1 (by omega)) (by omega)⟩
    refine ⟨x, rfl, hi, _, rfl, ?_⟩
    have seq : (isT "list" x || isT "tuple" x) = true → ∃ xs, seqD x = some xs ∧ lenD x = some xs.length ∧ shws n xs = true ∧ wts xs + 3 ≤ W ∧ (x = .lst xs ∨ x = .tup xs) := fun h => by
      rw [isT_list, isT_tuple] at h
      cases x with
      | lst xs => exact ⟨xs, rfl, rfl, by simpa only [shw] using hs, by simp only [wt] at hw; omega, .inl rfl⟩
      | tup xs => exact ⟨xs, rfl, rfl, by simpa only [shw] using hs, by simp only [wt] at hw; omega, .inr rfl⟩
      | _ => cases h
    cases hq : (isT "list" x || isT "tuple" x) with
    | false =>
      refine ifB (fun _ => ?_) (fun h => by cases h)
      refine ifB (fun _ => ?_) (fun h => by cases h)
      exact ⟨_, rfl, _, rfl, rfl, rfl, odd _ fun y h1 h2 => ⟨rfl, rfl, p y h1 h2⟩⟩
    | true =>
      obtain ⟨xs, q1, q2, q3, q4, q5⟩ := seq hq
      have xl := wts_len xs
      refine ifB (fun h => by cases h) fun _ => ?_
      (try simp only [List.set_cons_zero, List.set_cons_succ, List.cons_append, List.nil_append, List.replicate_succ, List.replicate_zero, List.length_cons, List.length_nil, Nat.reduceSub, Nat.reduceAdd])
      refine ⟨_, rfl, _, _, rfl, q2, _, rfl, _, rfl, rfl, rfl, _, rfl, ?_⟩
      rw [eqD_int]
      refine ifB (fun _ => ?_) fun h => ?_
      · refine ifB (fun _ => ?_) (fun h => by cases h)
        exact ⟨_, rfl, _, rfl, rfl, rfl, odd _ fun y h1 h2 => ⟨rfl, rfl, p y h1 h2⟩⟩
      have hx0 : 0 < xs.length := by
        have : ¬ ((xs.length : Nat) : Int) = 0 := by simpa using h
        omega
      (try simp only [List.set_cons_zero, List.set_cons_succ, List.cons_append, List.nil_append, List.replicate_succ, List.replicate_zero, List.length_cons, List.length_nil, Nat.reduceSub, Nat.reduceAdd])
      refine ⟨_, rfl, _, rfl, rfl, rfl, _, rfl, by decide, by decide, fun r r0 r1 => ⟨rfl, _, rfl, _, rfl, rfl, rfl, _, rfl, ?_⟩⟩
      refine ifB (fun _ => ?_) fun _ => ?_
      · exact ⟨_, rfl, _, rfl, rfl, rfl, odd _ fun y h1 h2 => ⟨rfl, rfl, p y h1 h2⟩⟩
      (try simp only [List.set_cons_zero, List.set_cons_succ, List.cons_append, List.nil_append, List.replicate_succ, List.replicate_zero, List.length_cons, List.length_nil, Nat.reduceSub, Nat.reduceAdd])
      refine ⟨_, rfl, _, _, rfl, q1, rfl, _, rfl, _, rfl, _, _, rfl, q2, _, rfl, rfl, rfl, _, rfl, by omega, by omega, fun at_ t0 t1 => ⟨rfl, rfl, _, rfl, _, rfl, rfl, rfl, _, rfl, by decide, by decide, fun way w0 w1 => ⟨rfl, rfl, _, _, _, rfl, ⟨Nat.le_of_ble_eq_true rfl, Nat.le_of_ble_eq_true rfl, Nat.le_of_ble_eq_true rfl⟩, ?_⟩⟩⟩
      (try simp only [List.set_cons_zero, List.set_cons_succ, List.cons_append, List.nil_append, List.replicate_succ, List.replicate_zero, List.length_cons, List.length_nil, Nat.reduceSub, Nat.reduceAdd])
      have ht : at_.toNat < xs.length := by omega
      have hget : xs[at_.toNat]? = some xs[at_.toNat] := List.getElem?_eq_getElem ht
      generalize xs[at_.toNat] = xi at hget
      have hxi : xi ∈ xs := List.mem_of_getElem? hget
      have hwi := wts_mem hxi
      have hall : ∀ y ∈ xs, shw n y = true := fun y hy => by rw [shws_all] at q3; exact List.all_eq_true.mp q3 y hy
      refine seq_by (fun ρ => ∃ (ys : List D) (s3 s4 : Sl), ρ = [.src, .d x, .ol ys, s3, s4] ∧ (∀ y ∈ ys, shw (n + 1) y = true) ∧ wts ys + 3 ≤ 2 * W + 200) ?_ ?_
      · rintro ρ ⟨ys, s3, s4, rfl, hy1, hy2⟩
        have fin : P (.d (.lst ys)) ∧ P (.d (.tup ys)) := by
          have h1 : shws (n + 1) ys = true := by rw [shws_all]; exact List.all_eq_true.mpr hy1
          exact ⟨p _ (by simpa only [shw] using h1) (by simp only [wt]; omega), p _ (by simpa only [shw] using h1) (by simp only [wt]; omega)⟩
        refine ⟨x, rfl, hi, _, rfl, ?_⟩
        refine ifB (fun _ => ?_) fun _ => ?_
        · (try simp only [List.set_cons_zero, List.set_cons_succ, List.cons_append, List.nil_append, List.replicate_succ, List.replicate_zero, List.length_cons, List.length_nil, Nat.reduceSub, Nat.reduceAdd])
          refine ⟨_, rfl, _, rfl, rfl, rfl, _, rfl, by decide, by decide, fun r r0 r1 => ⟨rfl, _, rfl, _, rfl, _, rfl, ?_⟩⟩
          exact ifB (fun _ => ⟨rfl, fin.1⟩) fun _ => ⟨_, rfl, _, _, rfl, rfl, rfl, fin.2⟩
        · exact ifB (fun h => by cases h) fun _ => ⟨_, rfl, _, _, rfl, rfl, rfl, fin.2⟩
      · intro R hR
        refine ⟨_, rfl, _, rfl, rfl, rfl, _, rfl, ?_⟩
        refine ifB (fun _ => ?_) fun _ => ?_
        · -- pop
          (try simp only [List.set_cons_zero, List.set_cons_succ, List.cons_append, List.nil_append, List.replicate_succ, List.replicate_zero, List.length_cons, List.length_nil, Nat.reduceSub, Nat.reduceAdd])
          refine ⟨⟨_, rfl⟩, _, rfl, at_, rfl, t0, xs, rfl, by omega, xi, hget, hR _ ⟨_, _, _, rfl, fun y hy => shw_mono _ _ (hall y (List.mem_of_mem_eraseIdx hy)), ?_⟩⟩
          have := wts_erase hget
          omega
        refine ⟨_, rfl, _, rfl, rfl, rfl, _, rfl, ?_⟩
        refine ifB (fun _ => ?_) fun _ => ?_
        · -- insert
          (try simp only [List.set_cons_zero, List.set_cons_succ, List.cons_append, List.nil_append, List.replicate_succ, List.replicate_zero, List.length_cons, List.length_nil, Nat.reduceSub, Nat.reduceAdd])
          refine ⟨⟨_, rfl⟩, _, rfl, ⟨_, rfl⟩, _, rfl, at_, rfl, xs, rfl, xi, ?_, _, rfl, at_, rfl, ⟨t0, by omega⟩, xs, rfl, by omega, hR _ ⟨_, _, _, rfl, fun y hy => shw_mono _ _ ?_, ?_⟩⟩
          · unfold atI ixN
            rw [if_pos t0, if_pos t1]; exact hget
          · simp only [List.append_assoc, List.mem_append, List.mem_cons, List.not_mem_nil, or_false] at hy
            rcases hy with hy | rfl | hy
            · exact hall y (List.mem_of_mem_take hy)
            · exact hall y hxi
            · exact hall y (List.mem_of_mem_drop hy)
          · rw [wts_ins]; omega
        refine ⟨_, rfl, _, rfl, rfl, rfl, _, rfl, ?_⟩
        refine ifB (fun _ => ?_) fun _ => ?_
        · -- insert(.. pop(..))
          (try simp only [List.set_cons_zero, List.set_cons_succ, List.cons_append, List.nil_append, List.replicate_succ, List.replicate_zero, List.length_cons, List.length_nil, Nat.reduceSub, Nat.reduceAdd])
          refine ⟨⟨_, rfl⟩, _, rfl, ⟨_, rfl⟩, _, rfl, xs, rfl, _, rfl, rfl, rfl, _, rfl, by omega, by omega, fun j j0 j1 => ⟨rfl, _, rfl, j, rfl, j0, xs, rfl, by omega, ?_⟩⟩
          have hj : j.toNat < xs.length := by omega
          have hgj : xs[j.toNat]? = some xs[j.toNat] := List.getElem?_eq_getElem hj
          generalize xs[j.toNat] = xj at hgj
          have we := wts_erase hgj
          refine ⟨xj, hgj, _, rfl, at_, rfl, ⟨t0, by omega⟩, _, rfl, by have := List.length_eraseIdx_le xs j.toNat; omega, hR _ ⟨_, _, _, rfl, fun y hy => shw_mono _ _ ?_, ?_⟩⟩
          · simp only [List.append_assoc, List.mem_append, List.mem_cons, List.not_mem_nil, or_false] at hy
            rcases hy with hy | rfl | hy
            · exact hall y (List.mem_of_mem_eraseIdx (List.mem_of_mem_take hy))
            · exact hall y (List.mem_of_getElem? hgj)
            · exact hall y (List.mem_of_mem_eraseIdx (List.mem_of_mem_drop hy))
          · rw [wts_ins]; omega
        · -- one item bent
          (try simp only [List.set_cons_zero, List.set_cons_succ, List.cons_append, List.nil_append, List.replicate_succ, List.replicate_zero, List.length_cons, List.length_nil, Nat.reduceSub, Nat.reduceAdd])
          have hix : atI xs at_ = some xi := by
            unfold atI ixN
            rw [if_pos t0, if_pos t1]; exact hget
          refine ⟨_, rfl, ⟨_, rfl⟩, _, rfl, at_, rfl, xs, rfl, xi, hix, _, rfl, rfl, rfl, xi, wt xi, rfl, hall xi hxi, Nat.le_refl _, by omega, fun y h1 h2 => ⟨rfl, _, rfl, ⟨_, rfl⟩, _, rfl, at_, rfl, t0, xs, rfl, t1, hR _ ⟨_, _, _, rfl, fun z hz => ?_, ?_⟩⟩⟩
          · rcases List.mem_or_eq_of_mem_set hz with hz | rfl
            · exact shw_mono _ _ (hall z hz)
            · exact h1
          · have := wts_set (y := y) hget
            omega
end
end K04
namespace K04
open PySem L2 Fl Sv
section
variable {P : Program} {w : World} {K : PySem.W.Frag} {mg : Str → Option Value} {base : Heap} {a : Ad}
theorem f__law_state (T : Txt K mg a) : FnOk P w K mg base CX0 1 a._law_state a.fd__law_state ["_law_script"] (spState K) := by
  refine T.F__law_state.ok sc__law_state (fun vs H Q E h => ?_) (fun cdv A outer s H vs Q E hr h => ?_)
  · obtain ⟨a1, ns, rfl, _⟩ := h
    rfl
  obtain ⟨a1, ns, rfl, hS, h63, k⟩ := h
  refine ⟨_, (pss_one (ps_ret (pe_lst (pa_cons (pe_orT (pe_lc (own := [("_law_cell_here", 1)]) rfl sc__law_state.nd (pi_list (pe_slice sl_list (pv 0) po_none (po_some pe_int))) (blkOk_by (by rfl)) (fun _ _ _ _ _ => (pg_name (i := 1) sc__law_state.nd rfl (by first | exact .inl rfl | exact .inr rfl))) (fun _ _ _ _ _ => pts_nil) (fun _ _ _ _ _ => (pe_callB call_abs rfl T.z_abs (by decide +kernel) (pa_cons (pv 1) pa_nil))) (by intro _; rfl)) (pe_one (pe_lst (pa_cons pe_int pa_nil)))) (pa_cons pe_int (pa_cons pe_int pa_nil)))))), ?_⟩
  have fin : ∀ (c : Addr) (H1 : Hp) (ms : List Int), H c = none → H1 c = some (.lst (ms.map V.int)) → ms ≠ [] → ms.length ≤ 63 → (∀ b o, H b = some o → H1 b = some o) → 3 ≤ sizeLine ∧ ∀ p, H1 p = none → Q (.ref p) (upd H1 p (.lst [.ref c, .int 0, .int 1])) := fun c H1 ms h1 h2 h3 h4 h5 => ⟨by decide, fun p hp => by
    have ne : c ≠ p := fun e => by rw [e, hp] at h2; cases h2
    have hpn : H p = none := by
      cases e : H p with
      | none => rfl
      | some o => rw [h5 p o e] at hp; cases hp
    exact k p c _ ms hpn h1 ne.symm upd_same (by rw [upd_ne ne]; exact h2) h3 h4 fun b o e => by rw [upd_ne (fun q => by rw [q, hpn] at e; cases e)]; exact h5 b o e⟩
  refine ⟨_, rfl, 63, rfl, a1, ns.map V.int, rfl, hS, fun q hq => ⟨q, rfl, ⟨_, .of upd_same⟩, fun Dl hD => ?_⟩⟩
  have nqD : q ≠ Dl := fun e => by rw [e, upd_same] at hD; cases hD
  have hD0 : H Dl = none := by rw [upd_ne nqD.symm] at hD; exact hD
  have cl := cut_len (ns.map V.int) none (some 63)
  rw [List.length_map] at cl
  refine lc_list (a := q) (xs := cutV (ns.map V.int) none (some 63)) (fun i H' => ∃ ms : List Int, H' Dl = some (.lst (ms.map V.int)) ∧ ms.length = i ∧ H' q = some (.lst (cutV (ns.map V.int) none (some 63))) ∧ ∀ b o, H b = some o → H' b = some o) ?_ (fun i H' _ ⟨ms, _, _, h3, _⟩ => .of h3) ?_ ?_
  · refine ⟨[], upd_same, rfl, by rw [upd_ne nqD, upd_same], fun b o e => ?_⟩
    rw [upd_ne (fun z => by rw [z, hD0] at e; cases e), upd_ne (fun z => by rw [z, hq] at e; cases e)]; exact e
  · rintro i x H' hx ⟨ms, g1, g2, g3, g4⟩
    obtain ⟨z, rfl⟩ := cut_ints hx
    have hi : i < (cutV (ns.map V.int) none (some 63)).length := (List.getElem?_eq_some_iff.mp hx).1
    refine ⟨rfl, _, rfl, z, rfl, ms.map V.int, g1, Nat.lt_of_le_of_lt (show (ms.map V.int).length ≤ 1000 by rw [List.length_map]; omega) (by decide), ms ++ [if z < 0 then -z else z], by rw [upd_same, List.map_append]; rfl, by rw [List.length_append, g2]; rfl, by rw [upd_ne nqD]; exact g3, fun b o e => ?_⟩
    rw [upd_ne (fun y => by rw [y, hD0] at e; cases e)]; exact g4 b o e
  · rintro H' ⟨ms, g1, g2, g3, g4⟩
    refine ⟨!(ms.map V.int).isEmpty, .inl ⟨_, .of g1, rfl⟩, ?_⟩
    cases ms with
    | cons m ms => exact ifB (fun _ => fin Dl H' (m :: ms) hD0 g1 (by simp) (by omega) g4) fun h => by cases h
    | nil =>
      refine ifB (fun h => by cases h) fun _ => ⟨by decide, fun D2 hD2 => ?_⟩
      have hD20 : H D2 = none := by
        cases e : H D2 with
        | none => rfl
        | some o => rw [g4 D2 o e] at hD2; cases hD2
      exact fin D2 _ [1] hD20 upd_same (by simp) (by decide) fun b o e => by rw [upd_ne (fun y => by rw [y, hD20] at e; cases e)]; exact g4 b o e
theorem f__law_bentA (T : Txt K mg a) : FnOk P w K mg base CX0 10 a._law_bent a.fd__law_bent ["_law_draws", "_law_value"] (spD K 2 fun ss P => ∃ n, n ≤ 6 ∧ ftBent n ss P) := by
  constructor
  · exact fun vs H Q E h => spD_len h
  · intro A outer s H args us vs Q E hr e b r h
    obtain ⟨G, src, ss, P', r0, h1, h2, ⟨n, hn, h3⟩, k⟩ := h
    exact (f__law_bent T n).run A outer s H args us vs Q E (hr.mono (by omega)) e b r ⟨G, src, ss, P', r0, h1, h2, h3, k⟩
end
end K04
namespace K04
open PySem L2 Fl Sv
section
variable {P : Program} {w : World} {K : PySem.W.Frag} {mg : Str → Option Value} {base : Heap} {a : Ad}
theorem f_law (T : Txt K mg a) : FnG P w K mg base 21 a.law a.fd_law ["_law_script"] (spLaw K) := by
  refine fnG_of T.F_law sc_law (fun vs H Q E h => ?_) (fun cdv A outer s H vs Q E hg hr h => ?_)
  · obtain ⟨a1, ns, rfl, _⟩ := h
    rfl
  obtain ⟨a1, ns, rfl, hS, h63, nm, kq⟩ := h
  refine ⟨_, (pss_cons (ps_set sc_law.nd (i := 1) rfl (by first | exact .inl rfl | exact .inr rfl) (pe_call (f__law_state T) (hr.mono (by decide)) rfl T.g__law_state T.k__law_state T.b__law_state .nil pass0 (pa_cons (pv 0) pa_nil))) (pss_cons (ps_for PassesOwn.never rfl (pi_range1 rfl T.z_range (pa_cons (pe_op op_add pe_int (pe_callB (call_min2 rfl) rfl T.z_min (by decide +kernel) (pa_cons (pe_callB call_len_seq rfl T.z_len (by decide +kernel) (pa_cons (pv 0) pa_nil)) (pa_cons pe_int pa_nil)))) pa_nil)) (pg_name (i := 2) sc_law.nd rfl (by first | exact .inl rfl | exact .inr rfl)) (dss_cons (ds_set sc_law.nd (i := 3) rfl (by first | exact .inl rfl | exact .inr rfl) (pd_call (f__law_parts T) (hr.mono (by decide)) rfl T.g__law_parts T.k__law_parts T.b__law_parts (dab_arg (pd_var 1) (dab_arg pd_int dab_nil)))) (dss_cons (ds_set sc_law.nd (i := 4) rfl (by first | exact .inl rfl | exact .inr rfl) (pd_call (f__law_base T) (hr.mono (by decide)) rfl T.g__law_base T.k__law_base T.b__law_base (dab_arg (pd_var 3) dab_nil))) (dss_cons (ds_asg (pd_var 3) (pg_tup rfl (pgs_cons (pg_name (i := 5) sc_law.nd rfl (by first | exact .inl rfl | exact .inr rfl)) (pgs_cons (pg_name (i := 6) sc_law.nd rfl (by first | exact .inl rfl | exact .inr rfl)) (pgs_cons (pg_name (i := 7) sc_law.nd rfl (by first | exact .inl rfl | exact .inr rfl)) (pgs_cons (pg_name (i := 8) sc_law.nd rfl (by first | exact .inl rfl | exact .inr rfl)) (pgs_cons (pg_name (i := 9) sc_law.nd rfl (by first | exact .inl rfl | exact .inr rfl)) pgs_nil)))))) (tgt_tup (tgts_cons (tgt_name 5) (tgts_cons (tgt_name 6) (tgts_cons (tgt_name 7) (tgts_cons (tgt_name 8) (tgts_cons (tgt_name 9) tgts_nil))))))) (dss_one (ds_for PassesOwn.never rfl (di_range rfl T.z_range (pda_cons pd_int pda_nil)) (pg_name (i := 10) sc_law.nd rfl (by first | exact .inl rfl | exact .inr rfl)) (tgt_name 10) (dss_cons (ds_set sc_law.nd (i := 11) rfl (by first | exact .inl rfl | exact .inr rfl) (pd_tup (pda_cons (pd_call (f__law_pick T) (hr.mono (by decide)) rfl T.g__law_pick T.k__law_pick T.b__law_pick (dab_arg (pd_var 1) (dab_arg (pd_var 5) dab_nil))) (pda_cons (pd_call (f__law_draw T) (hr.mono (by decide)) rfl T.g__law_draw T.k__law_draw T.b__law_draw (dab_arg (pd_var 1) (dab_arg (pd_var 6) dab_nil))) (pda_cons (pd_call (f__law_draw T) (hr.mono (by decide)) rfl T.g__law_draw T.k__law_draw T.b__law_draw (dab_arg (pd_var 1) (dab_arg (pd_var 7) dab_nil))) (pda_cons pd_str pda_nil)))))) (dss_cons (ds_for PassesOwn.never rfl (di_range rfl T.z_range (pda_cons (pd_call (f__law_draw T) (hr.mono (by decide)) rfl T.g__law_draw T.k__law_draw T.b__law_draw (dab_arg (pd_var 1) (dab_arg pd_int dab_nil))) pda_nil)) (pg_name (i := 12) sc_law.nd rfl (by first | exact .inl rfl | exact .inr rfl)) (tgt_name 12) (dss_one (ds_set sc_law.nd (i := 11) rfl (by first | exact .inl rfl | exact .inr rfl) (pd_call (f__law_bentA T) (hr.mono (by decide)) rfl T.g__law_bent T.k__law_bent T.b__law_bent (dab_arg (pd_var 1) (dab_arg (pd_var 11) dab_nil)))))) (dss_cons (ds_par (i := 13) (j := 14) rfl sc_law.nd rfl rfl (by decide) rfl rfl (dab_cons (pd_call (f__law_is_entry T) (hr.mono (by decide)) rfl T.g__law_is_entry T.k__law_is_entry T.b__law_is_entry (dab_arg (pd_var 3) (dab_arg (pd_var 11) dab_nil))) (dab_cons (pd_callB (cd_repr hr hg) rfl T.z_repr (by decide +kernel) (pda_cons (pd_var 11) pda_nil)) dab_nil))) (dss_cons (ds_if (pt_cmpD (od_ne hr) (pd_callB (cd_repr hr hg) rfl T.z_repr (by decide +kernel) (pda_cons (pd_lst (pda_cons (pd_meth T.c_World T.me_World_is_entry (f_World_is_entry T) (hr.mono (by decide)) T.b_World_is_entry (pd_var 4) (dab_arg (pd_var 11) dab_nil)) (pda_cons (pd_methK T.c_World T.me_World_is_entry (f_World_is_entry T) (hr.mono (by decide)) T.kb_World_is_entry (pd_var 4) (dkb_arg (pd_var 11) dkb_nil) rfl) pda_nil))) pda_nil)) (pd_callB (cd_repr hr hg) rfl T.z_repr (by decide +kernel) (pda_cons (pd_lst (pda_cons (pd_var 13) (pda_cons (pd_var 13) pda_nil))) pda_nil))) (dss_one (ds_ret pd_bl)) dss_nil) (dss_cons (ds_if (pt_cmpD (od_ne hr) (pd_callB (cd_repr hr hg) rfl T.z_repr (by decide +kernel) (pda_cons (pd_var 11) pda_nil)) (pd_var 14)) (dss_one (ds_ret pd_bl)) dss_nil) (dss_one (ds_for PassesOwn.never rfl (di_list (pd_lst (pda_cons (pd_call (f__law_string T) (hr.mono (by decide)) rfl T.g__law_string T.k__law_string T.b__law_string (dab_arg (pd_var 1) dab_nil)) (pda_cons (pd_call (f__law_odd T) (hr.mono (by decide)) rfl T.g__law_odd T.k__law_odd T.b__law_odd (dab_arg (pd_var 1) (dab_arg pd_str dab_nil))) (pda_cons (pd_var 11) pda_nil))))) (pg_name (i := 15) sc_law.nd rfl (by first | exact .inl rfl | exact .inr rfl)) (tgt_name 15) (dss_cons (ds_set sc_law.nd (i := 13) rfl (by first | exact .inl rfl | exact .inr rfl) (pd_call (f__law_is_name T) (hr.mono (by decide)) rfl T.g__law_is_name T.k__law_is_name T.b__law_is_name (dab_arg (pd_var 15) dab_nil))) (dss_one (ds_if (pt_cmpD (od_ne hr) (pd_callB (cd_repr hr hg) rfl T.z_repr (by decide +kernel) (pda_cons (pd_lst (pda_cons (pd_call (f_is_name T) (hr.mono (by decide)) rfl T.g_is_name T.k_is_name T.b_is_name (dab_arg (pd_var 15) dab_nil)) (pda_cons (pd_callK0 (f_is_name T) (hr.mono (by decide)) rfl T.g_is_name T.k_is_name T.kb_is_name (dkb_arg (pd_var 15) dkb_nil) rfl) pda_nil))) pda_nil)) (pd_callB (cd_repr hr hg) rfl T.z_repr (by decide +kernel) (pda_cons (pd_lst (pda_cons (pd_var 13) (pda_cons (pd_var 13) pda_nil))) pda_nil))) (dss_one (ds_ret pd_bl)) dss_nil)))))))))))))))) (pss_one (ps_ret pe_bl)))), ?_⟩
  refine ⟨_, rfl, a1, ns, rfl, hS, h63, fun p c H' ms hp hc hne e1 e2 e3 e4 hk => ?_⟩
  refine ⟨_, rfl, a1, ns.map V.int, rfl, .inl (sqL_keep hS hk), _, _, rfl, 3, _, rfl, rfl, _, rfl, ?_, ?_, ?_⟩
  · split <;> omega
  · split <;> omega
  have r0 := R.begin (K := K) (v := some (.ref a1)) (H := H') ⟨0, 1, ms, e1, e2, e3, e4⟩ (nm.imp fun _ e => hk _ _ e) 14
  refine loopR r0 (fun ρ => ∃ s0 s2 s3 s4 s5 s6 s7 s8 s9 s10 s11 s12 s13 s14 s15, ρ = [s0, .src, s2, s3, s4, s5, s6, s7, s8, s9, s10, s11, s12, s13, s14, s15]) ⟨_, _, _, _, _, _, _, _, _, _, _, _, _, _, _, rfl⟩ ?_ fun G' H1 σ' ρ' _ _ _ => kq H1
  rintro x ρ ⟨s0, s2, s3, s4, s5, s6, s7, s8, s9, s10, s11, s12, s13, s14, s15, rfl⟩
  refine ⟨Nat.le_of_ble_eq_true rfl, ?_⟩
  (try simp only [List.set_cons_zero, List.set_cons_succ, List.cons_append, List.nil_append, List.replicate_succ, List.replicate_zero, List.length_cons, List.length_nil, Nat.reduceSub, Nat.reduceAdd])
  refine ⟨_, rfl, _, rfl, rfl, rfl, 3, rfl, by decide, by decide, fun q ok => ⟨rfl, Nat.le_of_ble_eq_true rfl, ?_⟩⟩
  (try simp only [List.set_cons_zero, List.set_cons_succ, List.cons_append, List.nil_append, List.replicate_succ, List.replicate_zero, List.length_cons, List.length_nil, Nat.reduceSub, Nat.reduceAdd])
  refine ⟨_, rfl, rfl, rfl, q, rfl, ok, rfl, Nat.le_of_ble_eq_true rfl, ?_⟩
  (try simp only [List.set_cons_zero, List.set_cons_succ, List.cons_append, List.nil_append, List.replicate_succ, List.replicate_zero, List.length_cons, List.length_nil, Nat.reduceSub, Nat.reduceAdd])
  refine ⟨_, rfl, rfl, Nat.le_of_ble_eq_true rfl, Nat.le_of_ble_eq_true rfl, Nat.le_of_ble_eq_true rfl, Nat.le_of_ble_eq_true rfl, Nat.le_of_ble_eq_true rfl, ?_⟩
  (try simp only [List.set_cons_zero, List.set_cons_succ, List.cons_append, List.nil_append, List.replicate_succ, List.replicate_zero, List.length_cons, List.length_nil, Nat.reduceSub, Nat.reduceAdd])
  refine ⟨_, rfl, 10, rfl, ⟨by decide, by decide⟩, ?_⟩
  have p1 := ok.p1
  have p4 := ok.p4
  have f1 := ok.f1
  have f4 := ok.f4
  have l1 := ok.l.lo
  have l3 := ok.l.hi
  refine loopS_same (fun ρ => ∃ s0 s2 s4 s10 s11 s12 s13 s14 s15, ρ = [s0, .src, s2, .d q.d, s4, .d q.lsD, .d (.int q.p), .d (.int q.f), .d q.grid, .d q.rules, s10, s11, s12, s13, s14, s15] ∧ s4.dat = some (Parts.obj a.World q)) ⟨_, _, _, _, _, _, _, _, _, rfl, rfl⟩ ?_ fun ρ ⟨s0, s2, s4, s10, s11, s12, s13, s14, s15, e, _⟩ => ⟨_, _, _, _, _, _, _, _, _, _, _, _, _, _, _, e⟩
  rintro x _ ρ ⟨s0, s2, s4, s10, s11, s12, s13, s14, s15, rfl, h4⟩ Nx k
  refine ⟨Nat.le_of_ble_eq_true rfl, ?_⟩
  (try simp only [List.set_cons_zero, List.set_cons_succ, List.cons_append, List.nil_append, List.replicate_succ, List.replicate_zero, List.length_cons, List.length_nil, Nat.reduceSub, Nat.reduceAdd])
  refine ⟨_, rfl, _, rfl, rfl, rfl, _, _, rfl, .inr (.inl rfl), ?_, ?_, fun l hl => ⟨rfl, _, rfl, _, rfl, _, rfl, rfl, rfl, _, rfl, by omega, by omega, fun i i0 i1 => ⟨rfl, _, rfl, _, rfl, _, rfl, rfl, rfl, _, rfl, by omega, by omega, fun j j0 j1 => ⟨rfl, _, rfl, _, rfl, Nat.le_of_ble_eq_true rfl, Nat.le_of_ble_eq_true rfl, ?_⟩⟩⟩⟩
  · intro e
    have := congrArg List.length e
    rw [List.length_map, List.length_nil] at this
    omega
  · rw [List.length_map]; omega
  obtain ⟨s, hs, rfl⟩ := List.mem_map.mp hl
  obtain ⟨v1, v2⟩ := val_ok (ok.l.nm s hs) i0 i1 (by omega) j0 j1 f4
  (try simp only [List.set_cons_zero, List.set_cons_succ, List.cons_append, List.nil_append, List.replicate_succ, List.replicate_zero, List.length_cons, List.length_nil, Nat.reduceSub, Nat.reduceAdd])
  -- the value is bent a few times
  refine ⟨_, rfl, _, rfl, rfl, rfl, _, rfl, by decide, by decide, fun m m0 m1 => ⟨rfl, _, rfl, m, rfl, ⟨by omega, by omega⟩, ?_⟩⟩
  refine loopS_inv (fun pre ρ => ∃ s12 y, ρ = [s0, .src, s2, .d q.d, s4, .d q.lsD, .d (.int q.p), .d (.int q.f), .d q.grid, .d q.rules, .d x, .d y, s12, s13, s14, s15] ∧ shw (1 + pre.length) y = true ∧ wt y ≤ Wk pre.length) _ [] _ ⟨_, _, rfl, v1, v2⟩ ?_ ?_
  · rintro pre x' qq ρ e ⟨s12, y, rfl, y1, y2⟩ Nx2 k2
    have hpl : pre.length ≤ 2 := by
      have := congrArg List.length e
      rw [List.nil_append, upto_len, List.length_append, List.length_cons] at this
      omega
    have hW : Wk pre.length ≤ 3000 := Wk_le (by omega)
    refine ⟨Nat.le_of_ble_eq_true rfl, ?_⟩
    (try simp only [List.set_cons_zero, List.set_cons_succ, List.cons_append, List.nil_append, List.replicate_succ, List.replicate_zero, List.length_cons, List.length_nil, Nat.reduceSub, Nat.reduceAdd])
    refine ⟨_, rfl, _, rfl, rfl, rfl, 1 + pre.length, by omega, y, Wk pre.length, rfl, y1, y2, by omega, fun z h1 h2 => ⟨rfl, Nat.le_of_ble_eq_true rfl, k2 _ ⟨_, z, rfl, ?_, ?_⟩⟩⟩
    · rw [List.length_append]; exact h1
    · rw [List.length_append]; exact h2
  rintro ρ ⟨s12, y, rfl, y1, y2⟩
  rw [List.nil_append, upto_len] at y1 y2
  have hy : shw 60 y = true := shw_le y1 (by omega)
  have hw : wt y ≤ 3000 := Nat.le_trans y2 (Wk_le (by omega))
  have hfl := shw_flat hy
  have hne : ∀ z : Str, (!eqD (.str z) (.str z)) = false := fun z => by rw [eqD_str]; simp
  refine ⟨_, rfl, _, rfl, rfl, rfl, q, y, rfl, hfl, rfl, rfl, _, rfl, y, rfl, hy, by omega, rfl, _, _, rfl, ⟨Nat.le_of_ble_eq_true rfl, Nat.le_of_ble_eq_true rfl⟩, ?_⟩
  (try simp only [List.set_cons_zero, List.set_cons_succ, List.cons_append, List.nil_append, List.replicate_succ, List.replicate_zero, List.length_cons, List.length_nil, Nat.reduceSub, Nat.reduceAdd])
  have h5 : s4 = .d (Parts.obj a.World q) ∨ s4 = .oi a.World fldN q.flds := by
    cases s4 with
    | d x => cases h4; exact .inl rfl
    | oi C ns vs => cases h4; exact .inr rfl
    | _ => cases h4
  rcases h5 with rfl | rfl
  all_goals
    refine ⟨_, rfl, ⟨_, _, insOf_self _ _ _, flds_no q (by decide +kernel)⟩, _, rfl, rfl, rfl, q, y, rfl, hfl, rfl, _, rfl, ?_⟩
    (try simp only [List.set_cons_zero, List.set_cons_succ, List.cons_append, List.nil_append, List.replicate_succ, List.replicate_zero, List.length_cons, List.length_nil, Nat.reduceSub, Nat.reduceAdd])
    refine ⟨_, rfl, ⟨_, _, insOf_self _ _ _, flds_no q (by decide +kernel)⟩, _, rfl, rfl, rfl, q, y, rfl, hfl, rfl, _, rfl, Nat.le_of_ble_eq_true rfl, _, rfl, _, rfl, (two_ok _).1, (two_ok _).2, _, rfl, ?_⟩
    (try simp only [List.set_cons_zero, List.set_cons_succ, List.cons_append, List.nil_append, List.replicate_succ, List.replicate_zero, List.length_cons, List.length_nil, Nat.reduceSub, Nat.reduceAdd])
    refine ⟨_, rfl, _, rfl, Nat.le_of_ble_eq_true rfl, _, rfl, _, rfl, (two_ok _).1, (two_ok _).2, _, rfl, rfl, rfl, _, rfl, ?_⟩
    rw [hne]
    refine ifB (fun h => by cases h) fun _ => ?_
    (try simp only [List.set_cons_zero, List.set_cons_succ, List.cons_append, List.nil_append, List.replicate_succ, List.replicate_zero, List.length_cons, List.length_nil, Nat.reduceSub, Nat.reduceAdd])
    refine ⟨_, rfl, y, rfl, hy, by omega, _, rfl, _, rfl, rfl, rfl, _, rfl, ?_⟩
    rw [hne]
    refine ifB (fun h => by cases h) fun _ => ?_
    (try simp only [List.set_cons_zero, List.set_cons_succ, List.cons_append, List.nil_append, List.replicate_succ, List.replicate_zero, List.length_cons, List.length_nil, Nat.reduceSub, Nat.reduceAdd])
    refine ⟨_, rfl, rfl, rfl, rfl, fun w1 hw1 hl1 => ⟨rfl, _, rfl, _, rfl, _, rfl, rfl, rfl, _, 0, 12, rfl, by simp only [shw]; decide +kernel, by simp only [wt]; decide +kernel, by decide, fun w2 h21 h22 => ⟨rfl, _, rfl, _, rfl, Nat.le_of_ble_eq_true rfl, _, rfl, ?_⟩⟩⟩
    (try simp only [List.set_cons_zero, List.set_cons_succ, List.cons_append, List.nil_append, List.replicate_succ, List.replicate_zero, List.length_cons, List.length_nil, Nat.reduceSub, Nat.reduceAdd])
    refine loopS_same (fun ρ => ∃ s0 s2 s4 s10 s11 s12 s13 s14 s15, ρ = [s0, .src, s2, .d q.d, s4, .d q.lsD, .d (.int q.p), .d (.int q.f), .d q.grid, .d q.rules, s10, s11, s12, s13, s14, s15] ∧ s4.dat = some (Parts.obj a.World q)) ⟨_, _, _, _, _, _, _, _, _, rfl, rfl⟩ ?_ fun ρ h => k ρ h
    rintro x hx ρ ⟨s0, s2, s4, s10, s11, s12, s13, s14, s15, rfl, h4⟩ Nx3 k3
    have hi : isIns x = false := by
      simp only [List.mem_cons, List.not_mem_nil, or_false] at hx
      rcases hx with rfl | rfl | rfl
      · rfl
      · exact shw_ins h21
      · exact shw_ins hy
    refine ⟨Nat.le_of_ble_eq_true rfl, ?_⟩
    (try simp only [List.set_cons_zero, List.set_cons_succ, List.cons_append, List.nil_append, List.replicate_succ, List.replicate_zero, List.length_cons, List.length_nil, Nat.reduceSub, Nat.reduceAdd])
    refine ⟨_, rfl, rfl, rfl, x, rfl, hi, rfl, Nat.le_of_ble_eq_true rfl, ?_⟩
    (try simp only [List.set_cons_zero, List.set_cons_succ, List.cons_append, List.nil_append, List.replicate_succ, List.replicate_zero, List.length_cons, List.length_nil, Nat.reduceSub, Nat.reduceAdd])
    refine ⟨_, rfl, rfl, rfl, x, rfl, hi, rfl, _, rfl, ?_⟩
    (try simp only [List.set_cons_zero, List.set_cons_succ, List.cons_append, List.nil_append, List.replicate_succ, List.replicate_zero, List.length_cons, List.length_nil, Nat.reduceSub, Nat.reduceAdd])
    refine ⟨_, rfl, rfl, rfl, x, rfl, hi, rfl, _, rfl, Nat.le_of_ble_eq_true rfl, _, rfl, _, rfl, (two_ok _).1, (two_ok _).2, _, rfl, ?_⟩
    (try simp only [List.set_cons_zero, List.set_cons_succ, List.cons_append, List.nil_append, List.replicate_succ, List.replicate_zero, List.length_cons, List.length_nil, Nat.reduceSub, Nat.reduceAdd])
    refine ⟨_, rfl, _, rfl, Nat.le_of_ble_eq_true rfl, _, rfl, _, rfl, (two_ok _).1, (two_ok _).2, _, rfl, rfl, rfl, _, rfl, ?_⟩
    rw [hne]
    refine ifB (fun h => by cases h) fun _ => ?_
    (try simp only [List.set_cons_zero, List.set_cons_succ, List.cons_append, List.nil_append, List.replicate_succ, List.replicate_zero, List.length_cons, List.length_nil, Nat.reduceSub, Nat.reduceAdd])
    exact k3 _ ⟨_, _, _, _, _, _, _, _, _, rfl, h4⟩
end
end K04
namespace K04
open PySem L2 Fl Sv
theorem vals_app : ∀ {vs zs : List V} {us ws : List Value}, Vals vs us → Vals zs ws → Vals (vs ++ zs) (us ++ ws)
  | _, _, _, _, .nil, r => r
  | _, _, _, _, .cons a t, r => .cons a (vals_app t r)
theorem all_mk {P : Program} {w : World} {K : PySem.W.Frag} {h : Heap} {mg : Str → Option Value} {fa C_World f0 f1 f2 f3 f4 f5 f6 f7 f8 f9 f10 f11 f12 f13 f14 f15 f16 f17 f18 f19 f20 f21 f22 f23 f24 f25 f26 rRIGHTS : Addr} {oc0 kV0 dc0 pm0 cd0 ct0 oc1 kV1 dc1 pm1 cd1 ct1 oc2 kV2 dc2 pm2 cd2 ct2 oc3 kV3 dc3 pm3 cd3 ct3 oc4 kV4 dc4 pm4 cd4 ct4 oc5 kV5 dc5 pm5 cd5 ct5 oc6 kV6 dc6 pm6 cd6 ct6 oc7 kV7 dc7 pm7 cd7 ct7 oc8 kV8 dc8 pm8 cd8 ct8 oc9 kV9 dc9 pm9 cd9 ct9 oc10 kV10 dc10 pm10 cd10 ct10 oc11 kV11 dc11 pm11 cd11 ct11 oc12 kV12 dc12 pm12 cd12 ct12 oc13 kV13 dc13 pm13 cd13 ct13 oc14 kV14 dc14 pm14 cd14 ct14 oc15 kV15 dc15 pm15 cd15 ct15 oc16 kV16 dc16 pm16 cd16 ct16 oc17 kV17 dc17 pm17 cd17 ct17 oc18 kV18 dc18 pm18 cd18 ct18 oc19 kV19 dc19 pm19 cd19 ct19 oc20 kV20 dc20 pm20 cd20 ct20 oc21 kV21 dc21 pm21 cd21 ct21 oc22 kV22 dc22 pm22 cd22 ct22 oc23 kV23 dc23 pm23 cd23 ct23 oc24 kV24 dc24 pm24 cd24 ct24 oc25 kV25 dc25 pm25 cd25 ct25 oc26 kV26 dc26 pm26 cd26 ct26 : Value} {od0 an0 od1 an1 od2 an2 od3 an3 od4 an4 od5 an5 od6 an6 od7 an7 od8 an8 od9 an9 od10 an10 od11 an11 od12 an12 od13 an13 od14 an14 od15 an15 od16 an16 od17 an17 od18 an18 od19 an19 od20 an20 od21 an21 od22 an22 od23 an23 od24 an24 od25 an25 od26 an26 odRIGHTS : Option Addr} {sl0 sl1 sl2 sl3 sl4 sl5 sl6 sl7 sl8 sl9 sl10 sl11 sl12 sl13 sl14 sl15 sl16 sl17 sl18 sl19 sl20 sl21 sl22 sl23 sl24 sl25 sl26 slRIGHTS : Array (Option Value)} {tLETTERS tMOST_LETTERS tMOST_SPACES tMOST_PAGES tMOST_FRAMES tRIGHTS0 tRIGHTS1 : Tok} {nRIGHTS : Nat} (X : K.In h) (G : h.Ns mainGlobals mg) (hfa : mg "law" = some (.ref fa))
    (aCWorld : PySem.W.nsIn K mainGlobals "World" = some (some (.ref C_World)))
    (pgWorld : PySem.W.plainGet K C_World Str.empty = true)
    (hdWorld : PySem.W.hasDictIn K C_World = true)
    (poWorld : PySem.W.plainOver K C_World = true)
    (saWorld : PySem.W.findIn K (.ref C_World) "__setattr__" = some (some (.builtin "object.__setattr__")))
    (mkWorld : PySem.W.makesIn K C_World = true)
    (kcWorld : PySem.W.keepIn K (.ref C_World) = true)
    (nfown_spaces : PySem.W.findIn K (.ref C_World) "own_spaces" = some none)
    (nfown_pages : PySem.W.findIn K (.ref C_World) "own_pages" = some none)
    (nfown_frames : PySem.W.findIn K (.ref C_World) "own_frames" = some none)
    (nfown_tables : PySem.W.findIn K (.ref C_World) "own_tables" = some none)
    (nfown_rules : PySem.W.findIn K (.ref C_World) "own_rules" = some none)
    (a0 : PySem.W.nsIn K mainGlobals "is_name" = some (some (.ref f0)))
    (l0 : K.lookup f0 = some ⟨oc0, od0, .func (PySem.W.fnOf "is_name" "is_name" (defArgs s_is_name) (defBody s_is_name) (defScope s_is_name) .none kV0 dc0 pm0 an0 cd0 ct0), sl0⟩)
    (c0 : PySem.W.codeIn K cd0 "is_name" = true)
    (k0 : PySem.W.keepIn K (.ref f0) = true)
    (a1 : PySem.W.nsIn K mainGlobals "is_integer" = some (some (.ref f1)))
    (l1 : K.lookup f1 = some ⟨oc1, od1, .func (PySem.W.fnOf "is_integer" "is_integer" (defArgs s_is_integer) (defBody s_is_integer) (defScope s_is_integer) .none kV1 dc1 pm1 an1 cd1 ct1), sl1⟩)
    (c1 : PySem.W.codeIn K cd1 "is_integer" = true)
    (k1 : PySem.W.keepIn K (.ref f1) = true)
    (a2 : PySem.W.nsIn K mainGlobals "is_index" = some (some (.ref f2)))
    (l2 : K.lookup f2 = some ⟨oc2, od2, .func (PySem.W.fnOf "is_index" "is_index" (defArgs s_is_index) (defBody s_is_index) (defScope s_is_index) .none kV2 dc2 pm2 an2 cd2 ct2), sl2⟩)
    (c2 : PySem.W.codeIn K cd2 "is_index" = true)
    (k2 : PySem.W.keepIn K (.ref f2) = true)
    (a3 : PySem.W.nsIn K mainGlobals "is_word" = some (some (.ref f3)))
    (l3 : K.lookup f3 = some ⟨oc3, od3, .func (PySem.W.fnOf "is_word" "is_word" (defArgs s_is_word) (defBody s_is_word) (defScope s_is_word) .none kV3 dc3 pm3 an3 cd3 ct3), sl3⟩)
    (c3 : PySem.W.codeIn K cd3 "is_word" = true)
    (k3 : PySem.W.keepIn K (.ref f3) = true)
    (a4 : PySem.W.nsIn K mainGlobals "are_spaces" = some (some (.ref f4)))
    (l4 : K.lookup f4 = some ⟨oc4, od4, .func (PySem.W.fnOf "are_spaces" "are_spaces" (defArgs s_are_spaces) (defBody s_are_spaces) (defScope s_are_spaces) .none kV4 dc4 pm4 an4 cd4 ct4), sl4⟩)
    (c4 : PySem.W.codeIn K cd4 "are_spaces" = true)
    (k4 : PySem.W.keepIn K (.ref f4) = true)
    (a5 : PySem.W.nsIn K mainGlobals "is_filled" = some (some (.ref f5)))
    (l5 : K.lookup f5 = some ⟨oc5, od5, .func (PySem.W.fnOf "is_filled" "is_filled" (defArgs s_is_filled) (defBody s_is_filled) (defScope s_is_filled) .none kV5 dc5 pm5 an5 cd5 ct5), sl5⟩)
    (c5 : PySem.W.codeIn K cd5 "is_filled" = true)
    (k5 : PySem.W.keepIn K (.ref f5) = true)
    (a6 : PySem.W.nsIn K mainGlobals "is_table" = some (some (.ref f6)))
    (l6 : K.lookup f6 = some ⟨oc6, od6, .func (PySem.W.fnOf "is_table" "is_table" (defArgs s_is_table) (defBody s_is_table) (defScope s_is_table) .none kV6 dc6 pm6 an6 cd6 ct6), sl6⟩)
    (c6 : PySem.W.codeIn K cd6 "is_table" = true)
    (k6 : PySem.W.keepIn K (.ref f6) = true)
    (a7 : PySem.W.nsIn K mainGlobals "are_tables" = some (some (.ref f7)))
    (l7 : K.lookup f7 = some ⟨oc7, od7, .func (PySem.W.fnOf "are_tables" "are_tables" (defArgs s_are_tables) (defBody s_are_tables) (defScope s_are_tables) .none kV7 dc7 pm7 an7 cd7 ct7), sl7⟩)
    (c7 : PySem.W.codeIn K cd7 "are_tables" = true)
    (k7 : PySem.W.keepIn K (.ref f7) = true)
    (a8 : PySem.W.findIn K (.ref C_World) "__init__" = some (some (.ref f8)))
    (i8 : PySem.W.isFn K (.ref f8) = true)
    (l8 : K.lookup f8 = some ⟨oc8, od8, .func (PySem.W.fnOf "__init__" "World.__init__" (defArgs s_World_init) (defBody s_World_init) (defScope s_World_init) .none kV8 dc8 pm8 an8 cd8 ct8), sl8⟩)
    (c8 : PySem.W.codeIn K cd8 "World.__init__" = true)
    (k8 : PySem.W.keepIn K (.ref f8) = true)
    (a9 : PySem.W.findIn K (.ref C_World) "is_page" = some (some (.ref f9)))
    (i9 : PySem.W.isFn K (.ref f9) = true)
    (l9 : K.lookup f9 = some ⟨oc9, od9, .func (PySem.W.fnOf "is_page" "World.is_page" (defArgs s_World_is_page) (defBody s_World_is_page) (defScope s_World_is_page) .none kV9 dc9 pm9 an9 cd9 ct9), sl9⟩)
    (c9 : PySem.W.codeIn K cd9 "World.is_page" = true)
    (k9 : PySem.W.keepIn K (.ref f9) = true)
    (a10 : PySem.W.findIn K (.ref C_World) "is_entry" = some (some (.ref f10)))
    (i10 : PySem.W.isFn K (.ref f10) = true)
    (l10 : K.lookup f10 = some ⟨oc10, od10, .func (PySem.W.fnOf "is_entry" "World.is_entry" (defArgs s_World_is_entry) (defBody s_World_is_entry) (defScope s_World_is_entry) .none kV10 dc10 pm10 an10 cd10 ct10), sl10⟩)
    (c10 : PySem.W.codeIn K cd10 "World.is_entry" = true)
    (k10 : PySem.W.keepIn K (.ref f10) = true)
    (a11 : PySem.W.nsIn K mainGlobals "_law_state" = some (some (.ref f11)))
    (l11 : K.lookup f11 = some ⟨oc11, od11, .func (PySem.W.fnOf "_law_state" "_law_state" (defArgs s__law_state) (defBody s__law_state) (defScope s__law_state) .none kV11 dc11 pm11 an11 cd11 ct11), sl11⟩)
    (c11 : PySem.W.codeIn K cd11 "_law_state" = true)
    (k11 : PySem.W.keepIn K (.ref f11) = true)
    (a12 : PySem.W.nsIn K mainGlobals "_law_draw" = some (some (.ref f12)))
    (l12 : K.lookup f12 = some ⟨oc12, od12, .func (PySem.W.fnOf "_law_draw" "_law_draw" (defArgs s__law_draw) (defBody s__law_draw) (defScope s__law_draw) .none kV12 dc12 pm12 an12 cd12 ct12), sl12⟩)
    (c12 : PySem.W.codeIn K cd12 "_law_draw" = true)
    (k12 : PySem.W.keepIn K (.ref f12) = true)
    (a13 : PySem.W.nsIn K mainGlobals "_law_pick" = some (some (.ref f13)))
    (l13 : K.lookup f13 = some ⟨oc13, od13, .func (PySem.W.fnOf "_law_pick" "_law_pick" (defArgs s__law_pick) (defBody s__law_pick) (defScope s__law_pick) .none kV13 dc13 pm13 an13 cd13 ct13), sl13⟩)
    (c13 : PySem.W.codeIn K cd13 "_law_pick" = true)
    (k13 : PySem.W.keepIn K (.ref f13) = true)
    (a14 : PySem.W.nsIn K mainGlobals "_law_shuffled" = some (some (.ref f14)))
    (l14 : K.lookup f14 = some ⟨oc14, od14, .func (PySem.W.fnOf "_law_shuffled" "_law_shuffled" (defArgs s__law_shuffled) (defBody s__law_shuffled) (defScope s__law_shuffled) .none kV14 dc14 pm14 an14 cd14 ct14), sl14⟩)
    (c14 : PySem.W.codeIn K cd14 "_law_shuffled" = true)
    (k14 : PySem.W.keepIn K (.ref f14) = true)
    (a15 : PySem.W.nsIn K mainGlobals "_law_labels" = some (some (.ref f15)))
    (l15 : K.lookup f15 = some ⟨oc15, od15, .func (PySem.W.fnOf "_law_labels" "_law_labels" (defArgs s__law_labels) (defBody s__law_labels) (defScope s__law_labels) .none kV15 dc15 pm15 an15 cd15 ct15), sl15⟩)
    (c15 : PySem.W.codeIn K cd15 "_law_labels" = true)
    (k15 : PySem.W.keepIn K (.ref f15) = true)
    (a16 : PySem.W.nsIn K mainGlobals "_law_cell" = some (some (.ref f16)))
    (l16 : K.lookup f16 = some ⟨oc16, od16, .func (PySem.W.fnOf "_law_cell" "_law_cell" (defArgs s__law_cell) (defBody s__law_cell) (defScope s__law_cell) .none kV16 dc16 pm16 an16 cd16 ct16), sl16⟩)
    (c16 : PySem.W.codeIn K cd16 "_law_cell" = true)
    (k16 : PySem.W.keepIn K (.ref f16) = true)
    (a17 : PySem.W.nsIn K mainGlobals "_law_parts" = some (some (.ref f17)))
    (l17 : K.lookup f17 = some ⟨oc17, od17, .func (PySem.W.fnOf "_law_parts" "_law_parts" (defArgs s__law_parts) (defBody s__law_parts) (defScope s__law_parts) .none kV17 dc17 pm17 an17 cd17 ct17), sl17⟩)
    (c17 : PySem.W.codeIn K cd17 "_law_parts" = true)
    (k17 : PySem.W.keepIn K (.ref f17) = true)
    (a18 : PySem.W.nsIn K mainGlobals "_law_base" = some (some (.ref f18)))
    (l18 : K.lookup f18 = some ⟨oc18, od18, .func (PySem.W.fnOf "_law_base" "_law_base" (defArgs s__law_base) (defBody s__law_base) (defScope s__law_base) .none kV18 dc18 pm18 an18 cd18 ct18), sl18⟩)
    (c18 : PySem.W.codeIn K cd18 "_law_base" = true)
    (k18 : PySem.W.keepIn K (.ref f18) = true)
    (a19 : PySem.W.nsIn K mainGlobals "_law_is_word" = some (some (.ref f19)))
    (l19 : K.lookup f19 = some ⟨oc19, od19, .func (PySem.W.fnOf "_law_is_word" "_law_is_word" (defArgs s__law_is_word) (defBody s__law_is_word) (defScope s__law_is_word) .none kV19 dc19 pm19 an19 cd19 ct19), sl19⟩)
    (c19 : PySem.W.codeIn K cd19 "_law_is_word" = true)
    (k19 : PySem.W.keepIn K (.ref f19) = true)
    (a20 : PySem.W.nsIn K mainGlobals "_law_is_number" = some (some (.ref f20)))
    (l20 : K.lookup f20 = some ⟨oc20, od20, .func (PySem.W.fnOf "_law_is_number" "_law_is_number" (defArgs s__law_is_number) (defBody s__law_is_number) (defScope s__law_is_number) .none kV20 dc20 pm20 an20 cd20 ct20), sl20⟩)
    (c20 : PySem.W.codeIn K cd20 "_law_is_number" = true)
    (k20 : PySem.W.keepIn K (.ref f20) = true)
    (a21 : PySem.W.nsIn K mainGlobals "_law_is_name" = some (some (.ref f21)))
    (l21 : K.lookup f21 = some ⟨oc21, od21, .func (PySem.W.fnOf "_law_is_name" "_law_is_name" (defArgs s__law_is_name) (defBody s__law_is_name) (defScope s__law_is_name) .none kV21 dc21 pm21 an21 cd21 ct21), sl21⟩)
    (c21 : PySem.W.codeIn K cd21 "_law_is_name" = true)
    (k21 : PySem.W.keepIn K (.ref f21) = true)
    (a22 : PySem.W.nsIn K mainGlobals "_law_odd" = some (some (.ref f22)))
    (l22 : K.lookup f22 = some ⟨oc22, od22, .func (PySem.W.fnOf "_law_odd" "_law_odd" (defArgs s__law_odd) (defBody s__law_odd) (defScope s__law_odd) .none kV22 dc22 pm22 an22 cd22 ct22), sl22⟩)
    (c22 : PySem.W.codeIn K cd22 "_law_odd" = true)
    (k22 : PySem.W.keepIn K (.ref f22) = true)
    (a23 : PySem.W.nsIn K mainGlobals "_law_bent" = some (some (.ref f23)))
    (l23 : K.lookup f23 = some ⟨oc23, od23, .func (PySem.W.fnOf "_law_bent" "_law_bent" (defArgs s__law_bent) (defBody s__law_bent) (defScope s__law_bent) .none kV23 dc23 pm23 an23 cd23 ct23), sl23⟩)
    (c23 : PySem.W.codeIn K cd23 "_law_bent" = true)
    (k23 : PySem.W.keepIn K (.ref f23) = true)
    (a24 : PySem.W.nsIn K mainGlobals "_law_is_entry" = some (some (.ref f24)))
    (l24 : K.lookup f24 = some ⟨oc24, od24, .func (PySem.W.fnOf "_law_is_entry" "_law_is_entry" (defArgs s__law_is_entry) (defBody s__law_is_entry) (defScope s__law_is_entry) .none kV24 dc24 pm24 an24 cd24 ct24), sl24⟩)
    (c24 : PySem.W.codeIn K cd24 "_law_is_entry" = true)
    (k24 : PySem.W.keepIn K (.ref f24) = true)
    (a25 : PySem.W.nsIn K mainGlobals "_law_string" = some (some (.ref f25)))
    (l25 : K.lookup f25 = some ⟨oc25, od25, .func (PySem.W.fnOf "_law_string" "_law_string" (defArgs s__law_string) (defBody s__law_string) (defScope s__law_string) .none kV25 dc25 pm25 an25 cd25 ct25), sl25⟩)
    (c25 : PySem.W.codeIn K cd25 "_law_string" = true)
    (k25 : PySem.W.keepIn K (.ref f25) = true)
    (a26 : PySem.W.nsIn K mainGlobals "law" = some (some (.ref f26)))
    (l26 : K.lookup f26 = some ⟨oc26, od26, .func (PySem.W.fnOf "law" "law" (defArgs s_law) (defBody s_law) (defScope s_law) .none kV26 dc26 pm26 an26 cd26 ct26), sl26⟩)
    (c26 : PySem.W.codeIn K cd26 "law" = true)
    (k26 : PySem.W.keepIn K (.ref f26) = true)
    (vLETTERS : PySem.W.nsIn K mainGlobals "LETTERS" = some (some (.str "abcdefghijklmnopqrstuvwxyz" tLETTERS)))
    (vMOST_LETTERS : PySem.W.nsIn K mainGlobals "MOST_LETTERS" = some (some (.int 8 tMOST_LETTERS)))
    (vMOST_SPACES : PySem.W.nsIn K mainGlobals "MOST_SPACES" = some (some (.int 3 tMOST_SPACES)))
    (vMOST_PAGES : PySem.W.nsIn K mainGlobals "MOST_PAGES" = some (some (.int 4 tMOST_PAGES)))
    (vMOST_FRAMES : PySem.W.nsIn K mainGlobals "MOST_FRAMES" = some (some (.int 4 tMOST_FRAMES)))
    (vRIGHTS : PySem.W.nsIn K mainGlobals "RIGHTS" = some (some (.ref rRIGHTS)))
    (wRIGHTS : K.lookup rRIGHTS = some ⟨.type "tuple", odRIGHTS, .seq #[.str "r" tRIGHTS0, .str "w" tRIGHTS1] nRIGHTS, slRIGHTS⟩)
    (zisinstance : PySem.W.nsIn K mainGlobals "isinstance" = some none)
    (zstr : PySem.W.nsIn K mainGlobals "str" = some none)
    (zint : PySem.W.nsIn K mainGlobals "int" = some none)
    (zbool : PySem.W.nsIn K mainGlobals "bool" = some none)
    (zlist : PySem.W.nsIn K mainGlobals "list" = some none)
    (ztuple : PySem.W.nsIn K mainGlobals "tuple" = some none)
    (zdict : PySem.W.nsIn K mainGlobals "dict" = some none)
    (zlen : PySem.W.nsIn K mainGlobals "len" = some none)
    (zall : PySem.W.nsIn K mainGlobals "all" = some none)
    (zsorted : PySem.W.nsIn K mainGlobals "sorted" = some none)
    (zrange : PySem.W.nsIn K mainGlobals "range" = some none)
    (zrepr : PySem.W.nsIn K mainGlobals "repr" = some none)
    (zmin : PySem.W.nsIn K mainGlobals "min" = some none)
    (zabs : PySem.W.nsIn K mainGlobals "abs" = some none) :
    ∃ fd : FuncData, (∀ (s : Shared) (v : Value), BindsTo s fd ⟨[v], []⟩ [("_law_script", v)]) ∧ ∀ base : Heap, K.In base → base.Ns mainGlobals mg → FnG P w K mg base 21 fa fd ["_law_script"] (spLaw K) := by
  have e := hfa.symm.trans (PySem.W.mg_of X G a26)
  obtain rfl : f26 = fa := (Value.ref.inj (Option.some.inj e)).symm
  have F0 := fun_mk (st := s_is_name) l0 c0 k0
  have F1 := fun_mk (st := s_is_integer) l1 c1 k1
  have F2 := fun_mk (st := s_is_index) l2 c2 k2
  have F3 := fun_mk (st := s_is_word) l3 c3 k3
  have F4 := fun_mk (st := s_are_spaces) l4 c4 k4
  have F5 := fun_mk (st := s_is_filled) l5 c5 k5
  have F6 := fun_mk (st := s_is_table) l6 c6 k6
  have F7 := fun_mk (st := s_are_tables) l7 c7 k7
  have F8 := fun_mk (st := s_World_init) l8 c8 k8
  have F9 := fun_mk (st := s_World_is_page) l9 c9 k9
  have F10 := fun_mk (st := s_World_is_entry) l10 c10 k10
  have F11 := fun_mk (st := s__law_state) l11 c11 k11
  have F12 := fun_mk (st := s__law_draw) l12 c12 k12
  have F13 := fun_mk (st := s__law_pick) l13 c13 k13
  have F14 := fun_mk (st := s__law_shuffled) l14 c14 k14
  have F15 := fun_mk (st := s__law_labels) l15 c15 k15
  have F16 := fun_mk (st := s__law_cell) l16 c16 k16
  have F17 := fun_mk (st := s__law_parts) l17 c17 k17
  have F18 := fun_mk (st := s__law_base) l18 c18 k18
  have F19 := fun_mk (st := s__law_is_word) l19 c19 k19
  have F20 := fun_mk (st := s__law_is_number) l20 c20 k20
  have F21 := fun_mk (st := s__law_is_name) l21 c21 k21
  have F22 := fun_mk (st := s__law_odd) l22 c22 k22
  have F23 := fun_mk (st := s__law_bent) l23 c23 k23
  have F24 := fun_mk (st := s__law_is_entry) l24 c24 k24
  have F25 := fun_mk (st := s__law_string) l25 c25 k25
  have F26 := fun_mk (st := s_law) l26 c26 k26
  let a : Ad := {
    World := C_World,
    is_name := f0,
    fd_is_name := PySem.W.fnOf "is_name" "is_name" (defArgs s_is_name) (defBody s_is_name) (defScope s_is_name) .none kV0 dc0 pm0 an0 cd0 ct0,
    is_integer := f1,
    fd_is_integer := PySem.W.fnOf "is_integer" "is_integer" (defArgs s_is_integer) (defBody s_is_integer) (defScope s_is_integer) .none kV1 dc1 pm1 an1 cd1 ct1,
    is_index := f2,
    fd_is_index := PySem.W.fnOf "is_index" "is_index" (defArgs s_is_index) (defBody s_is_index) (defScope s_is_index) .none kV2 dc2 pm2 an2 cd2 ct2,
    is_word := f3,
    fd_is_word := PySem.W.fnOf "is_word" "is_word" (defArgs s_is_word) (defBody s_is_word) (defScope s_is_word) .none kV3 dc3 pm3 an3 cd3 ct3,
    are_spaces := f4,
    fd_are_spaces := PySem.W.fnOf "are_spaces" "are_spaces" (defArgs s_are_spaces) (defBody s_are_spaces) (defScope s_are_spaces) .none kV4 dc4 pm4 an4 cd4 ct4,
    is_filled := f5,
    fd_is_filled := PySem.W.fnOf "is_filled" "is_filled" (defArgs s_is_filled) (defBody s_is_filled) (defScope s_is_filled) .none kV5 dc5 pm5 an5 cd5 ct5,
    is_table := f6,
    fd_is_table := PySem.W.fnOf "is_table" "is_table" (defArgs s_is_table) (defBody s_is_table) (defScope s_is_table) .none kV6 dc6 pm6 an6 cd6 ct6,
    are_tables := f7,
    fd_are_tables := PySem.W.fnOf "are_tables" "are_tables" (defArgs s_are_tables) (defBody s_are_tables) (defScope s_are_tables) .none kV7 dc7 pm7 an7 cd7 ct7,
    World_init := f8,
    fd_World_init := PySem.W.fnOf "__init__" "World.__init__" (defArgs s_World_init) (defBody s_World_init) (defScope s_World_init) .none kV8 dc8 pm8 an8 cd8 ct8,
    World_is_page := f9,
    fd_World_is_page := PySem.W.fnOf "is_page" "World.is_page" (defArgs s_World_is_page) (defBody s_World_is_page) (defScope s_World_is_page) .none kV9 dc9 pm9 an9 cd9 ct9,
    World_is_entry := f10,
    fd_World_is_entry := PySem.W.fnOf "is_entry" "World.is_entry" (defArgs s_World_is_entry) (defBody s_World_is_entry) (defScope s_World_is_entry) .none kV10 dc10 pm10 an10 cd10 ct10,
    _law_state := f11,
    fd__law_state := PySem.W.fnOf "_law_state" "_law_state" (defArgs s__law_state) (defBody s__law_state) (defScope s__law_state) .none kV11 dc11 pm11 an11 cd11 ct11,
    _law_draw := f12,
    fd__law_draw := PySem.W.fnOf "_law_draw" "_law_draw" (defArgs s__law_draw) (defBody s__law_draw) (defScope s__law_draw) .none kV12 dc12 pm12 an12 cd12 ct12,
    _law_pick := f13,
    fd__law_pick := PySem.W.fnOf "_law_pick" "_law_pick" (defArgs s__law_pick) (defBody s__law_pick) (defScope s__law_pick) .none kV13 dc13 pm13 an13 cd13 ct13,
    _law_shuffled := f14,
    fd__law_shuffled := PySem.W.fnOf "_law_shuffled" "_law_shuffled" (defArgs s__law_shuffled) (defBody s__law_shuffled) (defScope s__law_shuffled) .none kV14 dc14 pm14 an14 cd14 ct14,
    _law_labels := f15,
    fd__law_labels := PySem.W.fnOf "_law_labels" "_law_labels" (defArgs s__law_labels) (defBody s__law_labels) (defScope s__law_labels) .none kV15 dc15 pm15 an15 cd15 ct15,
    _law_cell := f16,
    fd__law_cell := PySem.W.fnOf "_law_cell" "_law_cell" (defArgs s__law_cell) (defBody s__law_cell) (defScope s__law_cell) .none kV16 dc16 pm16 an16 cd16 ct16,
    _law_parts := f17,
    fd__law_parts := PySem.W.fnOf "_law_parts" "_law_parts" (defArgs s__law_parts) (defBody s__law_parts) (defScope s__law_parts) .none kV17 dc17 pm17 an17 cd17 ct17,
    _law_base := f18,
    fd__law_base := PySem.W.fnOf "_law_base" "_law_base" (defArgs s__law_base) (defBody s__law_base) (defScope s__law_base) .none kV18 dc18 pm18 an18 cd18 ct18,
    _law_is_word := f19,
    fd__law_is_word := PySem.W.fnOf "_law_is_word" "_law_is_word" (defArgs s__law_is_word) (defBody s__law_is_word) (defScope s__law_is_word) .none kV19 dc19 pm19 an19 cd19 ct19,
    _law_is_number := f20,
    fd__law_is_number := PySem.W.fnOf "_law_is_number" "_law_is_number" (defArgs s__law_is_number) (defBody s__law_is_number) (defScope s__law_is_number) .none kV20 dc20 pm20 an20 cd20 ct20,
    _law_is_name := f21,
    fd__law_is_name := PySem.W.fnOf "_law_is_name" "_law_is_name" (defArgs s__law_is_name) (defBody s__law_is_name) (defScope s__law_is_name) .none kV21 dc21 pm21 an21 cd21 ct21,
    _law_odd := f22,
    fd__law_odd := PySem.W.fnOf "_law_odd" "_law_odd" (defArgs s__law_odd) (defBody s__law_odd) (defScope s__law_odd) .none kV22 dc22 pm22 an22 cd22 ct22,
    _law_bent := f23,
    fd__law_bent := PySem.W.fnOf "_law_bent" "_law_bent" (defArgs s__law_bent) (defBody s__law_bent) (defScope s__law_bent) .none kV23 dc23 pm23 an23 cd23 ct23,
    _law_is_entry := f24,
    fd__law_is_entry := PySem.W.fnOf "_law_is_entry" "_law_is_entry" (defArgs s__law_is_entry) (defBody s__law_is_entry) (defScope s__law_is_entry) .none kV24 dc24 pm24 an24 cd24 ct24,
    _law_string := f25,
    fd__law_string := PySem.W.fnOf "_law_string" "_law_string" (defArgs s__law_string) (defBody s__law_string) (defScope s__law_string) .none kV25 dc25 pm25 an25 cd25 ct25,
    law := f26,
    fd_law := PySem.W.fnOf "law" "law" (defArgs s_law) (defBody s_law) (defScope s_law) .none kV26 dc26 pm26 an26 cd26 ct26 }
  have T : Txt K mg a := {
    g_World := PySem.W.mg_of X G aCWorld,
    c_World := ⟨pgWorld, hdWorld, poWorld, saWorld⟩,
    n_World_own_spaces := nfown_spaces,
    n_World_own_pages := nfown_pages,
    n_World_own_frames := nfown_frames,
    n_World_own_tables := nfown_tables,
    n_World_own_rules := nfown_rules,
    F_is_name := F0,
    g_is_name := PySem.W.mg_of X G a0,
    k_is_name := k0,
    b_is_name := (F0.binds (ps := ["thing"]) fun _ _ _ _ _ _ us hl => match us, hl with | [_], _ => rfl),
    kb_is_name := ⟨fun s us ws _ h1 h2 => (match us, h1, ws, h2 with | [], _, [_], _ => .of_eq rfl), fun r1 r2 => r2⟩,
    F_is_integer := F1,
    g_is_integer := PySem.W.mg_of X G a1,
    k_is_integer := k1,
    b_is_integer := (F1.binds (ps := ["thing"]) fun _ _ _ _ _ _ us hl => match us, hl with | [_], _ => rfl),
    F_is_index := F2,
    g_is_index := PySem.W.mg_of X G a2,
    k_is_index := k2,
    b_is_index := (F2.binds (ps := ["thing", "size"]) fun _ _ _ _ _ _ us hl => match us, hl with | [_, _], _ => rfl),
    F_is_word := F3,
    g_is_word := PySem.W.mg_of X G a3,
    k_is_word := k3,
    b_is_word := (F3.binds (ps := ["thing", "words"]) fun _ _ _ _ _ _ us hl => match us, hl with | [_, _], _ => rfl),
    F_are_spaces := F4,
    g_are_spaces := PySem.W.mg_of X G a4,
    k_are_spaces := k4,
    b_are_spaces := (F4.binds (ps := ["thing"]) fun _ _ _ _ _ _ us hl => match us, hl with | [_], _ => rfl),
    F_is_filled := F5,
    g_is_filled := PySem.W.mg_of X G a5,
    k_is_filled := k5,
    b_is_filled := (F5.binds (ps := ["thing", "frames"]) fun _ _ _ _ _ _ us hl => match us, hl with | [_, _], _ => rfl),
    F_is_table := F6,
    g_is_table := PySem.W.mg_of X G a6,
    k_is_table := k6,
    b_is_table := (F6.binds (ps := ["thing", "pages", "frames"]) fun _ _ _ _ _ _ us hl => match us, hl with | [_, _, _], _ => rfl),
    F_are_tables := F7,
    g_are_tables := PySem.W.mg_of X G a7,
    k_are_tables := k7,
    b_are_tables := (F7.binds (ps := ["thing", "spaces", "pages", "frames"]) fun _ _ _ _ _ _ us hl => match us, hl with | [_, _, _, _], _ => rfl),
    F_World_init := F8,
    m_World := ⟨mkWorld, a8, i8, kcWorld⟩,
    kb_World := ⟨fun s us ws _ h1 h2 => (match us, h1, ws, h2 with | [_, _, _, _, _], _, [_, _, _], _ => .of_eq rfl), fun r1 r2 => vals_app r1 r2⟩,
    F_World_is_page := F9,
    me_World_is_page := ⟨a9, i9, k9⟩,
    b_World_is_page := (F9.binds (ps := ["self", "thing"]) fun _ _ _ _ _ _ us hl => match us, hl with | [_, _], _ => rfl),
    F_World_is_entry := F10,
    me_World_is_entry := ⟨a10, i10, k10⟩,
    b_World_is_entry := (F10.binds (ps := ["self", "thing"]) fun _ _ _ _ _ _ us hl => match us, hl with | [_, _], _ => rfl),
    kb_World_is_entry := ⟨fun s us ws _ h1 h2 => (match us, h1, ws, h2 with | [_], _, [_], _ => .of_eq rfl), fun r1 r2 => vals_app r1 r2⟩,
    F__law_state := F11,
    g__law_state := PySem.W.mg_of X G a11,
    k__law_state := k11,
    b__law_state := (F11.binds (ps := ["_law_script"]) fun _ _ _ _ _ _ us hl => match us, hl with | [_], _ => rfl),
    F__law_draw := F12,
    g__law_draw := PySem.W.mg_of X G a12,
    k__law_draw := k12,
    b__law_draw := (F12.binds (ps := ["_law_draws", "_law_many"]) fun _ _ _ _ _ _ us hl => match us, hl with | [_, _], _ => rfl),
    F__law_pick := F13,
    g__law_pick := PySem.W.mg_of X G a13,
    k__law_pick := k13,
    b__law_pick := (F13.binds (ps := ["_law_draws", "_law_some"]) fun _ _ _ _ _ _ us hl => match us, hl with | [_, _], _ => rfl),
    F__law_shuffled := F14,
    g__law_shuffled := PySem.W.mg_of X G a14,
    k__law_shuffled := k14,
    b__law_shuffled := (F14.binds (ps := ["_law_draws", "_law_some"]) fun _ _ _ _ _ _ us hl => match us, hl with | [_, _], _ => rfl),
    F__law_labels := F15,
    g__law_labels := PySem.W.mg_of X G a15,
    k__law_labels := k15,
    b__law_labels := (F15.binds (ps := ["_law_draws", "_law_many"]) fun _ _ _ _ _ _ us hl => match us, hl with | [_, _], _ => rfl),
    F__law_cell := F16,
    g__law_cell := PySem.W.mg_of X G a16,
    k__law_cell := k16,
    b__law_cell := (F16.binds (ps := ["_law_draws", "_law_count"]) fun _ _ _ _ _ _ us hl => match us, hl with | [_, _], _ => rfl),
    F__law_parts := F17,
    g__law_parts := PySem.W.mg_of X G a17,
    k__law_parts := k17,
    b__law_parts := (F17.binds (ps := ["_law_draws", "_law_most"]) fun _ _ _ _ _ _ us hl => match us, hl with | [_, _], _ => rfl),
    F__law_base := F18,
    g__law_base := PySem.W.mg_of X G a18,
    k__law_base := k18,
    b__law_base := (F18.binds (ps := ["_law_parts_here"]) fun _ _ _ _ _ _ us hl => match us, hl with | [_], _ => rfl),
    F__law_is_word := F19,
    g__law_is_word := PySem.W.mg_of X G a19,
    k__law_is_word := k19,
    b__law_is_word := (F19.binds (ps := ["_law_value", "_law_words"]) fun _ _ _ _ _ _ us hl => match us, hl with | [_, _], _ => rfl),
    F__law_is_number := F20,
    g__law_is_number := PySem.W.mg_of X G a20,
    k__law_is_number := k20,
    b__law_is_number := (F20.binds (ps := ["_law_value", "_law_low", "_law_high"]) fun _ _ _ _ _ _ us hl => match us, hl with | [_, _, _], _ => rfl),
    F__law_is_name := F21,
    g__law_is_name := PySem.W.mg_of X G a21,
    k__law_is_name := k21,
    b__law_is_name := (F21.binds (ps := ["_law_value"]) fun _ _ _ _ _ _ us hl => match us, hl with | [_], _ => rfl),
    F__law_odd := F22,
    g__law_odd := PySem.W.mg_of X G a22,
    k__law_odd := k22,
    b__law_odd := (F22.binds (ps := ["_law_draws", "_law_value"]) fun _ _ _ _ _ _ us hl => match us, hl with | [_, _], _ => rfl),
    F__law_bent := F23,
    g__law_bent := PySem.W.mg_of X G a23,
    k__law_bent := k23,
    b__law_bent := (F23.binds (ps := ["_law_draws", "_law_value"]) fun _ _ _ _ _ _ us hl => match us, hl with | [_, _], _ => rfl),
    F__law_is_entry := F24,
    g__law_is_entry := PySem.W.mg_of X G a24,
    k__law_is_entry := k24,
    b__law_is_entry := (F24.binds (ps := ["_law_parts_here", "_law_value"]) fun _ _ _ _ _ _ us hl => match us, hl with | [_, _], _ => rfl),
    F__law_string := F25,
    g__law_string := PySem.W.mg_of X G a25,
    k__law_string := k25,
    b__law_string := (F25.binds (ps := ["_law_draws"]) fun _ _ _ _ _ _ us hl => match us, hl with | [_], _ => rfl),
    F_law := F26,
    g_law := PySem.W.mg_of X G a26,
    k_law := k26,
    v_LETTERS := ⟨tLETTERS, PySem.W.mg_of X G vLETTERS⟩,
    v_MOST_LETTERS := ⟨tMOST_LETTERS, PySem.W.mg_of X G vMOST_LETTERS⟩,
    v_MOST_SPACES := ⟨tMOST_SPACES, PySem.W.mg_of X G vMOST_SPACES⟩,
    v_MOST_PAGES := ⟨tMOST_PAGES, PySem.W.mg_of X G vMOST_PAGES⟩,
    v_MOST_FRAMES := ⟨tMOST_FRAMES, PySem.W.mg_of X G vMOST_FRAMES⟩,
    v_RIGHTS := ⟨rRIGHTS, PySem.W.mg_of X G vRIGHTS, fun G => .inr ⟨_, _, _, wRIGHTS, rfl, rfl, (by show 2 ≤ sizeLine; decide), .cons ⟨_, rfl⟩ (.cons ⟨_, rfl⟩ (.nil))⟩⟩,
    z_isinstance := PySem.W.mg_none_of X G zisinstance,
    z_str := PySem.W.mg_none_of X G zstr,
    z_int := PySem.W.mg_none_of X G zint,
    z_bool := PySem.W.mg_none_of X G zbool,
    z_list := PySem.W.mg_none_of X G zlist,
    z_tuple := PySem.W.mg_none_of X G ztuple,
    z_dict := PySem.W.mg_none_of X G zdict,
    z_len := PySem.W.mg_none_of X G zlen,
    z_all := PySem.W.mg_none_of X G zall,
    z_sorted := PySem.W.mg_none_of X G zsorted,
    z_range := PySem.W.mg_none_of X G zrange,
    z_repr := PySem.W.mg_none_of X G zrepr,
    z_min := PySem.W.mg_none_of X G zmin,
    z_abs := PySem.W.mg_none_of X G zabs }
  exact ⟨a.fd_law, fun s v => .of_eq rfl, fun base _ _ => f_law T⟩
theorem walk {l : PySem.W.OpenLaw} {q : Program} {loose : List Str} {XP : (Str → Option Value) → Heap → Prop} {YP : World → Heap → Prop} {d : PySem.DefRec} {K : PySem.Params → PySem.W.Frag} (hn : l.most = some 63) (hdf : d.params.defaults = []) (hq : PyProof.Rows.importsNone q = true)
    (hY : ∀ (w : World) (h : Heap), YP w h → (K w.params).In h) (hs : ∀ w : World, (K w.params).lookup sysModules = none)
    (F : ∀ (w : World) (mg : Str → Option Value) (fa : Addr) (h : Heap), (K w.params).In h → h.Ns mainGlobals mg → mg d.name = some (.ref fa) →
      ∃ fd : FuncData, (∀ (s : Shared) (u : Value), BindsTo s fd ⟨[u], []⟩ [("_law_script", u)]) ∧ ∀ base : Heap, (K w.params).In base → base.Ns mainGlobals mg → FnG l.prog w (K w.params) mg base 21 fa fd ["_law_script"] (spLaw (K w.params))) :
    PySem.W.WalkO q loose XP YP l.row.toRowW d [] (fun f vs => PySem.call f vs) := by
  refine Att.attach_call hn hdf fun w s₀ s₁ mg mb fa o pm cd doc a vs ns G Y ho hd hcd hmg hobj hints hlen hg => ?_
  have KX := hY w _ Y
  obtain ⟨fd, hb, hF⟩ := F w mg fa _ KX G.T.g hmg
  obtain ⟨mm, h1, _⟩ := (G.T.seer hq).mods
  exact law_entry KX G.T.g G.T.b G.T.builtins G.T.nolimit hg hobj hints hlen ⟨rfl, by decide, by decide⟩ (hs w) ⟨mm, h1⟩ hF hb
end K04
open PySem PySem.W PyProof.Rows
set_option maxRecDepth 100000 in
set_option maxHeartbeats 0 in
theorem PySem.Challenge.cw_staleview_k04_names_and_entries_judged_holds : PySem.Challenge.rw_staleview_k04_names_and_entries_judged.Holds := by
  w_on; o_law; k_head; (case hw => w_witness2)
  k_fill
  refine K04.walk (l := PySem.Challenge.rw_staleview_k04_names_and_entries_judged) rfl rfl ?hq (fun w h Y => PySem.W.kIn_of Y) ?hs ?F
  case hq => first | rfl | decide +kernel
  case hs => intro w; rfl
  case F =>
    intro w mg fa h KX G hmg
    refine' K04.all_mk KX G hmg ?aCWorld ?pgWorld ?hdWorld ?poWorld ?saWorld ?mkWorld ?kcWorld ?nfown_spaces ?nfown_pages ?nfown_frames ?nfown_tables ?nfown_rules ?a0 ?l0 ?c0 ?k0 ?a1 ?l1 ?c1 ?k1 ?a2 ?l2 ?c2 ?k2 ?a3 ?l3 ?c3 ?k3 ?a4 ?l4 ?c4 ?k4 ?a5 ?l5 ?c5 ?k5 ?a6 ?l6 ?c6 ?k6 ?a7 ?l7 ?c7 ?k7 ?a8 ?i8 ?l8 ?c8 ?k8 ?a9 ?i9 ?l9 ?c9 ?k9 ?a10 ?i10 ?l10 ?c10 ?k10 ?a11 ?l11 ?c11 ?k11 ?a12 ?l12 ?c12 ?k12 ?a13 ?l13 ?c13 ?k13 ?a14 ?l14 ?c14 ?k14 ?a15 ?l15 ?c15 ?k15 ?a16 ?l16 ?c16 ?k16 ?a17 ?l17 ?c17 ?k17 ?a18 ?l18 ?c18 ?k18 ?a19 ?l19 ?c19 ?k19 ?a20 ?l20 ?c20 ?k20 ?a21 ?l21 ?c21 ?k21 ?a22 ?l22 ?c22 ?k22 ?a23 ?l23 ?c23 ?k23 ?a24 ?l24 ?c24 ?k24 ?a25 ?l25 ?c25 ?k25 ?a26 ?l26 ?c26 ?k26 ?vLETTERS ?vMOST_LETTERS ?vMOST_SPACES ?vMOST_PAGES ?vMOST_FRAMES ?vRIGHTS ?wRIGHTS ?zisinstance ?zstr ?zint ?zbool ?zlist ?ztuple ?zdict ?zlen ?zall ?zsorted ?zrange ?zrepr ?zmin ?zabs
    (case aCWorld => k_is); (case pgWorld => k_is); (case hdWorld => k_is); (case poWorld => k_is); (case saWorld => k_is); (case mkWorld => k_is)
    (case kcWorld => k_is); (case nfown_spaces => k_is); (case nfown_pages => k_is); (case nfown_frames => k_is); (case nfown_tables => k_is); (case nfown_rules => k_is)
    (case a0 => k_is); (case l0 => k_is); (case c0 => k_is); (case k0 => k_is); (case a1 => k_is); (case l1 => k_is)
    (case c1 => k_is); (case k1 => k_is); (case a2 => k_is); (case l2 => k_is); (case c2 => k_is); (case k2 => k_is)
    (case a3 => k_is); (case l3 => k_is); (case c3 => k_is); (case k3 => k_is); (case a4 => k_is); (case l4 => k_is)
    (case c4 => k_is); (case k4 => k_is); (case a5 => k_is); (case l5 => k_is); (case c5 => k_is); (case k5 => k_is)
    (case a6 => k_is); (case l6 => k_is); (case c6 => k_is); (case k6 => k_is); (case a7 => k_is); (case l7 => k_is)
    (case c7 => k_is); (case k7 => k_is); (case a8 => k_is); (case i8 => k_is); (case l8 => k_is); (case c8 => k_is)
    (case k8 => k_is); (case a9 => k_is); (case i9 => k_is); (case l9 => k_is); (case c9 => k_is); (case k9 => k_is)
    (case a10 => k_is); (case i10 => k_is); (case l10 => k_is); (case c10 => k_is); (case k10 => k_is); (case a11 => k_is)
    (case l11 => k_is); (case c11 => k_is); (case k11 => k_is); (case a12 => k_is); (case l12 => k_is); (case c12 => k_is)
    (case k12 => k_is); (case a13 => k_is); (case l13 => k_is); (case c13 => k_is); (case k13 => k_is); (case a14 => k_is)
    (case l14 => k_is); (case c14 => k_is); (case k14 => k_is); (case a15 => k_is); (case l15 => k_is); (case c15 => k_is)
    (case k15 => k_is); (case a16 => k_is); (case l16 => k_is); (case c16 => k_is); (case k16 => k_is); (case a17 => k_is)
    (case l17 => k_is); (case c17 => k_is); (case k17 => k_is); (case a18 => k_is); (case l18 => k_is); (case c18 => k_is)
    (case k18 => k_is); (case a19 => k_is); (case l19 => k_is); (case c19 => k_is); (case k19 => k_is); (case a20 => k_is)
    (case l20 => k_is); (case c20 => k_is); (case k20 => k_is); (case a21 => k_is); (case l21 => k_is); (case c21 => k_is)
    (case k21 => k_is); (case a22 => k_is); (case l22 => k_is); (case c22 => k_is); (case k22 => k_is); (case a23 => k_is)
    (case l23 => k_is); (case c23 => k_is); (case k23 => k_is); (case a24 => k_is); (case l24 => k_is); (case c24 => k_is)
    (case k24 => k_is); (case a25 => k_is); (case l25 => k_is); (case c25 => k_is); (case k25 => k_is); (case a26 => k_is)
    (case l26 => k_is); (case c26 => k_is); (case k26 => k_is); (case vLETTERS => k_is); (case vMOST_LETTERS => k_is); (case vMOST_SPACES => k_is)
    (case vMOST_PAGES => k_is); (case vMOST_FRAMES => k_is); (case vRIGHTS => k_is); (case wRIGHTS => k_is); (case zisinstance => k_is); (case zstr => k_is)
    (case zint => k_is); (case zbool => k_is); (case zlist => k_is); (case ztuple => k_is); (case zdict => k_is); (case zlen => k_is)
    (case zall => k_is); (case zsorted => k_is); (case zrange => k_is); (case zrepr => k_is); (case zmin => k_is); (case zabs => k_is)
