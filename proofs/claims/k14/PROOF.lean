import PyProof.Rows.All
import Wide.All
import OpenK.AllK
import Wide.FinOn
import HandS.ForMost
import HandS.Walk
import HandS.Exc
import HandS.TryOnly
import HandS.ExcOwn
import HandS.WordsExc
import HandS.Lambda
import HandS.TupAny
import HandS.Wide
import HandS.IsInst
import HandS.DeepEq
import HandS.Style
import HandS.EndBits
import HandS.ExcCtx
import HandS.TryMany
import HandS.Zip
import HandS.Rev
import HandS.Deep
import HandS.More
import HandS.SetFor
import PyProof.StrBlock2
import KE.SortData
import HandS.Comp
import PyProof.Rows.StrMul
import KE.KExcSuper
import HandS.ExcInit
import HandS.ExcIs
import HandS.ExcField
import KE.KExcIs
import KE.KNestM
import KE.GoesMore
import HandS.Strs
import HandS.TupSets
import KE.DataFind
import HandS.Conv
import HandS.HotCalls
import HandS.TupLe
import PySem.Challenge.RW_maypoint_k14_whole_rows_go_on_alike
set_option Elab.async false
set_option linter.all false
set_option maxRecDepth 100000
namespace Mp
open PySem L2

/-! ### values as trees, the store -/
inductive PV where
  | non
  | bl (b : Bool)
  | int (i : Int)
  | str (s : List Nat)
  | tup (xs : List PV)
  | ref (a : Addr)
  | ty (n : String)
  | lsv (xs : List PV)
  | exv (a : Addr) (C : Str) (d : Option Addr) (ns : List Str) (ps : List PV)
  | lam (f c : Addr) (q : Str) (vs : List V) (ps : List PV)
  | ktp (xs : List PV)
/-- the names of fields and of classes, by numbers -/
def fldN : List Str := (["head", "tail", "steps", "name", "rows_by_near", "lives", "limits", "octets", "here", "goes_by", "book_by_name", "letters", "seen", "standing", "adds", "aims", "homes", "kept", "bare", "costs", "members", "queues", "sure", "tale", "keeper", "read", "run", "firsts", "journal", "kept_events", "known", "seen_by_all", "parts", "events", "own", "sheet"] : List String).map Str.ofString
def fld (i : Nat) : Str := fldN.getD i "?"
def clsN : List Str := (["Row", "Book", "Reading", "Table", "World", "Node", "Field", "Journal", "Keeper", "Desk", "Net", "Tale", "Words"] : List String).map Str.ofString
def cls (i : Nat) : Str := clsN.getD i "?"
inductive Ob where
  | lst (xs : List PV)
  | ins (C : Nat) (fs : List (Nat × PV))
  | dic (t : Bool) (kvs : List (PV × PV))
  | fdi (t : Bool) (kvs : List (PV × PV))
abbrev Sto := Addr → Option Ob
def put (S : Sto) (a : Addr) (o : Ob) : Sto := fun b => if b = a then some o else S b
theorem put_same {S : Sto} {a : Addr} {o : Ob} : put S a o a = some o := by unfold put; rw [if_pos rfl]
theorem put_ne {S : Sto} {a b : Addr} {o : Ob} (h : b ≠ a) : put S a o b = S b := by unfold put; rw [if_neg h]
abbrev PSt := List (Option PV)
structure PX where
  C : Str
  fs : List (Str × PV)

def kP : Key → PV
  | .inl i => .int i
  | .inr z => .str z.cps.toList

/-- a list that stands still: locked, or of the written part -/
def SqF (K : PySem.W.Frag) (H : Hp) (a : Addr) (xs : List V) : Prop := (∃ o, H a = some (.frz o (.lst xs))) ∨ SqL K (fun _ => none) a xs
theorem SqF.sq {K : PySem.W.Frag} {H : Hp} {a : Addr} {xs : List V} (h : SqF K H a xs) : SqL K H a xs := by
  rcases h with ⟨o, h⟩ | (h | ⟨o, h⟩) | h
  · exact .inl (.inr ⟨o, h⟩)
  · cases h
  · cases h
  · exact .inr h
mutual
def Rl (K : PySem.W.Frag) (H : Hp) (v : V) : PV → Prop
  | .non => v = .non
  | .bl b => v = .bl b
  | .int i => v = .int i
  | .str cs => v = .str ⟨cs.toArray⟩
  | .tup ps => ∃ a vs, v = .ref a ∧ H a = some (.tup vs) ∧ Rls K H vs ps
  | .ktp ps => ∃ a vs, v = .ref a ∧ SqT K H a vs ∧ Rls K H vs ps
  | .ref a => v = .ref a
  | .ty n => v = .ty n
  | .lsv ps => ∃ a vs, v = .ref a ∧ SqF K H a vs ∧ Rls K H vs ps
  | .exv a _ d ns ps => v = .ref a ∧ ((d = none ∧ ns = [] ∧ ps = []) ∨ ∃ dd gs, d = some dd ∧ H dd = some (.xd gs) ∧ gs.map Prod.fst = ns ∧ Rls K H (gs.map Prod.snd) ps)
  | .lam f c q vs ps => v = .ref f ∧ H c = some (LamX.CodeO c q) ∧ Rls K H vs ps
def Rls (K : PySem.W.Frag) (H : Hp) (vs : List V) : List PV → Prop
  | [] => vs = []
  | p :: ps => ∃ v r, vs = v :: r ∧ Rl K H v p ∧ Rls K H r ps
end

/-- what a dict holds: keys of one kind -/
def DRel (K : PySem.W.Frag) (H : Hp) (t : Bool) (u : HO) (kvs : List (PV × PV)) : Prop := match t with
  | false => ∃ ks : List (Key × V), u = .dK ks ∧ ks.map (fun x => kP x.1) = kvs.map Prod.fst ∧ Rls K H (ks.map Prod.snd) (kvs.map Prod.snd)
  | true => ∃ ks : List (List Key × V), u = .dT ks ∧ ks.map (fun x => PV.tup (x.1.map kP)) = kvs.map Prod.fst ∧ Rls K H (ks.map Prod.snd) (kvs.map Prod.snd)
def ObR (K : PySem.W.Frag) (H : Hp) (a : Addr) : Ob → Prop
  | .lst ps => ∃ vs, H a = some (.lst vs) ∧ Rls K H vs ps
  | .ins C fs => ∃ c dx gs, H a = some (.ins c dx gs) ∧ PySem.W.nsIn K mainGlobals (cls C) = some (some (.ref c)) ∧ gs.map Prod.fst = fs.map (fun x => fld x.1) ∧ (∀ x ∈ fs, x.1 < 36) ∧ Rls K H (gs.map Prod.snd) (fs.map Prod.snd)
  | .dic t kvs => ∃ u, H a = some u ∧ DRel K H t u kvs
  | .fdi t kvs => ∃ od u, H a = some (.frz od u) ∧ DRel K H t u kvs

/-- what the store may speak of -/
def Chg : HO → Prop
  | .lst _ => True
  | .dK _ => True
  | .dT _ => True
  | .ins _ _ _ => True
  | _ => False

structure Rep (K : PySem.W.Frag) (T : List (Addr × Str)) (S : Sto) (H : Hp) : Prop where
  ob : ∀ a o, S a = some o → ObR K H a o
  tb : LamX.Tabs T H

/-- the frame: what the store does not speak of stays -/
def Fz (S : Sto) (a : Addr) : Prop := S a = none ∨ ∃ t kvs, S a = some (.fdi t kvs)
def Fr (S : Sto) (H : Hp) (S' : Sto) (H' : Hp) : Prop := ∀ a o, H a = some o → (∀ ps, o ≠ .tbl ps) → Fz S a → H' a = some o ∧ Fz S' a ∧ (S a = none → S' a = none)
/-- what is never locked -/
def Nf : Ob → Prop
  | .fdi _ _ => False
  | _ => True

section
variable {K : PySem.W.Frag} {T : List (Addr × Str)} {S S' S1 S2 : Sto} {H H' H1 H2 : Hp} {a : Addr} {o : HO}

theorem DRel.chg {t : Bool} {u : HO} {kvs : List (PV × PV)} (h : DRel K H t u kvs) : Chg u := by
  cases t with
  | false => obtain ⟨ks, e, _⟩ := h; rw [e]; trivial
  | true => obtain ⟨ks, e, _⟩ := h; rw [e]; trivial
theorem ObR.chg {ob : Ob} (h : ObR K H a ob) (nf : Nf ob) : ∃ o, H a = some o ∧ Chg o := by
  cases ob with
  | lst ps => obtain ⟨vs, e, _⟩ := h; exact ⟨_, e, trivial⟩
  | ins C fs => obtain ⟨_, _, _, e, _⟩ := h; exact ⟨_, e, trivial⟩
  | dic t kvs => obtain ⟨u, e, d⟩ := h; exact ⟨u, e, d.chg⟩
  | fdi t kvs => exact nf.elim
theorem Rep.no (r : Rep K T S H) (e : H a = some o) (n : ¬ Chg o) : Fz S a := by
  cases q : S a with
  | none => exact .inl q
  | some ob =>
    by_cases nf : Nf ob
    · obtain ⟨o', e', c⟩ := (r.ob a ob q).chg nf
      rw [e] at e'; cases e'
      exact absurd c n
    · cases ob with
      | fdi t kvs => exact .inr ⟨t, kvs, q⟩
      | _ => exact absurd trivial nf
theorem Rep.free (r : Rep K T S H) (e : H a = none) : S a = none := by
  cases q : S a with
  | none => rfl
  | some ob =>
    by_cases nf : Nf ob
    · obtain ⟨o', e', c⟩ := (r.ob a ob q).chg nf
      rw [e] at e'; cases e'
    · cases ob with
      | fdi t kvs =>
        obtain ⟨od, u, e', _⟩ := r.ob a _ q
        rw [e] at e'; cases e'
      | _ => exact absurd trivial nf
theorem Fr.refl : Fr S H S H := fun _ _ e _ n => ⟨e, n, id⟩
theorem Fr.trans (x : Fr S H S1 H1) (y : Fr S1 H1 S2 H2) : Fr S H S2 H2 := fun a o e t n =>
  let ⟨e1, n1, z1⟩ := x a o e t n
  let ⟨e2, n2, z2⟩ := y a o e1 t n1
  ⟨e2, n2, fun q => z2 (z1 q)⟩
theorem Fr.keep (x : Fr S H S' H') (e : H a = some o) (t : ∀ ps, o ≠ .tbl ps) (n : S a = none) : H' a = some o ∧ S' a = none := ⟨(x a o e t (.inl n)).1, (x a o e t (.inl n)).2.2 n⟩
theorem Fr.tup (x : Fr S H S' H') (r : Rep K T S H) {xs : List V} (e : H a = some (.tup xs)) : H' a = some (.tup xs) :=
  (x a _ e (fun _ q => nomatch q) (r.no e fun z => z)).1
theorem Fr.frz (x : Fr S H S' H') (r : Rep K T S H) {ob : Obj} {u : HO} (e : H a = some (.frz ob u)) : H' a = some (.frz ob u) :=
  (x a _ e (fun _ q => nomatch q) (r.no e fun z => z)).1
theorem Fr.xd (x : Fr S H S' H') (r : Rep K T S H) {gs : List (Str × V)} (e : H a = some (.xd gs)) : H' a = some (.xd gs) :=
  (x a _ e (fun _ q => nomatch q) (r.no e fun z => z)).1
theorem Fr.cod (x : Fr S H S' H') (r : Rep K T S H) {q : Str} (e : H a = some (LamX.CodeO a q)) : H' a = some (LamX.CodeO a q) :=
  (x a _ e (fun ps z => LamX.codeO_ne ps z) (r.no e fun z => by unfold LamX.CodeO at z; exact z)).1
/-- tuples, what is locked and what exceptions carry stay -/
def SqO : HO → Prop
  | .tup _ => True
  | .lst _ => True
  | _ => False
def Le (H H' : Hp) : Prop := (∀ a xs, H a = some (.tup xs) → H' a = some (.tup xs)) ∧ (∀ a ob u, H a = some (.frz ob u) → SqO u → H' a = some (.frz ob u)) ∧ (∀ a gs, H a = some (.xd gs) → H' a = some (.xd gs)) ∧ ∀ a q, H a = some (LamX.CodeO a q) → H' a = some (LamX.CodeO a q)
theorem Fr.le (x : Fr S H S' H') (r : Rep K T S H) : Le H H' := ⟨fun _ _ e => x.tup r e, fun _ _ _ e _ => x.frz r e, fun _ _ e => x.xd r e, fun _ _ e => x.cod r e⟩
theorem Le.refl : Le H H := ⟨fun _ _ e => e, fun _ _ _ e _ => e, fun _ _ e => e, fun _ _ e => e⟩
theorem Le.sq (x : Le H H') {vs : List V} (h : SqT K H a vs) : SqT K H' a vs := by
  rcases h with (h | ⟨ob, h⟩) | h
  · exact .inl (.inl (x.1 _ _ h))
  · exact .inl (.inr ⟨ob, x.2.1 _ _ _ h trivial⟩)
  · exact .inr h
theorem Le.sqf (x : Le H H') {vs : List V} (h : SqF K H a vs) : SqF K H' a vs := by
  rcases h with ⟨ob, h⟩ | h
  · exact .inl ⟨ob, x.2.1 _ _ _ h trivial⟩
  · exact .inr h
mutual
theorem Rl.mono (x : Le H H') : ∀ (p : PV) (v : V), Rl K H v p → Rl K H' v p
  | .non, _, h => h
  | .bl _, _, h => h
  | .int _, _, h => h
  | .str _, _, h => h
  | .ref _, _, h => h
  | .ty _, _, h => h
  | .tup ps, _, ⟨a, vs, e, q, r⟩ => ⟨a, vs, e, x.1 _ _ q, Rls.mono x ps vs r⟩
  | .ktp ps, _, ⟨a, vs, e, q, r⟩ => ⟨a, vs, e, x.sq q, Rls.mono x ps vs r⟩
  | .lsv ps, _, ⟨a, vs, e, q, r⟩ => ⟨a, vs, e, x.sqf q, Rls.mono x ps vs r⟩
  | .exv a _ _ _ ps, _, ⟨e, h⟩ => ⟨e, h.imp id fun ⟨dd, gs, e1, e2, e3, r⟩ => ⟨dd, gs, e1, x.2.2.1 _ _ e2, e3, Rls.mono x ps _ r⟩⟩
  | .lam f c q vs ps, _, ⟨e, h, r⟩ => ⟨e, x.2.2.2 _ _ h, Rls.mono x ps vs r⟩
theorem Rls.mono (x : Le H H') : ∀ (ps : List PV) (vs : List V), Rls K H vs ps → Rls K H' vs ps
  | [], _, h => h
  | p :: ps, _, ⟨v, r, e, h1, h2⟩ => ⟨v, r, e, Rl.mono x p v h1, Rls.mono x ps r h2⟩
end
theorem Rls.length : ∀ {ps : List PV} {vs : List V}, Rls K H vs ps → vs.length = ps.length
  | [], _, h => by
    have e : _ = [] := h
    rw [e]; rfl
  | _ :: ps, _, ⟨v, r, e, _, h2⟩ => by rw [e, List.length_cons, List.length_cons, Rls.length h2]
theorem Rls.get : ∀ {ps : List PV} {vs : List V} {i : Nat} {p : PV}, Rls K H vs ps → ps[i]? = some p → ∃ v, vs[i]? = some v ∧ Rl K H v p
  | [], _, _, _, _, e => by simp at e
  | q :: ps, _, 0, p, ⟨v, r, e, h1, _⟩, g => by
    simp at g; subst g; subst e
    exact ⟨v, rfl, h1⟩
  | q :: ps, _, i + 1, p, ⟨v, r, e, _, h2⟩, g => by
    subst e
    obtain ⟨w, h3, h4⟩ := Rls.get (i := i) h2 (by simpa using g)
    exact ⟨w, by simpa using h3, h4⟩
theorem Rls.set : ∀ {ps : List PV} {vs : List V} {i : Nat} {p : PV} {v : V}, Rls K H vs ps → Rl K H v p → Rls K H (vs.set i v) (ps.set i p)
  | [], _, _, _, _, e, _ => by
    have e : _ = [] := e
    subst e; exact rfl
  | q :: ps, _, 0, p, w, ⟨v, r, e, _, h2⟩, hw => by
    subst e
    exact ⟨w, r, rfl, hw, h2⟩
  | q :: ps, _, i + 1, p, w, ⟨v, r, e, h1, h2⟩, hw => by
    subst e
    exact ⟨v, r.set i w, rfl, h1, Rls.set h2 hw⟩
theorem Rls.append : ∀ {ps qs : List PV} {vs ws : List V}, Rls K H vs ps → Rls K H ws qs → Rls K H (vs ++ ws) (ps ++ qs)
  | [], _, _, _, e, h => by
    have e : _ = [] := e
    subst e; exact h
  | p :: ps, qs, _, ws, ⟨v, r, e, h1, h2⟩, h => by
    subst e
    exact ⟨v, r ++ ws, rfl, h1, Rls.append h2 h⟩
theorem Rls.take : ∀ {ps : List PV} {vs : List V} (n : Nat), Rls K H vs ps → Rls K H (vs.take n) (ps.take n)
  | _, _, 0, _ => rfl
  | [], _, n + 1, e => by
    have e : _ = [] := e
    subst e; exact rfl
  | p :: ps, _, n + 1, ⟨v, r, e, h1, h2⟩ => by
    subst e
    exact ⟨v, r.take n, rfl, h1, Rls.take n h2⟩
theorem Rls.drop : ∀ {ps : List PV} {vs : List V} (n : Nat), Rls K H vs ps → Rls K H (vs.drop n) (ps.drop n)
  | _, _, 0, h => h
  | [], _, n + 1, e => by
    have e : _ = [] := e
    subst e; exact rfl
  | p :: ps, _, n + 1, ⟨v, r, e, h1, h2⟩ => by
    subst e
    exact Rls.drop n h2
theorem Rls.one {v : V} {p : PV} (h : Rl K H v p) : Rls K H [v] [p] := ⟨v, [], rfl, h, rfl⟩
theorem Rls.cons {v : V} {p : PV} {vs : List V} {ps : List PV} (h : Rl K H v p) (g : Rls K H vs ps) : Rls K H (v :: vs) (p :: ps) := ⟨v, vs, rfl, h, g⟩
theorem Rls.nil : Rls K H [] [] := rfl

/-! ### the store turns -/
theorem DRel.mono {t : Bool} {u : HO} {kvs : List (PV × PV)} (x : Le H H') (h : DRel K H t u kvs) : DRel K H' t u kvs := by
  cases t with
  | false => obtain ⟨ks, q, m, r⟩ := h; exact ⟨ks, q, m, Rls.mono x _ _ r⟩
  | true => obtain ⟨ks, q, m, r⟩ := h; exact ⟨ks, q, m, Rls.mono x _ _ r⟩
theorem ObR.mono {ob : Ob} (x : Le H H') (e : H' a = H a) (h : ObR K H a ob) : ObR K H' a ob := by
  cases ob with
  | lst ps => obtain ⟨vs, q, r⟩ := h; exact ⟨vs, e.trans q, Rls.mono x _ _ r⟩
  | ins C fs => obtain ⟨c, dx, gs, q, n, m, b, r⟩ := h; exact ⟨c, dx, gs, e.trans q, n, m, b, Rls.mono x _ _ r⟩
  | dic t kvs => obtain ⟨u, q, d⟩ := h; exact ⟨u, e.trans q, d.mono x⟩
  | fdi t kvs => obtain ⟨od, u, q, d⟩ := h; exact ⟨od, u, e.trans q, d.mono x⟩
theorem le_new (e : H a = none) : Le H (upd H a o) := ⟨fun b _ q => by rw [upd_ne (ne_of_none q e)]; exact q, fun b _ _ q _ => by rw [upd_ne (ne_of_none q e)]; exact q, fun b _ q => by rw [upd_ne (ne_of_none q e)]; exact q, fun b _ q => by rw [upd_ne (ne_of_none q e)]; exact q⟩
theorem le_chg {o0 : HO} (e : H a = some o0) (c : Chg o0) : Le H (upd H a o) :=
  ⟨fun b _ q => by rw [upd_ne (ne_of q e fun z => by rw [← z] at c; exact c)]; exact q, fun b _ _ q _ => by rw [upd_ne (ne_of q e fun z => by rw [← z] at c; exact c)]; exact q, fun b _ q => by rw [upd_ne (ne_of q e fun z => by rw [← z] at c; exact c)]; exact q, fun b _ q => by rw [upd_ne (ne_of q e fun z => by rw [← z] at c; unfold LamX.CodeO at c; exact c)]; exact q⟩
theorem tabs_new (t : LamX.Tabs T H) (e : H a = none) : LamX.Tabs T (upd H a o) := t.ext fun b u q => by rw [upd_ne (ne_of_none q e)]; exact q
theorem tabs_chg {o0 : HO} (t : LamX.Tabs T H) (e : H a = some o0) (c : Chg o0) : LamX.Tabs T (upd H a o) := fun p hp => by
  obtain ⟨ps, h1, h2, h3⟩ := t p hp
  have n1 : p.1 ≠ a := ne_of h1 e fun z => by rw [← z] at c; exact c
  refine ⟨ps, by rw [upd_ne n1]; exact h1, h2, fun pos cv hc => ?_⟩
  obtain ⟨cc, e1, e2⟩ := h3 pos cv hc
  have n2 : cc ≠ a := ne_of e2 e fun z => by
    rw [← z] at c
    unfold LamX.CodeO at c
    exact c
  exact ⟨cc, e1, by rw [upd_ne n2]; exact e2⟩
/-- a new object that the store speaks of -/
theorem Rep.new {ob : Ob} (r : Rep K T S H) (e : H a = none) (h : ObR K (upd H a o) a ob) : Rep K T (put S a ob) (upd H a o) := by
  refine ⟨fun b u q => ?_, tabs_new r.tb e⟩
  by_cases hb : b = a
  · subst hb; rw [put_same] at q; cases q; exact h
  · rw [put_ne hb] at q
    exact (r.ob b u q).mono (le_new e) (upd_ne hb)
/-- a new object that it does not speak of -/
theorem Rep.hid (r : Rep K T S H) (e : H a = none) : Rep K T S (upd H a o) := by
  refine ⟨fun b u q => ?_, tabs_new r.tb e⟩
  have hb : b ≠ a := fun z => by
    subst z
    rw [r.free e] at q
    cases q
  exact (r.ob b u q).mono (le_new e) (upd_ne hb)
/-- an object that it speaks of is written -/
theorem Rep.wr {ob ob0 : Ob} (r : Rep K T S H) (e : S a = some ob0) (h : Le H (upd H a o) → ObR K (upd H a o) a ob) (nf : Nf ob0 := by exact trivial) : Rep K T (put S a ob) (upd H a o) := by
  obtain ⟨o0, e0, c⟩ := (r.ob a ob0 e).chg nf
  have le : Le H (upd H a o) := le_chg e0 c
  refine ⟨fun b u q => ?_, tabs_chg r.tb e0 c⟩
  by_cases hb : b = a
  · subst hb; rw [put_same] at q; cases q; exact h le
  · rw [put_ne hb] at q
    exact (r.ob b u q).mono le (upd_ne hb)
/-- a hidden object is written -/
theorem Rep.hidwr {o0 : HO} (r : Rep K T S H) (n : S a = none) (e : H a = some o0) (c : Chg o0) : Rep K T S (upd H a o) := by
  have le : Le H (upd H a o) := le_chg e c
  refine ⟨fun b u q => ?_, tabs_chg r.tb e c⟩
  have hb : b ≠ a := fun z => by rw [z, n] at q; cases q
  exact (r.ob b u q).mono le (upd_ne hb)
theorem Fr.new {ob : Ob} (e : H a = none) : Fr S H (put S a ob) (upd H a o) := fun b u q _ n => by
  have hb : b ≠ a := ne_of_none q e
  refine ⟨by rw [upd_ne hb]; exact q, ?_, fun z => by rw [put_ne hb]; exact z⟩
  unfold Fz
  rw [put_ne hb]; exact n
theorem Fr.hid (e : H a = none) : Fr S H S (upd H a o) := fun b u q _ n => ⟨by rw [upd_ne (ne_of_none q e)]; exact q, n, id⟩
theorem Fr.wr {ob ob0 : Ob} (e : S a = some ob0) (nf : Nf ob0 := by exact trivial) : Fr S H (put S a ob) (upd H a o) := fun b u q _ n => by
  have hb : b ≠ a := fun z => by
    rw [z] at n
    rcases n with n | ⟨t, kvs, n⟩
    · rw [e] at n; cases n
    · rw [e] at n; cases n; exact nf
  refine ⟨by rw [upd_ne hb]; exact q, ?_, fun z => by rw [put_ne hb]; exact z⟩
  unfold Fz
  rw [put_ne hb]; exact n
/-- less is said -/
def Sub (S' S : Sto) : Prop := ∀ a o, S' a = some o → S a = some o
theorem Sub.refl : Sub S S := fun _ _ e => e
theorem Sub.trans (x : Sub S S1) (y : Sub S1 S2) : Sub S S2 := fun a o e => y a o (x a o e)
theorem Rep.sub (r : Rep K T S H) (s : Sub S' S) : Rep K T S' H := ⟨fun a o e => r.ob a o (s a o e), r.tb⟩
theorem Sub.no (s : Sub S' S) (e : S a = none) : S' a = none := by
  cases q : S' a with
  | none => rfl
  | some o => rw [s a o q] at e; cases e
theorem Fz.sub (s : Sub S' S) (h : Fz S a) : Fz S' a := by
  cases q : S' a with
  | none => exact .inl q
  | some o =>
    have e := s a o q
    rcases h with h | ⟨t, kvs, h⟩
    · rw [e] at h; cases h
    · rw [e] at h; cases h; exact .inr ⟨t, kvs, q⟩
theorem Fr.sub (x : Fr S H S1 H') (s : Sub S' S1) : Fr S H S' H' := fun a o e t n => let ⟨e1, n1, z1⟩ := x a o e t n; ⟨e1, n1.sub s, fun q => s.no (z1 q)⟩
end
end Mp

set_option Elab.async false
set_option linter.all false
set_option maxRecDepth 100000
namespace Mp
open PySem L2

/-! ### readings over trees -/
def iteB : Bool → Prop → Prop → Prop
  | true, A, _ => A
  | false, _, B => B
theorem iteB_dec {p : Prop} [Decidable p] {A B : Prop} (h1 : p → A) (h2 : ¬ p → B) : iteB (decide p) A B := by
  by_cases h : p
  · rw [decide_eq_true h]; exact h1 h
  · rw [decide_eq_false h]; exact h2 h
theorem iteB_ndec {p : Prop} [Decidable p] {A B : Prop} (h1 : ¬ p → A) (h2 : p → B) : iteB (!decide p) A B := by
  by_cases h : p
  · rw [decide_eq_true h]; exact h2 h
  · rw [decide_eq_false h]; exact h1 h
theorem iteB_of {c : Bool} {A B : Prop} (h1 : c = true → A) (h2 : c = false → B) : iteB c A B := by
  cases c
  · exact h2 rfl
  · exact h1 rfl

abbrev QK (β : Type) := β → Sto → Prop
abbrev QX := PX → Sto → Prop
abbrev Qr (β : Type) := PSt → Sto → QK β → QX → Prop
abbrev QTE := Qr PV
abbrev QTT := Qr Bool
abbrev QTA := Qr (List PV)
structure PEnds where
  nx : PSt → Sto → Prop
  rt : QK PV
  bk : PSt → Sto → Prop := fun _ _ => False
  ct : PSt → Sto → Prop := fun _ _ => False
  ex : PX → PSt → Sto → Prop := fun _ _ _ => False
abbrev QTS := PEnds → PSt → Sto → Prop
abbrev PSp := List PV → Sto → QK PV → QX → Prop

def XR (K : PySem.W.Frag) (H : Hp) (c : Value) (d : Option Addr) (x : PX) : Prop :=
  PySem.W.nsIn K mainGlobals x.C = some (some c) ∧ ((d = none ∧ x.fs = []) ∨ ∃ dd gs, d = some dd ∧ H dd = some (.xd gs) ∧ gs.map Prod.fst = x.fs.map Prod.fst ∧ Rls K H (gs.map Prod.snd) (x.fs.map Prod.snd))
def RS (K : PySem.W.Frag) (H : Hp) (σ : St) (τ : PSt) : Prop := τ.length = σ.length ∧ ∀ (i : Nat) (p : PV), τ[i]? = some (some p) → ∃ v, σ[i]? = some (some v) ∧ Rl K H v p

def upG (K : PySem.W.Frag) (T : List (Addr × Str)) (W : WX) {α β : Type} (RR : Hp → α → β → Prop) (q : Qr β) : St → Hp → (α → Hp → Prop) → Prop := fun σ H Q =>
  ∃ τ S P EP, RS K H σ τ ∧ Rep K T S H ∧ q τ S P EP ∧ (∀ v p H' S', Fr S H S' H' → RR H' v p → Rep K T S' H' → P p S' → Q v H') ∧
    ∀ c d x H' S', Fr S H S' H' → XR K H' c d x → Rep K T S' H' → EP x S' → W c d σ H'
abbrev RB : Hp → Bool → Bool → Prop := fun _ a b => a = b
/-- what is wanted at the ends, over trees and over what stands there -/
structure Con (K : PySem.W.Frag) (T : List (Addr × Str)) (W : WX) (S : Sto) (H : Hp) (PD : PEnds) (D : Ends) : Prop where
  nx : ∀ σ' τ' H' S', Fr S H S' H' → RS K H' σ' τ' → Rep K T S' H' → PD.nx τ' S' → D.nx σ' H'
  rt : ∀ v p H' S', Fr S H S' H' → Rl K H' v p → Rep K T S' H' → PD.rt p S' → D.rt v H'
  bk : ∀ σ' τ' H' S', Fr S H S' H' → RS K H' σ' τ' → Rep K T S' H' → PD.bk τ' S' → D.bk σ' H'
  ct : ∀ σ' τ' H' S', Fr S H S' H' → RS K H' σ' τ' → Rep K T S' H' → PD.ct τ' S' → D.ct σ' H'
  ex : ∀ c d x σ' τ' H' S', Fr S H S' H' → RS K H' σ' τ' → XR K H' c d x → Rep K T S' H' → PD.ex x τ' S' → W c d σ' H'
def upS (K : PySem.W.Frag) (T : List (Addr × Str)) (W : WX) (q : QTS) : TS := fun D σ H =>
  ∃ τ S PD, RS K H σ τ ∧ Rep K T S H ∧ q PD τ S ∧ Con K T W S H PD D
/-- a def's promise -/
def spOf (K : PySem.W.Frag) (T : List (Addr × Str)) (n : Nat) (sp : PSp) : Sp := fun vs H Q E => vs.length = n ∧
  ∃ ps S P EP, Rls K H vs ps ∧ Rep K T S H ∧ sp ps S P EP ∧ (∀ v p H' S', Fr S H S' H' → Rl K H' v p → Rep K T S' H' → P p S' → Q v H') ∧
    ∀ c d x H' S', Fr S H S' H' → XR K H' c d x → Rep K T S' H' → EP x S' → E c d H'

def QE (X : Cx) (T : List (Addr × Str)) (W : WX) (e : Expr) (q : QTE) : Prop := PE X e (upG X.K T W (Rl X.K) q)
def QT (X : Cx) (T : List (Addr × Str)) (W : WX) (e : Expr) (q : QTT) : Prop := PT X e (upG X.K T W RB q)
def QW (X : Cx) (T : List (Addr × Str)) (W : WX) (e : Expr) (q : QTT) : Prop := PW X e (upG X.K T W RB q)
def QA (X : Cx) (T : List (Addr × Str)) (W : WX) (es : List Expr) (q : QTA) : Prop := PA X es (upG X.K T W (Rls X.K) q)
def QS (X : Cx) (T : List (Addr × Str)) (W : WX) (st : Stmt) (q : QTS) : Prop := PS X st (upS X.K T W q)
def QSs (X : Cx) (T : List (Addr × Str)) (W : WX) (st : List Stmt) (q : QTS) : Prop := PSs X st (upS X.K T W q)

section
variable {X : Cx} {T : List (Addr × Str)} {W : WX} {e a b : Expr} {es : List Expr} {K : PySem.W.Frag} {S S' S1 : Sto} {H H' H1 : Hp} {σ : St} {τ : PSt}
theorem pe_imp {t t' : TE} (h : PE X e t) (k : ∀ σ H Q, t' σ H Q → t σ H Q) : PE X e t' := ⟨fun pins s σ H Q I w => h.run pins s σ H Q I (k σ H Q w)⟩
theorem pt_imp {t t' : TT} (h : PT X e t) (k : ∀ σ H Q, t' σ H Q → t σ H Q) : PT X e t' := ⟨fun pins s σ H Q I w => h.run pins s σ H Q I (k σ H Q w)⟩
theorem pw_imp {t t' : TT} (h : PW X e t) (k : ∀ σ H Q, t' σ H Q → t σ H Q) : PW X e t' := ⟨fun wh pins s σ H Q I w => h.run wh pins s σ H Q I (k σ H Q w)⟩
theorem pa_imp {t t' : TA} (h : PA X es t) (k : ∀ σ H Q, t' σ H Q → t σ H Q) : PA X es t' := ⟨fun pos pins s σ H Q I w => h.run pos pins s σ H Q I (k σ H Q w)⟩
theorem ps_imp {st : Stmt} {t t' : TS} (h : PS X st t) (k : ∀ D σ H, t' D σ H → t D σ H) : PS X st t' := ⟨fun pins s σ H D I w => h.run pins s σ H D I (k D σ H w)⟩
theorem pss_imp {st : List Stmt} {t t' : TS} (h : PSs X st t) (k : ∀ D σ H, t' D σ H → t D σ H) : PSs X st t' := ⟨fun pins s σ H D I w => h.run pins s σ H D I (k D σ H w)⟩

theorem RS.mono (r : RS K H σ τ) (x : Le H H') : RS K H' σ τ := ⟨r.1, fun i p e => let ⟨v, h1, h2⟩ := r.2 i p e; ⟨v, h1, Rl.mono x _ _ h2⟩⟩
theorem RS.set {i : Nat} {v : V} {p : PV} (r : RS K H σ τ) (h : Rl K H v p) : RS K H (σ.set i (some v)) (τ.set i (some p)) := by
  refine ⟨by simp [r.1], fun j q e => ?_⟩
  by_cases hj : i = j
  · subst hj
    rw [List.getElem?_set] at e
    rw [if_pos rfl] at e
    split at e
    · rename_i hi
      cases e
      exact ⟨v, by rw [List.getElem?_set_self (by rw [← r.1]; exact hi)], h⟩
    · cases e
  · rw [List.getElem?_set_ne hj] at e
    obtain ⟨w, h1, h2⟩ := r.2 j q e
    exact ⟨w, by rw [List.getElem?_set_ne hj]; exact h1, h2⟩
theorem RS.unset {i : Nat} (r : RS K H σ τ) : RS K H (σ.set i none) (τ.set i none) := by
  refine ⟨by simp [r.1], fun j q e => ?_⟩
  by_cases hj : i = j
  · subst hj
    rw [List.getElem?_set] at e
    rw [if_pos rfl] at e
    split at e <;> cases e
  · rw [List.getElem?_set_ne hj] at e
    obtain ⟨w, h1, h2⟩ := r.2 j q e
    exact ⟨w, by rw [List.getElem?_set_ne hj]; exact h1, h2⟩

section
variable {α β α' β' : Type} {RR : Hp → α → β → Prop} {RR' : Hp → α' → β' → Prop}
theorem up_mono {q : Qr β} {Q Q' : α → Hp → Prop} (h : upG K T W RR q σ H Q) (k : ∀ v H', Q v H' → Q' v H') : upG K T W RR q σ H Q' := by
  obtain ⟨τ, S, P, EP, h1, h2, h3, h4, h5⟩ := h
  exact ⟨τ, S, P, EP, h1, h2, h3, fun v p H' S' a b c d => k _ _ (h4 v p H' S' a b c d), h5⟩
/-- a part is read, then the rest -/
theorem up_bind {qa : Qr β} {qk : β → Qr β'} {Q : α' → Hp → Prop} (h : upG K T W RR' (fun τ S P EP => qa τ S (fun x S1 => qk x τ S1 P EP) EP) σ H Q) :
    upG K T W RR qa σ H fun v H1 => ∃ p, Le H H1 ∧ RR H1 v p ∧ upG K T W RR' (qk p) σ H1 Q := by
  obtain ⟨τ, S, P, EP, h1, h2, h3, h4, h5⟩ := h
  refine ⟨τ, S, _, EP, h1, h2, h3, fun v p H1 S1 fr rl rep hp => ⟨p, fr.le h2, rl, τ, S1, P, EP, h1.mono (fr.le h2), rep, hp, fun v2 p2 H2 S2 fr2 => h4 v2 p2 H2 S2 (fr.trans fr2), fun c d x H2 S2 fr2 => h5 c d x H2 S2 (fr.trans fr2)⟩, h5⟩
/-- .. with what is known ahead -/
theorem up_then {qa : Qr β} {qk : β → Qr β'} {Q : α' → Hp → Prop} {Q' : α → Hp → Prop} (h : upG K T W RR' (fun τ S P EP => qa τ S (fun x S1 => qk x τ S1 P EP) EP) σ H Q)
    (k : ∀ v p H1, Le H H1 → RR H1 v p → upG K T W RR' (qk p) σ H1 Q → Q' v H1) : upG K T W RR qa σ H Q' :=
  up_mono (up_bind h) fun v H1 ⟨p, l, r, u⟩ => k v p H1 l r u
end

/-! ### names and constants -/
def look : PSt → Nat → Option PV
  | [], _ => none
  | x :: _, 0 => x
  | _ :: r, i + 1 => look r i
theorem look_get : ∀ (τ : PSt) (i : Nat) (p : PV), look τ i = some p → τ[i]? = some (some p)
  | [], _, _, h => nomatch h
  | x :: _, 0, p, h => by
    have h : x = some p := h
    rw [h]; rfl
  | _ :: r, i + 1, p, h => by simpa using look_get r i p h
def qVar (i : Nat) : QTE := fun τ S P _ => match look τ i with
  | some p => P p S
  | none => False
def qC (p : PV) : QTE := fun _ S P _ => P p S
theorem q_var (i : Nat) {x : Str} {pos : Pos} (hN : X.N[i]? = some x := by rfl) (hv : Vis X.env.scope x := by first | exact Or.inl rfl | exact Or.inr (Or.inl rfl) | exact Or.inr (Or.inr rfl)) (hd : (x == ("__debug__" : Str)) = false := by decide)
    (hc : (x == ("__classdict__" : Str)) = false := by decide) : QE X T W (.Name x pos) (qVar i) := by
  refine pe_imp (pe_var hN hv hd hc) fun σ H Q ⟨τ, S, P, EP, h1, h2, h3, h4, _⟩ => ?_
  unfold qVar at h3
  cases q : look τ i with
  | none => rw [q] at h3; exact h3.elim
  | some p =>
    rw [q] at h3
    obtain ⟨v, e, r⟩ := h1.2 i p (look_get τ i p q)
    exact ⟨v, e, h4 v p H S Fr.refl r h2 h3⟩
theorem q_con {v : V} {p : PV} (h : PE X e (tC v)) (r : ∀ H, Rl X.K H v p) : QE X T W e (qC p) :=
  pe_imp h fun σ H Q ⟨τ, S, P, EP, h1, h2, h3, h4, _⟩ => h4 v p H S Fr.refl (r H) h2 h3
theorem q_int {i j pos} : QE X T W (.Constant (.int i) j pos) (qC (.int i)) := q_con pe_int fun _ => rfl
theorem q_bl {c j pos} : QE X T W (.Constant (.bool c) j pos) (qC (.bl c)) := q_con pe_bl fun _ => rfl
theorem q_non {j pos} : QE X T W (.Constant .none j pos) (qC .non) := q_con pe_non fun _ => rfl
theorem q_str {x : Str} {cs : List Nat} {j pos} (h : x = ⟨cs.toArray⟩ := by rfl) : QE X T W (.Constant (.str x) j pos) (qC (.str cs)) := q_con pe_str fun _ => by rw [h]; exact rfl

/-! ### two-place operations -/
abbrev FO2 := PV → PV → Sto → QK PV → Prop
def qBin (f : FO2) (qa qb : QTE) : QTE := fun τ S P EP => qa τ S (fun x S1 => qb τ S1 (fun y S2 => f x y S2 P) EP) EP
def OpQ (K : PySem.W.Frag) (T : List (Addr × Str)) (r : R2) (f : FO2) : Prop := ∀ x y p1 p2 H S (P : QK PV) (Q : VK), Rl K H x p1 → Rl K H y p2 → Rep K T S H → f p1 p2 S P →
  (∀ v p H' S', Fr S H S' H' → Rl K H' v p → Rep K T S' H' → P p S' → Q v H') → r x y H Q
theorem up_bin {r : R2} {f : FO2} {qa qb : QTE} (o : OpQ K T r f) {Q : VK} (h : upG K T W (Rl K) (qBin f qa qb) σ H Q) : tOp r (upG K T W (Rl K) qa) (upG K T W (Rl K) qb) σ H Q := by
  refine up_then (RR := Rl K) h fun x p1 H1 l1 r1 h1 => ?_
  refine up_then (RR := Rl K) (qk := fun y _ S2 P _ => f p1 y S2 P) h1 fun y p2 H2 l2 r2 ⟨τ, S, P, EP, _, h2, h3, h4, _⟩ => ?_
  exact o x y p1 p2 H2 S P Q (Rl.mono l2 _ _ r1) r2 h2 h3 h4
theorem q_bin {op : Operator} {r : R2} {f : FO2} {qa qb : QTE} {pos : Pos} (hr : OpR X (binaryOp op) r) (o : OpQ X.K T r f) (ha : QE X T W a qa) (hb : QE X T W b qb) : QE X T W (.BinOp a op b pos) (qBin f qa qb) :=
  pe_imp (pe_op hr ha hb) fun _ _ _ h => up_bin o h
theorem q_cmp {op : CmpOp} {r : R2} {f : FO2} {qa qb : QTE} {pos : Pos} (hr : OpR X (compareOp op) r) (o : OpQ X.K T r f) (hm : behindInMarks op b = false) (ha : QE X T W a qa) (hb : QE X T W b qb) : QE X T W (.Compare a [op] [b] pos) (qBin f qa qb) :=
  pe_imp (pe_cmpR hr ha hb hm) fun _ _ _ h => up_bin o h
/-- a comparison as a test -/
def qTst (q : QTE) : QTT := fun τ S P EP => q τ S (fun x S1 => match x with
  | .bl c => P c S1
  | _ => False) EP
theorem up_tst {q : QTE} {Q : Bool → Hp → Prop} (h : upG K T W RB (qTst q) σ H Q) : upG K T W (Rl K) q σ H (fun x H1 => ∃ c, x = .bl c ∧ Q c H1) := by
  refine up_then (RR := Rl K) (qk := fun x _ S1 P _ => match x with | .bl c => P c S1 | _ => False) h fun v p H1 l r ⟨τ, S, P, EP, h1, h2, h3, h4, _⟩ => ?_
  cases p with
  | bl c =>
    have e : v = .bl c := r
    exact ⟨c, e, h4 c c H1 S Fr.refl rfl h2 h3⟩
  | _ => exact h3.elim
theorem qt_val {q : QTE} (h : QE X T W e q) (he : ∀ whole, isTrue e X.env whole = (do let v ← whole; standAt e.pos; holding [v] (truthy v)) := by intro _; rfl) : QT X T W e (qTst q) :=
  pt_imp (pt_val h he) fun σ H Q h => up_tst h
theorem qt_cmp {op : CmpOp} {r : R2} {f : FO2} {qa qb : QTE} {pos : Pos} (hr : OpR X (compareOp op) r) (o : OpQ X.K T r f) (hm : behindInMarks op b = false) (ha : QE X T W a qa) (hb : QE X T W b qb) : QT X T W (.Compare a [op] [b] pos) (qTst (qBin f qa qb)) :=
  pt_imp (pt_cmpR hr ha hb hm) fun σ H Q h => up_bin_tst o h
where
  up_bin_tst {σ : St} {H : Hp} {Q : Bool → Hp → Prop} (o : OpQ X.K T r f) (h : upG X.K T W RB (qTst (qBin f qa qb)) σ H Q) : tTest (tOp r (upG X.K T W (Rl X.K) qa) (upG X.K T W (Rl X.K) qb)) σ H Q := up_bin o (up_tst h)

/-! ### and, or, not, tests -/
def qAnd (t u : QTT) : QTT := fun τ S P EP => t τ S (fun c S1 => iteB c (u τ S1 P EP) (P false S1)) EP
def qOr (t u : QTT) : QTT := fun τ S P EP => t τ S (fun c S1 => iteB c (P true S1) (u τ S1 P EP)) EP
def qNot (t : QTT) : QTT := fun τ S P EP => t τ S (fun c S1 => P (!c) S1) EP
theorem up_ite {α β : Type} {RR : Hp → α → β → Prop} {t : QTT} {A B : Qr β} {Q : α → Hp → Prop} (h : upG K T W RR (fun τ S P EP => t τ S (fun c S1 => iteB c (A τ S1 P EP) (B τ S1 P EP)) EP) σ H Q) :
    upG K T W RB t σ H fun c H1 => if c = true then upG K T W RR A σ H1 Q else upG K T W RR B σ H1 Q := by
  refine up_then (RR := RB) (qk := fun c τ S1 P EP => iteB c (A τ S1 P EP) (B τ S1 P EP)) h fun c p H1 l r u => ?_
  have e : c = p := r
  subst e
  cases c with
  | true => exact u
  | false => exact u
theorem up_ret {α β : Type} {RR : Hp → α → β → Prop} {v : α} {p : β} {Q : α → Hp → Prop} (h : upG K T W RR (fun _ S P _ => P p S) σ H Q) (r : RR H v p) : Q v H := by
  obtain ⟨τ, S, P, EP, h1, h2, h3, h4, _⟩ := h
  exact h4 v p H S Fr.refl r h2 h3
variable {qt qu : QTT} {rest : List Expr} {pos : Pos}
theorem qw_and1 (ha : QT X T W a qt) : QW X T W (.BoolOp .And [a] pos) qt := pw_and1 ha
theorem qw_or1 (ha : QT X T W a qt) : QW X T W (.BoolOp .Or [a] pos) qt := pw_or1 ha
theorem qw_and (ha : QT X T W a qt) (hb : QW X T W (.BoolOp .And (b :: rest) pos) qu) : QW X T W (.BoolOp .And (a :: b :: rest) pos) (qAnd qt qu) :=
  pw_imp (pw_and ha hb) fun σ H Q h => up_mono (up_ite (A := qu) (B := fun _ S1 P _ => P false S1) h) fun c H1 z => by
    cases c with
    | true => exact z
    | false => exact up_ret z rfl
theorem qw_or (ha : QT X T W a qt) (hb : QW X T W (.BoolOp .Or (b :: rest) pos) qu) : QW X T W (.BoolOp .Or (a :: b :: rest) pos) (qOr qt qu) :=
  pw_imp (pw_or ha hb) fun σ H Q h => up_mono (up_ite (A := fun _ S1 P _ => P true S1) (B := qu) h) fun c H1 z => by
    cases c with
    | false => exact z
    | true => exact up_ret z rfl
theorem qt_w (h : QW X T W e qt) : QT X T W e qt := PW.pt h
theorem qt_not (h : QT X T W a qt) : QT X T W (.UnaryOp .Not a pos) (qNot qt) :=
  pt_imp (pt_not h) fun σ H Q h => up_then (RR := RB) (qk := fun c _ S1 P _ => P (!c) S1) h fun c p H1 l r u => by
    have e : c = p := r
    subst e
    exact up_ret u rfl
/-- as values, of truth values -/
def qAndV (qa qb : QTE) : QTE := fun τ S P EP => qa τ S (fun x S1 => match x with
  | .bl true => qb τ S1 P EP
  | .bl false => P (.bl false) S1
  | _ => False) EP
def qOrV (qa qb : QTE) : QTE := fun τ S P EP => qa τ S (fun x S1 => match x with
  | .bl true => P (.bl true) S1
  | .bl false => qb τ S1 P EP
  | _ => False) EP
def qNotV (qa : QTE) : QTE := fun τ S P EP => qa τ S (fun x S1 => match x with
  | .bl c => P (.bl (!c)) S1
  | _ => False) EP
theorem qe_one {op} {q : QTE} (h : QE X T W a q) : QE X T W (.BoolOp op [a] pos) q := pe_one h
theorem qe_and {qa qb : QTE} (ha : QE X T W a qa) (hb : QE X T W (.BoolOp .And (b :: rest) pos) qb) : QE X T W (.BoolOp .And (a :: b :: rest) pos) (qAndV qa qb) :=
  pe_imp (pe_and ha hb) fun σ H Q h => up_then (RR := Rl X.K) (qk := fun x τ S1 P EP => match x with | .bl true => qb τ S1 P EP | .bl false => P (.bl false) S1 | _ => False) h fun v p H1 l r u => by
    cases p with
    | bl c =>
      have e : v = .bl c := r
      refine ⟨c, e, ?_⟩
      cases c with
      | true => exact u
      | false => exact up_ret u rfl
    | _ => obtain ⟨_, _, _, _, _, _, z, _⟩ := u; exact z.elim
theorem qe_or {qa qb : QTE} (ha : QE X T W a qa) (hb : QE X T W (.BoolOp .Or (b :: rest) pos) qb) : QE X T W (.BoolOp .Or (a :: b :: rest) pos) (qOrV qa qb) :=
  pe_imp (pe_or ha hb) fun σ H Q h => up_then (RR := Rl X.K) (qk := fun x τ S1 P EP => match x with | .bl true => P (.bl true) S1 | .bl false => qb τ S1 P EP | _ => False) h fun v p H1 l r u => by
    cases p with
    | bl c =>
      have e : v = .bl c := r
      refine ⟨c, e, ?_⟩
      cases c with
      | false => exact u
      | true => exact up_ret u rfl
    | _ => obtain ⟨_, _, _, _, _, _, z, _⟩ := u; exact z.elim
theorem qe_not {qa : QTE} (ha : QE X T W a qa) : QE X T W (.UnaryOp .Not a pos) (qNotV qa) :=
  pe_imp (pe_not ha) fun σ H Q h => up_then (RR := Rl X.K) (RR' := Rl X.K) (qk := fun x _ S1 P _ => match x with | .bl c => P (PV.bl (!c)) S1 | _ => False) h fun v p H1 l r u => by
    cases p with
    | bl c =>
      have e : v = .bl c := r
      exact ⟨c, e, up_ret (RR := Rl X.K) (v := V.bl (!c)) (p := PV.bl (!c)) u rfl⟩
    | _ => obtain ⟨_, _, _, _, _, _, z, _⟩ := u; exact z.elim
def qIf (t : QTT) (qa qb : QTE) : QTE := fun τ S P EP => t τ S (fun c S1 => iteB c (qa τ S1 P EP) (qb τ S1 P EP)) EP
theorem qe_if {c : Expr} {qa qb : QTE} (hc : QT X T W c qt) (ha : QE X T W a qa) (hb : QE X T W b qb) : QE X T W (.IfExp c a b pos) (qIf qt qa qb) :=
  pe_imp (pe_ifExp hc ha hb) fun σ H Q h => up_ite h

/-! ### arguments, displays -/
def qaN : QTA := fun _ S P _ => P [] S
def qaC (q : QTE) (r : QTA) : QTA := fun τ S P EP => q τ S (fun x S1 => r τ S1 (fun xs S2 => P (x :: xs) S2) EP) EP
theorem qa_nil : QA X T W [] qaN := pa_imp pa_nil fun σ H Q h => up_ret (v := ([] : List V)) (p := ([] : List PV)) h rfl
theorem qa_cons {q : QTE} {r : QTA} (ha : QE X T W e q) (hr : QA X T W es r) (hs : starEach (e :: es) X.env = (false, eval e X.env) :: starEach es X.env := by rfl) : QA X T W (e :: es) (qaC q r) :=
  pa_imp (pa_cons ha hr hs) fun σ H Q h => up_then (RR := Rl X.K) (qk := fun x τ S1 P EP => r τ S1 (fun xs S2 => P (x :: xs) S2) EP) h fun v p H1 l rv u =>
    up_then (RR := Rls X.K) (qk := fun xs _ S2 P _ => P (p :: xs) S2) u fun vs ps H2 l2 rvs u2 => up_ret (v := v :: vs) (p := p :: ps) u2 (Rls.cons (Rl.mono l2 _ _ rv) rvs)
def qTup (q : QTA) : QTE := fun τ S P EP => q τ S (fun xs S1 => xs.length ≤ sizeLine ∧ P (.tup xs) S1) EP
theorem q_tup {x1} {q : QTA} (h : QA X T W es q) : QE X T W (.Tuple es x1 pos) (qTup q) :=
  pe_imp (pe_tup h) fun σ H Q h => up_then (RR := Rls X.K) (RR' := Rl X.K) (qk := fun xs _ S1 P _ => xs.length ≤ sizeLine ∧ P (PV.tup xs) S1) h fun vs ps H1 l r ⟨τ, S, P, EP, h1, h2, h3, h4, _⟩ =>
    ⟨by rw [Rls.length r]; exact h3.1, fun p hp => h4 (.ref p) (.tup ps) _ S (Fr.hid hp) ⟨p, vs, rfl, upd_same, Rls.mono (le_new hp) _ _ r⟩ (h2.hid hp) h3.2⟩
/-- not there before, as far as the frame tells -/
def Nu (S : Sto) (H : Hp) (a : Addr) : Prop := ∀ o, H a = some o → (∀ ps, o ≠ .tbl ps) → ¬ Fz S a
theorem Nu.of {p : Addr} (fr : Fr S H S1 H1) (np : H1 p = none) : Nu S H p := fun o e t n => by
  rw [(fr p o e t n).1] at np
  cases np
theorem Nu.back {p : Addr} (fr : Fr S H S1 H1) (n : Nu S1 H1 p) : Nu S H p := fun o e t z =>
  let ⟨e1, n1, _⟩ := fr p o e t z
  n o e1 t n1
theorem Fr.take {p : Addr} {ob : Ob} (fr : Fr S H S1 H1) (n : Nu S H p) : Fr S H (put S1 p ob) H1 := fun b o e t z => by
  obtain ⟨e1, n1, z1⟩ := fr b o e t z
  have hb : b ≠ p := fun q => by
    subst q
    exact n o e t z
  refine ⟨e1, ?_, fun q => by rw [put_ne hb]; exact z1 q⟩
  unfold Fz
  rw [put_ne hb]; exact n1
theorem Rep.take {p : Addr} {ob : Ob} (r : Rep K T S H) (h : ObR K H p ob) : Rep K T (put S p ob) H := ⟨fun b u q => by
  by_cases hb : b = p
  · subst hb; rw [put_same] at q; cases q; exact h
  · rw [put_ne hb] at q; exact r.ob b u q, r.tb⟩
/-- a new list, by its items: what is made is not spoken of -/
def upL (K : PySem.W.Frag) (T : List (Addr × Str)) (W : WX) (q : QTA) : TE := fun σ H Q =>
  ∃ τ S P EP, RS K H σ τ ∧ Rep K T S H ∧ q τ S P EP ∧ (∀ a vs ps H' S', Fr S H S' H' → H' a = some (.lst vs) → S' a = none → Nu S H a → Rls K H' vs ps → Rep K T S' H' → P ps S' → Q (.ref a) H') ∧
    ∀ c d x H' S', Fr S H S' H' → XR K H' c d x → Rep K T S' H' → EP x S' → W c d σ H'
def QL (X : Cx) (T : List (Addr × Str)) (W : WX) (e : Expr) (q : QTA) : Prop := PE X e (upL X.K T W q)
def qLst (q : QTA) : QTA := fun τ S P EP => q τ S (fun xs S1 => xs.length ≤ sizeLine ∧ P xs S1) EP
def qNew (q : QTA) : QTE := fun τ S P EP => q τ S (fun xs S1 => ∀ p, S1 p = none → P (.ref p) (put S1 p (.lst xs))) EP
theorem ql_lst {q : QTA} (h : QA X T W es q) : QL X T W (.List es pos) (qLst q) := by
  refine pe_imp (pe_lst h) fun σ H Q ⟨τ, S, P, EP, h1, h2, h3, h4, h5⟩ => ?_
  refine ⟨τ, S, _, EP, h1, h2, h3, fun vs ps H1 S1 fr rl rep hp => ⟨by rw [Rls.length rl]; exact hp.1, fun p np => ?_⟩, h5⟩
  exact h4 p vs ps _ S1 (fr.trans (Fr.hid np)) upd_same (rep.free np) (Nu.of fr np) (Rls.mono (le_new np) _ _ rl) (rep.hid np) hp.2
theorem q_new {q : QTA} (h : QL X T W e q) : QE X T W e (qNew q) := by
  refine pe_imp h fun σ H Q ⟨τ, S, P, EP, h1, h2, h3, h4, h5⟩ => ?_
  refine ⟨τ, S, _, EP, h1, h2, h3, fun a vs ps H1 S1 fr e n nu rl rep hp => ?_, h5⟩
  exact h4 (.ref a) (.ref a) H1 _ (fr.take nu) rfl (rep.take (ob := .lst ps) ⟨vs, e, rl⟩) (hp a n)
end
end Mp

set_option Elab.async false
set_option linter.all false
set_option maxRecDepth 100000
namespace Mp
open PySem L2

section
variable {X : Cx} {T : List (Addr × Str)} {W : WX} {e a b : Expr} {es : List Expr} {K : PySem.W.Frag} {S S' S1 : Sto} {H H' H1 : Hp} {σ : St} {τ : PSt} {PD : PEnds} {D : Ends} {pos : Pos}
theorem Con.mono (c : Con K T W S H PD D) (fr : Fr S H S1 H1) : Con K T W S1 H1 PD D :=
  ⟨fun _ _ _ _ f => c.nx _ _ _ _ (fr.trans f), fun _ _ _ _ f => c.rt _ _ _ _ (fr.trans f), fun _ _ _ _ f => c.bk _ _ _ _ (fr.trans f), fun _ _ _ _ f => c.ct _ _ _ _ (fr.trans f), fun _ _ _ _ _ _ _ f => c.ex _ _ _ _ _ _ _ (fr.trans f)⟩
/-! ### blocks, small statements -/
def qNext : QTS := fun D τ S => D.nx τ S
def qSeq (t u : QTS) : QTS := fun D τ S => t { D with nx := fun τ1 S1 => u D τ1 S1 } τ S
theorem up_next (h : upS K T W qNext D σ H) : D.nx σ H := by
  obtain ⟨τ, S, PD, h1, h2, h3, c⟩ := h
  exact c.nx σ τ H S Fr.refl h1 h2 h3
theorem qss_nil : QSs X T W [] qNext := pss_imp pss_nil fun D σ H h => up_next h
theorem qss_one {st : Stmt} {t : QTS} (h : QS X T W st t) : QSs X T W [st] t := pss_one h
theorem qss_cons {st : Stmt} {rest : List Stmt} {t u : QTS} (h1 : QS X T W st t) (h2 : QSs X T W rest u) : QSs X T W (st :: rest) (qSeq t u) :=
  pss_imp (pss_cons h1 h2) fun D σ H ⟨τ, S, PD, r, rep, q, c⟩ => ⟨τ, S, _, r, rep, q, ⟨fun σ' τ' H' S' fr rs rp hp => ⟨τ', S', PD, rs, rp, hp, c.mono fr⟩, c.rt, c.bk, c.ct, c.ex⟩⟩
def qBrk : QTS := fun D τ S => D.bk τ S
def qCnt : QTS := fun D τ S => D.ct τ S
theorem qs_pass : QS X T W (.Pass pos) qNext := ps_imp ps_pass fun D σ H h => up_next h
theorem qs_brk : QS X T W (.Break pos) qBrk := ps_imp ps_break fun D σ H ⟨τ, S, PD, h1, h2, h3, c⟩ => c.bk σ τ H S Fr.refl h1 h2 h3
theorem qs_cnt : QS X T W (.Continue pos) qCnt := ps_imp ps_continue fun D σ H ⟨τ, S, PD, h1, h2, h3, c⟩ => c.ct σ τ H S Fr.refl h1 h2 h3
theorem qs_doc {x j pos'} : QS X T W (.Expr (.Constant (.str x) j pos) pos') qNext := ps_imp ps_doc fun D σ H h => up_next h
def exAt (D : PEnds) (τ : PSt) : QX := fun x S => D.ex x τ S
def qDrop (q : QTE) : QTS := fun D τ S => q τ S (fun _ S1 => D.nx τ S1) (exAt D τ)
def qRet (q : QTE) : QTS := fun D τ S => q τ S D.rt (exAt D τ)
def qRetN : QTS := fun D _ S => D.rt .non S
theorem con_up {α β : Type} {RR : Hp → α → β → Prop} {q : Qr β} {P : QK β} {Q : α → Hp → Prop} (r : RS K H σ τ) (rep : Rep K T S H) (c : Con K T W S H PD D) (h : q τ S P (exAt PD τ))
    (k : ∀ v p H' S', Fr S H S' H' → RS K H' σ τ → RR H' v p → Rep K T S' H' → P p S' → Q v H') : upG K T W RR q σ H Q :=
  ⟨τ, S, P, _, r, rep, h, fun v p H' S' fr rl rp hp => k v p H' S' fr (r.mono (fr.le rep)) rl rp hp, fun cc d x H' S' fr xr rp hp => c.ex cc d x σ τ H' S' fr (r.mono (fr.le rep)) xr rp hp⟩
theorem qs_expr {q : QTE} (h : QE X T W e q) (hs : swapsWith e none pos.line X.env = pure false := by rfl) : QS X T W (.Expr e pos) (qDrop q) :=
  ps_imp (ps_expr h hs) fun D σ H ⟨τ, S, PD, r, rep, q, c⟩ => con_up r rep c q fun v p H' S' fr rs rl rp hp => c.nx σ τ H' S' fr rs rp hp
theorem qs_ret {q : QTE} (h : QE X T W e q) : QS X T W (.Return (some e) pos) (qRet q) :=
  ps_imp (ps_ret h) fun D σ H ⟨τ, S, PD, r, rep, q, c⟩ => con_up r rep c q fun v p H' S' fr rs rl rp hp => c.rt v p H' S' fr rl rp hp
theorem qs_retN : QS X T W (.Return none pos) qRetN :=
  ps_imp ps_retN fun D σ H ⟨τ, S, PD, r, rep, q, c⟩ => c.rt .non .non H S Fr.refl rfl rep q
def qIfS (t : QTT) (u v : QTS) : QTS := fun D τ S => t τ S (fun c S1 => iteB c (u D τ S1) (v D τ S1)) (exAt D τ)
theorem qs_if {c : Expr} {x y : List Stmt} {t : QTT} {u v : QTS} (hc : QT X T W c t) (hx : QSs X T W x u) (hy : QSs X T W y v) : QS X T W (.If c x y pos) (qIfS t u v) :=
  ps_imp (ps_if hc hx hy) fun D σ H ⟨τ, S, PD, r, rep, q, c⟩ => con_up (RR := RB) r rep c q fun b p H' S' fr rs rl rp hp => by
    have e : b = p := rl
    subst e
    cases b with
    | true => exact ⟨τ, S', PD, rs, rp, hp, c.mono fr⟩
    | false => exact ⟨τ, S', PD, rs, rp, hp, c.mono fr⟩

/-! ### targets; nothing is raised in them -/
abbrev W0 : WX := fun _ _ _ _ => False
abbrev X0 : QX := fun _ _ => False
abbrev QTG := PV → PSt → Sto → (PSt → Sto → Prop) → Prop
abbrev QTGs := List PV → PSt → Sto → (PSt → Sto → Prop) → Prop
def upGt (K : PySem.W.Frag) (T : List (Addr × Str)) {α β : Type} (RR : Hp → α → β → Prop) (g : β → PSt → Sto → (PSt → Sto → Prop) → Prop) : α → St → Hp → (St → Hp → Prop) → Prop := fun v σ H Q =>
  ∃ p τ S P, RR H v p ∧ RS K H σ τ ∧ Rep K T S H ∧ g p τ S P ∧ ∀ σ' τ' H' S', Fr S H S' H' → RS K H' σ' τ' → Rep K T S' H' → P τ' S' → Q σ' H'
def QG (X : Cx) (T : List (Addr × Str)) (tg : Expr) (g : QTG) : Prop := PG X tg (upGt X.K T (Rl X.K) g)
def QGs (X : Cx) (T : List (Addr × Str)) (tg : List Expr) (g : QTGs) : Prop := PGs X tg (upGt X.K T (Rls X.K) g)
theorem pg_imp {t t' : TG} (h : PG X e t) (k : ∀ v σ H Q, t' v σ H Q → t v σ H Q) : PG X e t' := ⟨fun pins s σ H v u Q I r w => h.run pins s σ H v u Q I r (k v σ H Q w)⟩
theorem pgs_imp {t t' : TGs} (h : PGs X es t) (k : ∀ v σ H Q, t' v σ H Q → t v σ H Q) : PGs X es t' := ⟨fun pins s σ H v u Q I r w => h.run pins s σ H v u Q I r (k v σ H Q w)⟩
def qgName (i : Nat) : QTG := fun p τ S P => P (τ.set i (some p)) S
theorem qg_name {i : Nat} {x : Str} (hN : X.N.Nodup) (hi : X.N[i]? = some x := by rfl) (hx : Loc X.env.scope x := by first | exact Or.inl rfl | exact Or.inr rfl)
    (hf : X.fn x = true ∨ X.env.scope.names.lookup x = some .local := by first | exact .inl rfl | exact .inr rfl | assumption) : QG X T (.Name x pos) (qgName i) :=
  pg_imp (pg_name hN hi hx hf) fun v σ H Q ⟨p, τ, S, P, rl, r, rep, g, k⟩ => k _ _ H S Fr.refl (r.set rl) rep g
def qgN : QTGs := fun ps τ S P => match ps with
  | [] => P τ S
  | _ => False
def qgC (g : QTG) (u : QTGs) : QTGs := fun ps τ S P => match ps with
  | p :: r => g p τ S fun τ' S' => u r τ' S' P
  | _ => False
theorem qgs_nil : QGs X T [] qgN := pgs_imp pgs_nil fun vs σ H Q ⟨ps, τ, S, P, rl, r, rep, g, k⟩ => by
  cases ps with
  | nil => exact ⟨rl, k _ _ H S Fr.refl r rep g⟩
  | cons _ _ => exact g.elim
theorem qgs_cons {g : QTG} {u : QTGs} (h1 : QG X T e g) (h2 : QGs X T es u) (hs : (assignEach (e :: es) X.env).map (·.2) = assign e X.env :: (assignEach es X.env).map (·.2) := by rfl) : QGs X T (e :: es) (qgC g u) :=
  pgs_imp (pgs_cons h1 h2 hs) fun vs σ H Q ⟨ps, τ, S, P, rl, r, rep, g, k⟩ => by
    cases ps with
    | nil => exact g.elim
    | cons p ps =>
      obtain ⟨v, vr, e1, h1, h2⟩ := rl
      refine ⟨v, vr, e1, p, τ, S, _, h1, r, rep, g, fun σ' τ' H' S' fr rs rp hp => ⟨ps, τ', S', P, Rls.mono (fr.le rep) _ _ h2, rs, rp, hp, fun σ2 τ2 H2 S2 f2 => k σ2 τ2 H2 S2 (fr.trans f2)⟩⟩
def qgTup (n : Nat) (g : QTGs) : QTG := fun p τ S P => match p with
  | .tup ps => ps.length = n ∧ g ps τ S P
  | _ => False
theorem qg_tup {k n : Nat} {g : QTGs} (hc : X.calm = true) (h : QGs X T es g) (hn : (assignEach es X.env).length = n := by rfl) (hst : (assignEach es X.env).findIdx? (·.1) = none := by rfl) : QG X T (.Tuple es k pos) (qgTup n g) :=
  pg_imp (pg_tup hc h hn hst) fun v σ H Q ⟨p, τ, S, P, rl, r, rep, g, k⟩ => by
    cases p with
    | tup ps =>
      obtain ⟨a, vs, e1, sq, rs⟩ := rl
      exact ⟨a, vs, e1, SqT.of sq, by rw [Rls.length rs]; exact g.1, ps, τ, S, P, rs, r, rep, g.2, k⟩
    | _ => exact g.elim
/-- o[i] = v, by values -/
abbrev FSet := PV → PV → PV → Sto → (Sto → Prop) → Prop
def SetQ (K : PySem.W.Frag) (T : List (Addr × Str)) (t : TSet) (f : FSet) : Prop := ∀ o i v p1 p2 p3 H S (P : Sto → Prop) (Q : Hp → Prop), Rl K H o p1 → Rl K H i p2 → Rl K H v p3 → Rep K T S H → f p1 p2 p3 S P →
  (∀ H' S', Fr S H S' H' → Rep K T S' H' → P S' → Q H') → t o i v H Q
def qgSub (qo qi : QTE) (f : FSet) : QTG := fun v τ S P => qo τ S (fun o S1 => qi τ S1 (fun i S2 => f o i v S2 (fun S3 => P τ S3)) X0) X0
theorem qg_sub {o i : Expr} {qo qi : QTE} {t : TSet} {f : FSet} (hs : PSet X t) (hf : SetQ X.K T t f) (ho : QE X T W0 o qo) (hi : QE X T W0 i qi)
    (ha : ∀ v, assign (.Subscript o i pos) X.env v = (do
      let ov ← holding [v] (eval o X.env)
      let iv ← holding [v, ov] (eval i X.env)
      standAt pos
      holding [v, ov, iv] (setItem ov iv v)
      release [v, ov, iv] []) := by intro _; rfl) : QG X T (.Subscript o i pos) (qgSub qo qi f) :=
  pg_imp (pg_sub ho hi hs ha) fun v σ H Q ⟨p, τ, S, P, rl, r, rep, g, k⟩ => by
    refine ⟨τ, S, _, X0, r, rep, g, fun x p1 H1 S1 fr1 rl1 rp1 hp1 => ?_, fun _ _ _ _ _ _ _ _ z => z⟩
    refine ⟨τ, S1, _, X0, r.mono (fr1.le rep), rp1, hp1, fun y p2 H2 S2 fr2 rl2 rp2 hp2 => ?_, fun _ _ _ _ _ _ _ _ z => z⟩
    exact hf x y v p1 p2 p H2 S2 _ _ (Rl.mono (fr2.le rp1) _ _ rl1) rl2 (Rl.mono ((fr1.trans fr2).le rep) _ _ rl) rp2 hp2 fun H3 S3 fr3 rp3 hp3 =>
      k σ τ H3 S3 ((fr1.trans fr2).trans fr3) (r.mono (((fr1.trans fr2).trans fr3).le rep)) rp3 hp3
def qAsg (q : QTE) (g : QTG) : QTS := fun D τ S => q τ S (fun x S1 => g x τ S1 D.nx) (exAt D τ)
theorem qs_asg {tg : Expr} {q : QTE} {g : QTG} (he : QE X T W e q) (hg : QG X T tg g) (hs : swapsWithSole [tg] e pos.line X.env = pure false := by rfl) (hw : swappedStores [tg] e X.env = pure none := by rfl)
    (h1 : (assignEach [tg] X.env).map (·.2) = [assign tg X.env] := by rfl) : QS X T W (.Assign [tg] e pos) (qAsg q g) :=
  ps_imp (ps_asg he hg hs hw h1) fun D σ H ⟨τ, S, PD, r, rep, q, c⟩ => con_up r rep c q fun v p H' S' fr rs rl rp hp =>
    ⟨p, τ, S', PD.nx, rl, rs, rp, hp, fun σ2 τ2 H2 S2 f2 => c.nx σ2 τ2 H2 S2 (fr.trans f2)⟩
def qSet (i : Nat) (q : QTE) : QTS := fun D τ S => q τ S (fun x S1 => D.nx (τ.set i (some x)) S1) (exAt D τ)
theorem qs_set {i : Nat} {x : Str} {q : QTE} {pos' : Pos} (hN : X.N.Nodup) (he : QE X T W e q) (hi : X.N[i]? = some x := by rfl) (hx : Loc X.env.scope x := by first | exact Or.inl rfl | exact Or.inr rfl) (hs : swapsWith e (some (.Name x pos')) pos.line X.env = pure false := by rfl)
    (hf : X.fn x = true ∨ X.env.scope.names.lookup x = some .local := by first | exact .inl rfl | exact .inr rfl | assumption) : QS X T W (.Assign [.Name x pos'] e pos) (qSet i q) :=
  ps_imp (ps_set hN hi hx he hs hf) fun D σ H ⟨τ, S, PD, r, rep, q, c⟩ => con_up r rep c q fun v p H' S' fr rs rl rp hp => c.nx _ _ H' S' fr (rs.set rl) rp hp
/-- a, b = x, y -/
def qPar (i j : Nat) (q : QTA) : QTS := fun D τ S => q τ S (fun ps S1 => match ps with
  | [p1, p2] => D.nx ((τ.set i (some p1)).set j (some p2)) S1
  | _ => False) (exAt D τ)
theorem qs_par {i j : Nat} {x y : Str} {q : QTA} {px py pt : Pos} {kt k2 pt2} (hc : X.calm = true) (hN : X.N.Nodup) (ha : QA X T W [a, b] q) (hi : X.N[i]? = some x := by rfl) (hj : X.N[j]? = some y := by rfl) (hij : i ≠ j := by decide)
    (hx : X.env.scope.names.lookup x = some .local := by rfl) (hy : X.env.scope.names.lookup y = some .local := by rfl)
    (hw : swappedStores [.Tuple [.Name x px, .Name y py] kt pt] (.Tuple [a, b] k2 pt2) X.env = pure (some [x, y]) := by rfl)
    (hs : swapsWithSole [.Tuple [.Name x px, .Name y py] kt pt] (.Tuple [a, b] k2 pt2) pos.line X.env = pure false := by rfl) : QS X T W (.Assign [.Tuple [.Name x px, .Name y py] kt pt] (.Tuple [a, b] k2 pt2) pos) (qPar i j q) :=
  ps_imp (ps_par hc hN hi hj hij hx hy ha hw hs) fun D σ H ⟨τ, S, PD, r, rep, q, c⟩ => con_up (RR := Rls X.K) r rep c q fun vs ps H' S' fr rs rl rp hp => by
    match ps, hp with
    | [p1, p2], hp =>
      obtain ⟨v, r1, e1, a1, w, r2, e2, a2, e3⟩ := rl
      subst e1; subst e2
      have e3 : r2 = [] := e3
      subst e3
      exact ⟨v, w, rfl, c.nx _ _ H' S' fr ((rs.set a1).set a2) rp hp⟩

/-! ### what is walked -/
structure Src where
  its : List PV
  keep : Sto → Prop
abbrev QTI := Qr Src
/-- J gives the items, while what is kept stands -/
def WalkP (K : PySem.W.Frag) (T : List (Addr × Str)) (J : It) (s : Src) (S0 : Sto) (H0 : Hp) : Prop := ∀ S H, Fr S0 H0 S H → Rep K T S H → s.keep S →
  J.stop s.its.length H ∧ ∀ i p, s.its[i]? = some p → J.go i H ∧ ∀ x H', J.yld i H x H' → Fr S H S H' ∧ Rep K T S H' ∧ Rl K H' x p
def upI (K : PySem.W.Frag) (T : List (Addr × Str)) (W : WX) (q : QTI) : TI := fun σ H R =>
  ∃ τ S P EP, RS K H σ τ ∧ Rep K T S H ∧ q τ S P EP ∧ (∀ J s H' S', Fr S H S' H' → WalkP K T J s S' H' → s.keep S' → Rep K T S' H' → P s S' → R J H') ∧
    ∀ c d x H' S', Fr S H S' H' → XR K H' c d x → Rep K T S' H' → EP x S' → W c d σ H'
def QI (X : Cx) (T : List (Addr × Str)) (W : WX) (tg iter : Expr) (q : QTI) : Prop := PI X tg iter (upI X.K T W q)
theorem pi_imp {tg : Expr} {t t' : TI} (h : PI X tg e t) (k : ∀ σ H R, t' σ H R → t σ H R) : PI X tg e t' := ⟨fun pins s σ H R I w => h.run pins s σ H R I (k σ H R w)⟩

def forQ (keep : Sto → Prop) (g : QTG) (tb : QTS) (D : PEnds) : List PV → PSt → Sto → Prop
  | [], τ, S => D.nx τ S
  | p :: r, τ, S => g p τ S fun τ1 S1 => tb { D with nx := fun τ' S' => keep S' ∧ forQ keep g tb D r τ' S', ct := fun τ' S' => keep S' ∧ forQ keep g tb D r τ' S', bk := D.nx } τ1 S1
def qFor (qi : QTI) (g : QTG) (tb : QTS) : QTS := fun D τ S => qi τ S (fun s S1 => forQ s.keep g tb D s.its τ S1) (exAt D τ)
theorem qs_for {tg : Expr} {body : List Stmt} {qi : QTI} {g : QTG} {tb : QTS} (hp : PassesOwn (model X.prog X.w) X.A X.env X.xe) (hc : X.calm = true) (hi : QI X T W tg e qi) (hg : QG X T tg g) (hb : QSs X T W body tb)
    (hs : ∀ x, foldedSetIterable e X.env x = pure x := by intro _; rfl) : QS X T W (.For tg e body [] pos) (qFor qi g tb) :=
  ps_imp (ps_for hp hc hi hg hb hs) fun D σ H ⟨τ, S, PD, r, rep, q, c⟩ => by
    refine ⟨τ, S, _, _, r, rep, q, fun J s H1 S1 fr wk kp rp hp => ?_, fun cc d x H' S' fr xr rp hp => c.ex cc d x σ τ H' S' fr (r.mono (fr.le rep)) xr rp hp⟩
    have c1 := c.mono fr
    refine ⟨fun i m σ H => m = s.its.length - i ∧ i ≤ s.its.length ∧ ∃ τ S, Fr S1 H1 S H ∧ RS X.K H σ τ ∧ Rep X.K T S H ∧ s.keep S ∧ forQ s.keep g tb PD (s.its.drop i) τ S,
      ⟨_, rfl, Nat.zero_le _, τ, S1, Fr.refl, r.mono (fr.le rep), rp, kp, hp⟩, ?_⟩
    rintro i m σ2 H2 ⟨rfl, hi, τ2, S2, fr2, rs2, rp2, kp2, h2⟩
    obtain ⟨hstop, hgo⟩ := wk S2 H2 fr2 rp2 kp2
    by_cases hl : i < s.its.length
    · obtain ⟨p, hp⟩ : ∃ p, s.its[i]? = some p := ⟨s.its[i], by simp [hl]⟩
      obtain ⟨go, yl⟩ := hgo i p hp
      have hd : s.its.drop i = p :: s.its.drop (i + 1) := by
        rw [List.drop_eq_getElem_cons hl]
        rw [List.getElem?_eq_getElem hl] at hp
        rw [Option.some.inj hp]
      rw [hd] at h2
      refine .inr ⟨go, fun σ3 H3 => ∃ τ3 S3, Fr S1 H1 S3 H3 ∧ RS X.K H3 σ3 τ3 ∧ Rep X.K T S3 H3 ∧ s.keep S3 ∧ forQ s.keep g tb PD (s.its.drop (i + 1)) τ3 S3, fun σ3 H3 z => ⟨_, by omega, rfl, hl, z⟩, fun x H3 y => ?_⟩
      obtain ⟨fr3, rp3, rl3⟩ := yl x H3 y
      refine ⟨p, τ2, S2, _, rl3, rs2.mono (fr3.le rp2), rp3, h2, fun σ4 τ4 H4 S4 fr4 rs4 rp4 hp4 => ⟨τ4, S4, _, rs4, rp4, hp4, ?_⟩⟩
      have f4 : Fr S1 H1 S4 H4 := (fr2.trans fr3).trans fr4
      exact ⟨fun σ5 τ5 H5 S5 f5 rs5 rp5 h5 => ⟨τ5, S5, f4.trans f5, rs5, rp5, h5.1, h5.2⟩, (c1.mono f4).rt, (c1.mono f4).nx, fun σ5 τ5 H5 S5 f5 rs5 rp5 h5 => ⟨τ5, S5, f4.trans f5, rs5, rp5, h5.1, h5.2⟩, (c1.mono f4).ex⟩
    · have e : i = s.its.length := by omega
      subst e
      rw [List.drop_length] at h2
      exact .inl ⟨hstop, c1.nx σ2 τ2 H2 S2 fr2 rs2 rp2 h2⟩

/-! ### while -/
@[irreducible] def qWhile (t : QTT) (tb : QTS) : QTS := fun D τ S => ∃ M : Nat → PSt → Sto → Prop, (∃ m, M m τ S) ∧ ∀ m τ S, M m τ S →
  t τ S (fun b S1 => iteB b (tb { D with nx := fun τ' S' => ∃ m', m' < m ∧ M m' τ' S', ct := fun τ' S' => ∃ m', m' < m ∧ M m' τ' S', bk := D.nx } τ S1) (D.nx τ S1)) (exAt D τ)
theorem qs_while {c : Expr} {body : List Stmt} {t : QTT} {tb : QTS} (hp : PassesOwn (model X.prog X.w) X.A X.env X.xe) (hc : QT X T W c t) (hb : QSs X T W body tb) : QS X T W (.While c body [] pos) (qWhile t tb) :=
  ps_imp (ps_while hp hc hb) fun D σ H ⟨τ, S, PD, r, rep, hw, c⟩ => by
    unfold qWhile at hw
    obtain ⟨M, ⟨m0, hm0⟩, turn⟩ := hw
    refine ⟨fun m σ' H' => ∃ τ' S', Fr S H S' H' ∧ RS X.K H' σ' τ' ∧ Rep X.K T S' H' ∧ M m τ' S', ⟨m0, τ, S, Fr.refl, r, rep, hm0⟩, ?_⟩
    rintro m σ1 H1 ⟨τ1, S1, fr1, rs1, rp1, h1⟩
    refine con_up (RR := RB) rs1 rp1 (c.mono fr1) (turn m τ1 S1 h1) fun b p H2 S2 fr2 rs2 rl rp2 hp2 => ?_
    have e : b = p := rl
    subst e
    have f2 := fr1.trans fr2
    cases b with
    | true =>
      refine ⟨fun σ3 H3 => ∃ m', m' < m ∧ ∃ τ' S', Fr S H S' H3 ∧ RS X.K H3 σ3 τ' ∧ Rep X.K T S' H3 ∧ M m' τ' S', fun σ3 H3 ⟨m', hm, z⟩ => ⟨m', hm, z⟩, τ1, S2, _, rs2, rp2, hp2, ?_⟩
      exact ⟨fun σ3 τ3 H3 S3 f3 rs3 rp3 ⟨m', hm, z⟩ => ⟨m', hm, τ3, S3, f2.trans f3, rs3, rp3, z⟩, (c.mono f2).rt, (c.mono f2).nx, fun σ3 τ3 H3 S3 f3 rs3 rp3 ⟨m', hm, z⟩ => ⟨m', hm, τ3, S3, f2.trans f3, rs3, rp3, z⟩, (c.mono f2).ex⟩
    | false => exact c.nx σ1 τ1 H2 S2 f2 rs2 rp2 hp2
end
end Mp

set_option Elab.async false
set_option linter.all false
set_option maxRecDepth 100000
namespace Mp
open PySem L2

section
variable {X : Cx} {T : List (Addr × Str)} {W : WX} {e a b : Expr} {es : List Expr} {K : PySem.W.Frag} {S S' S1 : Sto} {H H' H1 : Hp} {σ : St} {τ : PSt} {PD : PEnds} {D : Ends} {pos : Pos}

/-! ### + - * // % ** -/
def fAdd : FO2 := fun x y S P => match x, y with
  | .int i, .int j => P (.int (i + j)) S
  | .str c, .str d => c.length + d.length ≤ sizeLine ∧ P (.str (c ++ d)) S
  | .tup xs, .tup ys => xs.length + ys.length ≤ sizeLine ∧ P (.tup (xs ++ ys)) S
  | .ref p, .ref q => ∃ xs ys, S p = some (.lst xs) ∧ S q = some (.lst ys) ∧ xs.length + ys.length ≤ sizeLine ∧ ∀ n, S n = none → P (.ref n) (put S n (.lst (xs ++ ys)))
  | _, _ => False
def fSub : FO2 := fun x y S P => match x, y with
  | .int i, .int j => P (.int (i - j)) S
  | _, _ => False
def fMul : FO2 := fun x y S P => match x, y with
  | .int i, .int j => CMul i j ∧ P (.int (i * j)) S
  | _, _ => False
def fDiv : FO2 := fun x y S P => match x, y with
  | .int i, .int j => (0 < j ∧ j.natAbs.log2 < 9000) ∧ P (.int (i / j)) S
  | _, _ => False
def fMod : FO2 := fun x y S P => match x, y with
  | .int i, .int j => 0 < j ∧ P (.int (i % j)) S
  | _, _ => False
def fPow : FO2 := fun x y S P => match x, y with
  | .int i, .int j => CPow i j ∧ P (.int (i ^ j.toNat)) S
  | _, _ => False
theorem str_len {cs : List Nat} : (⟨cs.toArray⟩ : Str).length = cs.length := by
  show cs.toArray.size = cs.length
  simp
theorem str_app {c d : List Nat} : ((⟨c.toArray⟩ : Str) ++ ⟨d.toArray⟩) = ⟨(c ++ d).toArray⟩ := by
  show (⟨c.toArray ++ d.toArray⟩ : Str) = ⟨(c ++ d).toArray⟩
  simp
theorem Rl.tupI {v : V} {ps : List PV} (h : Rl K H v (.tup ps)) : ∃ a vs, v = .ref a ∧ SqT K H a vs ∧ Rls K H vs ps := let ⟨a, vs, e, q, r⟩ := h; ⟨a, vs, e, SqT.of q, r⟩
def rAddI : R2 := rI0 fun i j => .int (i + j)
def rAddS : R2 := fun x y H Q => ∃ i j, x = .str i ∧ y = .str j ∧ i.length + j.length ≤ sizeLine ∧ Q (.str (i ++ j)) H
theorem or_add : OpR X (binaryOp .Add) (fun x y H Q => rAddI x y H Q ∨ rAddS x y H Q ∨ rCatA X.K x y H Q ∨ rCat x y H Q) := OpR.or op_add (OpR.or op_add_str (OpR.or op_catA op_cat))
theorem oq_add : OpQ K T (fun x y H Q => rAddI x y H Q ∨ rAddS x y H Q ∨ rCatA K x y H Q ∨ rCat x y H Q) fAdd := by
  intro x y p1 p2 H S P Q r1 r2 rep h k
  cases p1 <;> cases p2 <;> try exact h.elim
  case int.int i j =>
    exact .inl ⟨i, j, r1, r2, k (.int (i + j)) (.int (i + j)) H S Fr.refl rfl rep h⟩
  case str.str c d =>
    refine .inr (.inl ⟨_, _, r1, r2, by rw [str_len, str_len]; exact h.1, ?_⟩)
    rw [str_app]
    exact k (.str ⟨(c ++ d).toArray⟩) (.str (c ++ d)) H S Fr.refl rfl rep h.2
  case tup.tup xs ys =>
    obtain ⟨u, us, e1, s1, t1⟩ := r1
    obtain ⟨w, ws, e2, s2, t2⟩ := r2
    have rl := Rls.append t1 t2
    refine .inr (.inr (.inl ⟨u, w, us, ws, e1, e2, SqT.of s1, SqT.of s2, by rw [Rls.length t1, Rls.length t2]; exact h.1, ?_⟩))
    refine ⟨fun q => ?_, fun q1 q2 => ?_, fun q1 q2 p hp => ?_⟩
    · subst q
      have z : xs = [] := List.eq_nil_of_length_eq_zero (Rls.length t1).symm
      subst z
      exact k (.ref w) (.tup ys) H S Fr.refl ⟨w, ws, rfl, s2, t2⟩ rep h.2
    · subst q2
      have z : ys = [] := List.eq_nil_of_length_eq_zero (Rls.length t2).symm
      subst z
      have h2 : P (.tup (xs ++ [])) S := h.2
      rw [List.append_nil] at h2
      exact k (.ref u) (.tup xs) H S Fr.refl ⟨u, us, rfl, s1, t1⟩ rep h2
    · exact k (.ref p) (.tup (xs ++ ys)) _ S (Fr.hid hp) ⟨p, _, rfl, upd_same, Rls.mono (le_new hp) _ _ rl⟩ (rep.hid hp) h.2
  case ref.ref p q =>
    obtain ⟨xs, ys, s1, s2, hz, h⟩ := h
    obtain ⟨vs, e1, t1⟩ := rep.ob p _ s1
    obtain ⟨ws, e2, t2⟩ := rep.ob q _ s2
    refine .inr (.inr (.inr ⟨p, q, vs, ws, r1, r2, e1, e2, by rw [Rls.length t1, Rls.length t2]; exact hz, fun n hn => ?_⟩))
    exact k (.ref n) (.ref n) _ _ (Fr.new hn) rfl (rep.new (ob := .lst (xs ++ ys)) hn ⟨_, upd_same, Rls.mono (le_new hn) _ _ (Rls.append t1 t2)⟩) (h n (rep.free hn))
theorem q_add {qa qb : QTE} (ha : QE X T W a qa) (hb : QE X T W b qb) : QE X T W (.BinOp a .Add b pos) (qBin fAdd qa qb) := q_bin or_add oq_add ha hb
/-- two ints -/
theorem oq_int {C : Int → Int → Prop} {g : Int → Int → V} {f : FO2} (hf : ∀ p1 p2 S P, f p1 p2 S P → ∃ i j p, p1 = .int i ∧ p2 = .int j ∧ C i j ∧ P p S ∧ ∀ K H, Rl K H (g i j) p) : OpQ K T (rI C g) f := by
  intro x y p1 p2 H S P Q r1 r2 rep h k
  obtain ⟨i, j, p, e1, e2, c, hp, rl⟩ := hf p1 p2 S P h
  subst e1; subst e2
  exact ⟨i, j, r1, r2, c, k _ p H S Fr.refl (rl K H) rep hp⟩
theorem oq_int0 {g : Int → Int → V} {f : FO2} (hf : ∀ p1 p2 S P, f p1 p2 S P → ∃ i j p, p1 = .int i ∧ p2 = .int j ∧ P p S ∧ ∀ K H, Rl K H (g i j) p) : OpQ K T (rI0 g) f := by
  intro x y p1 p2 H S P Q r1 r2 rep h k
  obtain ⟨i, j, p, e1, e2, hp, rl⟩ := hf p1 p2 S P h
  subst e1; subst e2
  exact ⟨i, j, r1, r2, k _ p H S Fr.refl (rl K H) rep hp⟩
theorem q_sub {qa qb : QTE} (ha : QE X T W a qa) (hb : QE X T W b qb) : QE X T W (.BinOp a .Sub b pos) (qBin fSub qa qb) := q_bin op_sub (oq_int0 fun p1 p2 S P h => by
  cases p1 <;> cases p2 <;> first | exact h.elim | exact ⟨_, _, _, rfl, rfl, h, fun _ _ => rfl⟩) ha hb
theorem q_mul {qa qb : QTE} (ha : QE X T W a qa) (hb : QE X T W b qb) : QE X T W (.BinOp a .Mult b pos) (qBin fMul qa qb) := q_bin op_mul (oq_int fun p1 p2 S P h => by
  cases p1 <;> cases p2 <;> first | exact h.elim | exact ⟨_, _, _, rfl, rfl, h.1, h.2, fun _ _ => rfl⟩) ha hb
theorem q_div {qa qb : QTE} (ha : QE X T W a qa) (hb : QE X T W b qb) : QE X T W (.BinOp a .FloorDiv b pos) (qBin fDiv qa qb) := q_bin op_fdivW (oq_int fun p1 p2 S P h => by
  cases p1 <;> cases p2 <;> first | exact h.elim | exact ⟨_, _, _, rfl, rfl, h.1, h.2, fun _ _ => rfl⟩) ha hb
theorem q_mod {qa qb : QTE} (ha : QE X T W a qa) (hb : QE X T W b qb) : QE X T W (.BinOp a .Mod b pos) (qBin fMod qa qb) := q_bin op_mod (oq_int fun p1 p2 S P h => by
  cases p1 <;> cases p2 <;> first | exact h.elim | exact ⟨_, _, _, rfl, rfl, h.1, h.2, fun _ _ => rfl⟩) ha hb
theorem q_pow {qa qb : QTE} (ha : QE X T W a qa) (hb : QE X T W b qb) : QE X T W (.BinOp a .Pow b pos) (qBin fPow qa qb) := q_bin op_pow (oq_int fun p1 p2 S P h => by
  cases p1 <;> cases p2 <;> first | exact h.elim | exact ⟨_, _, _, rfl, rfl, h.1, h.2, fun _ _ => rfl⟩) ha hb
def qNeg (q : QTE) : QTE := fun τ S P EP => q τ S (fun x S1 => match x with
  | .int i => P (.int (-i)) S1
  | _ => False) EP
theorem q_neg {q : QTE} (ha : QE X T W a q) : QE X T W (.UnaryOp .USub a pos) (qNeg q) :=
  pe_imp (pe_un un_neg ha) fun σ H Q h => up_then (RR := Rl X.K) (RR' := Rl X.K) (qk := fun x _ S1 P _ => match x with | .int i => P (PV.int (-i)) S1 | _ => False) h fun v p H1 l r u => by
    cases p with
    | int i =>
      have e : v = .int i := r
      exact ⟨i, e, up_ret (RR := Rl X.K) (v := V.int (-i)) (p := PV.int (-i)) u rfl⟩
    | _ => obtain ⟨_, _, _, _, _, _, z, _⟩ := u; exact z.elim

/-! ### < <= > >= -/
def intsOf : List PV → Option (List Int)
  | [] => some []
  | .int i :: r => (intsOf r).map (i :: ·)
  | _ :: _ => none
theorem intsOf_rl : ∀ {ps : List PV} {ns : List Int} {vs : List V}, intsOf ps = some ns → Rls K H vs ps → vs = ns.map V.int
  | [], ns, vs, e, r => by
    have e1 : some [] = some ns := e
    cases e1
    exact r
  | .int i :: ps, ns, vs, e, ⟨v, w, e2, h1, h2⟩ => by
    have e1 : (intsOf ps).map (i :: ·) = some ns := e
    cases q : intsOf ps with
    | none => rw [q] at e1; cases e1
    | some ms =>
      rw [q] at e1
      cases e1
      have h1 : v = .int i := h1
      rw [e2, h1, intsOf_rl q h2]
      rfl
  | .non :: _, _, _, e, _ => nomatch e
  | .bl _ :: _, _, _, e, _ => nomatch e
  | .str _ :: _, _, _, e, _ => nomatch e
  | .tup _ :: _, _, _, e, _ => nomatch e
  | .ref _ :: _, _, _, e, _ => nomatch e
  | .ty _ :: _, _, _, e, _ => nomatch e
  | .lsv _ :: _, _, _, e, _ => nomatch e
  | .exv _ _ _ _ _ :: _, _, _, e, _ => nomatch e
  | .lam _ _ _ _ _ :: _, _, _, e, _ => nomatch e
  | .ktp _ :: _, _, _, e, _ => nomatch e
theorem intsOf_map : ∀ ns : List Int, intsOf (ns.map PV.int) = some ns
  | [] => rfl
  | n :: ns => by
    show (intsOf (ns.map PV.int)).map (n :: ·) = some (n :: ns)
    rw [intsOf_map ns]; rfl
def fLt : FO2 := fun x y S P => match x, y with
  | .int i, .int j => P (.bl (decide (i < j))) S
  | .str c, .str d => P (.bl (decide (c < d))) S
  | .tup xs, .tup ys => ∃ ns ms, intsOf xs = some ns ∧ intsOf ys = some ms ∧ P (.bl (HT.lexLt ns ms)) S
  | _, _ => False
def fLe : FO2 := fun x y S P => match x, y with
  | .int i, .int j => P (.bl (decide (i ≤ j))) S
  | _, _ => False
def fGt : FO2 := fun x y S P => match x, y with
  | .int i, .int j => P (.bl (decide (j < i))) S
  | _, _ => False
def fGe : FO2 := fun x y S P => match x, y with
  | .int i, .int j => P (.bl (decide (j ≤ i))) S
  | _, _ => False
def rLtI : R2 := rI0 fun i j => .bl (decide (i < j))
def rLtS : R2 := fun x y H Q => ∃ i j, x = .str i ∧ y = .str j ∧ Q (.bl (decide (i.cps.toList < j.cps.toList))) H
theorem or_lt (hu : X.A.units < cLine) : OpR X (compareOp .Lt) (fun x y H Q => rLtI x y H Q ∨ rLtS x y H Q ∨ rLtT X.K x y H Q) := OpR.or op_lt (OpR.or op_lt_str (op_ltT hu))
theorem oq_lt : OpQ K T (fun x y H Q => rLtI x y H Q ∨ rLtS x y H Q ∨ rLtT K x y H Q) fLt := by
  intro x y p1 p2 H S P Q r1 r2 rep h k
  cases p1 <;> cases p2 <;> try exact h.elim
  case int.int i j => exact .inl ⟨i, j, r1, r2, k (.bl _) (.bl _) H S Fr.refl rfl rep h⟩
  case str.str c d => exact .inr (.inl ⟨_, _, r1, r2, k (.bl _) (.bl _) H S Fr.refl rfl rep h⟩)
  case tup.tup xs ys =>
    obtain ⟨ns, ms, i1, i2, h⟩ := h
    obtain ⟨u, us, e1, s1, t1⟩ := r1
    obtain ⟨w, ws, e2, s2, t2⟩ := r2
    rw [intsOf_rl i1 t1] at s1
    rw [intsOf_rl i2 t2] at s2
    exact .inr (.inr ⟨u, w, ns, ms, e1, e2, SqT.of s1, SqT.of s2, k (.bl _) (.bl _) H S Fr.refl rfl rep h⟩)
theorem q_lt {qa qb : QTE} (hu : X.A.units < cLine) (ha : QE X T W a qa) (hb : QE X T W b qb) : QE X T W (.Compare a [.Lt] [b] pos) (qBin fLt qa qb) := q_cmp (or_lt hu) oq_lt (nomark _) ha hb
theorem qt_lt {qa qb : QTE} (hu : X.A.units < cLine) (ha : QE X T W a qa) (hb : QE X T W b qb) : QT X T W (.Compare a [.Lt] [b] pos) (qTst (qBin fLt qa qb)) := qt_cmp (or_lt hu) oq_lt (nomark _) ha hb
theorem oq_le : OpQ K T (rI0 fun i j => .bl (decide (i ≤ j))) fLe := oq_int0 fun p1 p2 S P h => by
  cases p1 <;> cases p2 <;> first | exact h.elim | exact ⟨_, _, _, rfl, rfl, h, fun _ _ => rfl⟩
theorem oq_gt : OpQ K T (rI0 fun i j => .bl (decide (j < i))) fGt := oq_int0 fun p1 p2 S P h => by
  cases p1 <;> cases p2 <;> first | exact h.elim | exact ⟨_, _, _, rfl, rfl, h, fun _ _ => rfl⟩
theorem oq_ge : OpQ K T (rI0 fun i j => .bl (decide (j ≤ i))) fGe := oq_int0 fun p1 p2 S P h => by
  cases p1 <;> cases p2 <;> first | exact h.elim | exact ⟨_, _, _, rfl, rfl, h, fun _ _ => rfl⟩
theorem q_le {qa qb : QTE} (ha : QE X T W a qa) (hb : QE X T W b qb) : QE X T W (.Compare a [.LtE] [b] pos) (qBin fLe qa qb) := q_cmp op_le oq_le (nomark _) ha hb
theorem qt_le {qa qb : QTE} (ha : QE X T W a qa) (hb : QE X T W b qb) : QT X T W (.Compare a [.LtE] [b] pos) (qTst (qBin fLe qa qb)) := qt_cmp op_le oq_le (nomark _) ha hb
theorem q_gt {qa qb : QTE} (ha : QE X T W a qa) (hb : QE X T W b qb) : QE X T W (.Compare a [.Gt] [b] pos) (qBin fGt qa qb) := q_cmp op_gt oq_gt (nomark _) ha hb
theorem qt_gt {qa qb : QTE} (ha : QE X T W a qa) (hb : QE X T W b qb) : QT X T W (.Compare a [.Gt] [b] pos) (qTst (qBin fGt qa qb)) := qt_cmp op_gt oq_gt (nomark _) ha hb
theorem q_ge {qa qb : QTE} (ha : QE X T W a qa) (hb : QE X T W b qb) : QE X T W (.Compare a [.GtE] [b] pos) (qBin fGe qa qb) := q_cmp op_ge oq_ge (nomark _) ha hb
theorem qt_ge {qa qb : QTE} (ha : QE X T W a qa) (hb : QE X T W b qb) : QT X T W (.Compare a [.GtE] [b] pos) (qTst (qBin fGe qa qb)) := qt_cmp op_ge oq_ge (nomark _) ha hb

/-! ### == and != -/
mutual
inductive DatS (S : Sto) : PV → PyData → Prop
  | non : DatS S .non .none
  | bl (c : Bool) : DatS S (.bl c) (.bool c)
  | int (i : Int) : DatS S (.int i) (.int i)
  | str (cs : List Nat) : DatS S (.str cs) (.str ⟨cs.toArray⟩)
  | tup {ps : List PV} {ds : List PyData} (h : DatsS S ps ds) : DatS S (.tup ps) (.tuple ds)
  | lst {p : Addr} {ps : List PV} {ds : List PyData} (e : S p = some (.lst ps)) (h : DatsS S ps ds) : DatS S (.ref p) (.list ds)
inductive DatsS (S : Sto) : List PV → List PyData → Prop
  | nil : DatsS S [] []
  | cons {p : PV} {ps : List PV} {d : PyData} {ds : List PyData} (h : DatS S p d) (t : DatsS S ps ds) : DatsS S (p :: ps) (d :: ds)
end
mutual
theorem dat_dp (rep : Rep K T S H) : ∀ {d : PyData} {p : PV} {v : V}, DatS S p d → Rl K H v p → Dp K H v d
  | .none, _, _, .non, r => by
    have r : _ = V.non := r
    rw [r]; exact .non
  | .bool c, _, _, .bl _, r => by
    have r : _ = V.bl c := r
    rw [r]; exact .bl c
  | .int i, _, _, .int _, r => by
    have r : _ = V.int i := r
    rw [r]; exact .int i
  | .str ⟨_⟩, _, _, .str cs, r => by
    have r : _ = V.str ⟨cs.toArray⟩ := r
    rw [r]; exact .str _
  | .tuple ds, _, _, .tup h, ⟨q, vs, e, s, t⟩ => by
    rw [e]
    exact .tup (SqT.of s) (dats_dp rep h t)
  | .list ds, _, _, .lst (p := q) e h, r => by
    have r : _ = V.ref q := r
    obtain ⟨vs, e1, t⟩ := rep.ob q _ e
    rw [r]
    exact .lst (SqL.of e1) (dats_dp rep h t)
theorem dats_dp (rep : Rep K T S H) : ∀ {ds : List PyData} {ps : List PV} {vs : List V}, DatsS S ps ds → Rls K H vs ps → DpAll K H vs ds
  | [], _, _, .nil, r => by
    have r : _ = [] := r
    rw [r]; exact .nil
  | d :: ds, _, _, .cons h t, ⟨v, w, e, h1, h2⟩ => by
    rw [e]
    exact .cons (dat_dp rep h h1) (dats_dp rep t h2)
end
def fEqG (n : Bool) : FO2 := fun x y S P => ∃ d e, DatS S x d ∧ DatS S y e ∧ SeqAt.shaped d = true ∧ SeqAt.shaped e = true ∧ P (.bl (if n then !PyData.eqv d e else PyData.eqv d e)) S
def fEq : FO2 := fun x y S P => match x, y with
  | .int i, .int j => P (.bl (decide (i = j))) S
  | .str c, .str d => P (.bl (decide (c = d))) S
  | .bl c, .bl d => P (.bl (decide (c = d))) S
  | x, y => fEqG false x y S P
def fNe : FO2 := fun x y S P => match x, y with
  | .int i, .int j => P (.bl (!decide (i = j))) S
  | .str c, .str d => P (.bl (!decide (c = d))) S
  | .bl c, .bl d => P (.bl (!decide (c = d))) S
  | x, y => fEqG true x y S P
theorem oq_eqG : OpQ K T (rEqD K) (fEqG false) := fun x y p1 p2 H S P Q r1 r2 rep ⟨d, e, d1, d2, s1, s2, h⟩ k =>
  ⟨d, e, dat_dp rep d1 r1, dat_dp rep d2 r2, s1, s2, k (.bl _) (.bl _) H S Fr.refl rfl rep h⟩
theorem oq_neG : OpQ K T (rNeD K) (fEqG true) := fun x y p1 p2 H S P Q r1 r2 rep ⟨d, e, d1, d2, s1, s2, h⟩ k =>
  ⟨d, e, dat_dp rep d1 r1, dat_dp rep d2 r2, s1, s2, k (.bl _) (.bl _) H S Fr.refl rfl rep h⟩
theorem dec_arr {c d : List Nat} : decide ((V.str ⟨c.toArray⟩) = V.str ⟨d.toArray⟩) = decide (c = d) := by
  rw [decide_eq_decide]
  constructor
  · intro h
    injection h with h
    injection h with h
    have h2 := congrArg Array.toList h
    simpa using h2
  · intro h; rw [h]
theorem dec_i {i j : Int} : decide ((V.int i) = V.int j) = decide (i = j) := by
  rw [decide_eq_decide]
  exact ⟨fun h => by injection h, fun h => by rw [h]⟩
theorem dec_b {i j : Bool} : decide ((V.bl i) = V.bl j) = decide (i = j) := by
  rw [decide_eq_decide]
  exact ⟨fun h => by injection h, fun h => by rw [h]⟩
theorem or_eq (hu : X.A.units + 64 < cLine) : OpR X (compareOp .Eq) (fun x y H Q => rEq x y H Q ∨ rEqD X.K x y H Q) := OpR.or op_eq (op_eqD hu)
theorem or_ne (hu : X.A.units + 64 < cLine) : OpR X (compareOp .NotEq) (fun x y H Q => rNe x y H Q ∨ rNeD X.K x y H Q) := OpR.or op_ne (op_neD hu)
theorem oq_eq : OpQ K T (fun x y H Q => rEq x y H Q ∨ rEqD K x y H Q) fEq := by
  intro x y p1 p2 H S P Q r1 r2 rep h k
  by_cases q : ∃ i j, p1 = .int i ∧ p2 = .int j
  · obtain ⟨i, j, e1, e2⟩ := q
    subst e1; subst e2
    have e1 : x = .int i := r1
    have e2 : y = .int j := r2
    subst e1; subst e2
    exact .inl ⟨rfl, by rw [dec_i]; exact k (.bl _) (.bl _) H S Fr.refl rfl rep h⟩
  · by_cases q2 : ∃ i j, p1 = .str i ∧ p2 = .str j
    · obtain ⟨i, j, e1, e2⟩ := q2
      subst e1; subst e2
      have e1 : x = .str ⟨i.toArray⟩ := r1
      have e2 : y = .str ⟨j.toArray⟩ := r2
      subst e1; subst e2
      exact .inl ⟨rfl, by rw [dec_arr]; exact k (.bl _) (.bl _) H S Fr.refl rfl rep h⟩
    · by_cases q3 : ∃ i j, p1 = .bl i ∧ p2 = .bl j
      · obtain ⟨i, j, e1, e2⟩ := q3
        subst e1; subst e2
        have e1 : x = .bl i := r1
        have e2 : y = .bl j := r2
        subst e1; subst e2
        exact .inl ⟨rfl, by rw [dec_b]; exact k (.bl _) (.bl _) H S Fr.refl rfl rep h⟩
      · refine .inr (oq_eqG x y p1 p2 H S P Q r1 r2 rep ?_ k)
        cases p1 <;> cases p2 <;> first | exact h | exact (q ⟨_, _, rfl, rfl⟩).elim | exact (q2 ⟨_, _, rfl, rfl⟩).elim | exact (q3 ⟨_, _, rfl, rfl⟩).elim
theorem oq_ne : OpQ K T (fun x y H Q => rNe x y H Q ∨ rNeD K x y H Q) fNe := by
  intro x y p1 p2 H S P Q r1 r2 rep h k
  by_cases q : ∃ i j, p1 = .int i ∧ p2 = .int j
  · obtain ⟨i, j, e1, e2⟩ := q
    subst e1; subst e2
    have e1 : x = .int i := r1
    have e2 : y = .int j := r2
    subst e1; subst e2
    exact .inl ⟨rfl, by rw [dec_i]; exact k (.bl _) (.bl _) H S Fr.refl rfl rep h⟩
  · by_cases q2 : ∃ i j, p1 = .str i ∧ p2 = .str j
    · obtain ⟨i, j, e1, e2⟩ := q2
      subst e1; subst e2
      have e1 : x = .str ⟨i.toArray⟩ := r1
      have e2 : y = .str ⟨j.toArray⟩ := r2
      subst e1; subst e2
      exact .inl ⟨rfl, by rw [dec_arr]; exact k (.bl _) (.bl _) H S Fr.refl rfl rep h⟩
    · by_cases q3 : ∃ i j, p1 = .bl i ∧ p2 = .bl j
      · obtain ⟨i, j, e1, e2⟩ := q3
        subst e1; subst e2
        have e1 : x = .bl i := r1
        have e2 : y = .bl j := r2
        subst e1; subst e2
        exact .inl ⟨rfl, by rw [dec_b]; exact k (.bl _) (.bl _) H S Fr.refl rfl rep h⟩
      · refine .inr (oq_neG x y p1 p2 H S P Q r1 r2 rep ?_ k)
        cases p1 <;> cases p2 <;> first | exact h | exact (q ⟨_, _, rfl, rfl⟩).elim | exact (q2 ⟨_, _, rfl, rfl⟩).elim | exact (q3 ⟨_, _, rfl, rfl⟩).elim
theorem q_eq {qa qb : QTE} (hu : X.A.units + 64 < cLine) (ha : QE X T W a qa) (hb : QE X T W b qb) : QE X T W (.Compare a [.Eq] [b] pos) (qBin fEq qa qb) := q_cmp (or_eq hu) oq_eq (nomark _) ha hb
theorem qt_eq {qa qb : QTE} (hu : X.A.units + 64 < cLine) (ha : QE X T W a qa) (hb : QE X T W b qb) : QT X T W (.Compare a [.Eq] [b] pos) (qTst (qBin fEq qa qb)) := qt_cmp (or_eq hu) oq_eq (nomark _) ha hb
theorem q_ne {qa qb : QTE} (hu : X.A.units + 64 < cLine) (ha : QE X T W a qa) (hb : QE X T W b qb) : QE X T W (.Compare a [.NotEq] [b] pos) (qBin fNe qa qb) := q_cmp (or_ne hu) oq_ne (nomark _) ha hb
theorem qt_ne {qa qb : QTE} (hu : X.A.units + 64 < cLine) (ha : QE X T W a qa) (hb : QE X T W b qb) : QT X T W (.Compare a [.NotEq] [b] pos) (qTst (qBin fNe qa qb)) := qt_cmp (or_ne hu) oq_ne (nomark _) ha hb

/-! ### is None -/
def fIsN (n : Bool) : PV → Bool
  | .non => !n
  | _ => n
theorem rl_non {v : V} {p : PV} (r : Rl K H v p) : decide (v = .non) = fIsN false p := by
  cases p <;> first
    | (have r : v = _ := r
       rw [r]; rfl)
    | (obtain ⟨a, vs, e, _⟩ := r
       rw [e]; rfl)
    | (rw [r.1]; rfl)
    | skip
def qIsN (n : Bool) (q : QTE) : QTE := fun τ S P EP => q τ S (fun x S1 => P (.bl (fIsN n x)) S1) EP
theorem fIsN_not (p : PV) : (!fIsN false p) = fIsN true p := by cases p <;> rfl
theorem q_isN {j pos'} {q : QTE} (ha : QE X T W a q) : QE X T W (.Compare a [.Is] [.Constant .none j pos'] pos) (qIsN false q) :=
  pe_imp (pe_cmp (pc_isN ha)) fun σ H Q h => up_then (RR := Rl X.K) (RR' := Rl X.K) (qk := fun x _ S1 P _ => P (PV.bl (fIsN false x)) S1) h fun v p H1 l r u => by
    rw [rl_non r]
    exact up_ret (RR := Rl X.K) (v := V.bl _) (p := PV.bl _) u rfl
theorem q_notN {j pos'} {q : QTE} (ha : QE X T W a q) : QE X T W (.Compare a [.IsNot] [.Constant .none j pos'] pos) (qIsN true q) :=
  pe_imp (pe_cmp (pc_notN ha)) fun σ H Q h => up_then (RR := Rl X.K) (RR' := Rl X.K) (qk := fun x _ S1 P _ => P (PV.bl (fIsN true x)) S1) h fun v p H1 l r u => by
    rw [rl_non r, fIsN_not]
    exact up_ret (RR := Rl X.K) (v := V.bl _) (p := PV.bl _) u rfl
theorem qt_isN {j pos'} {q : QTE} (ha : QE X T W a q) : QT X T W (.Compare a [.Is] [.Constant .none j pos'] pos) (qTst (qIsN false q)) :=
  pt_imp (pt_cmp (pc_isN ha)) fun σ H Q h => up_mono (up_bind (RR := Rl X.K) (RR' := RB) (qk := fun x _ S1 P _ => P (fIsN false x) S1) h) fun v H1 ⟨p, l, r, u⟩ => ⟨_, rfl, by
    rw [rl_non r]
    exact up_ret u rfl⟩
theorem qt_notN {j pos'} {q : QTE} (ha : QE X T W a q) : QT X T W (.Compare a [.IsNot] [.Constant .none j pos'] pos) (qTst (qIsN true q)) :=
  pt_imp (pt_cmp (pc_notN ha)) fun σ H Q h => up_mono (up_bind (RR := Rl X.K) (RR' := RB) (qk := fun x _ S1 P _ => P (fIsN true x) S1) h) fun v H1 ⟨p, l, r, u⟩ => ⟨_, rfl, by
    rw [rl_non r, fIsN_not]
    exact up_ret u rfl⟩
end
end Mp

set_option Elab.async false
set_option linter.all false
set_option maxRecDepth 100000
namespace Mp
open PySem L2

section
variable {X : Cx} {T : List (Addr × Str)} {W : WX} {e a b : Expr} {es : List Expr} {K : PySem.W.Frag} {S S' S1 : Sto} {H H' H1 : Hp} {σ : St} {τ : PSt} {PD : PEnds} {D : Ends} {pos : Pos}

/-! ### subscripts -/
theorem Rls.at {ps : List PV} {vs : List V} {i : Int} {p : PV} (r : Rls K H vs ps) (h : atI ps i = some p) : ∃ v, atI vs i = some v ∧ Rl K H v p := by
  unfold atI at h ⊢
  rw [Rls.length r]
  cases q : ixN ps.length i with
  | none => rw [q] at h; cases h
  | some j =>
    rw [q] at h
    exact r.get h
def fIdx : FO2 := fun x y S P => match x, y with
  | .tup ps, .int i => match atI ps i with
    | some p => P p S
    | none => False
  | .str cs, .int i => match atI cs i with
    | some c => cs.length ≤ sizeLine ∧ P (.str [c]) S
    | none => False
  | .lsv ps, .int i => match atI ps i with
    | some p => P p S
    | none => False
  | .ktp ps, .int i => match atI ps i with
    | some p => P p S
    | none => False
  | .ref q, .int i => match S q with
    | some (.lst ps) => match atI ps i with
      | some p => P p S
      | none => False
    | _ => False
  | _, _ => False
theorem oq_idx : OpQ K T (rIx K) fIdx := by
  intro x y p1 p2 H S P Q r1 r2 rep h k
  cases p2 with
  | int i =>
    cases p1 with
    | tup ps =>
      obtain ⟨u, us, e1, s1, t1⟩ := r1
      unfold fIdx at h
      simp only at h
      cases q : atI ps i with
      | none => rw [q] at h; exact h.elim
      | some p =>
        rw [q] at h
        obtain ⟨v, h1, h2⟩ := t1.at q
        exact .inr (.inl ⟨u, us, i, v, e1, r2, SqT.of s1, h1, k v p H S Fr.refl h2 rep h⟩)
    | ktp ps =>
      obtain ⟨u, us, e1, s1, t1⟩ := r1
      unfold fIdx at h
      simp only at h
      cases q : atI ps i with
      | none => rw [q] at h; exact h.elim
      | some p =>
        rw [q] at h
        obtain ⟨v, h1, h2⟩ := t1.at q
        exact .inr (.inl ⟨u, us, i, v, e1, r2, s1, h1, k v p H S Fr.refl h2 rep h⟩)
    | lsv ps =>
      obtain ⟨u, us, e1, s1, t1⟩ := r1
      unfold fIdx at h
      simp only at h
      cases q : atI ps i with
      | none => rw [q] at h; exact h.elim
      | some p =>
        rw [q] at h
        obtain ⟨v, h1, h2⟩ := t1.at q
        exact .inl ⟨u, us, i, v, e1, r2, s1.sq, h1, k v p H S Fr.refl h2 rep h⟩
    | str cs =>
      unfold fIdx at h
      simp only at h
      cases q : atI cs i with
      | none => rw [q] at h; exact h.elim
      | some c =>
        rw [q] at h
        exact .inr (.inr ⟨_, i, c, r1, r2, by rw [str_len]; exact h.1, q, k (.str ⟨#[c]⟩) (.str [c]) H S Fr.refl rfl rep h.2⟩)
    | ref q =>
      unfold fIdx at h
      simp only at h
      cases z : S q with
      | none => rw [z] at h; exact h.elim
      | some ob =>
        rw [z] at h
        cases ob with
        | lst ps =>
          simp only at h
          cases z2 : atI ps i with
          | none => rw [z2] at h; exact h.elim
          | some p =>
            rw [z2] at h
            obtain ⟨vs, e1, t1⟩ := rep.ob q _ z
            obtain ⟨v, h1, h2⟩ := t1.at z2
            exact .inl ⟨q, vs, i, v, r1, r2, SqL.of e1, h1, k v p H S Fr.refl h2 rep h⟩
        | _ => exact h.elim
    | _ => exact h.elim
  | _ => cases p1 <;> exact h.elim
theorem q_idx {qa qb : QTE} (ha : QE X T W a qa) (hb : QE X T W b qb) (hs : PlainIx b := by exact fun _ _ => rfl) : QE X T W (.Subscript a b pos) (qBin fIdx qa qb) :=
  pe_imp (pe_ix ix_seq ha hb hs) fun _ _ _ h => up_bin oq_idx h
def fSet : FSet := fun o i v S P => match o, i with
  | .ref q, .int k => match S q with
    | some (.lst ps) => match ixN ps.length k with
      | some j => P (put S q (.lst (ps.set j v)))
      | none => False
    | _ => False
  | _, _ => False
theorem sq_list : SetQ K T rSetL fSet := by
  intro o i v p1 p2 p3 H S P Q r1 r2 r3 rep h k
  cases p1 with
  | ref q =>
    cases p2 with
    | int n =>
      unfold fSet at h
      simp only at h
      cases z : S q with
      | none => rw [z] at h; exact h.elim
      | some ob =>
        rw [z] at h
        cases ob with
        | lst ps =>
          simp only at h
          cases z2 : ixN ps.length n with
          | none => rw [z2] at h; exact h.elim
          | some j =>
            rw [z2] at h
            obtain ⟨vs, e1, t1⟩ := rep.ob q _ z
            refine ⟨q, vs, n, j, r1, r2, e1, by rw [Rls.length t1]; exact z2, k _ _ (Fr.wr z) (rep.wr (ob := .lst (ps.set j p3)) z fun le => ⟨_, upd_same, Rls.mono le _ _ (t1.set r3)⟩) h⟩
        | _ => exact h.elim
    | _ => exact h.elim
  | _ => exact h.elim
theorem qg_idx {o i : Expr} {qo qi : QTE} (ho : QE X T W0 o qo) (hi : QE X T W0 i qi)
    (ha : ∀ v, assign (.Subscript o i pos) X.env v = (do let ov ← holding [v] (eval o X.env); let iv ← holding [v, ov] (eval i X.env); standAt pos; holding [v, ov, iv] (setItem ov iv v); release [v, ov, iv] []) := by intro _; rfl) :
    QG X T (.Subscript o i pos) (qgSub qo qi fSet) := qg_sub set_list sq_list ho hi ha

/-! ### slices -/
def cut {α : Type} (xs : List α) (lo hi : Option Int) : List α := (xs.drop (HT.sIx xs.length 0 lo)).take (HT.sIx xs.length xs.length hi - HT.sIx xs.length 0 lo)
abbrev QTO := Qr (Option Int)
abbrev ROI : Hp → Option Int → Option Int → Prop := fun _ a b => a = b
def QO (X : Cx) (T : List (Addr × Str)) (W : WX) (e : Option Expr) (q : QTO) : Prop := PO X e (upG X.K T W ROI q)
def qoN : QTO := fun _ S P _ => P none S
def qoS (q : QTE) : QTO := fun τ S P EP => q τ S (fun x S1 => match x with
  | .int i => P (some i) S1
  | _ => False) EP
theorem po_imp {oe : Option Expr} {t t' : TO} (h : PO X oe t) (k : ∀ σ H Q, t' σ H Q → t σ H Q) : PO X oe t' := ⟨fun pins s σ H Q I w => h.run pins s σ H Q I (k σ H Q w)⟩
theorem qo_none : QO X T W none qoN := po_imp po_none fun σ H Q h => up_ret (RR := ROI) (v := none) (p := none) h rfl
theorem qo_some {q : QTE} (h : QE X T W e q) : QO X T W (some e) (qoS q) := po_imp (po_some h) fun σ H Q h =>
  up_then (RR := Rl X.K) (RR' := ROI) (qk := fun x _ S1 P _ => match x with | .int i => P (some i) S1 | _ => False) h fun v p H1 l r u => by
    cases p with
    | int i =>
      have e : v = .int i := r
      exact ⟨i, e, up_ret (RR := ROI) (v := some i) (p := some i) u rfl⟩
    | _ => obtain ⟨_, _, _, _, _, _, z, _⟩ := u; exact z.elim
def fSl : PV → Option Int → Option Int → Sto → QK PV → Prop := fun x lo hi S P => match x with
  | .str cs => cs.length ≤ sizeLine ∧ P (.str (cut cs lo hi)) S
  | .tup ps => P (.tup (cut ps lo hi)) S
  | .ref q => match S q with
    | some (.lst ps) => ∀ n, S n = none → P (.ref n) (put S n (.lst (cut ps lo hi)))
    | _ => False
  | _ => False
def qSl (q : QTE) (ql qh : QTO) : QTE := fun τ S P EP => q τ S (fun x S1 => ql τ S1 (fun l S2 => qh τ S2 (fun h S3 => fSl x l h S3 P) EP) EP) EP
theorem Rls.cut {ps : List PV} {vs : List V} (r : Rls K H vs ps) (lo hi : Option Int) : Rls K H (cutV vs lo hi) (cut ps lo hi) := by
  unfold cutV Mp.cut
  rw [Rls.length r]
  exact (r.drop _).take _
theorem sIx_all {α : Type} {xs : List α} {lo hi : Option Int} (h : HT.sIx xs.length 0 lo = 0 ∧ HT.sIx xs.length xs.length hi = xs.length) : cut xs lo hi = xs := by
  unfold cut
  rw [h.1, h.2]
  simp
theorem q_slice {q : QTE} {lo hi : Option Expr} {ql qh : QTO} {p2 : Pos} (he : QE X T W e q) (hl : QO X T W lo ql) (hh : QO X T W hi qh) : QE X T W (.Subscript e (.Slice lo hi none p2) pos) (qSl q ql qh) :=
  pe_imp (pe_slice (SlR.or sl_str (SlR.or sl_tupA sl_list)) he hl hh) fun σ H Q h =>
    up_then (RR := Rl X.K) (RR' := Rl X.K) (qk := fun x τ S1 P EP => ql τ S1 (fun l S2 => qh τ S2 (fun h S3 => fSl x l h S3 P) EP) EP) h fun x p H1 l1 r1 u1 =>
    up_then (RR := ROI) (RR' := Rl X.K) (qk := fun l τ S2 P EP => qh τ S2 (fun h S3 => fSl p l h S3 P) EP) u1 fun l l' H2 l2 r2 u2 =>
    up_then (RR := ROI) (RR' := Rl X.K) (qk := fun h _ S3 P _ => fSl p l' h S3 P) u2 fun h h' H3 l3 r3 ⟨τ, S, P, EP, _, rep, hf, k, _⟩ => by
      have el : l = l' := r2
      have eh : h = h' := r3
      subst el; subst eh
      have r1 : Rl X.K H3 x p := Rl.mono l3 _ _ (Rl.mono l2 _ _ r1)
      cases p with
      | str cs =>
        refine .inl ⟨_, r1, by rw [str_len]; exact hf.1, ?_⟩
        exact k (.str (cutS ⟨cs.toArray⟩ l h)) (.str (cut cs l h)) H3 S Fr.refl (by
          show V.str (cutS ⟨cs.toArray⟩ l h) = V.str ⟨(cut cs l h).toArray⟩
          unfold cutS cut
          rw [str_len]) rep hf.2
      | tup ps =>
        obtain ⟨u, us, e1, s1, t1⟩ := r1
        refine .inr (.inl ⟨u, us, e1, SqT.of s1, fun w => ?_, fun _ n hn => ?_⟩)
        · rw [Rls.length t1] at w
          have hf : P (.tup (cut ps l h)) S := hf
          rw [sIx_all w] at hf
          exact k (.ref u) (.tup ps) H3 S Fr.refl ⟨u, us, rfl, s1, t1⟩ rep hf
        · exact k (.ref n) (.tup (cut ps l h)) _ S (Fr.hid hn) ⟨n, _, rfl, upd_same, Rls.mono (le_new hn) _ _ (t1.cut l h)⟩ (rep.hid hn) hf
      | ref q =>
        unfold fSl at hf
        simp only at hf
        cases z : S q with
        | none => rw [z] at hf; exact hf.elim
        | some ob =>
          rw [z] at hf
          cases ob with
          | lst ps =>
            obtain ⟨vs, e1, t1⟩ := rep.ob q _ z
            refine .inr (.inr ⟨q, vs, r1, SqL.of e1, fun n hn => ?_⟩)
            exact k (.ref n) (.ref n) _ _ (Fr.new hn) rfl (rep.new (ob := .lst (cut ps l h)) hn ⟨_, upd_same, Rls.mono (le_new hn) _ _ (t1.cut l h)⟩) (hf n (rep.free hn))
          | _ => exact hf.elim
      | _ => exact hf.elim

/-! ### a list operand: new and hidden, or one of the store -/
inductive LH where
  | hid (a : Addr) (xs : List PV)
  | sto (a : Addr)
def LH.its (S : Sto) : LH → Option (List PV)
  | .hid _ xs => some xs
  | .sto a => match S a with
    | some (.lst xs) => some xs
    | _ => none
abbrev QTV := Qr LH
def RLH (K : PySem.W.Frag) (S : Sto) (H : Hp) (v : V) : LH → Prop
  | .hid a xs => v = .ref a ∧ ∃ vs, H a = some (.lst vs) ∧ S a = none ∧ Rls K H vs xs
  | .sto a => v = .ref a
def upV (K : PySem.W.Frag) (T : List (Addr × Str)) (W : WX) (q : QTV) : TE := fun σ H Q =>
  ∃ τ S P EP, RS K H σ τ ∧ Rep K T S H ∧ q τ S P EP ∧ (∀ v p H' S', Fr S H S' H' → RLH K S' H' v p → Rep K T S' H' → P p S' → Q v H') ∧
    ∀ c d x H' S', Fr S H S' H' → XR K H' c d x → Rep K T S' H' → EP x S' → W c d σ H'
def QV (X : Cx) (T : List (Addr × Str)) (W : WX) (e : Expr) (q : QTV) : Prop := PE X e (upV X.K T W q)
def qvL (q : QTA) : QTV := fun τ S P EP => q τ S (fun xs S1 => ∀ a, P (.hid a xs) S1) EP
def qvE (q : QTE) : QTV := fun τ S P EP => q τ S (fun x S1 => match x with
  | .ref a => P (.sto a) S1
  | _ => False) EP
theorem qv_l {q : QTA} (h : QL X T W e q) : QV X T W e (qvL q) := pe_imp h fun σ H Q ⟨τ, S, P, EP, h1, h2, h3, h4, h5⟩ =>
  ⟨τ, S, _, EP, h1, h2, h3, fun a vs ps H' S' fr e n _ rl rep hp => h4 _ (.hid a ps) H' S' fr ⟨rfl, vs, e, n, rl⟩ rep (hp a), h5⟩
theorem qv_e {q : QTE} (h : QE X T W e q) : QV X T W e (qvE q) := pe_imp h fun σ H Q ⟨τ, S, P, EP, h1, h2, h3, h4, h5⟩ =>
  ⟨τ, S, _, EP, h1, h2, h3, fun v p H' S' fr rl rep hp => by
    cases p with
    | ref a => exact h4 v (.sto a) H' S' fr rl rep hp
    | _ => exact hp.elim, h5⟩
theorem RLH.at {v : V} {l : LH} {xs : List PV} (r : RLH K S H v l) (rep : Rep K T S H) (h : l.its S = some xs) : ∃ a vs, v = .ref a ∧ H a = some (.lst vs) ∧ Rls K H vs xs := by
  cases l with
  | hid a ys =>
    have h : some ys = some xs := h
    cases h
    obtain ⟨e, vs, e1, _, rl⟩ := r
    exact ⟨a, vs, e, e1, rl⟩
  | sto a =>
    unfold LH.its at h
    simp only at h
    cases z : S a with
    | none => rw [z] at h; cases h
    | some ob =>
      rw [z] at h
      cases ob with
      | lst ys =>
        cases h
        obtain ⟨vs, e1, rl⟩ := rep.ob a _ z
        exact ⟨a, vs, r, e1, rl⟩
      | _ => cases h
theorem RLH.fr {v : V} {l : LH} (r : RLH K S H v l) (rep : Rep K T S H) (f : Fr S H S' H') : RLH K S' H' v l := by
  cases l with
  | hid a ys =>
    obtain ⟨e, vs, e1, n, rl⟩ := r
    obtain ⟨e2, _, n2⟩ := f a _ e1 (fun _ q => nomatch q) (.inl n)
    exact ⟨e, vs, e2, n2 n, Rls.mono (f.le rep) _ _ rl⟩
  | sto a => exact r
/-- xs + ys -/
def qCat (qa qb : QTV) : QTA := fun τ S P EP => qa τ S (fun x S1 => qb τ S1 (fun y S2 => match x.its S2, y.its S2 with
  | some xs, some ys => xs.length + ys.length ≤ sizeLine ∧ P (xs ++ ys) S2
  | _, _ => False) EP) EP
theorem ql_cat {qa qb : QTV} (ha : QV X T W a qa) (hb : QV X T W b qb) : QL X T W (.BinOp a .Add b pos) (qCat qa qb) :=
  pe_imp (pe_op op_cat ha hb) fun σ H Q ⟨τ, S, P, EP, h1, h2, h3, h4, h5⟩ => by
    refine ⟨τ, S, _, EP, h1, h2, h3, fun x p H1 S1 fr1 r1 rep1 hp1 => ?_, h5⟩
    refine ⟨τ, S1, _, EP, h1.mono (fr1.le h2), rep1, hp1, fun y p2 H2 S2 fr2 r2 rep2 hp2 => ?_, fun c d x H' S' fr => h5 c d x H' S' (fr1.trans fr)⟩
    have r1 := r1.fr rep1 fr2
    cases z1 : p.its S2 with
    | none => simp only [z1] at hp2
    | some xs =>
      cases z2 : p2.its S2 with
      | none => simp only [z1, z2] at hp2
      | some ys =>
        simp only [z1, z2] at hp2
        obtain ⟨u, us, e1, g1, t1⟩ := r1.at rep2 z1
        obtain ⟨w, ws, e2, g2, t2⟩ := r2.at rep2 z2
        refine ⟨u, w, us, ws, e1, e2, g1, g2, by rw [Rls.length t1, Rls.length t2]; exact hp2.1, fun n hn => ?_⟩
        have f := fr1.trans fr2
        exact h4 n _ _ _ S2 (f.trans (Fr.hid hn)) upd_same (rep2.free hn) (Nu.of f hn) (Rls.mono (le_new hn) _ _ (Rls.append t1 t2)) (rep2.hid hn) hp2.2

/-! ### built-ins by values -/
abbrev FCal := List PV → Sto → QK PV → Prop
def CalQ (K : PySem.W.Frag) (T : List (Addr × Str)) (r : List V → Hp → VK → Prop) (f : FCal) : Prop := ∀ vs ps H S (P : QK PV) (Q : VK), Rls K H vs ps → Rep K T S H → f ps S P →
  (∀ v p H' S', Fr S H S' H' → Rl K H' v p → Rep K T S' H' → P p S' → Q v H') → r vs H Q
def qCal (f : FCal) (q : QTA) : QTE := fun τ S P EP => q τ S (fun xs S1 => f xs S1 P) EP
theorem up_cal {r : List V → Hp → VK → Prop} {f : FCal} {q : QTA} (o : CalQ K T r f) {Q : VK} (h : upG K T W (Rl K) (qCal f q) σ H Q) : tCB r (upG K T W (Rls K) q) σ H Q :=
  up_then (RR := Rls K) (RR' := Rl K) (qk := fun xs _ S1 P _ => f xs S1 P) h fun vs ps H1 l rl ⟨τ, S, P, EP, _, rep, hf, k, _⟩ => o vs ps H1 S P Q rl rep hf k
variable {x : Str} {p : Pos} {id Ty : String} {r : List V → Hp → VK → Prop} {f : FCal} {q : QTA}
theorem q_callB (hc : CallR X (.builtin id) r) (o : CalQ X.K T r f) (hg : Gl X x) (hm : X.mg x = none) (hv : bootBuiltins x = some (.builtin id)) (ha : QA X T W (e :: es) q) (hn : x ≠ "__name__" := by decide) (hdb : (x == ("__debug__" : Str)) = false := by decide)
    (he : starEach (e :: es) X.env = (false, eval e X.env) :: starEach es X.env := by rfl) (hpl : (backTo pos (starEach es X.env)).any (·.1) = false := by rfl) : QE X T W (.Call (.Name x p) (e :: es) [] pos) (qCal f q) :=
  pe_imp (pe_callB hc hg hm hv ha hn hdb he hpl) fun σ H Q h => up_cal o h
theorem q_callTy (hc : CallR X (.type Ty) r) (o : CalQ X.K T r f) (hg : Gl X x) (hm : X.mg x = none) (hv : bootBuiltins x = some (.type Ty)) (ha : QA X T W (e :: es) q) (hn : x ≠ "__name__" := by decide) (hdb : (x == ("__debug__" : Str)) = false := by decide)
    (he : starEach (e :: es) X.env = (false, eval e X.env) :: starEach es X.env := by rfl) (hpl : (backTo pos (starEach es X.env)).any (·.1) = false := by rfl) : QE X T W (.Call (.Name x p) (e :: es) [] pos) (qCal f q) :=
  pe_imp (pe_callTy hc hg hm hv ha hn hdb he hpl) fun σ H Q h => up_cal o h
/-- one int in -/
theorem cq_i {r : List V → Hp → VK → Prop} {f : FCal} {g : Int → Int} (hr : ∀ i H (Q : VK), Q (.int (g i)) H → r [.int i] H Q) (hf : ∀ ps S P, f ps S P → ∃ i, ps = [.int i] ∧ P (.int (g i)) S) : CalQ K T r f := fun vs ps H S P Q rl rep h k => by
  obtain ⟨i, e, hp⟩ := hf ps S P h
  subst e
  obtain ⟨v, w, e1, h1, h2⟩ := rl
  have h1 : v = .int i := h1
  have h2 : w = [] := h2
  subst e1; subst h1; subst h2
  exact hr i H Q (k (.int (g i)) (.int (g i)) H S Fr.refl rfl rep hp)
def fAbs : FCal := fun ps S P => match ps with
  | [.int i] => P (.int (if i < 0 then -i else i)) S
  | _ => False
def fInt : FCal := fun ps S P => match ps with
  | [.int i] => P (.int i) S
  | _ => False
theorem one_i {ps : List PV} {g : Int → Int} {S : Sto} {P : QK PV} (h : match ps with | [.int i] => P (.int (g i)) S | _ => False) : ∃ i, ps = [.int i] ∧ P (.int (g i)) S := by
  match ps, h with
  | [.int i], h => exact ⟨i, rfl, h⟩
theorem cq_abs : CalQ K T (fun xs H Q => ∃ i, xs = [.int i] ∧ Q (.int (if i < 0 then -i else i)) H) fAbs := cq_i (g := fun i => if i < 0 then -i else i) (fun i H Q h => ⟨i, rfl, h⟩) fun ps S P h => one_i h
theorem cq_int : CalQ K T (fun xs H Q => (∃ i, xs = [.int i] ∧ Q (.int i) H) ∨ ∃ k, xs = [.bl k] ∧ Q (.int (if k then 1 else 0)) H) fInt := cq_i (g := fun i => i) (fun i H Q h => .inl ⟨i, rfl, h⟩) fun ps S P h => one_i (g := fun i => i) h
theorem two_i {ps : List PV} {g : Int → Int → PV} {S : Sto} {P : QK PV} (h : match ps with | [.int i, .int j] => P (g i j) S | _ => False) : ∃ i j, ps = [.int i, .int j] ∧ P (g i j) S := by
  match ps, h with
  | [.int i, .int j], h => exact ⟨i, j, rfl, h⟩
theorem rls_ii {vs : List V} {i j : Int} (rl : Rls K H vs [.int i, .int j]) : vs = [.int i, .int j] := by
  obtain ⟨v, w, e1, h1, v2, w2, e2, h2, h3⟩ := rl
  have h1 : v = .int i := h1
  have h2 : v2 = .int j := h2
  have h3 : w2 = [] := h3
  subst h1; subst h2; subst h3; subst e2
  exact e1
def fMax2 : FCal := fun ps S P => match ps with
  | [.int i, .int j] => P (.int (if j > i then j else i)) S
  | _ => False
def fMin2 : FCal := fun ps S P => match ps with
  | [.int i, .int j] => P (.int (if j < i then j else i)) S
  | _ => False
theorem cq_max2 : CalQ K T (fun xs H Q => ∃ i j, xs = [.int i, .int j] ∧ Q (.int (if j > i then j else i)) H) fMax2 := fun vs ps H S P Q rl rep h k => by
  obtain ⟨i, j, e, hp⟩ := two_i (g := fun i j => .int (if j > i then j else i)) h
  subst e
  exact ⟨i, j, rls_ii rl, k (.int _) (.int _) H S Fr.refl rfl rep hp⟩
theorem cq_min2 : CalQ K T (fun xs H Q => ∃ i j, xs = [.int i, .int j] ∧ Q (.int (if j < i then j else i)) H) fMin2 := fun vs ps H S P Q rl rep h k => by
  obtain ⟨i, j, e, hp⟩ := two_i (g := fun i j => .int (if j < i then j else i)) h
  subst e
  exact ⟨i, j, rls_ii rl, k (.int _) (.int _) H S Fr.refl rfl rep hp⟩
def fLen : FCal := fun ps S P => match ps with
  | [.tup xs] => P (.int xs.length) S
  | [.ktp xs] => P (.int xs.length) S
  | [.lsv xs] => P (.int xs.length) S
  | [.str cs] => cs.length ≤ sizeLine ∧ P (.int cs.length) S
  | [.ref q] => match S q with
    | some (.lst xs) => P (.int xs.length) S
    | _ => False
  | _ => False
theorem cq_len : CalQ K T (fun xs H Q => ∃ x n, xs = [x] ∧ LenV K x H n ∧ Q (.int n) H) fLen := fun vs ps H S P Q rl rep h k => by
  match ps, h with
  | [.tup xs], h =>
    obtain ⟨v, w, e1, ⟨a, us, e2, s1, t1⟩, h2⟩ := rl
    have h2 : w = [] := h2
    subst e1; subst e2; subst h2
    exact ⟨_, xs.length, rfl, .inr ⟨us, SqT.of s1, (Rls.length t1).symm⟩, k (.int _) (.int _) H S Fr.refl rfl rep h⟩
  | [.ktp xs], h =>
    obtain ⟨v, w, e1, ⟨a, us, e2, s1, t1⟩, h2⟩ := rl
    have h2 : w = [] := h2
    subst e1; subst e2; subst h2
    exact ⟨_, xs.length, rfl, .inr ⟨us, s1, (Rls.length t1).symm⟩, k (.int _) (.int _) H S Fr.refl rfl rep h⟩
  | [.lsv xs], h =>
    obtain ⟨v, w, e1, ⟨a, us, e2, s1, t1⟩, h2⟩ := rl
    have h2 : w = [] := h2
    subst e1; subst e2; subst h2
    exact ⟨_, xs.length, rfl, .inl ⟨us, s1.sq, (Rls.length t1).symm⟩, k (.int _) (.int _) H S Fr.refl rfl rep h⟩
  | [.str cs], h =>
    obtain ⟨v, w, e1, h1, h2⟩ := rl
    have h1 : v = .str ⟨cs.toArray⟩ := h1
    have h2 : w = [] := h2
    subst e1; subst h1; subst h2
    exact ⟨_, cs.length, rfl, ⟨by rw [str_len]; exact h.1, str_len.symm⟩, k (.int _) (.int _) H S Fr.refl rfl rep h.2⟩
  | [.ref q], h =>
    unfold fLen at h
    simp only at h
    obtain ⟨v, w, e1, h1, h2⟩ := rl
    have h1 : v = .ref q := h1
    have h2 : w = [] := h2
    subst e1; subst h1; subst h2
    cases z : S q with
    | none => rw [z] at h; exact h.elim
    | some ob =>
      rw [z] at h
      cases ob with
      | lst xs =>
        obtain ⟨us, e1, t1⟩ := rep.ob q _ z
        exact ⟨_, xs.length, rfl, .inl ⟨us, SqL.of e1, (Rls.length t1).symm⟩, k (.int _) (.int _) H S Fr.refl rfl rep h⟩
      | _ => exact h.elim
/-- tuple(x), list(x) by values -/
def seqOf (x : PV) (S : Sto) : Option (List PV) := match x with
  | .tup xs => some xs
  | .lsv xs => some xs
  | .ktp xs => some xs
  | .ref q => match S q with
    | some (.lst xs) => some xs
    | _ => none
  | _ => none
theorem seq_of {v : V} {x : PV} {xs : List PV} (rl : Rl K H v x) (rep : Rep K T S H) (h : seqOf x S = some xs) : ∃ a vs, v = .ref a ∧ (SqL K H a vs ∨ SqT K H a vs) ∧ Rls K H vs xs := by
  cases x with
  | tup ys =>
    have h : some ys = some xs := h
    cases h
    obtain ⟨a, us, e2, s1, t1⟩ := rl
    exact ⟨a, us, e2, .inr (SqT.of s1), t1⟩
  | ktp ys =>
    have h : some ys = some xs := h
    cases h
    obtain ⟨a, us, e2, s1, t1⟩ := rl
    exact ⟨a, us, e2, .inr s1, t1⟩
  | lsv ys =>
    have h : some ys = some xs := h
    cases h
    obtain ⟨a, us, e2, s1, t1⟩ := rl
    exact ⟨a, us, e2, .inl s1.sq, t1⟩
  | ref q =>
    unfold seqOf at h
    simp only at h
    cases z : S q with
    | none => rw [z] at h; cases h
    | some ob =>
      rw [z] at h
      cases ob with
      | lst ys =>
        cases h
        obtain ⟨us, e1, t1⟩ := rep.ob q _ z
        exact ⟨q, us, rl, .inl (SqL.of e1), t1⟩
      | _ => cases h
  | _ => cases h
def fTup : FCal := fun ps S P => match ps with
  | [.tup xs] => P (.tup xs) S
  | [.ktp xs] => P (.ktp xs) S
  | [.ref q] => match S q with
    | some (.lst xs) => P (.tup xs) S
    | _ => False
  | [.lsv xs] => P (.tup xs) S
  | _ => False
theorem cq_tup : CalQ K T (fun xs H Q => ∃ p ys, xs = [.ref p] ∧ ((SqL K H p ys ∧ ∀ l, H l = none → Q (.ref l) (upd H l (.tup ys))) ∨ (SqT K H p ys ∧ Q (.ref p) H))) fTup := fun vs ps H S P Q rl rep h k => by
  match ps, h with
  | [.tup xs], h =>
    obtain ⟨v, w, e1, h1, h2⟩ := rl
    have h2 : w = [] := h2
    subst e1; subst h2
    obtain ⟨a, us, e1, s, t⟩ := h1
    subst e1
    exact ⟨a, us, rfl, .inr ⟨SqT.of s, k (.ref a) (.tup xs) H S Fr.refl ⟨a, us, rfl, s, t⟩ rep h⟩⟩
  | [.ktp xs], h =>
    obtain ⟨v, w, e1, h1, h2⟩ := rl
    have h2 : w = [] := h2
    subst e1; subst h2
    obtain ⟨a, us, e1, s, t⟩ := h1
    subst e1
    exact ⟨a, us, rfl, .inr ⟨s, k (.ref a) (.ktp xs) H S Fr.refl ⟨a, us, rfl, s, t⟩ rep h⟩⟩
  | [.lsv xs], h =>
    obtain ⟨v, w, e1, h1, h2⟩ := rl
    have h2 : w = [] := h2
    subst e1; subst h2
    obtain ⟨a, us, e1, s, t⟩ := h1
    subst e1
    exact ⟨a, us, rfl, .inl ⟨s.sq, fun n hn => k (.ref n) (.tup xs) _ S (Fr.hid hn) ⟨n, us, rfl, upd_same, Rls.mono (le_new hn) _ _ t⟩ (rep.hid hn) h⟩⟩
  | [.ref q], h =>
    unfold fTup at h
    simp only at h
    obtain ⟨v, w, e1, h1, h2⟩ := rl
    have h2 : w = [] := h2
    subst e1; subst h2
    have h1 : v = .ref q := h1
    subst h1
    cases z : S q with
    | none => rw [z] at h; exact h.elim
    | some ob =>
      rw [z] at h
      cases ob with
      | lst xs =>
        obtain ⟨us, e1, t⟩ := rep.ob q _ z
        exact ⟨q, us, rfl, .inl ⟨SqL.of e1, fun n hn => k (.ref n) (.tup xs) _ S (Fr.hid hn) ⟨n, us, rfl, upd_same, Rls.mono (le_new hn) _ _ t⟩ (rep.hid hn) h⟩⟩
      | _ => exact h.elim
/-- tuple(a new list) -/
def qTupL (q : QTA) : QTE := fun τ S P EP => q τ S (fun xs S1 => P (.tup xs) S1) EP
theorem q_tupL (hg : Gl X "tuple") (hm : X.mg "tuple" = none) (ha : QL X T W e q) (he : starEach [e] X.env = [(false, eval e X.env)] := by rfl) : QE X T W (.Call (.Name "tuple" p) [e] [] pos) (qTupL q) :=
  pe_imp (pe_callTy call_tuple_of hg hm (by decide +kernel) (pa_cons ha pa_nil he) (he := he)) fun σ H Q ⟨τ, S, P, EP, h1, h2, h3, h4, h5⟩ =>
    ⟨τ, S, _, EP, h1, h2, h3, fun a vs ps H1 S1 fr g n nu rl rep hp => ⟨a, vs, rfl, .inl ⟨SqL.of g, fun n hn =>
      h4 (.ref n) (.tup ps) _ S1 (fr.trans (Fr.hid hn)) ⟨n, vs, rfl, upd_same, Rls.mono (le_new hn) _ _ rl⟩ (rep.hid hn) hp⟩⟩, h5⟩
/-- list(x) -/
def qListV (q : QTE) : QTA := fun τ S P EP => q τ S (fun x S1 => match seqOf x S1 with
  | some xs => P xs S1
  | none => False) EP
theorem ql_list {q : QTE} (hg : Gl X "list") (hm : X.mg "list" = none) (ha : QE X T W e q) (he : starEach [e] X.env = [(false, eval e X.env)] := by rfl) : QL X T W (.Call (.Name "list" p) [e] [] pos) (qListV q) :=
  pe_imp (pe_callTy call_list_of hg hm (by decide +kernel) (pa_cons ha pa_nil he) (he := he)) fun σ H Q ⟨τ, S, P, EP, h1, h2, h3, h4, h5⟩ =>
    ⟨τ, S, _, EP, h1, h2, h3, fun v x H1 S1 fr rl rep hp => by
      cases z : seqOf x S1 with
      | none => rw [z] at hp; exact hp.elim
      | some xs =>
        rw [z] at hp
        obtain ⟨a, us, e1, s, t⟩ := seq_of rl rep z
        subst e1
        exact ⟨a, us, rfl, s, fun n hn => h4 n us xs _ S1 (fr.trans (Fr.hid hn)) upd_same (rep.free hn) (Nu.of fr hn) (Rls.mono (le_new hn) _ _ t) (rep.hid hn) hp⟩, h5⟩
/-- isinstance(x, T), T built in -/
def kindOf (x : PV) (S : Sto) : Option String := match x with
  | .non => some "NoneType"
  | .bl _ => some "bool"
  | .int _ => some "int"
  | .str _ => some "str"
  | .tup _ => some "tuple"
  | .ref q => match S q with
    | some (.lst _) => some "list"
    | some (.dic _ _) => some "dict"
    | _ => none
  | .lsv _ => some "list"
  | .exv _ _ _ _ _ => none
  | .lam _ _ _ _ _ => none
  | .ktp _ => some "tuple"
  | .ty _ => none
def isKind (k t : String) : Bool := k == t || (k == "bool" && t == "int")
def fIsi : FCal := fun ps S P => match ps with
  | [x, .ty t] => match kindOf x S with
    | some k => P (.bl (isKind k t)) S
    | none => False
  | _ => False
theorem kind_ty {v : V} {x : PV} {k : String} (rl : Rl K H v x) (rep : Rep K T S H) (h : kindOf x S = some k) : TyX K H v (.type k) := by
  cases x with
  | non =>
    have e : v = .non := rl
    cases h; subst e
    exact .base .non
  | bl c =>
    have e : v = .bl c := rl
    cases h; subst e
    exact .base (.bl c)
  | int i =>
    have e : v = .int i := rl
    cases h; subst e
    exact .base (.int i)
  | str cs =>
    have e : v = .str ⟨cs.toArray⟩ := rl
    cases h; subst e
    exact .base (.str _)
  | tup xs =>
    obtain ⟨a, us, e2, s1, t1⟩ := rl
    cases h; subst e2
    exact .base (.tup s1)
  | ktp xs =>
    obtain ⟨a, us, e2, s1, t1⟩ := rl
    cases h; subst e2
    rcases s1 with (s1 | ⟨ob, s1⟩) | ⟨o, its, n, hk, hc, _⟩
    · exact .base (.tup s1)
    · exact .fTuple s1
    · exact .kTuple hk hc
  | lsv xs =>
    obtain ⟨a, us, e2, s1, t1⟩ := rl
    cases h; subst e2
    rcases s1 with ⟨ob, s1⟩ | (s1 | ⟨ob, s1⟩) | ⟨o, its, n, hk, hc, _⟩
    · exact .base (.frz s1)
    · cases s1
    · cases s1
    · exact .kList hk hc
  | ref q =>
    have e : v = .ref q := rl
    subst e
    unfold kindOf at h
    simp only at h
    cases z : S q with
    | none => rw [z] at h; cases h
    | some ob =>
      rw [z] at h
      cases ob with
      | lst ys =>
        cases h
        obtain ⟨us, e1, t1⟩ := rep.ob q _ z
        exact .base (.lst e1)
      | dic t kvs =>
        cases h
        obtain ⟨u, e1, d⟩ := rep.ob q _ z
        cases t with
        | false =>
          obtain ⟨ks, rfl, _⟩ := d
          exact .base (.dK e1)
        | true =>
          obtain ⟨ks, rfl, _⟩ := d
          exact .base (.dT e1)
      | fdi t kvs => cases h
      | ins C fs => cases h
  | ty n => cases h
  | exv a C d ns ps => cases h
  | lam f c q vs ps => cases h
theorem kit_all : ∀ k ∈ ["NoneType", "bool", "int", "str", "tuple", "list", "dict"], ∀ t ∈ ["bool", "int", "str", "tuple", "list", "dict"], kitB k t = some (isKind k t) := by decide +kernel
theorem kind_in {x : PV} {k : String} (h : kindOf x S = some k) : k ∈ ["NoneType", "bool", "int", "str", "tuple", "list", "dict"] := by
  cases x with
  | ref q =>
    unfold kindOf at h
    simp only at h
    cases z : S q with
    | none => rw [z] at h; cases h
    | some ob =>
      rw [z] at h
      cases ob <;> cases h <;> simp
  | ty n => cases h
  | exv a C d ns ps => cases h
  | lam f c q vs ps => cases h
  | _ => cases h; simp
theorem cq_isi (t : String) (ht : t ∈ ["bool", "int", "str", "tuple", "list", "dict"]) : CalQ K T (rIsi K) (fun ps S P => match ps with | [x, .ty t'] => t' = t ∧ fIsi [x, .ty t] S P | _ => False) := fun vs ps H S P Q rl rep h k => by
  match ps, h with
  | [x, .ty t'], ⟨et, h⟩ =>
    subst et
    obtain ⟨v, w, e1, h1, v2, w2, e2, h2, h3⟩ := rl
    have h2 : v2 = .ty t' := h2
    have h3 : w2 = [] := h3
    subst h2; subst h3; subst e2; subst e1
    unfold fIsi at h
    simp only at h
    cases z : kindOf x S with
    | none => rw [z] at h; exact h.elim
    | some kd =>
      rw [z] at h
      exact ⟨v, .ty t', .type kd, .type t', isKind kd t', rfl, .ty t', kind_ty h1 rep z, kit_ty (kit_all kd (kind_in z) t' ht), k (.bl _) (.bl _) H S Fr.refl rfl rep h⟩
theorem q_ty {x : Str} {Ty : String} (hg : Gl X x) (hm : X.mg x = none) (hv : bootBuiltins x = some (.type Ty)) (hn : x ≠ "__name__" := by decide) (hdb : (x == ("__debug__" : Str)) = false := by decide) : QE X T W (.Name x pos) (qC (.ty Ty)) :=
  q_con (pe_bltn (v := .ty Ty) hg hm hv rfl hn hdb) fun _ => rfl
/-- isinstance(x, T) -/
def qIsi (t : String) (q : QTE) : QTE := fun τ S P EP => q τ S (fun x S1 => match kindOf x S1 with
  | some k => P (.bl (isKind k t)) S1
  | none => False) EP
theorem q_isi {x2 : Str} {Ty : String} {q : QTE} {p2 : Pos} (hg : Gl X "isinstance") (hm : X.mg "isinstance" = none) (hg2 : Gl X x2) (hm2 : X.mg x2 = none) (hv2 : bootBuiltins x2 = some (.type Ty)) (ht : Ty ∈ ["bool", "int", "str", "tuple", "list", "dict"]) (ha : QE X T W e q)
    (hn : x2 ≠ "__name__" := by decide) (hdb : (x2 == ("__debug__" : Str)) = false := by decide) (he : starEach [e, .Name x2 p2] X.env = (false, eval e X.env) :: starEach [.Name x2 p2] X.env := by rfl) : QE X T W (.Call (.Name "isinstance" p) [e, .Name x2 p2] [] pos) (qIsi Ty q) :=
  pe_imp (pe_callB call_isi hg hm (by decide +kernel) (pa_cons ha (pa_cons (q_ty (T := T) (W := W) hg2 hm2 hv2 hn hdb) pa_nil) he) (he := he)) fun σ H Q h =>
    up_then (RR := Rl X.K) (RR' := Rl X.K) (qk := fun x _ S1 P _ => match kindOf x S1 with | some k => P (PV.bl (isKind k Ty)) S1 | none => False) h fun v x H1 l rl ⟨τ, S, P, EP, rs, rep, hf, k, _⟩ => by
      refine ⟨τ, S, fun y S2 => y = .ty Ty ∧ S2 = S, fun _ _ => False, rs, rep, ⟨rfl, rfl⟩, fun v2 y H2 S2 fr r2 rep2 ⟨ey, eS⟩ => ?_, fun _ _ _ _ _ _ _ _ z => z.elim⟩
      subst eS; subst ey
      have e2 : v2 = .ty Ty := r2
      subst e2
      cases z : kindOf x S2 with
      | none => rw [z] at hf; exact hf.elim
      | some kd =>
        rw [z] at hf
        exact ⟨v, .ty Ty, .type kd, .type Ty, isKind kd Ty, rfl, .ty Ty, kind_ty (Rl.mono (fr.le rep) _ _ rl) rep2 z, kit_ty (kit_all kd (kind_in z) Ty ht), k (.bl _) (.bl _) H2 S2 fr rfl rep2 hf⟩
end
end Mp

set_option Elab.async false
set_option linter.all false
set_option maxRecDepth 100000
namespace Mp
open PySem L2

section
variable {X : Cx} {T : List (Addr × Str)} {W : WX} {e a b tg : Expr} {es : List Expr} {K : PySem.W.Frag} {S S' S0 S1 : Sto} {H H' H0 H1 : Hp} {σ : St} {τ : PSt} {PD : PEnds} {D : Ends} {pos p : Pos} {q : QTA}

/-! ### what a for walks -/
abbrev kT : Sto → Prop := fun _ => True
@[irreducible] def rangeP (lo : Int) (n : Nat) : List PV := (List.range n).map fun i => PV.int (lo + (i : Nat))
theorem rangeP_length {lo : Int} {n : Nat} : (rangeP lo n).length = n := by simp [rangeP]
theorem walkP_range {lo : Int} {n : Nat} : WalkP K T (Itr lo n) ⟨rangeP lo n, kT⟩ S0 H0 := fun S H fr rep _ => by
  refine ⟨by show n ≤ (rangeP lo n).length; rw [rangeP_length]; exact Nat.le_refl _, fun i p h => ?_⟩
  have hi : i < n := by
    have := (List.getElem?_eq_some_iff.mp h).1
    rwa [rangeP_length] at this
  refine ⟨hi, fun x H' y => ?_⟩
  obtain ⟨e, ex⟩ := y
  subst e; subst ex
  refine ⟨Fr.refl, rep, ?_⟩
  have h2 : p = .int (lo + (i : Nat)) := by
    have h : (rangeP lo n)[i]? = some p := h
    simp [rangeP, hi] at h
    exact h.symm
  subst h2
  exact rfl
theorem walkP_sto {c : Addr} {ps : List PV} (_ : True) : WalkP K T (Itl K c) ⟨ps, fun S => S c = some (.lst ps)⟩ S0 H0 := fun S H fr rep kp => by
  obtain ⟨vs, e, t⟩ := rep.ob c _ kp
  have sq : SqL K H c vs := SqL.of e
  refine ⟨⟨vs, sq, by rw [Rls.length t]; exact Nat.le_refl _⟩, fun i p h => ?_⟩
  obtain ⟨v, h1, h2⟩ := t.get h
  refine ⟨⟨vs, v, sq, h1⟩, fun x H' y => ?_⟩
  obtain ⟨e, ex⟩ := y
  subst e
  have := ex vs sq
  rw [h1] at this
  cases this
  exact ⟨Fr.refl, rep, h2⟩
/-- a list that stands still or is hidden, at every later heap -/
theorem walkP_still {c : Addr} {ps : List PV} (hs : ∀ S H, Fr S0 H0 S H → Rep K T S H → ∃ vs, SqL K H c vs ∧ Rls K H vs ps) : WalkP K T (Itl K c) ⟨ps, kT⟩ S0 H0 := fun S H fr rep _ => by
  obtain ⟨vs, sq, t⟩ := hs S H fr rep
  refine ⟨⟨vs, sq, by rw [Rls.length t]; exact Nat.le_refl _⟩, fun i p h => ?_⟩
  obtain ⟨v, h1, h2⟩ := t.get h
  refine ⟨⟨vs, v, sq, h1⟩, fun x H' y => ?_⟩
  obtain ⟨e, ex⟩ := y
  subst e
  have := ex vs sq
  rw [h1] at this
  cases this
  exact ⟨Fr.refl, rep, h2⟩
theorem walkP_tup {c : Addr} {ps : List PV} {vs : List V} (sq : SqT K H0 c vs) (t : Rls K H0 vs ps) (rep0 : Rep K T S0 H0) : WalkP K T (Itt K c) ⟨ps, kT⟩ S0 H0 := fun S H fr rep _ => by
  have sq := (fr.le rep0).sq sq
  have t := Rls.mono (fr.le rep0) _ _ t
  refine ⟨⟨vs, sq, by rw [Rls.length t]; exact Nat.le_refl _⟩, fun i p h => ?_⟩
  obtain ⟨v, h1, h2⟩ := t.get h
  refine ⟨⟨vs, v, sq, h1⟩, fun x H' y => ?_⟩
  obtain ⟨e, ex⟩ := y
  subst e
  have := ex vs sq
  rw [h1] at this
  cases this
  exact ⟨Fr.refl, rep, h2⟩
theorem hid_still {c : Addr} {ps : List PV} {vs : List V} (g : H0 c = some (.lst vs)) (n : S0 c = none) (t : Rls K H0 vs ps) (rep0 : Rep K T S0 H0) : ∀ S H, Fr S0 H0 S H → Rep K T S H → ∃ vs, SqL K H c vs ∧ Rls K H vs ps :=
  fun S H fr _ => ⟨vs, SqL.of (fr c _ g (fun _ z => nomatch z) (.inl n)).1, Rls.mono (fr.le rep0) _ _ t⟩
def qiR1 (q : QTA) : QTI := fun τ S P EP => q τ S (fun xs S1 => match xs with
  | [.int j] => (-(2 ^ 62) ≤ j ∧ j < 2 ^ 62) ∧ P ⟨rangeP 0 j.toNat, kT⟩ S1
  | _ => False) EP
def qiR2 (q : QTA) : QTI := fun τ S P EP => q τ S (fun xs S1 => match xs with
  | [.int i, .int j] => (-(2 ^ 62) ≤ i ∧ i < 2 ^ 62 ∧ -(2 ^ 62) ≤ j ∧ j < 2 ^ 62) ∧ P ⟨rangeP i (j - i).toNat, kT⟩ S1
  | _ => False) EP
theorem rls_i {vs : List V} {i : Int} (rl : Rls K H vs [.int i]) : vs = [.int i] := by
  obtain ⟨v, w, e1, h1, h2⟩ := rl
  have h1 : v = .int i := h1
  have h2 : w = [] := h2
  subst h1; subst h2
  exact e1
theorem qi_r1 (hg : Gl X "range") (hm : X.mg "range" = none) (ha : QA X T W [a] q) (hs : starEach [a] X.env = [(false, eval a X.env)] := by rfl) : QI X T W tg (.Call (.Name "range" p) [a] [] pos) (qiR1 q) :=
  pi_imp (pi_range1 hg hm ha hs) fun σ H R ⟨τ, S, P, EP, h1, h2, h3, h4, h5⟩ => ⟨τ, S, _, EP, h1, h2, h3, fun vs ps H' S' fr rl rep hp => by
    match ps, hp with
    | [.int j], ⟨hb, hp⟩ => exact ⟨j, rls_i rl, hb.1, hb.2, h4 _ ⟨rangeP 0 j.toNat, kT⟩ H' S' fr walkP_range trivial rep hp⟩, h5⟩
theorem qi_r2 (hg : Gl X "range") (hm : X.mg "range" = none) (ha : QA X T W [a, b] q) (hs : starEach [a, b] X.env = [(false, eval a X.env), (false, eval b X.env)] := by rfl) (hs2 : starEach [b] X.env = [(false, eval b X.env)] := by rfl) :
    QI X T W tg (.Call (.Name "range" p) [a, b] [] pos) (qiR2 q) :=
  pi_imp (pi_range2 hg hm ha hs hs2) fun σ H R ⟨τ, S, P, EP, h1, h2, h3, h4, h5⟩ => ⟨τ, S, _, EP, h1, h2, h3, fun vs ps H' S' fr rl rep hp => by
    match ps, hp with
    | [.int i, .int j], ⟨hb, hp⟩ => exact ⟨i, j, rls_ii rl, hb, h4 _ ⟨rangeP i (j - i).toNat, kT⟩ H' S' fr walkP_range trivial rep hp⟩, h5⟩
/-- a new list -/
def qiL (q : QTA) : QTI := fun τ S P EP => q τ S (fun xs S1 => P ⟨xs, kT⟩ S1) EP
theorem qi_l (h : QL X T W e q) : QI X T W tg e (qiL q) :=
  pi_imp (pi_list h) fun σ H R ⟨τ, S, P, EP, h1, h2, h3, h4, h5⟩ => ⟨τ, S, _, EP, h1, h2, h3, fun c vs ps H' S' fr g n nu rl rep hp =>
    ⟨c, rfl, ⟨vs, SqL.of g⟩, h4 _ ⟨ps, kT⟩ H' S' fr (walkP_still (hid_still g n rl rep)) trivial rep hp⟩, h5⟩
/-- a value: a tuple, a list, a text -/
def strP (cs : List Nat) : List PV := cs.map fun c => PV.str [c]
def qiV (q : QTE) : QTI := fun τ S P EP => q τ S (fun x S1 => match x with
  | .tup xs => P ⟨xs, kT⟩ S1
  | .ktp xs => P ⟨xs, kT⟩ S1
  | .lsv xs => P ⟨xs, kT⟩ S1
  | .str cs => P ⟨strP cs, kT⟩ S1
  | .ref c => match S1 c with
    | some (.lst xs) => P ⟨xs, fun S => S c = some (.lst xs)⟩ S1
    | _ => False
  | _ => False) EP
theorem iter_l {pins : List (Addr × Obj)} {s : Shared} {c : Addr} {xs : List V} {R : It → Hp → Prop} {E : Value → Shared → Prop} (I : Inv X pins σ H s) (hq : SqL X.K H c xs) (hR : R (Itl X.K c) H) :
    wpAny (model X.prog X.w) X.A (pyIter (.ref c)) (PIE X pins σ tg R) E s := by
  obtain ⟨its, rv, pl, hz⟩ := I.list hq
  refine wpAny_pyIter_list pl.isList ⟨s.heap.objs.size, [s.heap.objs.size], _, _, H, rfl, I.kept (t' := s.toks) fun b o e => Heap.get?_push_of_some _ e, turn_list c _, ⟨_, Heap.get?_push_size _ rfl, rfl, rfl⟩, fun b hb => ?_, hR⟩
  obtain rfl : b = s.heap.objs.size := by simpa using hb
  exact I.fpOk (Nat.le_refl _) (I.hok.fresh (Nat.le_refl _))
theorem iter_t {pins : List (Addr × Obj)} {s : Shared} {c : Addr} {xs : List V} {R : It → Hp → Prop} {E : Value → Shared → Prop} (I : Inv X pins σ H s) (hq : SqT X.K H c xs) (hR : R (Itt X.K c) H) :
    wpAny (model X.prog X.w) X.A (pyIter (.ref c)) (PIE X pins σ tg R) E s := by
  obtain ⟨its, rv, pl, hz⟩ := I.tuple hq
  refine wpAny_pyIter_tuple pl ⟨s.heap.objs.size, [s.heap.objs.size], _, _, H, rfl, I.kept (t' := s.toks) fun b o e => Heap.get?_push_of_some _ e, turn_tuple c _, ⟨_, Heap.get?_push_size _ rfl, rfl, rfl⟩, fun b hb => ?_, hR⟩
  obtain rfl : b = s.heap.objs.size := by simpa using hb
  exact I.fpOk (Nat.le_refl _) (I.hok.fresh (Nat.le_refl _))
theorem iter_s {pins : List (Addr × Obj)} {s : Shared} {x : Str} {t : Tok} {R : It → Hp → Prop} {E : Value → Shared → Prop} (I : Inv X pins σ H s) (hR : R (Its x) H) :
    wpAny (model X.prog X.w) X.A (pyIter (.str x t)) (PIE X pins σ tg R) E s := by
  cases ha : x.cps.all (· < 128)
  · exact wpAny_pyIter_wide ha (pi_one (tk := s.toks) I _ (turn_str _ x t "str_iterator" (.inr rfl)) ⟨_, Heap.get?_push_size _ rfl, rfl, rfl⟩ hR)
  · exact wpAny_pyIter_ascii ha (pi_one (tk := s.toks) I _ (turn_str _ x t "str_ascii_iterator" (.inl rfl)) ⟨_, Heap.get?_push_size _ rfl, rfl, rfl⟩ hR)
theorem walkP_str {cs : List Nat} : WalkP K T (Its ⟨cs.toArray⟩) ⟨strP cs, kT⟩ S0 H0 := fun S H fr rep _ => by
  refine ⟨?_, fun i p h => ?_⟩
  · show cs.toArray.size ≤ (strP cs).length
    rw [strP, List.length_map, List.size_toArray]
    exact Nat.le_refl _
  · have h : (strP cs)[i]? = some p := h
    unfold strP at h
    rw [List.getElem?_map] at h
    cases z : cs[i]? with
    | none => rw [z] at h; cases h
    | some c =>
      rw [z] at h
      cases h
      have hl := (List.getElem?_eq_some_iff.mp z).1
      refine ⟨by show i < cs.toArray.size; rw [List.size_toArray]; exact hl, fun x H' ⟨eH, c', hc, ex⟩ => ?_⟩
      subst eH; subst ex
      have hc : cs.toArray[i]? = some c' := hc
      rw [List.getElem?_toArray, z] at hc
      cases hc
      exact ⟨Fr.refl, rep, rfl⟩
theorem qi_v {q : QTE} (h : QE X T W e q) : QI X T W tg e (qiV q) := by
  refine ⟨fun pins s σ H R I ⟨τ, S, P, EP, h1, h2, h3, h4, h5⟩ => ?_⟩
  refine thn (h.run pins s σ H (fun v H1 => ∃ x S1, Fr S H S1 H1 ∧ Rl X.K H1 v x ∧ Rep X.K T S1 H1 ∧ (match x with
    | .tup xs => P ⟨xs, kT⟩ S1
    | .ktp xs => P ⟨xs, kT⟩ S1
    | .lsv xs => P ⟨xs, kT⟩ S1
    | .str cs => P ⟨strP cs, kT⟩ S1
    | .ref c => match S1 c with
      | some (.lst xs) => P ⟨xs, fun S => S c = some (.lst xs)⟩ S1
      | _ => False
    | _ => False)) I ⟨τ, S, _, EP, h1, h2, h3, fun v x H1 S1 fr rl rep hp => ⟨x, S1, fr, rl, rep, hp⟩, h5⟩) fun u s1 ⟨v, H1, I1, r1, x, S1, fr, rl, rep, hp⟩ => ?_
  cases x with
  | tup xs =>
    obtain ⟨c, vs, e1, sq, t⟩ := rl
    subst e1
    cases r1
    exact iter_t I1 (SqT.of sq) (h4 _ ⟨xs, kT⟩ H1 S1 fr (walkP_tup (SqT.of sq) t rep) trivial rep hp)
  | ktp xs =>
    obtain ⟨c, vs, e1, sq, t⟩ := rl
    subst e1
    cases r1
    exact iter_t I1 sq (h4 _ ⟨xs, kT⟩ H1 S1 fr (walkP_tup sq t rep) trivial rep hp)
  | lsv xs =>
    obtain ⟨c, vs, e1, sq, t⟩ := rl
    subst e1
    cases r1
    exact iter_l I1 sq.sq (h4 _ ⟨xs, kT⟩ H1 S1 fr (walkP_still fun S2 H2 f2 _ => ⟨vs, ((f2.le rep).sqf sq).sq, Rls.mono (f2.le rep) _ _ t⟩) trivial rep hp)
  | str cs =>
    have e1 : v = .str ⟨cs.toArray⟩ := rl
    subst e1
    obtain ⟨t, rfl⟩ := r1
    exact iter_s I1 (h4 _ ⟨strP cs, kT⟩ H1 S1 fr walkP_str trivial rep hp)
  | ref c =>
    have e1 : v = .ref c := rl
    subst e1
    cases r1
    simp only at hp
    cases z : S1 c with
    | none => rw [z] at hp; exact hp.elim
    | some ob =>
      rw [z] at hp
      cases ob with
      | lst xs =>
        obtain ⟨vs, e2, t⟩ := rep.ob c _ z
        exact iter_l I1 (SqL.of e2) (h4 _ ⟨xs, fun S => S c = some (.lst xs)⟩ H1 S1 fr (walkP_sto trivial) z rep hp)
      | _ => exact hp.elim
  | _ => exact hp.elim
/-- reversed(a list) -/
theorem walkP_rev {c : Addr} {ps : List PV} {n : Nat} (hn : n = ps.length) {keep : Sto → Prop} (hs : ∀ S H, Fr S0 H0 S H → Rep K T S H → keep S → ∃ vs, SqL K H c vs ∧ Rls K H vs ps) : WalkP K T (Itv K c n) ⟨ps.reverse, keep⟩ S0 H0 := fun S H fr rep kp => by
  obtain ⟨vs, sq, t⟩ := hs S H fr rep kp
  have el : vs.length = ps.length := Rls.length t
  rw [hn, ← el]
  have w := walk_rev (K := K) (a := c) (xs := vs)
  refine ⟨?_, fun i p h => ?_⟩
  · show (Itv K c vs.length).stop ps.reverse.length H
    rw [List.length_reverse, ← el]
    exact w.stops H sq
  · have hi : i < ps.length := by
      have := (List.getElem?_eq_some_iff.mp h).1
      rwa [List.length_reverse] at this
    have h2 : ps[ps.length - 1 - i]? = some p := by
      have h : ps.reverse[i]? = some p := h
      rwa [List.getElem?_reverse hi] at h
    obtain ⟨v, h3, h4⟩ := t.get h2
    refine ⟨w.goes i H (by omega) sq, fun x H' y => ?_⟩
    obtain ⟨e, ex⟩ := w.yields i H x H' (by omega) sq y
    subst e
    rw [el, h3] at ex
    cases ex
    exact ⟨Fr.refl, rep, h4⟩
def qiRev (q : QTE) : QTI := fun τ S P EP => q τ S (fun x S1 => match x with
  | .lsv xs => P ⟨xs.reverse, kT⟩ S1
  | .ref c => match S1 c with
    | some (.lst xs) => P ⟨xs.reverse, fun S => S c = some (.lst xs)⟩ S1
    | _ => False
  | _ => False) EP
theorem qi_rev {q : QTE} (hg : Gl X "reversed") (hm : X.mg "reversed" = none) (ha : QE X T W e q) (hs : starEach [e] X.env = [(false, eval e X.env)] := by rfl) : QI X T W tg (.Call (.Name "reversed" p) [e] [] pos) (qiRev q) :=
  pi_imp (pi_reversed hg hm (pa_cons ha pa_nil hs) hs) fun σ H R ⟨τ, S, P, EP, h1, h2, h3, h4, h5⟩ => ⟨τ, S, _, EP, h1, h2, h3, fun v x H1 S1 fr rl rep hp => by
    cases x with
    | lsv xs =>
      obtain ⟨c, vs, e1, sq, t⟩ := rl
      subst e1
      exact ⟨c, vs, rfl, sq.sq, h4 _ ⟨xs.reverse, kT⟩ H1 S1 fr (walkP_rev (Rls.length t) fun S2 H2 f2 _ _ => ⟨vs, ((f2.le rep).sqf sq).sq, Rls.mono (f2.le rep) _ _ t⟩) trivial rep hp⟩
    | ref c =>
      have e1 : v = .ref c := rl
      subst e1
      simp only at hp
      cases z : S1 c with
      | none => rw [z] at hp; exact hp.elim
      | some ob =>
        rw [z] at hp
        cases ob with
        | lst xs =>
          obtain ⟨vs, e2, t⟩ := rep.ob c _ z
          exact ⟨c, vs, rfl, SqL.of e2, h4 _ ⟨xs.reverse, fun S => S c = some (.lst xs)⟩ H1 S1 fr (walkP_rev (Rls.length t) fun S2 H2 f2 r2 kp => (let ⟨vs, e, t⟩ := r2.ob c _ kp; ⟨vs, SqL.of e, t⟩)) z rep hp⟩
        | _ => exact hp.elim
    | _ => exact hp.elim, h5⟩

/-! ### methods of lists -/
abbrev FMt := Addr → List PV → Sto → QK PV → Prop
def MtQ (K : PySem.W.Frag) (T : List (Addr × Str)) (r : V → List V → Hp → VK → Prop) (f : FMt) : Prop := ∀ vs ps c H S (P : QK PV) (Q : VK), Rls K H vs ps → Rep K T S H → f c ps S P →
  (∀ v p H' S', Fr S H S' H' → Rl K H' v p → Rep K T S' H' → P p S' → Q v H') → r (.ref c) vs H Q
def qMl (f : FMt) (qo : QTE) (qa : QTA) : QTE := fun τ S P EP => qo τ S (fun o S1 => match o with
  | .ref c => match S1 c with
    | some (.lst _) => qa τ S1 (fun xs S2 => f c xs S2 P) EP
    | _ => False
  | _ => False) EP
theorem up_ml {r : V → List V → Hp → VK → Prop} {f : FMt} {qo : QTE} {qa : QTA} (o : MtQ K T r f) {Q : VK} (h : upG K T W (Rl K) (qMl f qo qa) σ H Q) : tBM K "list" r (upG K T W (Rl K) qo) (upG K T W (Rls K) qa) σ H Q :=
  up_then (RR := Rl K) (RR' := Rl K) (qk := fun o τ S1 P EP => match o with | .ref c => (match S1 c with | some (.lst _) => qa τ S1 (fun xs S2 => f c xs S2 P) EP | _ => False) | _ => False) h fun v x H1 l rl ⟨τ, S, P, EP, rs, rep, hf, k, kx⟩ => by
    cases x with
    | ref c =>
      have e1 : v = .ref c := rl
      subst e1
      simp only at hf
      cases z : S c with
      | none => rw [z] at hf; exact hf.elim
      | some ob =>
        rw [z] at hf
        cases ob with
        | lst xs =>
          obtain ⟨vs, e2, t⟩ := rep.ob c _ z
          refine ⟨.inl ⟨rfl, vs, SqL.of e2⟩, τ, S, _, EP, rs, rep, hf, fun us ps H2 S2 fr rl2 rep2 hp => ?_, kx⟩
          exact o us ps c H2 S2 P Q rl2 rep2 hp fun w p H3 S3 f3 => k w p H3 S3 (fr.trans f3)
        | _ => exact hf.elim
    | _ => exact hf.elim
theorem q_ml {name : Str} {id : String} {r : V → List V → Hp → VK → Prop} {f : FMt} {qo : QTE} {o e : Expr} {apos cpos : Pos} (slot : Slot "list" name id) (hty : typeOf (.builtin id) = pure (.type "method_descriptor")) (hm : MtR X id r) (hf : MtQ X.K T r f) (ho : QE X T W o qo) (ha : QA X T W (e :: es) q)
    (hbase : attributeBase o name X.env (eval o X.env) = eval o X.env := by rfl)
    (hfew : ((backTo cpos (starEach (e :: es) X.env)).all (fun x => !x.1) && (backToKw cpos (keywordEach [] X.env)).all (fun x => x.1.isSome) && decide ((e :: es).length + ([] : List Keyword).length + (if ([] : List Keyword).isEmpty then 0 else 1) < 30)) = true := by rfl)
    (hline : (apos.endLine == cpos.line) = true := by rfl) (hs : starEach (e :: es) X.env = (false, eval e X.env) :: starEach es X.env := by rfl) (hplain : (backTo cpos (starEach es X.env)).any (·.1) = false := by rfl) :
    QE X T W (.Call (.Attribute o name apos) (e :: es) [] cpos) (qMl f qo q) :=
  pe_imp (pe_bm PySem.F.plainAttrs_list slot hty hm ho ha hbase hfew hline hs hplain) fun σ H Q h => up_ml hf h
def fApp : FMt := fun c ps S P => match ps with
  | [x] => match S c with
    | some (.lst xs) => xs.length < sizeLine ∧ P .non (put S c (.lst (xs ++ [x])))
    | _ => False
  | _ => False
theorem mq_app : MtQ K T rAppend fApp := fun vs ps c H S P Q rl rep h k => by
  match ps, h with
  | [x], h =>
    unfold fApp at h
    simp only at h
    obtain ⟨v, w, e1, h1, h2⟩ := rl
    have h2 : w = [] := h2
    subst h2; subst e1
    cases z : S c with
    | none => rw [z] at h; exact h.elim
    | some ob =>
      rw [z] at h
      cases ob with
      | lst xs =>
        obtain ⟨us, e2, t⟩ := rep.ob c _ z
        refine ⟨c, us, v, rfl, rfl, e2, by rw [Rls.length t]; exact h.1, k .non .non _ _ (Fr.wr z) rfl (rep.wr (ob := .lst (xs ++ [x])) z fun le => ⟨_, upd_same, Rls.mono le _ _ (Rls.append t (Rls.one h1))⟩) h.2⟩
      | _ => exact h.elim
theorem q_append {qo : QTE} {o e : Expr} {apos cpos : Pos} (ho : QE X T W o qo) (ha : QA X T W (e :: es) q)
    (hbase : attributeBase o "append" X.env (eval o X.env) = eval o X.env := by rfl)
    (hfew : ((backTo cpos (starEach (e :: es) X.env)).all (fun x => !x.1) && (backToKw cpos (keywordEach [] X.env)).all (fun x => x.1.isSome) && decide ((e :: es).length + ([] : List Keyword).length + (if ([] : List Keyword).isEmpty then 0 else 1) < 30)) = true := by rfl)
    (hline : (apos.endLine == cpos.line) = true := by rfl) (hs : starEach (e :: es) X.env = (false, eval e X.env) :: starEach es X.env := by rfl) (hplain : (backTo cpos (starEach es X.env)).any (·.1) = false := by rfl) :
    QE X T W (.Call (.Attribute o "append" apos) (e :: es) [] cpos) (qMl fApp qo q) :=
  q_ml PySem.F.slot_list_append PySem.F.type_list_append mt_append mq_app ho ha hbase hfew hline hs hplain

/-! ### name op= e -/
def qAug (i : Nat) (f : FO2) (q : QTE) : QTS := fun D τ S => match look τ i with
  | some x => q τ S (fun y S1 => f x y S1 (fun z S2 => D.nx (τ.set i (some z)) S2)) (exAt D τ)
  | none => False
theorem qs_aug {i : Nat} {x : Str} {op : Operator} {r : R2} {f : FO2} {q : QTE} {pos' : Pos} (hr : OpR X (inplaceOp op) r) (o : OpQ X.K T r f) (hN : X.N.Nodup) (he : QE X T W e q) (hi : X.N[i]? = some x := by rfl) (hx : Loc X.env.scope x := by first | exact Or.inl rfl | exact Or.inr rfl)
    (hf : X.fn x = true ∨ X.env.scope.names.lookup x = some .local := by first | exact .inl rfl | exact .inr rfl | assumption) : QS X T W (.AugAssign (.Name x pos') op e pos) (qAug i f q) :=
  ps_imp (ps_aug hN hi hx he hr hf) fun D σ H ⟨τ, S, PD, rs, rep, h, c⟩ => by
    unfold qAug at h
    cases z : look τ i with
    | none => rw [z] at h; exact h.elim
    | some y =>
      rw [z] at h
      obtain ⟨v, e1, rl⟩ := rs.2 i y (look_get τ i y z)
      refine ⟨v, e1, con_up rs rep c h fun w y2 H1 S1 fr rs1 rl2 rep1 hp => ?_⟩
      exact o v w y y2 H1 S1 _ _ (Rl.mono (fr.le rep) _ _ rl) rl2 rep1 hp fun u p H2 S2 f2 rl3 rep2 hp2 => c.nx _ _ H2 S2 (fr.trans f2) ((rs1.mono (f2.le rep1)).set rl3) rep2 hp2
def fAddA : FO2 := fun x y S P => match x, y with
  | .int i, .int j => P (.int (i + j)) S
  | .str c, .str d => c.length + d.length ≤ sizeLine ∧ P (.str (c ++ d)) S
  | _, _ => False
theorem qs_augAdd {i : Nat} {x : Str} {q : QTE} {pos' : Pos} (hN : X.N.Nodup) (he : QE X T W e q) (hi : X.N[i]? = some x := by rfl) (hx : Loc X.env.scope x := by first | exact Or.inl rfl | exact Or.inr rfl)
    (hf : X.fn x = true ∨ X.env.scope.names.lookup x = some .local := by first | exact .inl rfl | exact .inr rfl | assumption) : QS X T W (.AugAssign (.Name x pos') .Add e pos) (qAug i fAddA q) :=
  qs_aug (r := fun x y H Q => rAddI x y H Q ∨ rAddS x y H Q) (OpR.or iop_add iop_add_str) (fun x y p1 p2 H S P Q r1 r2 rep h k => by
    cases p1 <;> cases p2 <;> try exact h.elim
    case int.int i j => exact .inl ⟨i, j, r1, r2, k (.int (i + j)) (.int (i + j)) H S Fr.refl rfl rep h⟩
    case str.str c d =>
      refine .inr ⟨_, _, r1, r2, by rw [str_len, str_len]; exact h.1, ?_⟩
      rw [str_app]
      exact k (.str ⟨(c ++ d).toArray⟩) (.str (c ++ d)) H S Fr.refl rfl rep h.2
    ) hN he hi hx hf
theorem qs_augSub {i : Nat} {x : Str} {q : QTE} {pos' : Pos} (hN : X.N.Nodup) (he : QE X T W e q) (hi : X.N[i]? = some x := by rfl) (hx : Loc X.env.scope x := by first | exact Or.inl rfl | exact Or.inr rfl)
    (hf : X.fn x = true ∨ X.env.scope.names.lookup x = some .local := by first | exact .inl rfl | exact .inr rfl | assumption) : QS X T W (.AugAssign (.Name x pos') .Sub e pos) (qAug i fSub q) :=
  qs_aug iop_sub (oq_int0 fun p1 p2 S P h => by
    cases p1 <;> cases p2 <;> first | exact h.elim | exact ⟨_, _, _, rfl, rfl, h, fun _ _ => rfl⟩) hN he hi hx hf
end
end Mp

set_option Elab.async false
set_option linter.all false
set_option maxRecDepth 100000
namespace Mp
open PySem PySem.Spec PyProof.Rows L2

/-! ### defs -/
/-- what is wanted, some of the store forgotten -/
@[irreducible] def Dr {α : Type} (P : α → Sto → Prop) : α → Sto → Prop := fun v S => ∃ S', Sub S' S ∧ P v S'
theorem Dr.of {α : Type} {P : α → Sto → Prop} {v : α} {S S' : Sto} (h : P v S') (s : Sub S' S) : Dr P v S := by unfold Dr; exact ⟨S', s, h⟩
theorem Dr.self {α : Type} {P : α → Sto → Prop} {v : α} {S : Sto} (h : P v S) : Dr P v S := by unfold Dr; exact ⟨S, Sub.refl, h⟩
theorem Dr.get {α : Type} {P : α → Sto → Prop} {v : α} {S : Sto} (h : Dr P v S) : ∃ S', Sub S' S ∧ P v S' := by unfold Dr at h; exact h
def st0 (m : Nat) (args : List PV) : PSt := args.map some ++ List.replicate (m - args.length) none
/-- the promise by the body's reading; m: how many names -/
def spDef (m : Nat) (r : QTS) : PSp := fun args S P E => r { nx := fun _ S' => Dr P .non S', rt := Dr P, ex := fun x _ S' => Dr E x S' } (st0 m args) S
theorem tk0 {X : Cx} : L2N.Takes X W0 := fun _ _ ⟨_, _, _, _, _, _, _, _, _, _, _, _, _, _, _, _, z⟩ => z.elim
abbrev WD (E : XK) : WX := fun c d _ H => E c d H
/-- a def of the module that keeps a promise -/
structure Fn (P : Program) (w : World) (K : PySem.W.Frag) (mg : Str → Option Value) (base : Heap) (T : List (Addr × Str)) (k : Nat) (x : Str) (st : Stmt) (n : Nat) (sp : PSp) : Prop where
  ex : ∃ (f : Addr) (fd : FuncData) (ps : List Str), mg x = some (.ref f) ∧ Fun K x x st f fd ∧ Binds K fd ps [] ∧ ps.length = n ∧ ps = (defArgs st).args.map (·.arg) ∧ FnOk P w K mg base (L2N.CX P w) k f fd ps (spOf K T n sp)
theorem rs_start {K : PySem.W.Frag} {H : Hp} {N : List Str} {vs : List V} {ps : List PV} {m : Nat} (r : Rls K H vs ps) (hm : N.length = m) : RS K H (L2.start N vs) (st0 m ps) := by
  have el := Rls.length r
  subst hm
  refine ⟨by simp [L2.start, st0, el], fun i p e => ?_⟩
  unfold st0 at e
  unfold L2.start
  by_cases hi : i < ps.length
  · rw [List.getElem?_append_left (by simpa using hi), List.getElem?_map] at e
    cases z : ps[i]? with
    | none => rw [z] at e; cases e
    | some q =>
      rw [z] at e
      cases e
      obtain ⟨v, h1, h2⟩ := r.get z
      exact ⟨v, by rw [List.getElem?_append_left (by rw [List.length_map, el]; exact hi), List.getElem?_map, h1]; rfl, h2⟩
  · rw [List.getElem?_append_right (by simpa using hi), List.getElem?_replicate] at e
    split at e <;> cases e
theorem fnok_mk {P : Program} {w : World} {K : PySem.W.Frag} {mg : Str → Option Value} {base : Heap} {T : List (Addr × Str)} {k m n : Nat} {x0 x : Str} {st : Stmt} {r : QTS} {f : Addr} {fd : FuncData} {N ps : List Str}
    (F : Fun K x0 x st f fd) (hn : ps.length = n) (hN : N.length = m) (S : FnScope N ps (defScope st))
    (body : ∀ (cdv : Value) (A : Around) (outer : List Env) (s : Shared) (H : Hp) (E : XK), Room k (A.deeper (envOfC x (defScope st) s.heap.objs.size f cdv)) →
      L2N.Takes (cxOf (L2N.CX P w) P w K mg base N x (defScope st) f cdv A outer s H E) (WD E) →
      PassesOwn (model P w) (cxOf (L2N.CX P w) P w K mg base N x (defScope st) f cdv A outer s H E).A (cxOf (L2N.CX P w) P w K mg base N x (defScope st) f cdv A outer s H E).env (cxOf (L2N.CX P w) P w K mg base N x (defScope st) f cdv A outer s H E).xe →
      (A.deeper (envOfC x (defScope st) s.heap.objs.size f cdv)).units + 64 < cLine → N.Nodup →
      QSs (cxOf (L2N.CX P w) P w K mg base N x (defScope st) f cdv A outer s H E) T (WD E) (defBody st) r) : FnOk P w K mg base (L2N.CX P w) (k + 1) f fd ps (spOf K T n (spDef m r)) := by
  obtain ⟨oc, od, kV, doc, pm, an, cdv, ct, osl, rfl, lk, hcd⟩ := F.ex
  refine fn_of lk hcd S (fun vs H Q E h => by rw [hn]; exact h.1) fun A outer s H vs Q E hr h => ?_
  obtain ⟨hl, qs, S0, PQ, EP, rl, rep, hsp, k1, k2⟩ := h
  refine ⟨_, body cdv A outer s H E hr (L2N.takes_of rfl rfl rfl rfl) (passes_of rfl) hr.units S.nd, ?_⟩
  refine ⟨st0 m qs, S0, _, rs_start rl hN, rep, hsp, ⟨fun σ' τ' H' S' fr rs rp z => ?_, fun v p H' S' fr rl rp z => ?_, fun _ _ _ _ _ _ _ z => z.elim, fun _ _ _ _ _ _ _ z => z.elim, fun c d x σ' τ' H' S' fr rs xr rp z => ?_⟩⟩
  · obtain ⟨S2, su, hp⟩ := Dr.get z
    exact k1 .non .non H' S2 (fr.sub su) rfl (rp.sub su) hp
  · obtain ⟨S2, su, hp⟩ := Dr.get z
    exact k1 v p H' S2 (fr.sub su) rl (rp.sub su) hp
  · obtain ⟨S2, su, hp⟩ := Dr.get z
    exact k2 c d x H' S2 (fr.sub su) xr (rp.sub su) hp
theorem fn_mk {P : Program} {w : World} {K : PySem.W.Frag} {mg : Str → Option Value} {base : Heap} {T : List (Addr × Str)} {k n : Nat} {x : Str} {st : Stmt} {sp : PSp} {f : Addr} {fd : FuncData} {ps : List Str}
    (hm : mg x = some (.ref f)) (F : Fun K x x st f fd) (hb : Binds K fd ps []) (hn : ps.length = n) (hp : ps = (defArgs st).args.map (·.arg)) (ok : FnOk P w K mg base (L2N.CX P w) k f fd ps (spOf K T n sp)) : Fn P w K mg base T k x st n sp := ⟨f, fd, ps, hm, F, hb, hn, hp, ok⟩

section
variable {X : Cx} {T : List (Addr × Str)} {W : WX} {e a b tg : Expr} {es : List Expr} {K : PySem.W.Frag} {S S' S0 S1 : Sto} {H H' H0 H1 : Hp} {σ : L2.St} {τ : PSt} {PD : PEnds} {D : Ends} {pos p : Pos} {q : QTA}
variable {k n : Nat} {x : Str} {st : Stmt} {sp : PSp}
theorem Fn.mono {P : Program} {w : World} {K : PySem.W.Frag} {mg : Str → Option Value} {base : Heap} {j : Nat} (F : Fn P w K mg base T j x st n sp) (h : j ≤ k) : Fn P w K mg base T k x st n sp :=
  let ⟨f, fd, ps, h1, h2, h3, h4, h5, h6⟩ := F.ex
  ⟨f, fd, ps, h1, h2, h3, h4, h5, h6.mono h⟩
/-- a weaker promise -/
theorem Fn.imp {P : Program} {w : World} {K : PySem.W.Frag} {mg : Str → Option Value} {base : Heap} {sp' : PSp} (F : Fn P w K mg base T k x st n sp) (h : ∀ args S Q E, sp' args S Q E → sp args S Q E) : Fn P w K mg base T k x st n sp' :=
  let ⟨f, fd, ps, h1, h2, h3, h4, h5, h6⟩ := F.ex
  ⟨f, fd, ps, h1, h2, h3, h4, h5, h6.imp fun vs H Q E ⟨z, as, S, P, EP, rl, rep, q, k1, k2⟩ => ⟨z, as, S, P, EP, rl, rep, h _ _ _ _ q, k1, k2⟩⟩
def qCall (n : Nat) (sp : PSp) (q : QTA) : QTE := fun τ S P EP => q τ S (fun xs S1 => xs.length = n ∧ sp xs S1 P EP) EP
theorem up_call {Q : VK} (h : upG K T W (Rl K) (qCall n sp q) σ H Q) : upG K T W (Rls K) q σ H fun vs H1 => spOf K T n sp vs H1 Q (WE W σ) :=
  up_then (RR := Rls K) (RR' := Rl K) (qk := fun xs _ S1 P EP => xs.length = n ∧ sp xs S1 P EP) h fun vs ps H1 l rl ⟨τ, S, P, EP, rs, rep, ⟨hl, hs⟩, k1, k2⟩ =>
    ⟨by rw [Rls.length rl]; exact hl, ps, S, P, EP, rl, rep, hs, k1, k2⟩
theorem q_call (F : Fn X.prog X.w X.K X.mg X.base T k x st n sp) (hr : Room k X.A) (tk : L2N.Takes X W) (hg : Gl X x) (ha : QA X T W (e :: es) q) (hdb : (x == ("__debug__" : Str)) = false := by decide)
    (he : starEach (e :: es) X.env = (false, eval e X.env) :: starEach es X.env := by rfl) (hpl : (backTo pos (starEach es X.env)).any (·.1) = false := by rfl) : QE X T W (.Call (.Name x p) (e :: es) [] pos) (qCall n sp q) := by
  obtain ⟨f, fd, ps, h1, h2, h3, h4, h5, h6⟩ := F.ex
  exact pe_imp (pe_callS h6 hr hg h1 h2.kp h3 (fun σ => L2N.passAt tk σ) ha hdb he hpl) fun σ H Q h => up_call h
/-- f() -/
def qCall0 (sp : PSp) : QTE := fun τ S P EP => sp [] S P EP
theorem q_call0 (F : Fn X.prog X.w X.K X.mg X.base T k x st 0 sp) (hr : Room k X.A) (tk : L2N.Takes X W) (hg : Gl X x) (hdb : (x == ("__debug__" : Str)) = false := by decide) : QE X T W (.Call (.Name x p) [] [] pos) (qCall0 sp) := by
  obtain ⟨f, fd, ps, h1, h2, h3, h4, h5, h6⟩ := F.ex
  refine ⟨fun pins s σ H Q I ⟨τ, S, P, EP, rs, rep, hs, k1, k2⟩ => ?_⟩
  refine wpAny_Call_Name_kw (ld_glob I hg h1 ?_ hdb)
  refine PySem.W.callWith_K0 I.kIn h2.kp ?_
  exact run_fnS (E := WE W) h6 hr h3 (L2N.passAt tk σ) I .nil ⟨rfl, [], S, P, EP, rfl, rep, hs, k1, k2⟩

/-- how keywords bind: m positional ones, j keywords, the parameters' order by places -/
def kwG {α : Type} (m j : Nat) (ix : List Nat) (us ws : List α) : List α := if us.length = m ∧ ws.length = j then ix.filterMap fun i => (us ++ ws)[i]? else []
theorem Rls.kw {m j : Nat} {ix : List Nat} {us ws : List V} {ps qs : List PV} (r1 : Rls K H us ps) (r2 : Rls K H ws qs) : Rls K H (kwG m j ix us ws) (kwG m j ix ps qs) := by
  unfold kwG
  rw [Rls.length r1, Rls.length r2]
  split
  · have r := Rls.append r1 r2
    induction ix with
    | nil => exact rfl
    | cons i ix ih =>
      cases z : (ps ++ qs)[i]? with
      | none =>
        have z2 : (us ++ ws)[i]? = none := by
          rw [List.getElem?_eq_none_iff] at z ⊢
          rw [Rls.length r]; exact z
        simp only [List.filterMap_cons, z, z2]
        exact ih
      | some p =>
        obtain ⟨v, h1, h2⟩ := r.get z
        simp only [List.filterMap_cons, z, h1]
        exact Rls.cons h2 ih
  · exact rfl
theorem vals_kw {m j : Nat} {ix : List Nat} {vs zs : List V} {us ws : List Value} (r1 : Vals vs us) (r2 : Vals zs ws) : Vals (kwG m j ix vs zs) (kwG m j ix us ws) := by
  unfold kwG
  rw [r1.length, r2.length]
  split
  · have r := r1.append r2
    induction ix with
    | nil => exact .nil
    | cons i ix ih =>
      cases z : (vs ++ zs)[i]? with
      | none =>
        have z2 := r.none_of z
        simp only [List.filterMap_cons, z, z2]
        exact ih
      | some p =>
        obtain ⟨u, h1, h2⟩ := r.get z
        simp only [List.filterMap_cons, z, h1]
        exact .cons h2 ih
  · exact .nil
theorem kb_mk {fd : FuncData} {ps ks : List Str} {m j : Nat} {ix : List Nat} (h0 : 0 < ps.length) (h : ∀ us ws : List Value, us.length = m → ws.length = j → bindArgs fd ⟨us, ks.zip ws⟩ = pure (ps.zip (kwG m j ix us ws))) : KBinds K fd ps ks (kwG m j ix) (kwG m j ix) := by
  refine ⟨fun s us ws _ hl => ?_, fun r1 r2 => vals_kw r1 r2⟩
  by_cases hc : us.length = m ∧ ws.length = j
  · exact .of_eq (h us ws hc.1 hc.2)
  · unfold kwG at hl
    rw [if_neg hc] at hl
    have hl : 0 = ps.length := hl
    omega
def qCallK (n m j : Nat) (ix : List Nat) (sp : PSp) (q qk : QTA) : QTE := fun τ S P EP => q τ S (fun xs S1 => qk τ S1 (fun ys S2 => (kwG m j ix xs ys).length = n ∧ sp (kwG m j ix xs ys) S2 P EP) EP) EP
def QK' (X : Cx) (T : List (Addr × Str)) (W : WX) (kws : List Keyword) (q : QTA) : Prop := PK X kws (upG X.K T W (Rls X.K) q)
theorem pk_imp {kws : List Keyword} {t t' : TA} (h : PK X kws t) (k : ∀ σ H Q, t' σ H Q → t σ H Q) : PK X kws t' := ⟨fun pos pins s σ H Q I w => h.run pos pins s σ H Q I (k σ H Q w)⟩
theorem qk_nil : QK' X T W [] qaN := pk_imp pk_nil fun σ H Q h => up_ret (v := ([] : List V)) (p := ([] : List PV)) h rfl
theorem qk_cons {kws : List Keyword} {nm : Option Str} {kpos : Pos} {q : QTE} {r : QTA} (ha : QE X T W e q) (hr : QK' X T W kws r) : QK' X T W (⟨nm, e, kpos⟩ :: kws) (qaC q r) :=
  pk_imp (pk_cons ha hr) fun σ H Q h => up_then (RR := Rl X.K) (qk := fun x τ S1 P EP => r τ S1 (fun xs S2 => P (x :: xs) S2) EP) h fun v p H1 l rv u =>
    up_then (RR := Rls X.K) (qk := fun xs _ S2 P _ => P (p :: xs) S2) u fun vs ps H2 l2 rvs u2 => up_ret (v := v :: vs) (p := p :: ps) u2 (Rls.cons (Rl.mono l2 _ _ rv) rvs)
theorem run_kw {pins : List (Addr × Obj)} {s : Shared} {f : Addr} {fd : FuncData} {ps ks : List Str} {g : List Value → List Value → List Value} {gV : List V → List V → List V} {sp : Sp} {us ws : List Value} {vs zs : List V} {Q : VK}
    (F : FnOk X.prog X.w X.K X.mg X.base (L2N.CX X.prog X.w) k f fd ps sp) (hr : Room k X.A) (hb : KBinds X.K fd ps ks g gV) (tk : L2N.Takes X W) (I : Inv X pins σ H s) (r : Vals vs us) (rz : Vals zs ws) (h : sp (gV vs zs) H Q (WE W σ)) :
    wpAny (model X.prog X.w) X.A (call (.ref f) us (ks.zip ws)) (EP X pins σ Q) X.xe s := by
  have r2 := hb.rel r rz
  have hl : (g us ws).length = ps.length := r2.length.symm.trans (F.len _ _ _ _ h)
  refine wpAny_call (codeAny_mono (F.run X.A X.stack s H ⟨us, ks.zip ws⟩ (g us ws) (gV vs zs) Q _ hr I.env0 (hb.to s us ws I.kIn hl) r2 h) fun res s' hq => ?_)
  match res, hq with
  | .error e, hq => exact L2N.passAt tk σ pins H s e s' I hq
  | .ok (.ret u), hq => exact I.after hq
/-- f(k = v, ..), keywords alone -/
theorem q_callK0 {ks : List Str} {j : Nat} {ix : List Nat} {kws : List Keyword} {qk : QTA} (F : Fn X.prog X.w X.K X.mg X.base T k x st n sp) (hr : Room k X.A) (tk : L2N.Takes X W) (hg : Gl X x)
    (hb : ∀ (fd : FuncData) (f : Addr), Fun X.K x x st f fd → KBinds X.K fd ((defArgs st).args.map (·.arg)) ks (kwG 0 j ix) (kwG 0 j ix)) (hkw : QK' X T W kws qk)
    (hall : (backToKw pos (keywordEach kws X.env)).all (·.1.isSome) = true := by rfl) (hks : (backToKw pos (keywordEach kws X.env)).filterMap (·.1) = ks := by rfl) (hdb : (x == ("__debug__" : Str)) = false := by decide)
    (hpl : (backToKw pos (keywordEach kws X.env)).any (·.1.isNone) = false := by rfl) : QE X T W (.Call (.Name x p) [] kws pos) (qCallK n 0 j ix sp qaN qk) := by
  obtain ⟨f, fd, ps, h1, h2, h3, h4, h5, h6⟩ := F.ex
  refine ⟨fun pins s σ H Q I hq => ?_⟩
  refine wpAny_Call_Name_kw (ld_glob I hg h1 ?_ hdb)
  have kb := hb fd f h2
  rw [← h5] at kb
  have hq2 := up_bind (RR := Rls X.K) (qa := qk) (RR' := Rl X.K) (qk := fun ys _ S2 P EP => (kwG 0 j ix ([] : List PV) ys).length = n ∧ sp (kwG 0 j ix [] ys) S2 P EP) hq
  refine PySem.W.callWith_KW0 (h₀ := X.base) I.ok.mod.kin h2.kp hall (thn (PK.run hkw pos pins s σ H _ I hq2) fun ws s2 ⟨zs, H2, I2, rz, ys, l, rl, τ, S, P, EP, rs, rep, ⟨hl, hs⟩, k1, k2⟩ => ⟨I2.kIn, ?_⟩) hpl
  rw [hks]
  exact run_kw h6 hr kb tk I2 .nil rz ⟨by rw [Rls.length (Rls.kw (us := []) (ps := []) rfl rl)]; exact hl, _, S, P, EP, Rls.kw (us := []) (ps := []) rfl rl, rep, hs, k1, k2⟩
end
end Mp

set_option Elab.async false
set_option linter.all false
set_option maxRecDepth 100000
theorem L2.Fun.kb {K : PySem.W.Frag} {x qual : PySem.Str} {st : PySem.Stmt} {f : PySem.Addr} {fd : PySem.FuncData} {ks : List PySem.Str} {m j : Nat} {ix : List Nat} (F : L2.Fun K x qual st f fd) (h0 : 0 < ((L2.defArgs st).args.map (·.arg)).length)
    (h : ∀ (kV doc pm : PySem.Value) (an : Option PySem.Addr) (cdv ct : PySem.Value) (us ws : List PySem.Value), us.length = m → ws.length = j →
      PySem.bindArgs (PySem.W.fnOf x qual (L2.defArgs st) (L2.defBody st) (L2.defScope st) .none kV doc pm an cdv ct) ⟨us, ks.zip ws⟩ = pure (((L2.defArgs st).args.map (·.arg)).zip (Mp.kwG m j ix us ws))) :
    L2.KBinds K fd ((L2.defArgs st).args.map (·.arg)) ks (Mp.kwG m j ix) (Mp.kwG m j ix) := by
  obtain ⟨oc, od, kV, doc, pm, an, cdv, ct, osl, rfl, lk, hcd⟩ := F.ex
  exact Mp.kb_mk h0 (h kV doc pm an cdv ct)
namespace Mp
open PySem PySem.Spec PyProof.Rows L2

section
variable {X : Cx} {T : List (Addr × Str)} {W : WX} {e a b tg : Expr} {es : List Expr} {K : PySem.W.Frag} {S S' S0 S1 : Sto} {H H' H0 H1 : Hp} {σ : L2.St} {τ : PSt} {PD : PEnds} {D : Ends} {pos p : Pos} {q : QTA}

/-! ### a value's truth -/
def truP (x : PV) (S : Sto) : Option Bool := match x with
  | .non => some false
  | .bl c => some c
  | .int i => some (i != 0)
  | .str cs => if cs.length ≤ sizeLine then some (!cs.isEmpty) else none
  | .tup xs => some (!xs.isEmpty)
  | .lsv xs => some (!xs.isEmpty)
  | .ref c => match S c with
    | some (.lst xs) => some (!xs.isEmpty)
    | _ => none
  | .ty _ => none
  | .exv _ _ _ _ _ => none
  | .lam _ _ _ _ _ => none
  | .ktp xs => some (!xs.isEmpty)
def qTru (q : QTE) : QTT := fun τ S P EP => q τ S (fun x S1 => match truP x S1 with
  | some c => P c S1
  | none => False) EP
theorem Rls.empty {ps : List PV} {vs : List V} (r : Rls K H vs ps) : (!ps.isEmpty) = !vs.isEmpty := by
  cases ps with
  | nil =>
    have e : vs = [] := r
    rw [e]; rfl
  | cons p ps =>
    obtain ⟨v, w, e, _⟩ := r
    rw [e]; rfl
theorem tru_v {x : PV} {v : V} {c : Bool} (r : Rl K H v x) (rep : Rep K T S H) (h : truP x S = some c) : TruV K v H c := by
  cases x with
  | non =>
    have e : v = .non := r
    cases h; subst e; exact rfl
  | bl d =>
    have e : v = .bl d := r
    cases h; subst e; exact rfl
  | int i =>
    have e : v = .int i := r
    cases h; subst e; exact rfl
  | str cs =>
    have e : v = .str ⟨cs.toArray⟩ := r
    unfold truP at h
    simp only at h
    split at h
    · rename_i hz
      cases h; subst e
      refine ⟨by rw [str_len]; exact hz, ?_⟩
      rw [str_len]
      cases cs with
      | nil => rfl
      | cons c cs =>
        show true = _
        symm
        rw [bne_iff_ne]
        simp only [List.length_cons]
        omega
    · cases h
  | tup xs =>
    obtain ⟨a, us, e2, s1, t1⟩ := r
    cases h; subst e2
    exact .inr (.inl ⟨us, SqT.of s1, t1.empty⟩)
  | lsv xs =>
    obtain ⟨a, us, e2, s1, t1⟩ := r
    cases h; subst e2
    exact .inl ⟨us, s1.sq, t1.empty⟩
  | ref q =>
    have e : v = .ref q := r
    subst e
    unfold truP at h
    simp only at h
    cases z : S q with
    | none => rw [z] at h; cases h
    | some ob =>
      rw [z] at h
      cases ob with
      | lst ys =>
        cases h
        obtain ⟨us, e1, t1⟩ := rep.ob q _ z
        exact .inl ⟨us, SqL.of e1, t1.empty⟩
      | _ => cases h
  | ty n => cases h
  | exv a C d ns ps => cases h
  | lam f c q vs ps => cases h
  | ktp xs =>
    obtain ⟨a, us, e2, s1, t1⟩ := r
    cases h; subst e2
    exact .inr (.inl ⟨us, s1, t1.empty⟩)
theorem qt_tru {q : QTE} (ha : QE X T W a q) (he : ∀ whole, isTrue a X.env whole = (do let v ← whole; standAt a.pos; holding [v] (truthy v)) := by intro _; rfl) : QT X T W a (qTru q) :=
  pt_imp (pt_truth ha he) fun σ H Q h => up_then (RR := Rl X.K) (RR' := RB) (qk := fun x _ S1 P _ => match truP x S1 with | some c => P c S1 | none => False) h fun v x H1 l r ⟨τ, S, P, EP, rs, rep, hf, k, _⟩ => by
    cases z : truP x S with
    | none => simp only [z] at hf
    | some c =>
      simp only [z] at hf
      exact ⟨c, tru_v r rep z, k c c H1 S Fr.refl rfl rep hf⟩
/-- a, b, c = x, y, z -/
def qPar3 (i j l : Nat) (q : QTA) : QTS := fun D τ S => q τ S (fun ps S1 => match ps with
  | [p1, p2, p3] => D.nx (((τ.set i (some p1)).set j (some p2)).set l (some p3)) S1
  | _ => False) (exAt D τ)
theorem qs_par3 {i j l : Nat} {x y z : Str} {c : Expr} {q : QTA} {px py pz pt : Pos} {kt k2 pt2} (hc : X.calm = true) (hN : X.N.Nodup) (ha : QA X T W [a, b, c] q) (hi : X.N[i]? = some x := by rfl) (hj : X.N[j]? = some y := by rfl) (hl : X.N[l]? = some z := by rfl)
    (hij : i ≠ j := by decide) (hil : i ≠ l := by decide) (hjl : j ≠ l := by decide)
    (hx : X.env.scope.names.lookup x = some .local := by rfl) (hy : X.env.scope.names.lookup y = some .local := by rfl) (hz : X.env.scope.names.lookup z = some .local := by rfl)
    (hw : swappedStores [.Tuple [.Name x px, .Name y py, .Name z pz] kt pt] (.Tuple [a, b, c] k2 pt2) X.env = pure (some [x, y, z]) := by rfl)
    (hs : swapsWithSole [.Tuple [.Name x px, .Name y py, .Name z pz] kt pt] (.Tuple [a, b, c] k2 pt2) pos.line X.env = pure false := by rfl) :
    QS X T W (.Assign [.Tuple [.Name x px, .Name y py, .Name z pz] kt pt] (.Tuple [a, b, c] k2 pt2) pos) (qPar3 i j l q) :=
  ps_imp (ps_par3 hc hN hi hj hl hij hil hjl hx hy hz ha hw hs) fun D σ H ⟨τ, S, PD, r, rep, q, c⟩ => con_up (RR := Rls X.K) r rep c q fun vs ps H' S' fr rs rl rp hp => by
    match ps, hp with
    | [p1, p2, p3], hp =>
      obtain ⟨v, r1, e1, a1, w, r2, e2, a2, u, r3, e3, a3, e4⟩ := rl
      have e4 : r3 = [] := e4
      subst e1; subst e2; subst e3; subst e4
      exact ⟨v, w, u, rfl, c.nx _ _ H' S' fr (((rs.set a1).set a2).set a3) rp hp⟩
end
end Mp

set_option Elab.async false
set_option linter.all false
set_option maxRecDepth 100000
namespace Mp
open PySem PySem.Spec PyProof.Rows L2

/-! ### a law's end -/
theorem rls_map {K : PySem.W.Frag} {H : Hp} : ∀ ns : List Int, Rls K H (ns.map V.int) (ns.map PV.int)
  | [] => rfl
  | n :: ns => ⟨.int n, ns.map V.int, rfl, rfl, rls_map ns⟩
abbrev LawTrue (sp : PSp) : Prop := ∀ ns : List Int, ns.length ≤ 63 → (∀ z ∈ ns, Builtin.Int.intBits z ≤ 1048576) → sp [.lsv (ns.map PV.int)] (fun _ => none) (fun v _ => v = .bl true) (fun _ _ => False)
theorem sp_start {K : PySem.W.Frag} {H : Hp} {a : Addr} {ns : List Int} {sp : PSp} (h : sp [.lsv (ns.map PV.int)] (fun _ => none) (fun v _ => v = .bl true) (fun _ _ => False)) (o : Only H) (s : SqL K H a (ns.map V.int)) :
    spOf K [] 1 sp [.ref a] H (fun v _ => v = .bl true) fun _ _ _ => False := by
  have sf : SqF K H a (ns.map V.int) := by
    rcases s with (s | s) | s
    · rcases o a with z | ⟨ob, xs, z⟩
      · rw [z] at s; cases s
      · rw [z] at s; cases s
    · exact .inl s
    · exact .inr (.inr s)
  refine ⟨rfl, _, _, _, _, Rls.one (p := .lsv (ns.map PV.int)) ⟨a, _, rfl, sf, rls_map ns⟩, ⟨fun _ _ e => (by cases e), fun _ h => (by cases h)⟩, h, fun v p H' S' _ rl _ e => ?_, fun _ _ _ _ _ _ _ _ z => z⟩
  subst e
  exact rl
theorem walk_law {l : PySem.W.OpenLaw} {lv : Nat} {q : Program} {loose : List Str} {XP : (Str → Option Value) → Heap → Prop} {YP : World → Heap → Prop} {d : DefRec} {K : Params → PySem.W.Frag} {sp : PSp}
    (hn : l.most = some 63) (hdf : d.params.defaults = []) (hlv : lv ≤ 200) (hY : ∀ (w : World) (h : Heap), YP w h → (K w.params).In h)
    (F : ∀ (w : World) (mg : Str → Option Value) (fa : Addr) (h : Heap), (K w.params).In h → h.Ns mainGlobals mg → mg d.name = some (.ref fa) →
      ∃ fd : FuncData, (∀ (s : Shared) (u : Value), BindsTo s fd ⟨[u], []⟩ [("script", u)]) ∧ ∀ base : Heap, (K w.params).In base → base.Ns mainGlobals mg → FnOk l.prog w (K w.params) mg base (L2N.CX l.prog w) lv fa fd ["script"] (spOf (K w.params) [] 1 sp))
    (law : LawTrue sp) : PySem.W.WalkO q loose XP YP l.row.toRowW d [] (fun f vs => PySem.call f vs) :=
  L2.walk_ofB (n := 63) (k := lv) (x := "script") (CX := fun w => L2N.CX l.prog w) (sp := fun w => spOf (K w.params) [] 1 sp) hn (by decide) hdf (Room.mono (k := 200) ⟨rfl, by decide, by decide⟩ hlv) hY F
    (fun w H a ns h1 h2 h3 h4 => sp_start (law ns h1 h2) h3 h4) fun w H s e s' h => by
      obtain ⟨_, _, _, _, _, _, _, _, _, _, _, _, z⟩ := h
      exact z.elim
end Mp

set_option Elab.async false
set_option linter.all false
set_option maxRecDepth 100000
namespace Mp
open PySem PySem.Spec PyProof.Rows L2

/-! ### loops, by a word -/
section
variable {keep : Sto → Prop} {g : QTG} {tb : QTS} {D : PEnds} {τ : PSt} {S : Sto}
theorem forQ_inv {its : List PV} (I : PSt → Sto → Prop) (h0 : I τ S)
    (hs : ∀ p, p ∈ its → ∀ τ S (N : PSt → Sto → Prop), I τ S → (∀ τ' S', I τ' S' → keep S' → N τ' S') → g p τ S fun τ1 S1 => tb { D with nx := N, ct := N, bk := D.nx } τ1 S1)
    (hd : ∀ τ S, I τ S → D.nx τ S) : forQ keep g tb D its τ S := by
  induction its generalizing τ S with
  | nil => exact hd τ S h0
  | cons p r ih =>
    exact hs p (List.mem_cons_self) τ S _ h0 fun τ' S' h k => ⟨k, ih h fun q hq => hs q (List.mem_cons_of_mem _ hq)⟩
/-- by the part that is done and the part that is left -/
theorem forQ_at {its : List PV} (I : List PV → PSt → Sto → Prop) (h0 : I its τ S)
    (hs : ∀ p r, ∀ τ S (N : PSt → Sto → Prop), I (p :: r) τ S → (∀ τ' S', I r τ' S' → keep S' → N τ' S') → g p τ S fun τ1 S1 => tb { D with nx := N, ct := N, bk := D.nx } τ1 S1)
    (hd : ∀ τ S, I [] τ S → D.nx τ S) : forQ keep g tb D its τ S := by
  induction its generalizing τ S with
  | nil => exact hd τ S h0
  | cons p r ih => exact hs p r τ S _ h0 fun τ' S' h k => ⟨k, ih h⟩
theorem qWhile_inv {t : QTT} (I : PSt → Sto → Prop) (m : PSt → Sto → Nat) (h0 : I τ S)
    (hs : ∀ τ S (N : PSt → Sto → Prop), I τ S → (∀ τ' S', I τ' S' → m τ' S' < m τ S → N τ' S') →
      t τ S (fun b S1 => iteB b (tb { D with nx := N, ct := N, bk := D.nx } τ S1) (D.nx τ S1)) (exAt D τ)) : qWhile t tb D τ S := by
  unfold qWhile
  refine ⟨fun k τ S => m τ S = k ∧ I τ S, ⟨_, rfl, h0⟩, ?_⟩
  rintro k τ S ⟨rfl, h⟩
  exact hs τ S _ h fun τ' S' h' hl => ⟨_, hl, rfl, h'⟩
end

/-! ### stores -/
theorem put_apply (S : Sto) (a : Addr) (o : Ob) (b : Addr) : put S a o b = if b = a then some o else S b := rfl
theorem new_ne {S : Sto} {a b : Addr} {o : Ob} (h : S b = some o) (n : S a = none) : b ≠ a := fun e => by rw [e, n] at h; cases h
/-- all but b is as it was -/
def Ext (b : Addr) (S S' : Sto) : Prop := ∀ a o, a ≠ b → S a = some o → S' a = some o
theorem Ext.refl {b : Addr} {S : Sto} : Ext b S S := fun _ _ _ h => h
theorem Ext.trans {b : Addr} {S S1 S2 : Sto} (x : Ext b S S1) (y : Ext b S1 S2) : Ext b S S2 := fun a o n h => y a o n (x a o n h)
theorem Ext.put {b : Addr} {S : Sto} {o : Ob} : Ext b S (put S b o) := fun a u n h => by rw [put_ne n]; exact h
theorem Ext.new {b p : Addr} {S : Sto} {o : Ob} (n : S p = none) : Ext b S (Mp.put S p o) := fun a u _ h => by rw [put_ne (new_ne h n)]; exact h
theorem Sub.ext {b : Addr} {S S' : Sto} (s : Sub S S') : Ext b S S' := fun a o _ h => s a o h
theorem Sub.new {p : Addr} {S : Sto} {o : Ob} (n : S p = none) : Sub S (put S p o) := fun a u h => by rw [put_ne (new_ne h n)]; exact h
theorem Ext.from {b : Addr} {S S1 S2 : Sto} (s : Sub S S1) (x : Ext b S1 S2) : Ext b S S2 := s.ext.trans x

/-! ### where draws come from -/
def bx (x y : Int) : Ob := .lst [.int x, .int y]
def Bx (S : Sto) (b : Addr) : Prop := ∃ x y : Int, S b = some (.lst [.int x, .int y]) ∧ 0 ≤ x ∧ 1 ≤ y ∧ y ≤ 2147483647
theorem Bx.sub {S S' : Sto} {b : Addr} (h : Bx S b) (s : Sub S S') : Bx S' b := let ⟨x, y, e, r⟩ := h; ⟨x, y, s _ _ e, r⟩
theorem Bx.there {S : Sto} {b : Addr} (h : Bx S b) : ∃ o, S b = some o := let ⟨x, y, e, r⟩ := h; ⟨_, e⟩
theorem Bx.ne {S : Sto} {b p : Addr} (h : Bx S b) (n : S p = none) : b ≠ p := let ⟨x, y, e, r⟩ := h; new_ne e n
theorem le_line {n : Nat} (h : n ≤ 1000) : n ≤ sizeLine := Nat.le_trans h (by decide)
theorem log_small {m : Int} (h0 : 0 < m) (h : m < 2 ^ 64) : m.natAbs.log2 < 9000 := by
  have h1 : m.natAbs < 2 ^ 64 := by omega
  exact Nat.lt_of_lt_of_le (PySem.Flt.log2_lt_of (by decide) h1) (by decide)
end Mp

set_option Elab.async false
set_option linter.all false
set_option maxRecDepth 100000
namespace Mp
open PySem PySem.Spec PyProof.Rows L2

section
variable {X : Cx} {T : List (Addr × Str)} {W : WX} {e a b tg : Expr} {es : List Expr} {K : PySem.W.Frag} {S S' S0 S1 : Sto} {H H' H0 H1 : Hp} {σ : L2.St} {τ : PSt} {PD : PEnds} {D : Ends} {pos p : Pos} {q : QTA}

/-! ### constants of the module -/
theorem q_gint {x : Str} {i : Int} (hm : ∃ t, X.mg x = some (.int i t)) (hg : Gl X x := by rfl) (hd : (x == ("__debug__" : Str)) = false := by decide) : QE X T W (.Name x pos) (qC (.int i)) := by
  obtain ⟨t, hm⟩ := hm
  exact q_con (pe_glob (v := .int i) hg hm ⟨t, rfl⟩ hd) fun _ => rfl
theorem q_gstr {x : Str} {cs : List Nat} (hm : ∃ t, X.mg x = some (.str ⟨cs.toArray⟩ t)) (hg : Gl X x := by rfl) (hd : (x == ("__debug__" : Str)) = false := by decide) : QE X T W (.Name x pos) (qC (.str cs)) := by
  obtain ⟨t, hm⟩ := hm
  exact q_con (pe_glob (v := .str ⟨cs.toArray⟩) hg hm ⟨t, rfl⟩ hd) fun _ => rfl

/-! ### is True, is False -/
def fIsB (n c : Bool) : PV → Bool
  | .bl d => if n then !(d == c) else d == c
  | _ => n
def rIsC (n c : Bool) : R2 := fun x y H Q => y = .bl c ∧ Q (.bl (if n then !decide (x = .bl c) else decide (x = .bl c))) H
theorem op_isC {c : Bool} : OpR X (compareOp .Is) (rIsC false c) := by
  intro pins s σ H x y v u Q I rx ry ⟨ey, h⟩
  subst ey
  cases (show u = Value.bool c from ry)
  have fin : ∀ d : Bool, decide (x = .bl c) = d → EP X pins σ Q (.bool d) s := fun d e => ⟨.bl d, H, I, rfl, by rw [← e]; exact h⟩
  cases x with
  | bl d =>
    cases (show v = Value.bool d from rx)
    by_cases e : d = c
    · subst e
      exact wpAny_is_self rfl (fin true (by simp))
    · exact wpAny_is_other rfl (fun z => e (Value.bool.inj z)) (fin false (by simp [e]))
  | non =>
    cases (show v = Value.none from rx)
    exact wpAny_is_other rfl (fun z => nomatch z) (fin false (by simp))
  | int i =>
    obtain ⟨t, rfl⟩ := rx
    exact wpAny_is_other rfl (fun z => nomatch z) (fin false (by simp))
  | str i =>
    obtain ⟨t, rfl⟩ := rx
    exact wpAny_is_other rfl (fun z => nomatch z) (fin false (by simp))
  | byt i =>
    obtain ⟨t, rfl⟩ := rx
    exact wpAny_is_other rfl (fun z => nomatch z) (fin false (by simp))
  | flt i =>
    obtain ⟨t, rfl⟩ := rx
    exact wpAny_is_other rfl (fun z => nomatch z) (fin false (by simp))
  | ref i =>
    cases (show v = Value.ref i from rx)
    exact wpAny_is_other rfl (fun z => nomatch z) (fin false (by simp))
  | ty i =>
    cases (show v = Value.type i from rx)
    exact wpAny_is_other rfl (fun z => nomatch z) (fin false (by simp))
theorem op_notC {c : Bool} : OpR X (compareOp .IsNot) (rIsC true c) := by
  intro pins s σ H x y v u Q I rx ry ⟨ey, h⟩
  subst ey
  cases (show u = Value.bool c from ry)
  have fin : ∀ d : Bool, (!decide (x = .bl c)) = d → EP X pins σ Q (.bool d) s := fun d e => ⟨.bl d, H, I, rfl, by rw [← e]; exact h⟩
  cases x with
  | bl d =>
    cases (show v = Value.bool d from rx)
    by_cases e : d = c
    · subst e
      exact wpAny_isNot_self rfl (fin false (by simp))
    · exact wpAny_isNot_other rfl (fun z => e (Value.bool.inj z)) (fin true (by simp [e]))
  | non =>
    cases (show v = Value.none from rx)
    exact wpAny_isNot_other rfl (fun z => nomatch z) (fin true (by simp))
  | int i =>
    obtain ⟨t, rfl⟩ := rx
    exact wpAny_isNot_other rfl (fun z => nomatch z) (fin true (by simp))
  | str i =>
    obtain ⟨t, rfl⟩ := rx
    exact wpAny_isNot_other rfl (fun z => nomatch z) (fin true (by simp))
  | byt i =>
    obtain ⟨t, rfl⟩ := rx
    exact wpAny_isNot_other rfl (fun z => nomatch z) (fin true (by simp))
  | flt i =>
    obtain ⟨t, rfl⟩ := rx
    exact wpAny_isNot_other rfl (fun z => nomatch z) (fin true (by simp))
  | ref i =>
    cases (show v = Value.ref i from rx)
    exact wpAny_isNot_other rfl (fun z => nomatch z) (fin true (by simp))
  | ty i =>
    cases (show v = Value.type i from rx)
    exact wpAny_isNot_other rfl (fun z => nomatch z) (fin true (by simp))
theorem rl_bl {v : V} {x : PV} {c : Bool} (r : Rl K H v x) : decide (v = .bl c) = fIsB false c x := by
  cases x with
  | bl d =>
    have e : v = .bl d := r
    subst e
    show decide (V.bl d = V.bl c) = (d == c)
    cases d <;> cases c <;> rfl
  | non =>
    have e : v = .non := r
    subst e; rfl
  | int i =>
    have e : v = .int i := r
    subst e; rfl
  | str cs =>
    have e : v = .str ⟨cs.toArray⟩ := r
    subst e; rfl
  | tup xs =>
    obtain ⟨a, us, e2, _⟩ := r
    subst e2; rfl
  | lsv xs =>
    obtain ⟨a, us, e2, _⟩ := r
    subst e2; rfl
  | ktp xs =>
    obtain ⟨a, us, e2, _⟩ := r
    subst e2; rfl
  | exv a C d ns ps =>
    have e2 := r.1
    subst e2; rfl
  | lam f c q vs ps =>
    have e2 := r.1
    subst e2; rfl
  | ref i =>
    have e : v = .ref i := r
    subst e; rfl
  | ty i =>
    have e : v = .ty i := r
    subst e; rfl
theorem fIsB_not {c : Bool} (x : PV) : (!fIsB false c x) = fIsB true c x := by cases x <;> rfl
def fIsC (n c : Bool) : FO2 := fun x y S P => match y with
  | .bl d => d = c ∧ P (.bl (fIsB n c x)) S
  | _ => False
theorem oq_isC {n c : Bool} : OpQ K T (rIsC n c) (fIsC n c) := fun x y p1 p2 H S P Q r1 r2 rep h k => by
  cases p2 with
  | bl d =>
    obtain ⟨e, h⟩ := h
    subst e
    refine ⟨r2, ?_⟩
    have e : (if n = true then !decide (x = .bl d) else decide (x = .bl d)) = fIsB n d p1 := by
      rw [rl_bl r1]
      cases n
      · rfl
      · exact fIsB_not p1
    rw [e]
    exact k (.bl _) (.bl _) H S Fr.refl rfl rep h
  | _ => exact h.elim
def qIsB (n c : Bool) (q : QTE) : QTE := fun τ S P EP => q τ S (fun x S1 => P (.bl (fIsB n c x)) S1) EP
theorem isB_of {n c : Bool} {q : QTE} {Q : VK} (h : upG K T W (Rl K) (qIsB n c q) σ H Q) : upG K T W (Rl K) (qBin (fIsC n c) q (qC (.bl c))) σ H Q := by
  obtain ⟨τ, S, P, EP, h1, h2, h3, h4, h5⟩ := h
  exact ⟨τ, S, P, EP, h1, h2, by
    show q τ S (fun x S1 => c = c ∧ P (.bl (fIsB n c x)) S1) EP
    have e : (fun (x : PV) (S1 : Sto) => c = c ∧ P (.bl (fIsB n c x)) S1) = fun x S1 => P (.bl (fIsB n c x)) S1 := by
      funext x S1
      simp
    rw [e]
    exact h3, h4, h5⟩
theorem q_isB {q : QTE} {c : Bool} {j pos'} (ha : QE X T W a q) : QE X T W (.Compare a [.Is] [.Constant (.bool c) j pos'] pos) (qIsB false c q) :=
  pe_imp (q_cmp op_isC oq_isC (nomark _) ha q_bl) fun σ H Q h => isB_of h
theorem q_notB {q : QTE} {c : Bool} {j pos'} (ha : QE X T W a q) : QE X T W (.Compare a [.IsNot] [.Constant (.bool c) j pos'] pos) (qIsB true c q) :=
  pe_imp (q_cmp op_notC oq_isC (nomark _) ha q_bl) fun σ H Q h => isB_of h
theorem qt_isB {q : QTE} {c : Bool} {j pos'} (ha : QE X T W a q) : QT X T W (.Compare a [.Is] [.Constant (.bool c) j pos'] pos) (qTst (qIsB false c q)) :=
  pt_imp (pt_cmpR op_isC ha (q_bl (T := T) (W := W)) (nomark _)) fun σ H Q h => up_bin oq_isC (isB_of (up_tst h))
theorem qt_notB {q : QTE} {c : Bool} {j pos'} (ha : QE X T W a q) : QT X T W (.Compare a [.IsNot] [.Constant (.bool c) j pos'] pos) (qTst (qIsB true c q)) :=
  pt_imp (pt_cmpR op_notC ha (q_bl (T := T) (W := W)) (nomark _)) fun σ H Q h => up_bin oq_isC (isB_of (up_tst h))

/-! ### a < b <= c -/
def qChain (f g : FO2) (qa qb qc : QTE) : QTE := fun τ S P EP => qa τ S (fun x S1 => qb τ S1 (fun y S2 => f x y S2 (fun z S3 => match z with
  | .bl true => qc τ S3 (fun w S4 => g y w S4 P) EP
  | .bl false => P (.bl false) S3
  | _ => False)) EP) EP
theorem up_chain {r r' : R2} {f g : FO2} {qa qb qc : QTE} (o : OpQ K T r f) (o' : OpQ K T r' g) {Q : VK} (h : upG K T W (Rl K) (qChain f g qa qb qc) σ H Q) : tChain r r' (upG K T W (Rl K) qa) (upG K T W (Rl K) qb) (upG K T W (Rl K) qc) σ H Q := by
  refine up_then (RR := Rl K) h fun x p1 H1 l1 r1 h1 => ?_
  refine up_then (RR := Rl K) (RR' := Rl K) (qk := fun y τ S2 P EP => f p1 y S2 (fun z S3 => match z with | .bl true => qc τ S3 (fun w S4 => g y w S4 P) EP | .bl false => P (.bl false) S3 | _ => False)) h1 fun y p2 H2 l2 r2 ⟨τ, S, P, EP, rs, rep, h3, k, kx⟩ => ?_
  refine o x y p1 p2 H2 S _ _ (Rl.mono l2 _ _ r1) r2 rep h3 fun z p3 H3 S3 fr rl rep3 hp => ?_
  cases p3 with
  | bl c =>
    have e : z = .bl c := rl
    refine ⟨c, e, ?_⟩
    cases c with
    | true =>
      refine ⟨τ, S3, _, EP, rs.mono (fr.le rep), rep3, hp, fun w p4 H4 S4 fr4 rl4 rep4 hp4 => ?_, fun c d x H' S' f => kx c d x H' S' (fr.trans f)⟩
      exact o' y w p2 p4 H4 S4 P Q (Rl.mono ((fr.trans fr4).le rep) _ _ r2) rl4 rep4 hp4 fun v p H' S' f => k v p H' S' ((fr.trans fr4).trans f)
    | false => exact k (.bl false) (.bl false) H3 S3 fr rfl rep3 hp
  | _ => exact hp.elim
theorem q_chain {op op' : CmpOp} {c : Expr} {r r' : R2} {f g : FO2} {qa qb qc : QTE} (ho : OpR X (compareOp op) r) (oq : OpQ X.K T r f) (ho' : OpR X (compareOp op') r') (oq' : OpQ X.K T r' g) (ha : QE X T W a qa) (hb : QE X T W b qb) (hc : QE X T W c qc)
    (hm : lastMarks [op, op'] [b, c] = false := by with_unfolding_all rfl) : QE X T W (.Compare a [op, op'] [b, c] pos) (qChain f g qa qb qc) :=
  pe_imp (pe_chain ho ho' ha hb hc hm) fun σ H Q h => up_chain oq oq' h
theorem qt_chain {op op' : CmpOp} {c : Expr} {r r' : R2} {f g : FO2} {qa qb qc : QTE} (ho : OpR X (compareOp op) r) (oq : OpQ X.K T r f) (ho' : OpR X (compareOp op') r') (oq' : OpQ X.K T r' g) (ha : QE X T W a qa) (hb : QE X T W b qb) (hc : QE X T W c qc)
    (hm : lastMarks [op, op'] [b, c] = false := by with_unfolding_all rfl) : QT X T W (.Compare a [op, op'] [b, c] pos) (qTst (qChain f g qa qb qc)) :=
  pt_imp (pt_chain ho ho' ha hb hc hm) fun σ H Q h => up_chain oq oq' (up_tst h)
end
end Mp

set_option Elab.async false
set_option linter.all false
set_option maxRecDepth 100000
namespace Mp
open PySem PySem.Spec PyProof.Rows L2

section
variable {X : Cx} {T : List (Addr × Str)} {W : WX} {e a b tg : Expr} {es : List Expr} {K : PySem.W.Frag} {S S' S0 S1 : Sto} {H H' H0 H1 : Hp} {σ : L2.St} {τ : PSt} {PD : PEnds} {D : Ends} {pos p : Pos} {q : QTA}

/-! ### sequence operands: a new list, or a value -/
inductive SH where
  | hid (a : Addr) (xs : List PV)
  | val (x : PV)
def SH.its (S : Sto) : SH → Option (List PV)
  | .hid _ xs => some xs
  | .val x => seqOf x S
def SH.keep (S : Sto) : SH → Sto → Prop
  | .hid _ _ => kT
  | .val (.ref c) => fun S' => S' c = S c
  | .val _ => kT
abbrev QTH := Qr SH
def RSH (K : PySem.W.Frag) (S : Sto) (H : Hp) (v : V) : SH → Prop
  | .hid a xs => v = .ref a ∧ ∃ vs, H a = some (.lst vs) ∧ S a = none ∧ Rls K H vs xs
  | .val x => Rl K H v x
def upH (K : PySem.W.Frag) (T : List (Addr × Str)) (W : WX) (q : QTH) : TE := fun σ H Q =>
  ∃ τ S P EP, RS K H σ τ ∧ Rep K T S H ∧ q τ S P EP ∧ (∀ v p H' S', Fr S H S' H' → RSH K S' H' v p → Rep K T S' H' → P p S' → Q v H') ∧
    ∀ c d x H' S', Fr S H S' H' → XR K H' c d x → Rep K T S' H' → EP x S' → W c d σ H'
def QH (X : Cx) (T : List (Addr × Str)) (W : WX) (e : Expr) (q : QTH) : Prop := PE X e (upH X.K T W q)
def qhL (q : QTA) : QTH := fun τ S P EP => q τ S (fun xs S1 => ∀ a, P (.hid a xs) S1) EP
def qhE (q : QTE) : QTH := fun τ S P EP => q τ S (fun x S1 => P (.val x) S1) EP
theorem qh_l {q : QTA} (h : QL X T W e q) : QH X T W e (qhL q) := pe_imp h fun σ H Q ⟨τ, S, P, EP, h1, h2, h3, h4, h5⟩ =>
  ⟨τ, S, _, EP, h1, h2, h3, fun a vs ps H' S' fr e n _ rl rep hp => h4 _ (.hid a ps) H' S' fr ⟨rfl, vs, e, n, rl⟩ rep (hp a), h5⟩
theorem qh_e {q : QTE} (h : QE X T W e q) : QH X T W e (qhE q) := pe_imp h fun σ H Q ⟨τ, S, P, EP, h1, h2, h3, h4, h5⟩ =>
  ⟨τ, S, _, EP, h1, h2, h3, fun v p H' S' fr rl rep hp => h4 v (.val p) H' S' fr rl rep hp, h5⟩
theorem RSH.at {v : V} {l : SH} {xs : List PV} (r : RSH K S H v l) (rep : Rep K T S H) (h : l.its S = some xs) : ∃ a vs, v = .ref a ∧ (SqL K H a vs ∨ SqT K H a vs) ∧ Rls K H vs xs := by
  cases l with
  | hid a ys =>
    have h : some ys = some xs := h
    cases h
    obtain ⟨e, vs, e1, _, rl⟩ := r
    exact ⟨a, vs, e, .inl (SqL.of e1), rl⟩
  | val x => exact seq_of r rep h
theorem RSH.fr {v : V} {l : SH} (r : RSH K S H v l) (rep : Rep K T S H) (f : Fr S H S' H') : RSH K S' H' v l := by
  cases l with
  | hid a ys =>
    obtain ⟨e, vs, e1, n, rl⟩ := r
    obtain ⟨e2, _, n2⟩ := f a _ e1 (fun _ q => nomatch q) (.inl n)
    exact ⟨e, vs, e2, n2 n, Rls.mono (f.le rep) _ _ rl⟩
  | val x => exact Rl.mono (f.le rep) _ _ r
/-- is it a tuple -/
def SH.tup : SH → Bool
  | .val (.tup _) => true
  | .val (.ktp _) => true
  | _ => false
theorem RSH.lst {v : V} {l : SH} {xs : List PV} (r : RSH K S H v l) (rep : Rep K T S H) (h : l.its S = some xs) (n : l.tup = false) : ∃ a vs, v = .ref a ∧ SqL K H a vs ∧ Rls K H vs xs := by
  cases l with
  | hid a ys =>
    have h : some ys = some xs := h
    cases h
    obtain ⟨e, vs, e1, _, rl⟩ := r
    exact ⟨a, vs, e, SqL.of e1, rl⟩
  | val x =>
    cases x with
    | tup ys => cases n
    | ktp ys => cases n
    | lsv ys =>
      have h : some ys = some xs := h
      cases h
      obtain ⟨a, us, e2, s1, t1⟩ := r
      exact ⟨a, us, e2, s1.sq, t1⟩
    | ref c =>
      unfold SH.its seqOf at h
      simp only at h
      cases z : S c with
      | none => rw [z] at h; cases h
      | some ob =>
        rw [z] at h
        cases ob with
        | lst ys =>
          cases h
          obtain ⟨us, e1, t1⟩ := rep.ob c _ z
          exact ⟨c, us, r, SqL.of e1, t1⟩
        | _ => cases h
    | _ => cases h
theorem RSH.tupl {v : V} {l : SH} {xs : List PV} (r : RSH K S H v l) (h : l.its S = some xs) (n : l.tup = true) : ∃ a vs, v = .ref a ∧ SqT K H a vs ∧ Rls K H vs xs := by
  cases l with
  | hid a ys => cases n
  | val x =>
    cases x with
    | tup ys =>
      have h : some ys = some xs := h
      cases h
      obtain ⟨a, us, e2, s1, t1⟩ := r
      exact ⟨a, us, e2, SqT.of s1, t1⟩
    | ktp ys =>
      have h : some ys = some xs := h
      cases h
      exact r
    | _ => cases n
/-- later, what is kept standing -/
theorem SH.later {l : SH} {xs : List PV} (h : l.its S = some xs) (k : l.keep S S') : l.its S' = some xs := by
  cases l with
  | hid a ys => exact h
  | val x =>
    cases x with
    | ref c =>
      have k : S' c = S c := k
      unfold SH.its seqOf at h ⊢
      simp only at h ⊢
      rw [k]; exact h
    | _ => exact h
theorem SH.keep_self {l : SH} : l.keep S S := by
  cases l with
  | hid a ys => exact trivial
  | val x => cases x <;> first | exact trivial | exact rfl

/-! ### for a, b in zip(xs, ys) -/
def pairsP (xs ys : List PV) : List PV := List.zipWith (fun x y => PV.tup [x, y]) xs ys
theorem pair_new {T0 : Addr} {x y : V} {p q : PV} (n : H T0 = none) (r1 : Rl K H x p) (r2 : Rl K H y q) : Rl K (upd H T0 (.tup [x, y])) (.ref T0) (.tup [p, q]) :=
  ⟨T0, [x, y], rfl, upd_same, x, [y], rfl, Rl.mono (le_new n) _ _ r1, y, [], rfl, Rl.mono (le_new n) _ _ r2, rfl⟩
def qiZip (qa qb : QTH) : QTI := fun τ S P EP => qa τ S (fun x S1 => qb τ S1 (fun y S2 => match x.its S2, y.its S2 with
  | some xs, some ys => x.tup = y.tup ∧ P ⟨pairsP xs ys, fun S3 => x.keep S2 S3 ∧ y.keep S2 S3⟩ S2
  | _, _ => False) EP) EP
theorem qi_zip {qa qb : QTH} {elts : List Expr} {kk : Nat} {tpos : Pos} (hg : Gl X "zip") (hm : X.mg "zip" = none) (ha : QH X T W a qa) (hb : QH X T W b qb)
    (hs : starEach [a, b] X.env = (false, eval a X.env) :: starEach [b] X.env := by rfl) (hs2 : starEach [b] X.env = (false, eval b X.env) :: starEach [] X.env := by rfl) (hpl : (backTo pos (starEach [b] X.env)).any (·.1) = false := by rfl) :
    QI X T W (.Tuple elts kk tpos) (.Call (.Name "zip" p) [a, b] [] pos) (qiZip qa qb) :=
  pi_imp (RZ.pi_zipA hg hm (pa_cons ha (pa_cons hb pa_nil hs2) hs) hs hpl) fun σ H R ⟨τ, S, P, EP, h1, h2, h3, h4, h5⟩ => by
    refine ⟨τ, S, _, EP, h1, h2, h3, fun v x H1 S1 fr1 r1 rep1 hp1 => ?_, h5⟩
    refine ⟨τ, S1, _, EP, h1.mono (fr1.le h2), rep1, hp1, fun w y H2 S2 fr2 r2 rep2 hp2 => ?_, fun c d x H' S' fr => h5 c d x H' S' (fr1.trans fr)⟩
    have r1 := r1.fr rep1 fr2
    cases z1 : x.its S2 with
    | none => simp only [z1] at hp2
    | some xs =>
      cases z2 : y.its S2 with
      | none => simp only [z1, z2] at hp2
      | some ys =>
        simp only [z1, z2] at hp2
        obtain ⟨ht, hp2⟩ := hp2
        have len : (pairsP xs ys).length = min xs.length ys.length := by simp [pairsP]
        have atP : ∀ i p, (pairsP xs ys)[i]? = some p → ∃ p1 p2 : PV, xs[i]? = some p1 ∧ ys[i]? = some p2 ∧ p = PV.tup [p1, p2] := fun i p h => by
          unfold pairsP at h
          rw [List.getElem?_zipWith] at h
          cases q1 : xs[i]? with
          | none => rw [q1] at h; cases h
          | some p1 =>
            cases q2 : ys[i]? with
            | none => rw [q1, q2] at h; cases h
            | some p2 =>
              rw [q1, q2] at h
              exact ⟨p1, p2, by first | exact q1 | rfl, by first | exact q2 | rfl, (Option.some.inj h).symm⟩
        cases hx : x.tup with
        | true =>
          obtain ⟨u, us, e1, s1, t1⟩ := r1.tupl z1 hx
          obtain ⟨c, ws, e2, s2, t2⟩ := r2.tupl z2 (ht ▸ hx)
          subst e1; subst e2
          refine ⟨u, c, us, ws, rfl, .inr ⟨s1, s2, h4 _ ⟨pairsP xs ys, fun S3 => x.keep S2 S3 ∧ y.keep S2 S3⟩ H2 S2 (fr1.trans fr2) (fun S3 H3 fr3 rep3 _ => ?_) ⟨SH.keep_self, SH.keep_self⟩ rep2 hp2⟩⟩
          have s1 := (fr3.le rep2).sq s1
          have s2 := (fr3.le rep2).sq s2
          have t1 := Rls.mono (fr3.le rep2) _ _ t1
          have t2 := Rls.mono (fr3.le rep2) _ _ t2
          refine ⟨⟨us, ws, s1, s2, ?_⟩, fun i p h => ?_⟩
          · show us.length ≤ (pairsP xs ys).length ∨ ws.length ≤ (pairsP xs ys).length
            rw [len, Rls.length t1, Rls.length t2]
            omega
          · obtain ⟨p1, p2, g1, g2, ep⟩ := atP i p h
            obtain ⟨v1, a1, b1⟩ := t1.get g1
            obtain ⟨v2, a2, b2⟩ := t2.get g2
            refine ⟨⟨us, ws, v1, v2, s1, s2, a1, a2⟩, fun v H' ⟨T0, x', y', ev, hn, eH, k1, k2⟩ => ?_⟩
            have e1 := k1 us s1
            have e2 := k2 ws s2
            rw [a1] at e1; cases e1
            rw [a2] at e2; cases e2
            subst ev; subst eH; subst ep
            exact ⟨Fr.hid hn, rep3.hid hn, pair_new hn b1 b2⟩
        | false =>
          obtain ⟨u, us, e1, s1, t1⟩ := r1.lst rep2 z1 hx
          obtain ⟨c, ws, e2, s2, t2⟩ := r2.lst rep2 z2 (ht ▸ hx)
          have r1' := r1
          have r2' := r2
          subst e1; subst e2
          refine ⟨u, c, us, ws, rfl, .inl ⟨s1, s2, h4 _ ⟨pairsP xs ys, fun S3 => x.keep S2 S3 ∧ y.keep S2 S3⟩ H2 S2 (fr1.trans fr2) (fun S3 H3 fr3 rep3 kp => ?_) ⟨SH.keep_self, SH.keep_self⟩ rep2 hp2⟩⟩
          obtain ⟨u', us, e1, s1, t1⟩ := (r1'.fr rep2 fr3).lst rep3 (SH.later z1 kp.1) hx
          obtain ⟨c', ws, e2, s2, t2⟩ := (r2'.fr rep2 fr3).lst rep3 (SH.later z2 kp.2) (ht ▸ hx)
          cases e1; cases e2
          refine ⟨⟨us, ws, s1, s2, ?_⟩, fun i p h => ?_⟩
          · show us.length ≤ (pairsP xs ys).length ∨ ws.length ≤ (pairsP xs ys).length
            rw [len, Rls.length t1, Rls.length t2]
            omega
          · obtain ⟨p1, p2, g1, g2, ep⟩ := atP i p h
            obtain ⟨v1, a1, b1⟩ := t1.get g1
            obtain ⟨v2, a2, b2⟩ := t2.get g2
            refine ⟨⟨us, ws, v1, v2, s1, s2, a1, a2⟩, fun v H' ⟨T0, x', y', ev, hn, eH, k1, k2⟩ => ?_⟩
            have e1 := k1 us s1
            have e2 := k2 ws s2
            rw [a1] at e1; cases e1
            rw [a2] at e2; cases e2
            subst ev; subst eH; subst ep
            exact ⟨Fr.hid hn, rep3.hid hn, pair_new hn b1 b2⟩

/-! ### texts -/
def strsOf : List PV → Option (List (List Nat))
  | [] => some []
  | .str c :: r => (strsOf r).map (c :: ·)
  | _ :: _ => none
theorem strsOf_rl : ∀ {ps : List PV} {ns : List (List Nat)} {vs : List V}, strsOf ps = some ns → Rls K H vs ps → vs = (ns.map fun c => (⟨c.toArray⟩ : Str)).map V.str
  | [], ns, vs, e, r => by
    have e1 : some [] = some ns := e
    cases e1
    exact r
  | .str i :: ps, ns, vs, e, ⟨v, w, e2, h1, h2⟩ => by
    have e1 : (strsOf ps).map (i :: ·) = some ns := e
    cases q : strsOf ps with
    | none => rw [q] at e1; cases e1
    | some ms =>
      rw [q] at e1
      cases e1
      have h1 : v = .str ⟨i.toArray⟩ := h1
      rw [e2, h1, strsOf_rl q h2]
      rfl
  | .non :: _, _, _, e, _ => nomatch e
  | .bl _ :: _, _, _, e, _ => nomatch e
  | .int _ :: _, _, _, e, _ => nomatch e
  | .tup _ :: _, _, _, e, _ => nomatch e
  | .ref _ :: _, _, _, e, _ => nomatch e
  | .ty _ :: _, _, _, e, _ => nomatch e
  | .lsv _ :: _, _, _, e, _ => nomatch e
  | .exv _ _ _ _ _ :: _, _, _, e, _ => nomatch e
  | .lam _ _ _ _ _ :: _, _, _, e, _ => nomatch e
  | .ktp _ :: _, _, _, e, _ => nomatch e
theorem strsOf_map : ∀ ns : List (List Nat), strsOf (ns.map PV.str) = some ns
  | [] => rfl
  | n :: ns => by
    show (strsOf (ns.map PV.str)).map (n :: ·) = some (n :: ns)
    rw [strsOf_map ns]; rfl
def joinP (sep : List Nat) : List (List Nat) → List Nat
  | [] => []
  | [c] => c
  | c :: d :: r => c ++ sep ++ joinP sep (d :: r)
theorem join_eq (sep : List Nat) : ∀ ns : List (List Nat), Str.join ⟨sep.toArray⟩ (ns.map fun c => (⟨c.toArray⟩ : Str)) = ⟨(joinP sep ns).toArray⟩
  | [] => rfl
  | [c] => rfl
  | c :: d :: r => by
    show (⟨c.toArray⟩ : Str) ++ ⟨sep.toArray⟩ ++ Str.join ⟨sep.toArray⟩ ((d :: r).map fun c => (⟨c.toArray⟩ : Str)) = _
    rw [join_eq sep (d :: r), str_app, str_app]
    rfl
/-- sep.join(..) -/
def qJoin (qo : QTE) (qa : QTH) : QTE := fun τ S P EP => qo τ S (fun o S1 => match o with
  | .str sep => qa τ S1 (fun x S2 => match x.its S2 with
    | some xs => match strsOf xs with
      | some ns => (ns.map List.length).sum + ns.length * sep.length ≤ 16777216 ∧ P (.str (joinP sep ns)) S2
      | none => False
    | none => False) EP
  | _ => False) EP
theorem q_join {qo : QTE} {qa : QTH} {o e : Expr} {apos : Pos} (ho : QE X T W o qo) (he : QH X T W e qa) (hs : starEach [e] X.env = [(false, eval e X.env)] := by rfl) (hbase : attributeBase o "join" X.env (eval o X.env) = eval o X.env := by rfl) (hline : (apos.endLine == pos.line) = true := by rfl) :
    QE X T W (.Call (.Attribute o "join" apos) [e] [] pos) (qJoin qo qa) :=
  pe_imp (pe_join ho he hs hbase hline) fun σ H Q h =>
    up_then (RR := Rl X.K) (RR' := Rl X.K) (qk := fun o τ S1 P EP => match o with
      | .str sep => qa τ S1 (fun x S2 => match x.its S2 with
        | some xs => match strsOf xs with
          | some ns => (ns.map List.length).sum + ns.length * sep.length ≤ 16777216 ∧ P (PV.str (joinP sep ns)) S2
          | none => False
        | none => False) EP
      | _ => False) h fun v x H1 l rl ⟨τ, S, P, EP, rs, rep, hf, k, kx⟩ => by
      cases x with
      | str sep =>
        have ev : v = .str ⟨sep.toArray⟩ := rl
        subst ev
        refine ⟨⟨_, rfl⟩, τ, S, _, EP, rs, rep, hf, fun w y H2 S2 fr r2 rep2 hp => ?_, kx⟩
        cases z : y.its S2 with
        | none => simp only [z] at hp
        | some xs =>
          simp only [z] at hp
          cases z2 : strsOf xs with
          | none => simp only [z2] at hp
          | some ns =>
            simp only [z2] at hp
            obtain ⟨c, us, e1, s1, t1⟩ := r2.at rep2 z
            subst e1
            rw [strsOf_rl z2 t1] at s1
            refine ⟨_, c, _, rfl, rfl, s1, ?_, ?_⟩
            · rw [List.map_map]
              have e : ((fun x : Str => x.length) ∘ fun c : List Nat => (⟨c.toArray⟩ : Str)) = List.length := by
                funext c
                exact str_len
              rw [e, List.length_map, str_len]
              exact hp.1
            · have e : Txt.join ⟨sep.toArray⟩ (ns.map fun c => (⟨c.toArray⟩ : Str)) = ⟨(joinP sep ns).toArray⟩ := by
                rw [← join_eq]
                exact PySem.StrLaws.glued_eq_join _ _
              rw [e]
              exact k (.str _) (.str (joinP sep ns)) H2 S2 fr rfl rep2 hp.2
      | _ => exact hf.elim
end
end Mp

set_option Elab.async false
set_option linter.all false
set_option maxRecDepth 100000
namespace Mp
open PySem PySem.Spec PyProof.Rows L2

section
variable {X : Cx} {T : List (Addr × Str)} {W : WX} {e a b tg : Expr} {es : List Expr} {K : PySem.W.Frag} {S S' S0 S1 : Sto} {H H' H0 H1 : Hp} {σ : L2.St} {τ : PSt} {PD : PEnds} {D : Ends} {pos p : Pos} {q : QTA}

/-! ### more methods of lists -/
theorem Rls.eraseIdx : ∀ {ps : List PV} {vs : List V} (i : Nat), Rls K H vs ps → Rls K H (vs.eraseIdx i) (ps.eraseIdx i)
  | [], _, _, e => by
    have e : _ = [] := e
    subst e; exact rfl
  | p :: ps, _, 0, ⟨v, r, e, h1, h2⟩ => by
    subst e; exact h2
  | p :: ps, _, i + 1, ⟨v, r, e, h1, h2⟩ => by
    subst e
    exact ⟨v, _, rfl, h1, Rls.eraseIdx i h2⟩
theorem Rls.one_of {vs : List V} {p : PV} (r : Rls K H vs [p]) : ∃ v, vs = [v] ∧ Rl K H v p := by
  obtain ⟨v, w, e, h1, h2⟩ := r
  have h2 : w = [] := h2
  subst h2
  exact ⟨v, e, h1⟩
theorem Rls.two_of {vs : List V} {p q : PV} (r : Rls K H vs [p, q]) : ∃ v w, vs = [v, w] ∧ Rl K H v p ∧ Rl K H w q := by
  obtain ⟨v, w, e, h1, v2, w2, e2, h3, h4⟩ := r
  have h4 : w2 = [] := h4
  subst h4; subst e2
  exact ⟨v, v2, e, h1, h3⟩
def fPopAt : FMt := fun c ps S P => match ps with
  | [.int i] => match S c with
    | some (.lst xs) => match ixN xs.length i with
      | some j => match xs[j]? with
        | some y => (-(2 ^ 63) ≤ i ∧ i < 2 ^ 63) ∧ P y (put S c (.lst (xs.eraseIdx j)))
        | none => False
      | none => False
    | _ => False
  | _ => False
theorem mq_popAt : MtQ K T rPopAt fPopAt := fun vs ps c H S P Q rl rep h k => by
  match ps, h with
  | [.int i], h =>
    unfold fPopAt at h
    simp only at h
    obtain ⟨v, e1, h1⟩ := rl.one_of
    have h1 : v = .int i := h1
    subst h1; subst e1
    cases z : S c with
    | none => rw [z] at h; exact h.elim
    | some ob =>
      rw [z] at h
      cases ob with
      | lst xs =>
        simp only at h
        obtain ⟨us, e2, t⟩ := rep.ob c _ z
        cases z2 : ixN xs.length i with
        | none => rw [z2] at h; exact h.elim
        | some j =>
          rw [z2] at h
          simp only at h
          cases z3 : xs[j]? with
          | none => rw [z3] at h; exact h.elim
          | some y =>
            rw [z3] at h
            obtain ⟨u, a1, a2⟩ := t.get z3
            refine ⟨c, us, i, j, u, rfl, rfl, e2, h.1.1, h.1.2, by rw [Rls.length t]; exact (ixN_seq z2).1, a1, ?_⟩
            have fr : Fr S H (put S c (.lst (xs.eraseIdx j))) (upd H c (.lst (us.eraseIdx j))) := Fr.wr z
            exact k u y _ _ fr (Rl.mono (fr.le rep) _ _ a2) (rep.wr (ob := .lst (xs.eraseIdx j)) z fun le => ⟨_, upd_same, Rls.mono le _ _ (t.eraseIdx j)⟩) h.2
      | _ => exact h.elim
theorem q_popAt {qo : QTE} {o e : Expr} {apos cpos : Pos} (ho : QE X T W o qo) (ha : QA X T W (e :: es) q)
    (hbase : attributeBase o "pop" X.env (eval o X.env) = eval o X.env := by rfl)
    (hfew : ((backTo cpos (starEach (e :: es) X.env)).all (fun x => !x.1) && (backToKw cpos (keywordEach [] X.env)).all (fun x => x.1.isSome) && decide ((e :: es).length + ([] : List Keyword).length + (if ([] : List Keyword).isEmpty then 0 else 1) < 30)) = true := by rfl)
    (hline : (apos.endLine == cpos.line) = true := by rfl) (hs : starEach (e :: es) X.env = (false, eval e X.env) :: starEach es X.env := by rfl) (hplain : (backTo cpos (starEach es X.env)).any (·.1) = false := by rfl) :
    QE X T W (.Call (.Attribute o "pop" apos) (e :: es) [] cpos) (qMl fPopAt qo q) :=
  q_ml PySem.F.slot_list_pop PySem.F.type_list_pop mt_popAt mq_popAt ho ha hbase hfew hline hs hplain
def fIns : FMt := fun c ps S P => match ps with
  | [.int i, x] => match S c with
    | some (.lst xs) => (xs.length < sizeLine ∧ 0 ≤ i ∧ i < 2 ^ 63) ∧ P .non (put S c (.lst (xs.take i.toNat ++ [x] ++ xs.drop i.toNat)))
    | _ => False
  | _ => False
def rInsert : V → List V → Hp → VK → Prop := fun x vs H Q => ∃ (l : Addr) (xs : List V) (i : Int) (y : V), x = .ref l ∧ vs = [.int i, y] ∧ H l = some (.lst xs) ∧ xs.length < sizeLine ∧ 0 ≤ i ∧ i < 2 ^ 63 ∧ Q .non (upd H l (.lst (xs.take i.toNat ++ [y] ++ xs.drop i.toNat)))
theorem mq_ins : MtQ K T rInsert fIns := fun vs ps c H S P Q rl rep h k => by
  match ps, h with
  | [.int i, x], h =>
    unfold fIns at h
    simp only at h
    obtain ⟨v, w, e1, h1, h2⟩ := rl.two_of
    have h1 : v = .int i := h1
    subst h1; subst e1
    cases z : S c with
    | none => rw [z] at h; exact h.elim
    | some ob =>
      rw [z] at h
      cases ob with
      | lst xs =>
        obtain ⟨us, e2, t⟩ := rep.ob c _ z
        refine ⟨c, us, i, w, rfl, rfl, e2, by rw [Rls.length t]; exact h.1.1, h.1.2.1, h.1.2.2, k .non .non _ _ (Fr.wr z) rfl (rep.wr (ob := .lst (xs.take i.toNat ++ [x] ++ xs.drop i.toNat)) z fun le => ⟨_, upd_same, Rls.mono le _ _ (((t.take _).append (Rls.one h2)).append (t.drop _))⟩) h.2⟩
      | _ => exact h.elim
theorem q_insert {qo : QTE} {o e : Expr} {apos cpos : Pos} (ho : QE X T W o qo) (ha : QA X T W (e :: es) q)
    (hbase : attributeBase o "insert" X.env (eval o X.env) = eval o X.env := by rfl)
    (hfew : ((backTo cpos (starEach (e :: es) X.env)).all (fun x => !x.1) && (backToKw cpos (keywordEach [] X.env)).all (fun x => x.1.isSome) && decide ((e :: es).length + ([] : List Keyword).length + (if ([] : List Keyword).isEmpty then 0 else 1) < 30)) = true := by rfl)
    (hline : (apos.endLine == cpos.line) = true := by rfl) (hs : starEach (e :: es) X.env = (false, eval e X.env) :: starEach es X.env := by rfl) (hplain : (backTo cpos (starEach es X.env)).any (·.1) = false := by rfl) :
    QE X T W (.Call (.Attribute o "insert" apos) (e :: es) [] cpos) (qMl fIns qo q) :=
  q_ml PySem.F.slot_list_insert PySem.F.type_list_insert mt_insert mq_ins ho ha hbase hfew hline hs hplain
/-- xs.pop() -/
def qPop (qo : QTE) : QTE := fun τ S P EP => qo τ S (fun o S1 => match o with
  | .ref c => match S1 c with
    | some (.lst xs) => match xs[xs.length - 1]? with
      | some y => P y (put S1 c (.lst xs.dropLast))
      | none => False
    | _ => False
  | _ => False) EP
theorem Rls.dropLast {ps : List PV} {vs : List V} (r : Rls K H vs ps) : Rls K H vs.dropLast ps.dropLast := by
  rw [List.dropLast_eq_take, List.dropLast_eq_take, Rls.length r]
  exact r.take _
theorem q_pop {qo : QTE} {o : Expr} {apos cpos : Pos} (ho : QE X T W o qo) (hbase : attributeBase o "pop" X.env (eval o X.env) = eval o X.env := by rfl) (hline : (apos.endLine == cpos.line) = true := by rfl) :
    QE X T W (.Call (.Attribute o "pop" apos) [] [] cpos) (qPop qo) :=
  pe_imp (pe_bm0 PySem.F.plainAttrs_list PySem.F.slot_list_pop PySem.F.type_list_pop mt_pop ho hbase hline) fun σ H Q h =>
    up_then (RR := Rl X.K) (RR' := Rl X.K) (qk := fun o _ S1 P _ => match o with
      | .ref c => match S1 c with
        | some (.lst xs) => match xs[xs.length - 1]? with
          | some y => P y (put S1 c (.lst xs.dropLast))
          | none => False
        | _ => False
      | _ => False) h fun v x H1 l rl ⟨τ, S, P, EP, rs, rep, hf, k, kx⟩ => by
      cases x with
      | ref c =>
        have e1 : v = .ref c := rl
        subst e1
        simp only at hf
        cases z : S c with
        | none => rw [z] at hf; exact hf.elim
        | some ob =>
          rw [z] at hf
          cases ob with
          | lst xs =>
            simp only at hf
            cases z3 : xs[xs.length - 1]? with
            | none => rw [z3] at hf; exact hf.elim
            | some y =>
              rw [z3] at hf
              obtain ⟨vs, e2, t⟩ := rep.ob c _ z
              obtain ⟨u, a1, a2⟩ := t.get z3
              have fr : Fr S H1 (put S c (.lst xs.dropLast)) (upd H1 c (.lst vs.dropLast)) := Fr.wr z
              refine ⟨.inl ⟨rfl, vs, SqL.of e2⟩, c, vs, u, rfl, rfl, e2, by rw [Rls.length t]; exact a1, ?_⟩
              exact k u y _ _ fr (Rl.mono (fr.le rep) _ _ a2) (rep.wr (ob := .lst xs.dropLast) z fun le => ⟨_, upd_same, Rls.mono le _ _ t.dropLast⟩) hf
          | _ => exact hf.elim
      | _ => exact hf.elim
/-- xs.extend(ys) -/
def SH.mut : SH → Bool
  | .hid _ _ => true
  | .val (.ref _) => true
  | _ => false
theorem RSH.mutl {v : V} {l : SH} {xs : List PV} (r : RSH K S H v l) (rep : Rep K T S H) (h : l.its S = some xs) (n : l.mut = true) : ∃ a vs, v = .ref a ∧ H a = some (.lst vs) ∧ Rls K H vs xs := by
  cases l with
  | hid a ys =>
    have h : some ys = some xs := h
    cases h
    obtain ⟨e, vs, e1, _, rl⟩ := r
    exact ⟨a, vs, e, e1, rl⟩
  | val x =>
    cases x with
    | ref c =>
      unfold SH.its seqOf at h
      simp only at h
      cases z : S c with
      | none => rw [z] at h; cases h
      | some ob =>
        rw [z] at h
        cases ob with
        | lst ys =>
          cases h
          obtain ⟨us, e1, t1⟩ := rep.ob c _ z
          exact ⟨c, us, r, e1, t1⟩
        | _ => cases h
    | _ => cases n
def qExt (qo : QTE) (qa : QTH) : QTE := fun τ S P EP => qo τ S (fun o S1 => match o with
  | .ref c => match S1 c with
    | some (.lst _) => qa τ S1 (fun x S2 => match S2 c, x.its S2 with
      | some (.lst xs), some ys => x.mut = true ∧ xs.length + ys.length ≤ sizeLine ∧ P .non (put S2 c (.lst (xs ++ ys)))
      | _, _ => False) EP
    | _ => False
  | _ => False) EP
theorem q_extend {qo : QTE} {qa : QTH} {o e : Expr} {apos cpos : Pos} (ho : QE X T W o qo) (ha : QH X T W e qa)
    (hbase : attributeBase o "extend" X.env (eval o X.env) = eval o X.env := by rfl)
    (hfew : ((backTo cpos (starEach [e] X.env)).all (fun x => !x.1) && (backToKw cpos (keywordEach [] X.env)).all (fun x => x.1.isSome) && decide ([e].length + ([] : List Keyword).length + (if ([] : List Keyword).isEmpty then 0 else 1) < 30)) = true := by rfl)
    (hline : (apos.endLine == cpos.line) = true := by rfl) (hs : starEach [e] X.env = (false, eval e X.env) :: starEach [] X.env := by rfl) (hplain : (backTo cpos (starEach [] X.env)).any (·.1) = false := by rfl) :
    QE X T W (.Call (.Attribute o "extend" apos) [e] [] cpos) (qExt qo qa) :=
  pe_imp (pe_bm PySem.F.plainAttrs_list PySem.F.slot_list_extend PySem.F.type_list_extend mt_extend ho (pa_cons ha pa_nil hs) hbase hfew hline hs hplain) fun σ H Q h =>
    up_then (RR := Rl X.K) (RR' := Rl X.K) (qk := fun o τ S1 P EP => match o with
      | .ref c => match S1 c with
        | some (.lst _) => qa τ S1 (fun x S2 => match S2 c, x.its S2 with
          | some (.lst xs), some ys => x.mut = true ∧ xs.length + ys.length ≤ sizeLine ∧ P PV.non (put S2 c (.lst (xs ++ ys)))
          | _, _ => False) EP
        | _ => False
      | _ => False) h fun v x H1 l rl ⟨τ, S, P, EP, rs, rep, hf, k, kx⟩ => by
      cases x with
      | ref c =>
        have e1 : v = .ref c := rl
        subst e1
        simp only at hf
        cases z : S c with
        | none => rw [z] at hf; exact hf.elim
        | some ob =>
          rw [z] at hf
          cases ob with
          | lst xs0 =>
            obtain ⟨vs0, e0, t0⟩ := rep.ob c _ z
            refine ⟨.inl ⟨rfl, vs0, SqL.of e0⟩, τ, S, _, EP, rs, rep, hf, fun w y H2 S2 fr r2 rep2 hp => ?_, kx⟩
            cases z2 : S2 c with
            | none => simp only [z2] at hp
            | some ob2 =>
              cases ob2 with
              | lst xs =>
                cases z3 : y.its S2 with
                | none => simp only [z2, z3] at hp
                | some ys =>
                  simp only [z2, z3] at hp
                  obtain ⟨c2, us, e2, g2, t2⟩ := r2.mutl rep2 z3 hp.1
                  obtain ⟨vs, e1, t1⟩ := rep2.ob c _ z2
                  subst e2
                  refine ⟨c, c2, vs, us, rfl, rfl, e1, g2, by rw [Rls.length t1, Rls.length t2]; exact hp.2.1, ?_⟩
                  have f2 : Fr S2 H2 (put S2 c (.lst (xs ++ ys))) (upd H2 c (.lst (vs ++ us))) := Fr.wr z2
                  exact k .non .non _ _ (fr.trans f2) rfl (rep2.wr (ob := .lst (xs ++ ys)) z2 fun le => ⟨_, upd_same, Rls.mono le _ _ (t1.append t2)⟩) hp.2.2
              | _ => simp only [z2] at hp
          | _ => exact hf.elim
      | _ => exact hf.elim

/-! ### in, not in -/
def flatP : PV → Bool
  | .non => true
  | .bl _ => true
  | .int _ => true
  | .str _ => true
  | _ => false
def eqF : PV → PV → Bool
  | .non, .non => true
  | .bl c, .bl d => c == d
  | .bl c, .int j => (if c then 1 else 0) == j
  | .int i, .bl d => i == (if d then 1 else 0)
  | .int i, .int j => decide (i = j)
  | .str c, .str d => decide (c = d)
  | _, _ => false
def inF (x : PV) (xs : List PV) : Bool := xs.any fun y => eqF y x
def toV : PV → V
  | .non => .non
  | .bl c => .bl c
  | .int i => .int i
  | .str cs => .str ⟨cs.toArray⟩
  | _ => .non
theorem flat_rl {v : V} {x : PV} (r : Rl K H v x) (f : flatP x = true) : v = toV x ∧ flatV v = true := by
  cases x <;> first
    | (have e : v = _ := r
       subst e
       exact ⟨rfl, rfl⟩)
    | cases f
theorem eqF_V {x y : PV} (fx : flatP x = true) (fy : flatP y = true) : eqV (toV y) (toV x) = eqF y x := by
  cases x <;> cases fx <;> cases y <;> cases fy <;> first
    | rfl
    | (rename_i c d
       show (_ == _) = decide (_ = _)
       first
        | (rw [Bool.beq_eq_decide_eq]
           refine decide_eq_decide.mpr ⟨fun h => ?_, fun h => by rw [h]⟩
           have z : d.toArray.toList = c.toArray.toList := congrArg (fun (x : Str) => x.cps.toList) h
           simpa using z)
        | (rw [Bool.beq_eq_decide_eq]; done)
        | (rw [Bool.eq_iff_iff]; simp))
theorem flats_rl : ∀ {xs : List PV} {vs : List V}, Rls K H vs xs → xs.all flatP = true → vs = xs.map toV ∧ vs.all flatV = true
  | [], _, r, _ => by
    have e : _ = [] := r
    subst e
    exact ⟨rfl, rfl⟩
  | x :: xs, _, ⟨v, w, e, h1, h2⟩, f => by
    rw [List.all_cons, Bool.and_eq_true] at f
    obtain ⟨a1, a2⟩ := flat_rl h1 f.1
    obtain ⟨b1, b2⟩ := flats_rl h2 f.2
    subst e
    exact ⟨by rw [a1, b1]; rfl, by rw [List.all_cons, a2, b2]; rfl⟩
theorem inV_F {x : PV} (fx : flatP x = true) : ∀ {xs : List PV}, xs.all flatP = true → inV (toV x) (xs.map toV) = inF x xs
  | [], _ => rfl
  | y :: xs, f => by
    rw [List.all_cons, Bool.and_eq_true] at f
    have ih := inV_F fx f.2
    unfold inV inF at ih ⊢
    rw [List.map_cons, List.any_cons, List.any_cons, eqF_V fx f.1, ih]
def ng (n c : Bool) : Bool := match n with
  | true => !c
  | false => c
/-- x in xs, by the items -/
def inS (n : Bool) (x : PV) (xs : List PV) (S : Sto) (P : QK PV) : Prop := match flatP x && xs.all flatP with
  | true => P (.bl (ng n (inF x xs))) S
  | false => ∃ d ds, DatS S x d ∧ DatsS S xs ds ∧ SeqAt.shaped d = true ∧ SeqAt.shaped (.list ds) = true ∧ P (.bl (ng n (ds.any fun z => PyData.eqv z d))) S
def sgOf : PV → SH → Option (Nat × List Nat)
  | .str [c], .val (.str cs) => some (c, cs)
  | _, _ => none
theorem sgOf_some {x : PV} {y : SH} {r : Nat × List Nat} (h : sgOf x y = some r) : x = .str [r.1] ∧ y = .val (.str r.2) := by
  unfold sgOf at h
  split at h
  · cases h
    exact ⟨rfl, rfl⟩
  · cases h
def inM (n : Bool) (x : PV) (y : SH) (S2 : Sto) (P : QK PV) : Prop := match sgOf x y with
  | some r => P (.bl (ng n (decide (r.1 ∈ r.2)))) S2
  | none => match y.its S2 with
    | some xs => inS n x xs S2 P
    | none => False
def qIn (n : Bool) (qa : QTE) (qb : QTH) : QTE := fun τ S P EP => qa τ S (fun x S1 => qb τ S1 (fun y S2 => inM n x y S2 P) EP) EP
def rInTD (K : PySem.W.Frag) (n : Bool) : R2 := fun x y H Q => ∃ d ds, Dp K H x d ∧ Dp K H y (.tuple ds) ∧ SeqAt.shaped d = true ∧ SeqAt.shaped (.list ds) = true ∧ Q (.bl (ng n (ds.any fun z => PyData.eqv z d))) H
theorem room_sh {A : Around} {d : PyData} {ds : List PyData} (h : SeqAt.shaped d = true) (hu : A.units + 65 < cLine) : A.units + 1 + min (PyData.depthAll ds) d.depth < cLine := by
  have h1 := SeqAt.depth_of_shaped h
  have h2 : min (PyData.depthAll ds) d.depth ≤ d.depth := Nat.min_le_right _ _
  omega
theorem op_inT (hu : X.A.units + 65 < cLine) : OpR X (compareOp .In) (rInTD X.K false) := by
  intro pins s σ H x y v u Q I rx ry ⟨d, ds, hd, he, sd, se, q⟩
  obtain ⟨as, r1⟩ := Dp.reads I d x v hd rx
  obtain ⟨bs, r2⟩ := Dp.reads I (.tuple ds) y u he ry
  exact SeqAt.in_tuple_reads r2 r1 (by exact SeqAt.canLay_of_shaped se) (SeqAt.canLay_of_shaped sd) (room_sh sd hu) ⟨.bl _, H, I, rfl, q⟩
theorem op_notinT (hu : X.A.units + 65 < cLine) : OpR X (compareOp .NotIn) (rInTD X.K true) := by
  intro pins s σ H x y v u Q I rx ry ⟨d, ds, hd, he, sd, se, q⟩
  obtain ⟨as, r1⟩ := Dp.reads I d x v hd rx
  obtain ⟨bs, r2⟩ := Dp.reads I (.tuple ds) y u he ry
  exact SeqAt.notIn_tuple_reads r2 r1 (by exact SeqAt.canLay_of_shaped se) (SeqAt.canLay_of_shaped sd) (room_sh sd hu) ⟨.bl _, H, I, rfl, q⟩
def rSign (n : Bool) : R2 := fun x y H Q => ∃ (c : Nat) (z : Str), x = .str ⟨#[c]⟩ ∧ y = .str z ∧ Q (.bl (ng n (decide (c ∈ z.cps.toList)))) H
theorem in_val {n : Bool} {x y : V} {px : PV} {py : SH} {P : QK PV} {Q : VK} (r1 : Rl K H x px) (r2 : RSH K S H y py) (rep : Rep K T S H)
    (h : inM n px py S P)
    (k : ∀ v p H' S', Fr S H S' H' → Rl K H' v p → Rep K T S' H' → P p S' → Q v H') :
    rSign n x y H Q ∨ rIn K n x y H Q ∨ (∃ d ds, Dp K H x d ∧ Dp K H y (.list ds) ∧ SeqAt.shaped d = true ∧ SeqAt.shaped (.list ds) = true ∧ Q (.bl (ng n (ds.any fun z => PyData.eqv z d))) H) ∨ rInTD K n x y H Q := by
  unfold inM at h
  cases hs : sgOf px py with
  | some r =>
    obtain ⟨e1, e2⟩ := sgOf_some hs
    rw [hs] at h
    subst e1; subst e2
    have r2 : y = .str ⟨r.2.toArray⟩ := r2
    exact .inl ⟨r.1, _, r1, r2, k (.bl _) (.bl _) H S Fr.refl rfl rep h⟩
  | none =>
    rw [hs] at h
    have h : match py.its S with
        | some xs => inS n px xs S P
        | none => False := h
    cases z : py.its S with
    | none => rw [z] at h; exact h.elim
    | some xs =>
      rw [z] at h
      have h : inS n px xs S P := h
      unfold inS at h
      cases zf : flatP px && xs.all flatP with
      | true =>
        rw [zf] at h
        rw [Bool.and_eq_true] at zf
        obtain ⟨a, vs, e1, sq, t⟩ := r2.at rep z
        obtain ⟨b1, b2⟩ := flat_rl r1 zf.1
        obtain ⟨c1, c2⟩ := flats_rl t zf.2
        refine .inr (.inl ⟨a, vs, e1, sq, b2, c2, ?_⟩)
        have e : (if n then !inV x vs else inV x vs) = ng n (inF px xs) := by
          rw [b1, c1, inV_F zf.1 zf.2]
          cases n <;> rfl
        rw [e]
        exact k (.bl _) (.bl _) H S Fr.refl rfl rep h
      | false =>
        rw [zf] at h
        obtain ⟨d, ds, h1, h2, h3, h4, h5⟩ := h
        have q := k (.bl _) (.bl _) H S Fr.refl rfl rep h5
        cases ht : py.tup with
        | true =>
          obtain ⟨a, vs, e1, sq, t⟩ := r2.tupl z ht
          subst e1
          exact .inr (.inr (.inr ⟨d, ds, dat_dp rep h1 r1, .tup sq (dats_dp rep h2 t), h3, h4, q⟩))
        | false =>
          obtain ⟨a, vs, e1, sq, t⟩ := r2.lst rep z ht
          subst e1
          exact .inr (.inr (.inl ⟨d, ds, dat_dp rep h1 r1, .lst sq (dats_dp rep h2 t), h3, h4, q⟩))
def rInAll (K : PySem.W.Frag) (n : Bool) : R2 := fun x y H Q => rSign n x y H Q ∨ rIn K n x y H Q ∨ (∃ d ds, Dp K H x d ∧ Dp K H y (.list ds) ∧ SeqAt.shaped d = true ∧ SeqAt.shaped (.list ds) = true ∧ Q (.bl (ng n (ds.any fun z => PyData.eqv z d))) H) ∨ rInTD K n x y H Q
theorem or_in (hu : X.A.units + 65 < cLine) : OpR X (compareOp .In) (rInAll X.K false) := OpR.or (fun pins s σ H x y v u Q I rx ry ⟨c, z, e1, e2, q⟩ => op_in_sign pins s σ H x y v u Q I rx ry ⟨c, z, e1, e2, q⟩) (OpR.or op_in_seq (OpR.or (op_inD hu) (op_inT hu)))
theorem or_notin (hu : X.A.units + 65 < cLine) : OpR X (compareOp .NotIn) (rInAll X.K true) := OpR.or (fun pins s σ H x y v u Q I rx ry ⟨c, z, e1, e2, q⟩ => op_notIn_sign pins s σ H x y v u Q I rx ry ⟨c, z, e1, e2, q⟩) (OpR.or op_notIn_seq (OpR.or (op_notInD hu) (op_notinT hu)))
theorem up_in {n : Bool} {qa : QTE} {qb : QTH} {Q : VK} (h : upG K T W (Rl K) (qIn n qa qb) σ H Q) : tOp (rInAll K n) (upG K T W (Rl K) qa) (upH K T W qb) σ H Q := by
  refine up_then (RR := Rl K) h fun x p1 H1 l1 r1 ⟨τ, S, P, EP, rs, rep, hf, k, kx⟩ => ?_
  refine ⟨τ, S, _, EP, rs, rep, hf, fun y p2 H2 S2 fr r2 rep2 hp => ?_, kx⟩
  exact in_val (Rl.mono (fr.le rep) _ _ r1) r2 rep2 hp fun v p H' S' f => k v p H' S' (fr.trans f)
theorem q_in {qa : QTE} {qb : QTH} (hu : X.A.units + 65 < cLine) (ha : QE X T W a qa) (hb : QH X T W b qb) (hm : behindInMarks .In b = false := by rfl) : QE X T W (.Compare a [.In] [b] pos) (qIn false qa qb) :=
  pe_imp (pe_cmpR (or_in hu) ha hb hm) fun σ H Q h => up_in h
theorem q_notin {qa : QTE} {qb : QTH} (hu : X.A.units + 65 < cLine) (ha : QE X T W a qa) (hb : QH X T W b qb) (hm : behindInMarks .NotIn b = false := by rfl) : QE X T W (.Compare a [.NotIn] [b] pos) (qIn true qa qb) :=
  pe_imp (pe_cmpR (or_notin hu) ha hb hm) fun σ H Q h => up_in h
theorem qt_in {qa : QTE} {qb : QTH} (hu : X.A.units + 65 < cLine) (ha : QE X T W a qa) (hb : QH X T W b qb) (hm : behindInMarks .In b = false := by rfl) : QT X T W (.Compare a [.In] [b] pos) (qTst (qIn false qa qb)) :=
  pt_imp (pt_cmpR (or_in hu) ha hb hm) fun σ H Q h => up_in (up_tst h)
theorem qt_notin {qa : QTE} {qb : QTH} (hu : X.A.units + 65 < cLine) (ha : QE X T W a qa) (hb : QH X T W b qb) (hm : behindInMarks .NotIn b = false := by rfl) : QT X T W (.Compare a [.NotIn] [b] pos) (qTst (qIn true qa qb)) :=
  pt_imp (pt_cmpR (or_notin hu) ha hb hm) fun σ H Q h => up_in (up_tst h)

/-! ### == of new lists -/
def qEqL (n : Bool) (qa qb : QTH) : QTE := fun τ S P EP => qa τ S (fun x S1 => qb τ S1 (fun y S2 => match x.its S2, y.its S2 with
  | some xs, some ys => (x.tup = false ∧ y.tup = false) ∧ ∃ ds es, DatsS S2 xs ds ∧ DatsS S2 ys es ∧ SeqAt.shaped (.list ds) = true ∧ SeqAt.shaped (.list es) = true ∧ P (.bl (ng n (PyData.eqvAll ds es))) S2
  | _, _ => False) EP) EP
def rEqA (K : PySem.W.Frag) (n : Bool) : R2 := fun x y H Q => ∃ d e, Dp K H x d ∧ Dp K H y e ∧ SeqAt.shaped d = true ∧ SeqAt.shaped e = true ∧ Q (.bl (ng n (PyData.eqv d e))) H
theorem up_eqL {n : Bool} {qa qb : QTH} {Q : VK} (h : upG K T W (Rl K) (qEqL n qa qb) σ H Q) : tOp (rEqA K n) (upH K T W qa) (upH K T W qb) σ H Q := by
  obtain ⟨τ, S, P, EP, h1, h2, h3, h4, h5⟩ := h
  refine ⟨τ, S, _, EP, h1, h2, h3, fun x p H1 S1 fr1 r1 rep1 hp1 => ?_, h5⟩
  refine ⟨τ, S1, _, EP, h1.mono (fr1.le h2), rep1, hp1, fun y p2 H2 S2 fr2 r2 rep2 hp2 => ?_, fun c d x H' S' fr => h5 c d x H' S' (fr1.trans fr)⟩
  have r1 := r1.fr rep1 fr2
  cases z1 : p.its S2 with
  | none => simp only [z1] at hp2
  | some xs =>
    cases z2 : p2.its S2 with
    | none => simp only [z1, z2] at hp2
    | some ys =>
      simp only [z1, z2] at hp2
      obtain ⟨⟨n1, n2⟩, ds, es, d1, d2, s1, s2, hp⟩ := hp2
      obtain ⟨u, us, e1, g1, t1⟩ := r1.lst rep2 z1 n1
      obtain ⟨w, ws, e2, g2, t2⟩ := r2.lst rep2 z2 n2
      subst e1; subst e2
      exact ⟨.list ds, .list es, .lst g1 (dats_dp rep2 d1 t1), .lst g2 (dats_dp rep2 d2 t2), s1, s2, h4 (.bl _) (.bl _) H2 S2 (fr1.trans fr2) rfl rep2 (by simpa only [PyData.eqv] using hp)⟩
theorem op_eqA (hu : X.A.units + 64 < cLine) : OpR X (compareOp .Eq) (rEqA X.K false) := op_eqD hu
theorem op_neA (hu : X.A.units + 64 < cLine) : OpR X (compareOp .NotEq) (rEqA X.K true) := op_neD hu
theorem q_eqL {qa qb : QTH} (hu : X.A.units + 64 < cLine) (ha : QH X T W a qa) (hb : QH X T W b qb) : QE X T W (.Compare a [.Eq] [b] pos) (qEqL false qa qb) := pe_imp (pe_cmpR (op_eqA hu) ha hb (nomark _)) fun σ H Q h => up_eqL h
theorem q_neL {qa qb : QTH} (hu : X.A.units + 64 < cLine) (ha : QH X T W a qa) (hb : QH X T W b qb) : QE X T W (.Compare a [.NotEq] [b] pos) (qEqL true qa qb) := pe_imp (pe_cmpR (op_neA hu) ha hb (nomark _)) fun σ H Q h => up_eqL h
theorem qt_eqL {qa qb : QTH} (hu : X.A.units + 64 < cLine) (ha : QH X T W a qa) (hb : QH X T W b qb) : QT X T W (.Compare a [.Eq] [b] pos) (qTst (qEqL false qa qb)) := pt_imp (pt_cmpR (op_eqA hu) ha hb (nomark _)) fun σ H Q h => up_eqL (up_tst h)
theorem qt_neL {qa qb : QTH} (hu : X.A.units + 64 < cLine) (ha : QH X T W a qa) (hb : QH X T W b qb) : QT X T W (.Compare a [.NotEq] [b] pos) (qTst (qEqL true qa qb)) := pt_imp (pt_cmpR (op_neA hu) ha hb (nomark _)) fun σ H Q h => up_eqL (up_tst h)

/-! ### len of a new list -/
def qLenL (q : QTA) : QTE := fun τ S P EP => q τ S (fun xs S1 => P (.int xs.length) S1) EP
theorem q_lenL (hg : Gl X "len") (hm : X.mg "len" = none) (ha : QL X T W e q) (he : starEach [e] X.env = [(false, eval e X.env)] := by rfl) : QE X T W (.Call (.Name "len" p) [e] [] pos) (qLenL q) :=
  pe_imp (pe_callB call_len hg hm PySem.boot_len (pa_cons ha pa_nil he) (he := he)) fun σ H Q ⟨τ, S, P, EP, h1, h2, h3, h4, h5⟩ =>
    ⟨τ, S, _, EP, h1, h2, h3, fun a vs ps H1 S1 fr g n nu rl rep hp => ⟨_, ps.length, rfl, .inl ⟨vs, SqL.of g, (Rls.length rl).symm⟩, h4 (.int _) (.int _) H1 S1 fr rfl rep hp⟩, h5⟩
end
end Mp

set_option Elab.async false
set_option linter.all false
set_option maxRecDepth 100000
namespace Mp
open PySem PySem.Spec PyProof.Rows L2

section
variable {X : Cx} {T : List (Addr × Str)} {W : WX} {e a b tg : Expr} {es : List Expr} {K : PySem.W.Frag} {S S' S0 S1 : Sto} {H H' H0 H1 : Hp} {σ : L2.St} {τ : PSt} {PD : PEnds} {D : Ends} {pos p : Pos} {q : QTA}

/-! ### [.. for .. in .. if ..] -/
def pwipe (τ : PSt) : List Nat → PSt
  | [] => τ
  | v :: vs => (pwipe τ vs).set v none
theorem RS.wipe (r : RS K H σ τ) : ∀ vs : List Nat, RS K H (L2.wipe σ vs) (pwipe τ vs)
  | [] => r
  | v :: vs => (RS.wipe r vs).unset
structure Tg where
  vs : List Nat
  go : PV → PSt → Option PSt
/-- a block's target -/
def TgOk (K : PySem.W.Frag) (t : Tg) (g : TG) : Prop := ∀ v p σ τ τ1 H (Q : L2.St → Hp → Prop), Rl K H v p → RS K H σ τ → t.go p τ = some τ1 →
  (∀ σ2, L2.wipe σ2 t.vs = L2.wipe σ t.vs → RS K H σ2 τ1 → Q σ2 H) → g v (L2.wipe σ t.vs) H Q
def tg1 (i : Nat) : Tg := ⟨[i], fun p τ => some ((pwipe τ [i]).set i (some p))⟩
theorem tg1_ok {i : Nat} : TgOk K (tg1 i) (gName i) := fun v p σ τ τ1 H Q rl rs e k => by
  cases e
  refine k _ ?_ ((RS.wipe rs [i]).set rl)
  show ((σ.set i none).set i (some v)).set i none = σ.set i none
  rw [List.set_set, List.set_set]
def tg2 (i j : Nat) : Tg := ⟨[i, j], fun p τ => match p with
  | .tup [x, y] => some (((pwipe τ [i, j]).set i (some x)).set j (some y))
  | _ => none⟩
theorem tg2_ok {i j : Nat} : TgOk K (tg2 i j) (gTup K 2 (gCons (gName i) (gCons (gName j) gNil))) := fun v p σ τ τ1 H Q rl rs e k => by
  match p, e with
  | .tup [x, y], e =>
    cases e
    obtain ⟨a, vs, e1, sq, t⟩ := rl
    obtain ⟨v1, v2, e2, r1, r2⟩ := t.two_of
    subst e1; subst e2
    refine ⟨a, _, rfl, SqT.of sq, rfl, v1, _, rfl, v2, _, rfl, rfl, ?_⟩
    refine k _ ?_ (((RS.wipe rs [i, j]).set r1).set r2)
    show (((((σ.set j none).set i none).set i (some v1)).set j (some v2)).set j none).set i none = (σ.set j none).set i none
    by_cases h : i = j
    · subst h
      simp only [List.set_set]
    · repeat first | rw [List.set_set] | rw [List.set_comm _ _ (fun z => h z)]
theorem Rls.three_of {vs : List V} {p q r : PV} (h : Rls K H vs [p, q, r]) : ∃ v w u, vs = [v, w, u] ∧ Rl K H v p ∧ Rl K H w q ∧ Rl K H u r := by
  obtain ⟨v, z, e, h1, h2⟩ := h
  obtain ⟨w, u, e2, h3, h4⟩ := Rls.two_of h2
  subst e2; subst e
  exact ⟨v, w, u, rfl, h1, h3, h4⟩
theorem pg_n1 {Y : Cx} {i : Nat} {x : Str} {px : Pos} (hN : Y.N.Nodup) (hi : Y.N[i]? = some x) (hx : Loc Y.env.scope x) (hf : Y.fn x = true ∨ Y.env.scope.names.lookup x = some .local) : PG Y (.Name x px) (gName i) := pg_name hN hi hx hf
/-- the turns -/
def lcQ (keep : Sto → Prop) (g : Tg) (t : QTT) (q : QTE) (τ : PSt) (P : QK (List PV)) : List PV → List PV → Sto → Prop
  | [], acc, S => P acc S
  | p :: r, acc, S => match g.go p τ with
    | some τ1 => t τ1 S (fun b S1 => iteB b (q τ1 S1 (fun y S2 => acc.length < sizeLine ∧ keep S2 ∧ lcQ keep g t q τ P r (acc ++ [y]) S2) X0) (keep S1 ∧ lcQ keep g t q τ P r acc S1)) X0
    | none => False
def qLc (qi : QTI) (g : Tg) (t : QTT) (q : QTE) : QTA := fun τ S P EP => qi τ S (fun s S1 => lcQ s.keep g t q τ P s.its [] S1) EP
def qYes : QTT := fun _ S P _ => P true S
def QTs (X : Cx) (T : List (Addr × Str)) (W : WX) (es : List Expr) (q : QTT) : Prop := PTs X es (upG X.K T W RB q)
theorem pts_imp {t t' : TT} (h : PTs X es t) (k : ∀ σ H Q, t' σ H Q → t σ H Q) : PTs X es t' := ⟨fun pins s σ H Q I w => h.run pins s σ H Q I (k σ H Q w)⟩
theorem qts_nil : QTs X T W [] qYes := pts_imp pts_nil fun σ H Q ⟨τ, S, P, EP, h1, h2, h3, h4, h5⟩ => h4 true true H S Fr.refl rfl h2 h3
theorem qts_one {t : QTT} (h : QT X T W e t) : QTs X T W [e] t := pts_one h
/-- the reading of a block is enough -/
theorem up_lc {wi : TI} {gt : TG} {tt : TT} {te : TE} {qi : QTI} {g : Tg} {t : QTT} {q : QTE} {Q : VK}
    (hw : ∀ σ H R, upI K T W qi σ H R → wi σ H R) (hg : TgOk K g gt) (ht : ∀ σ H Q, upG K T W0 RB t σ H Q → tt σ H Q) (he : ∀ σ H Q, upG K T W0 (Rl K) q σ H Q → te σ H Q)
    (h : ∃ τ S P EP, RS K H σ τ ∧ Rep K T S H ∧ qLc qi g t q τ S P EP ∧ (∀ a vs ps H' S', Fr S H S' H' → H' a = some (.lst vs) → S' a = none → Nu S H a → Rls K H' vs ps → Rep K T S' H' → P ps S' → Q (.ref a) H') ∧
      ∀ c d x H' S', Fr S H S' H' → XR K H' c d x → Rep K T S' H' → EP x S' → W c d σ H') : tLc wi gt tt te g.vs σ H Q := by
  obtain ⟨τ, S, P, EP, h1, h2, h3, h4, h5⟩ := h
  refine hw σ H _ ⟨τ, S, _, EP, h1, h2, h3, fun J s H1 S1 fr wk kp rp hp D hD => ?_, h5⟩
  have hSD : S1 D = none := rp.free hD
  refine ⟨fun i m H => m = s.its.length - i ∧ i ≤ s.its.length ∧ ∃ S acc vs, Fr S1 H1 S H ∧ Rep K T S H ∧ s.keep S ∧ H D = some (.lst vs) ∧ S D = none ∧ Rls K H vs acc ∧ lcQ s.keep g t q τ P (s.its.drop i) acc S,
    ⟨_, rfl, Nat.zero_le _, S1, [], [], Fr.hid hD, rp.hid hD, kp, upd_same, hSD, rfl, hp⟩, ?_⟩
  rintro i m H2 ⟨rfl, hi, S2, acc, vs, fr2, rp2, kp2, hd2, sd2, rl2, hq2⟩
  obtain ⟨hstop, hgo⟩ := wk S2 H2 fr2 rp2 kp2
  by_cases hl : i < s.its.length
  · obtain ⟨p, hp⟩ : ∃ p, s.its[i]? = some p := ⟨s.its[i], by simp [hl]⟩
    obtain ⟨go, yl⟩ := hgo i p hp
    have hdr : s.its.drop i = p :: s.its.drop (i + 1) := by
      rw [List.drop_eq_getElem_cons hl]
      rw [List.getElem?_eq_getElem hl] at hp
      rw [Option.some.inj hp]
    rw [hdr] at hq2
    unfold lcQ at hq2
    cases zg : g.go p τ with
    | none => rw [zg] at hq2; exact hq2.elim
    | some τ1 =>
      rw [zg] at hq2
      have hq2 : t τ1 S2 (fun b S1 => iteB b (q τ1 S1 (fun y S2 => acc.length < sizeLine ∧ s.keep S2 ∧ lcQ s.keep g t q τ P (s.its.drop (i + 1)) (acc ++ [y]) S2) X0) (s.keep S1 ∧ lcQ s.keep g t q τ P (s.its.drop (i + 1)) acc S1)) X0 := hq2
      refine .inr ⟨go, fun H3 => ∃ S acc vs, Fr S1 H1 S H3 ∧ Rep K T S H3 ∧ s.keep S ∧ H3 D = some (.lst vs) ∧ S D = none ∧ Rls K H3 vs acc ∧ lcQ s.keep g t q τ P (s.its.drop (i + 1)) acc S, fun H3 z => ⟨_, by omega, rfl, hl, z⟩, fun x H3 y => ?_⟩
      obtain ⟨fr3, rp3, rl3⟩ := yl x H3 y
      have f3 : Fr S1 H1 S2 H3 := fr2.trans fr3
      refine hg x p σ τ τ1 H3 _ rl3 (h1.mono ((fr.trans f3).le h2)) zg fun σ2 ew rs2 => ⟨ew, ?_⟩
      have d3 := fr3.keep hd2 (fun _ z => nomatch z) sd2
      refine ht σ2 H3 _ ⟨τ1, S2, _, _, rs2, rp3, hq2, fun c c' H4 S4 fr4 ec rp4 hb => ?_, fun _ _ _ _ _ _ _ _ z => z⟩
      have ec : c = c' := ec
      subst ec
      have d4 := fr4.keep d3.1 (fun _ z => nomatch z) d3.2
      have f4 : Fr S1 H1 S4 H4 := f3.trans fr4
      have rl4 : Rls K H4 vs acc := Rls.mono ((fr3.trans fr4).le rp2) _ _ rl2
      cases c with
      | false =>
        simp only [Bool.false_eq_true, if_false]
        exact ⟨S4, acc, vs, f4, rp4, hb.1, d4.1, d4.2, rl4, hb.2⟩
      | true =>
        simp only [if_true]
        refine he σ2 H4 _ ⟨τ1, S4, _, _, rs2.mono (fr4.le rp3), rp4, hb, fun v y H5 S5 fr5 rl5 rp5 hb5 => ?_, fun _ _ _ _ _ _ _ _ z => z⟩
        have d5 := fr5.keep d4.1 (fun _ z => nomatch z) d4.2
        have rl5a := Rls.mono (fr5.le rp4) _ _ rl4
        refine ⟨vs, d5.1, by rw [Rls.length rl5a]; exact hb5.1, S5, acc ++ [y], vs ++ [v], fun c o e1 e2 e3 => ?_, rp5.hidwr d5.2 d5.1 trivial, hb5.2.1, upd_same, d5.2, Rls.mono (le_chg d5.1 trivial) _ _ (rl5a.append (Rls.one rl5)), hb5.2.2⟩
        obtain ⟨g1, g2⟩ := (f4.trans fr5) c o e1 e2 e3
        refine ⟨?_, g2⟩
        by_cases z : c = D
        · subst z
          rw [hD] at e1; cases e1
        · rw [upd_ne z]; exact g1
  · have e : i = s.its.length := by omega
    subst e
    rw [List.drop_length] at hq2
    exact .inl ⟨hstop, h4 D vs acc H2 S2 (fr.trans fr2) hd2 sd2 (Nu.of fr hD) rl2 rp2 hq2⟩
theorem ql_lc {elt tg iter : Expr} {ifs : List Expr} {scope : Scope} {own : List (Str × Nat)} {pos : Pos} {qi : QTI} {gt : TG} {g : Tg} {t : QTT} {q : QTE} (hc : X.calm = true) (hN : X.N.Nodup) (hi : QI X T W tg iter qi) (ok : BlkOk X.N X.env.scope scope own) (hv : own.map (·.2) = g.vs) (hok : TgOk X.K g gt)
    (hg : ∀ (s : Shared) (H : Hp) (C : Addr) (cl : List (Str × Addr)) (fp : List Addr), PG (X.blk s H scope (compEnvC scope cl C X.env) fp) tg gt) (ht : ∀ (s : Shared) (H : Hp) (C : Addr) (cl : List (Str × Addr)) (fp : List Addr), QTs (X.blk s H scope (compEnvC scope cl C X.env) fp) T W0 ifs t)
    (he : ∀ (s : Shared) (H : Hp) (C : Addr) (cl : List (Str × Addr)) (fp : List Addr), QE (X.blk s H scope (compEnvC scope cl C X.env) fp) T W0 elt q) (hs : ∀ x, foldedSetIterable iter X.env x = pure x := by intro _; rfl) :
    QL X T W (.ListComp elt [⟨tg, iter, ifs, 0⟩] scope pos) (qLc qi g t q) :=
  pe_imp (pe_lc (tt := upG X.K T W0 RB t) (te := upG X.K T W0 (Rl X.K) q) hc hN hi ok hg ht he hs) fun σ H Q h => by
    rw [hv]
    exact up_lc (fun _ _ _ z => z) hok (fun _ _ _ z => z) (fun _ _ _ z => z) h
/-- name = [..] -/
theorem qs_setLc {i : Nat} {y : Str} {py : Pos} {elt tg iter : Expr} {ifs : List Expr} {scope : Scope} {own : List (Str × Nat)} {pos spos : Pos} {qi : QTI} {gt : TG} {g : Tg} {t : QTT} {q : QTE} (hc : X.calm = true) (hN : X.N.Nodup) (hi : QI X T W tg iter qi) (ok : BlkOk X.N X.env.scope scope own) (hv : own.map (·.2) = g.vs) (hok : TgOk X.K g gt)
    (hg : ∀ (s : Shared) (H : Hp) (C : Addr) (cl : List (Str × Addr)) (fp : List Addr), PG (X.blk s H scope (compEnvC scope cl C X.env) fp) tg gt) (ht : ∀ (s : Shared) (H : Hp) (C : Addr) (cl : List (Str × Addr)) (fp : List Addr), QTs (X.blk s H scope (compEnvC scope cl C X.env) fp) T W0 ifs t)
    (he : ∀ (s : Shared) (H : Hp) (C : Addr) (cl : List (Str × Addr)) (fp : List Addr), QE (X.blk s H scope (compEnvC scope cl C X.env) fp) T W0 elt q) (hs : ∀ x, foldedSetIterable iter X.env x = pure x := by intro _; rfl)
    (hy : X.N[i]? = some y := by rfl) (hyl : X.env.scope.names.lookup y = some .local := by rfl) (hsw : swapsWith (.ListComp elt [⟨tg, iter, ifs, 0⟩] scope pos) (some (.Name y py)) spos.line X.env = pure true := by rfl) :
    QS X T W (.Assign [.Name y py] (.ListComp elt [⟨tg, iter, ifs, 0⟩] scope pos) spos) (qSet i (qNew (qLc qi g t q))) :=
  ps_imp (ps_setLc (tt := upG X.K T W0 RB t) (te := upG X.K T W0 (Rl X.K) q) hc hN hy hyl hsw hi ok hg ht he hs) fun D σ H ⟨τ, S, PD, r, rep, hq, c⟩ => by
    show tLc _ gt _ _ (own.map (·.2)) σ H (fun x H1 => gName i x σ H1 D.nx)
    rw [hv]
    exact up_lc (fun _ _ _ z => z) hok (fun _ _ _ z => z) (fun _ _ _ z => z) ⟨τ, S, _, _, r, rep, hq, fun a vs ps H' S' fr e n nu rl rp hp => c.nx _ _ H' _ (fr.take nu) ((r.mono (fr.le rep)).set (show Rl X.K H' (.ref a) (.ref a) from rfl)) (rp.take (ob := .lst ps) ⟨vs, e, rl⟩) (hp a n),
      fun cc d x H' S' fr xr rp hp => c.ex cc d x σ τ H' S' fr (r.mono (fr.le rep)) xr rp hp⟩
end
end Mp

set_option Elab.async false
set_option linter.all false
set_option maxRecDepth 100000
namespace Mp
open PySem PySem.Spec PyProof.Rows L2

section
variable {X : Cx} {T : List (Addr × Str)} {W : WX} {e a b tg : Expr} {es : List Expr} {K : PySem.W.Frag} {S S' S0 S1 : Sto} {H H' H0 H1 : Hp} {σ : L2.St} {τ : PSt} {PD : PEnds} {D : Ends} {pos p : Pos} {q : QTA}

/-! ### trees without references, as data -/
mutual
def datP : PV → Bool
  | .non => true
  | .bl _ => true
  | .int _ => true
  | .str _ => true
  | .tup xs => datsP xs
  | _ => false
def datsP : List PV → Bool
  | [] => true
  | x :: xs => datP x && datsP xs
end
mutual
def dOf : PV → PyData
  | .non => .none
  | .bl c => .bool c
  | .int i => .int i
  | .str cs => .str ⟨cs.toArray⟩
  | .tup xs => .tuple (dsOf xs)
  | _ => .none
def dsOf : List PV → List PyData
  | [] => []
  | x :: xs => dOf x :: dsOf xs
end
theorem dsOf_map : ∀ xs : List PV, dsOf xs = xs.map dOf
  | [] => rfl
  | x :: xs => by rw [dsOf, dsOf_map xs]; rfl
theorem datsP_all : ∀ xs : List PV, datsP xs = xs.all datP
  | [] => rfl
  | x :: xs => by rw [datsP, datsP_all xs]; rfl
mutual
theorem datP_of : ∀ {x : PV}, datP x = true → DatS S x (dOf x)
  | .non, _ => .non
  | .bl c, _ => .bl c
  | .int i, _ => .int i
  | .str cs, _ => .str cs
  | .tup xs, h => .tup (datsP_of (by unfold datP at h; exact h))
  | .ref _, h => by unfold datP at h; cases h
  | .ty _, h => by unfold datP at h; cases h
  | .lsv _, h => by unfold datP at h; cases h
  | .exv _ _ _ _ _, h => by unfold datP at h; cases h
  | .lam _ _ _ _ _, h => by unfold datP at h; cases h
  | .ktp _, h => by unfold datP at h; cases h
theorem datsP_of : ∀ {xs : List PV}, datsP xs = true → DatsS S xs (dsOf xs)
  | [], _ => .nil
  | x :: xs, h => by
    unfold datsP at h
    rw [Bool.and_eq_true] at h
    exact .cons (datP_of h.1) (datsP_of h.2)
end

/-! ### sorted(xs) -/
abbrev leP : PV → PV → Bool := PySem.W.dataLe false dOf
def rSortP (K : PySem.W.Frag) (T : List (Addr × Str)) : List V → Hp → VK → Prop := fun vs H Q => ∃ (a : Addr) (bs : List (V × PV)), vs = [V.ref a] ∧ SqL K H a (bs.map Prod.fst) ∧ (∀ b ∈ bs, Rl K H b.1 b.2 ∧ datP b.2 = true ∧ (dOf b.2).depth ≤ 60) ∧
  PySem.W.AllAlike (bs.map fun b => dOf b.2) ∧ PySem.W.Sortable (bs.map fun b => dOf b.2) ∧ bs.length ≤ sizeLine ∧ ∀ p, H p = none → Q (.ref p) (upd H p (.lst ((bs.mergeSort (PySem.W.dataLe false fun b => dOf b.2)).map Prod.fst)))
theorem datP_dp : ∀ {x : PV} {v : V}, datP x = true → Rl K H v x → Dp K H v (dOf x) := fun {x v} h r => dat_dp (T := []) (S := fun _ => none) ⟨fun _ _ e => (by cases e), fun _ h => (by cases h)⟩ (datP_of h) r
theorem vals_each {R : Value → (V × PV) → Prop} : ∀ {bs : List (V × PV)} {us : List Value}, Vals (bs.map Prod.fst) us → (∀ b ∈ bs, ∀ u, RelV b.1 u → R u b) → PySem.W.EachIs R us bs
  | [], _, r, _ => by
    have r : Vals [] _ := r
    cases r
    exact .nil
  | b :: bs, _, r, h => by
    have r2 : Vals (b.1 :: bs.map Prod.fst) _ := r
    cases r2 with
    | cons r3 rr => exact .cons (h b (List.mem_cons_self ..) _ r3) (vals_each rr fun c hc => h c (List.mem_cons_of_mem _ hc))
theorem each_vals : ∀ {bs : List (V × PV)} {us : List Value}, PySem.W.EachIs (fun u b => RelV b.1 u) us bs → Vals (bs.map Prod.fst) us
  | [], _, r => by cases r; exact .nil
  | b :: bs, _, r => by
    cases r with
    | cons r rr => exact .cons r (each_vals rr)
theorem cr_sortP (hu : X.A.units + 64 < cLine) : CallR X (.builtin "sorted") (rSortP X.K T) := by
  intro pins s σ H vs us Q I r h
  obtain ⟨a, bs, rfl, hs, hb, h1, h2, h3, q⟩ := h
  obtain ⟨its, rv, hl, hz⟩ := I.list hs
  rw [Vals.ref1 r]
  refine PySem.W.sorted_data (R := fun u b => RelV b.1 u) (enc := fun b : V × PV => dOf b.2) hl.isList (vals_each rv fun b _ u r => r) (vals_each rv fun b hm u r => Dp.reads I _ _ _ (datP_dp (hb b hm).2.1 (hb b hm).1) r) h1 h2 h3 (fun b hm => by have := (hb b hm).2.2; omega) fun out hl2 eo => ?_
  have rv2 := each_vals eo
  obtain ⟨ep, he'⟩ := PyProof.Rows.sortedAll_at s.heap its out.toArray
  have hlen : ((bs.mergeSort (PySem.W.dataLe false fun b => dOf b.2)).map Prod.fst).length ≤ sizeLine := by
    rw [List.length_map, List.length_mergeSort]; exact h3
  exact ⟨.ref _, upd H (s.heap.objs.size + 1) (.lst ((bs.mergeSort (PySem.W.dataLe false fun b => dOf b.2)).map Prod.fst)), I.laid (t' := s.toks) (fun _ _ => PyProof.Rows.sortedAll_old) (Nat.le_succ _) ⟨hlen, out, ep, rv2, he'⟩, rfl, q _ (I.hok.fresh (Nat.le_succ _))⟩
theorem rls_zip : ∀ {xs : List PV} {vs : List V}, Rls K H vs xs → (vs.zip xs).map Prod.fst = vs ∧ (vs.zip xs).map Prod.snd = xs ∧ ∀ b ∈ vs.zip xs, Rl K H b.1 b.2 ∧ b.2 ∈ xs
  | [], _, r => by
    have e : _ = [] := r
    subst e
    exact ⟨rfl, rfl, fun _ h => by cases h⟩
  | x :: xs, _, ⟨v, w, e, h1, h2⟩ => by
    subst e
    obtain ⟨a1, a2, a3⟩ := rls_zip h2
    refine ⟨by simp [a1], by simp [a2], fun b hb => ?_⟩
    rw [List.zip_cons_cons, List.mem_cons] at hb
    rcases hb with e | hb
    · subst e
      exact ⟨h1, List.mem_cons_self ..⟩
    · exact ⟨(a3 b hb).1, List.mem_cons_of_mem _ (a3 b hb).2⟩
theorem rls_pairs : ∀ {bs : List (V × PV)}, (∀ b ∈ bs, Rl K H b.1 b.2) → Rls K H (bs.map Prod.fst) (bs.map Prod.snd)
  | [], _ => rfl
  | b :: bs, h => ⟨b.1, bs.map Prod.fst, rfl, h b (List.mem_cons_self ..), rls_pairs fun c hc => h c (List.mem_cons_of_mem _ hc)⟩
def sortC (xs : List PV) : Prop := (∀ x ∈ xs, datP x = true ∧ (dOf x).depth ≤ 60) ∧ PySem.W.AllAlike (xs.map dOf) ∧ PySem.W.Sortable (xs.map dOf) ∧ xs.length ≤ sizeLine
def qSorted (qa : QTH) : QTA := fun τ S P EP => qa τ S (fun x S1 => match x.its S1 with
  | some xs => (x.tup = false ∧ sortC xs) ∧ P (xs.mergeSort leP) S1
  | none => False) EP
theorem ql_sorted {qa : QTH} (hu : X.A.units + 64 < cLine) (hg : Gl X "sorted") (hm : X.mg "sorted" = none) (ha : QH X T W e qa) (he : starEach [e] X.env = [(false, eval e X.env)] := by rfl) : QL X T W (.Call (.Name "sorted" p) [e] [] pos) (qSorted qa) :=
  pe_imp (pe_callB (cr_sortP (T := T) hu) hg hm (by decide +kernel) (pa_cons ha pa_nil he) (he := he)) fun σ H Q ⟨τ, S, P, EP, h1, h2, h3, h4, h5⟩ =>
    ⟨τ, S, _, EP, h1, h2, h3, fun v x H1 S1 fr rl rep hp => by
      cases z : x.its S1 with
      | none => rw [z] at hp; exact hp.elim
      | some xs =>
        rw [z] at hp
        obtain ⟨⟨nt, c1, c2, c3, c4⟩, hp⟩ := hp
        obtain ⟨a, us, e1, s, t⟩ := rl.lst rep z nt
        subst e1
        obtain ⟨z1, z2, z3⟩ := rls_zip t
        have em : (us.zip xs).map (fun b => dOf b.2) = xs.map dOf := by
          conv => rhs; rw [← z2]
          rw [List.map_map]; rfl
        refine ⟨a, us.zip xs, rfl, by rw [z1]; exact s, fun b hb => ⟨(z3 b hb).1, c1 _ (z3 b hb).2⟩, by rw [em]; exact c2, by rw [em]; exact c3, ?_, fun n hn => ?_⟩
        · have e : (us.zip xs).length = xs.length := by rw [← List.length_map (f := Prod.snd), z2]
          rw [e]; exact c4
        · have es : ((us.zip xs).mergeSort (PySem.W.dataLe false fun b => dOf b.2)).map Prod.snd = xs.mergeSort leP := by
            have q := List.map_mergeSort (f := Prod.snd) (r := PySem.W.dataLe false fun b : V × PV => dOf b.2) (s := leP) (l := us.zip xs) (fun a _ b _ => rfl)
            rw [q, z2]
          have rs : Rls X.K H1 (((us.zip xs).mergeSort (PySem.W.dataLe false fun b => dOf b.2)).map Prod.fst) (xs.mergeSort leP) := by
            rw [← es]
            exact rls_pairs fun b hb => (z3 b (List.mem_mergeSort.mp hb)).1
          exact h4 n _ _ _ S1 (fr.trans (Fr.hid hn)) upd_same (rep.free hn) (Nu.of fr hn) (Rls.mono (le_new hn) _ _ rs) (rep.hid hn) hp, h5⟩

/-! ### a text times an int -/
def rMulS : R2 := fun x y H Q => ∃ (s : Str) (n : Int), x = .str s ∧ y = .int n ∧ MulOk s n ∧ Q (.str (Txt.mul s n)) H
theorem op_mulS : OpR X (binaryOp .Mult) rMulS := by
  intro pins s σ H x y v u Q I rx ry ⟨z, n, e1, e2, ok, h⟩
  subst e1; subst e2
  obtain ⟨t, rfl⟩ := rx
  obtain ⟨t2, rfl⟩ := ry
  exact SB.mul ok fun t' k => ⟨.str _, H, I.kept (t' := k) fun _ _ e => e, ⟨t', rfl⟩, h⟩
def repP : Nat → List Nat → List Nat
  | 0, _ => []
  | n + 1, cs => cs ++ repP n cs
theorem rep_fold (cs : List Nat) : ∀ (n : Nat) (acc : Array Nat), (List.replicate n cs.toArray).foldl (· ++ ·) acc = acc ++ (repP n cs).toArray
  | 0, acc => by simp [repP]
  | n + 1, acc => by
    rw [List.replicate_succ, List.foldl_cons, rep_fold cs n]
    simp [repP]
theorem rep_empty : ∀ n : Nat, repP n [] = []
  | 0 => rfl
  | n + 1 => by rw [repP, rep_empty n]; rfl
theorem mul_txt (cs : List Nat) (n : Int) : Txt.mul ⟨cs.toArray⟩ n = ⟨(repP n.toNat cs).toArray⟩ := by
  unfold Txt.mul
  by_cases h : n < 1
  · rw [if_pos h]
    have e : n.toNat = 0 := by omega
    rw [e]; rfl
  · rw [if_neg h]
    by_cases h2 : (n == 1 || (⟨cs.toArray⟩ : Str).length == 0) = true
    · rw [if_pos h2]
      rw [Bool.or_eq_true] at h2
      rcases h2 with h2 | h2
      · have e : n = 1 := by simpa using h2
        subst e
        show _ = (⟨(cs ++ []).toArray⟩ : Str)
        rw [List.append_nil]
      · rw [str_len] at h2
        have e : cs = [] := by simpa using h2
        subst e
        rw [rep_empty]
    · rw [if_neg h2]
      show (⟨(List.replicate n.toNat cs.toArray).foldl (· ++ ·) #[]⟩ : Str) = _
      rw [rep_fold]
      simp
def fMulA : FO2 := fun x y S P => match x, y with
  | .int i, .int j => CMul i j ∧ P (.int (i * j)) S
  | .str cs, .int n => (cs.length ≤ 256 ∧ -1000 ≤ n ∧ n ≤ 65536) ∧ P (.str (repP n.toNat cs)) S
  | _, _ => False
theorem or_mul : OpR X (binaryOp .Mult) (fun x y H Q => rI CMul (fun i j => .int (i * j)) x y H Q ∨ rMulS x y H Q) := OpR.or op_mul op_mulS
theorem oq_mulA : OpQ K T (fun x y H Q => rI CMul (fun i j => .int (i * j)) x y H Q ∨ rMulS x y H Q) fMulA := by
  intro x y p1 p2 H S P Q r1 r2 rep h k
  cases p1 <;> cases p2 <;> try exact h.elim
  case int.int i j => exact .inl ⟨i, j, r1, r2, h.1, k (.int (i * j)) (.int (i * j)) H S Fr.refl rfl rep h.2⟩
  case str.int cs n =>
    refine .inr ⟨_, n, r1, r2, PyProof.Rows.mulOk_of 256 65536 (by rw [str_len]; exact h.1.1) h.1.2.2 (by have := h.1.2.1; omega) (by decide) (by decide), ?_⟩
    rw [mul_txt]
    exact k (.str _) (.str (repP n.toNat cs)) H S Fr.refl rfl rep h.2
theorem q_mulA {qa qb : QTE} (ha : QE X T W a qa) (hb : QE X T W b qb) : QE X T W (.BinOp a .Mult b pos) (qBin fMulA qa qb) := q_bin or_mul oq_mulA ha hb
end
end Mp

set_option Elab.async false
set_option linter.all false
set_option maxRecDepth 100000
theorem L2.Room.units1 {k : Nat} {A : PySem.Around} (r : L2.Room k A) : A.units + 65 < PySem.cLine := by have := r.un; omega
namespace Mp
open PySem PySem.Spec PyProof.Rows L2

/-! ### a def that calls itself, so many deep -/
def spN0 (m : Nat) (r : PSp → QTS) : Nat → PSp
  | 0 => fun _ _ _ _ => False
  | k + 1 => spDef m (r (spN0 m r k))
@[irreducible] def spN (m : Nat) (r : PSp → QTS) (k : Nat) : PSp := spN0 m r k
theorem spN_succ {m : Nat} {r : PSp → QTS} {k : Nat} : spN m r (k + 1) = spDef m (r (spN m r k)) := by
  unfold spN
  rfl
section
variable {P : Program} {w : World} {K : PySem.W.Frag} {mg : Str → Option Value} {base : Heap} {T : List (Addr × Str)}
theorem fnok_zero {m n k : Nat} {r : PSp → QTS} {f : Addr} {fd : FuncData} {ps : List Str} : FnOk P w K mg base (L2N.CX P w) k f fd ps (spOf K T n (spN m r 0)) := by
  unfold spN
  exact ⟨fun vs H Q E h => by obtain ⟨_, _, _, _, _, _, _, h, _⟩ := h; exact h.elim, fun A outer s H args us vs Q E _ _ _ _ h => by obtain ⟨_, _, _, _, _, _, _, h, _⟩ := h; exact h.elim⟩
theorem fn_rec {n m L0 : Nat} {r : PSp → QTS} {x : Str} {st : Stmt} {f : Addr} {fd : FuncData} {ps : List Str} (hm : mg x = some (.ref f)) (F : Fun K x x st f fd) (hb : Binds K fd ps []) (hn : ps.length = n) (hp : ps = (defArgs st).args.map (·.arg))
    (mk : ∀ k sp, L0 ≤ k → Fn P w K mg base T k x st n sp → FnOk P w K mg base (L2N.CX P w) (k + 1) f fd ps (spOf K T n (spDef m (r sp)))) : ∀ b, Fn P w K mg base T (L0 + b) x st n (spN m r b)
  | 0 => fn_mk hm F hb hn hp fnok_zero
  | b + 1 => by
    rw [spN_succ]
    exact fn_mk hm F hb hn hp (mk (L0 + b) _ (Nat.le_add_right _ _) (fn_rec hm F hb hn hp mk b))
end
end Mp

set_option Elab.async false
set_option linter.all false
set_option maxRecDepth 100000
namespace Mp
open PySem PySem.Spec PyProof.Rows L2

/-! ### blocks, by what holds between the turns -/
theorem lcQ_go {keep : Sto → Prop} {g : Tg} {t : QTT} {q : QTE} {τ : PSt} {P : QK (List PV)} (I : Nat → List PV → Sto → Prop) {its0 : List PV} (hz : its0.length ≤ sizeLine)
    (step : ∀ i p acc S (N : PV → Sto → Prop) (M : Sto → Prop), its0[i]? = some p → I i acc S → (∀ y S2, keep S2 → I (i + 1) (acc ++ [y]) S2 → N y S2) → (∀ S2, keep S2 → I (i + 1) acc S2 → M S2) →
      ∃ τ1, g.go p τ = some τ1 ∧ t τ1 S (fun b S1 => iteB b (q τ1 S1 N X0) (M S1)) X0)
    (fin : ∀ acc S, I its0.length acc S → P acc S) : ∀ (its : List PV) (i : Nat) (acc : List PV) (S : Sto), its0.drop i = its → i ≤ its0.length → acc.length ≤ i → I i acc S → lcQ keep g t q τ P its acc S
  | [], i, acc, S, hd, hi, _, h => by
    have e : i = its0.length := by
      have : (its0.drop i).length = 0 := by rw [hd]; rfl
      rw [List.length_drop] at this
      omega
    subst e
    unfold lcQ
    exact fin acc S h
  | p :: r, i, acc, S, hd, hi, ha, h => by
    have hp : its0[i]? = some p := by
      have : (its0.drop i)[0]? = some p := by rw [hd]; rfl
      rwa [List.getElem?_drop, Nat.add_zero] at this
    have hl : i < its0.length := (List.getElem?_eq_some_iff.mp hp).1
    have hd2 : its0.drop (i + 1) = r := by
      have : (its0.drop i).drop 1 = r := by rw [hd]; rfl
      rwa [List.drop_drop] at this
    obtain ⟨τ1, e1, h1⟩ := step i p acc S (fun y S2 => acc.length < sizeLine ∧ keep S2 ∧ lcQ keep g t q τ P r (acc ++ [y]) S2) (fun S1 => keep S1 ∧ lcQ keep g t q τ P r acc S1) hp h
      (fun y S2 k h2 => ⟨by omega, k, lcQ_go I hz step fin r (i + 1) (acc ++ [y]) S2 hd2 hl (by rw [List.length_append]; simp; omega) h2⟩)
      (fun S2 k h2 => ⟨k, lcQ_go I hz step fin r (i + 1) acc S2 hd2 hl (by omega) h2⟩)
    unfold lcQ
    rw [e1]
    exact h1
theorem lcQ_inv {keep : Sto → Prop} {g : Tg} {t : QTT} {q : QTE} {τ : PSt} {P : QK (List PV)} {S : Sto} {its : List PV} (I : Nat → List PV → Sto → Prop) (hz : its.length ≤ sizeLine) (h0 : I 0 [] S)
    (step : ∀ i p acc S (N : PV → Sto → Prop) (M : Sto → Prop), its[i]? = some p → I i acc S → (∀ y S2, keep S2 → I (i + 1) (acc ++ [y]) S2 → N y S2) → (∀ S2, keep S2 → I (i + 1) acc S2 → M S2) →
      ∃ τ1, g.go p τ = some τ1 ∧ t τ1 S (fun b S1 => iteB b (q τ1 S1 N X0) (M S1)) X0)
    (fin : ∀ acc S, I its.length acc S → P acc S) : lcQ keep g t q τ P its [] S := lcQ_go I hz step fin its 0 [] S rfl (Nat.zero_le _) (Nat.zero_le _) h0
/-- a block that changes nothing -/
theorem lcQ_pure {keep : Sto → Prop} {g : Tg} {t : QTT} {q : QTE} {τ : PSt} {P : QK (List PV)} {S : Sto} {its : List PV} (f : PV → Bool) (m : PV → PV) (hz : its.length ≤ sizeLine) (kp : keep S)
    (step : ∀ p (N : PV → Sto → Prop) (M : Sto → Prop), p ∈ its → (f p = true → N (m p) S) → (f p = false → M S) → ∃ τ1, g.go p τ = some τ1 ∧ t τ1 S (fun b S1 => iteB b (q τ1 S1 N X0) (M S1)) X0)
    (fin : P ((its.filter f).map m) S) : lcQ keep g t q τ P its [] S := by
  refine lcQ_inv (fun i acc S' => S' = S ∧ acc = ((its.take i).filter f).map m) hz ⟨rfl, rfl⟩ (fun i p acc S' N M hp ⟨e1, e2⟩ hN hM => ?_) fun acc S' ⟨e1, e2⟩ => ?_
  · subst e1; subst e2
    have ht : its.take (i + 1) = its.take i ++ [p] := by rw [List.take_add_one, hp]; rfl
    refine step p N M (List.mem_of_getElem? hp) (fun hf => hN _ _ kp ⟨rfl, ?_⟩) (fun hf => hM _ kp ⟨rfl, ?_⟩)
    · rw [ht, List.filter_append, List.map_append, List.filter_cons_of_pos hf]; rfl
    · rw [ht, List.filter_append, List.filter_cons_of_neg (by rw [hf]; exact Bool.false_ne_true), List.filter_nil, List.append_nil]
  · subst e1; subst e2
    rw [List.take_length]
    exact fin
/-- a statement, then the rest: what stands between -/
theorem seq_join {A rest : QTS} {D : PEnds} {τ : PSt} {S : Sto} (J : PSt → Sto → Prop) (h1 : ∀ N : PSt → Sto → Prop, (∀ τ' S', J τ' S' → N τ' S') → A { D with nx := N } τ S) (h2 : ∀ τ' S', J τ' S' → rest D τ' S') : qSeq A rest D τ S := h1 _ h2
/-! ### loops by places -/
section
variable {keep : Sto → Prop} {g : QTG} {tb : QTS} {D : PEnds} {τ : PSt} {S : Sto}
theorem forQ_ix {its : List PV} (I : Nat → PSt → Sto → Prop) (h0 : I 0 τ S)
    (hs : ∀ i p, its[i]? = some p → ∀ τ S (N : PSt → Sto → Prop), I i τ S → (∀ τ' S', I (i + 1) τ' S' → keep S' → N τ' S') → g p τ S fun τ1 S1 => tb { D with nx := N, ct := N, bk := D.nx } τ1 S1)
    (hd : ∀ τ S, I its.length τ S → D.nx τ S) : forQ keep g tb D its τ S := by
  refine forQ_at (fun r τ S => ∃ i, r = its.drop i ∧ i ≤ its.length ∧ I i τ S) ⟨0, rfl, Nat.zero_le _, h0⟩ (fun p r τ S N ⟨i, hr, hi, h⟩ hN => ?_) fun τ S ⟨i, hr, hi, h⟩ => ?_
  · have hl : i < its.length := by
      have : (its.drop i).length = r.length + 1 := by rw [← hr]; rfl
      rw [List.length_drop] at this
      omega
    rw [List.drop_eq_getElem_cons hl] at hr
    injection hr with e1 e2
    refine hs i p (by rw [e1]; simp [hl]) τ S N h fun τ' S' h' k => hN τ' S' ⟨i + 1, e2, hl, h'⟩ k
  · have e : i = its.length := by
      have : (its.drop i).length = 0 := by rw [← hr]; rfl
      rw [List.length_drop] at this
      omega
    subst e
    exact hd τ S h
theorem forQ_join {its : List PV} (J : PSt → Sto → Prop) (h1 : ∀ N : PSt → Sto → Prop, (∀ τ' S', J τ' S' → N τ' S') → forQ keep g tb { D with nx := N } its τ S) (h2 : ∀ τ' S', J τ' S' → D.nx τ' S') : forQ keep g tb D its τ S := h1 D.nx h2
theorem rangeP_at {n i : Nat} {p : PV} (h : (rangeP 0 n)[i]? = some p) : p = .int i ∧ i < n := by
  have hi : i < n := by
    have := (List.getElem?_eq_some_iff.mp h).1
    rwa [rangeP_length] at this
  simp [rangeP, hi] at h
  exact ⟨h.symm, hi⟩
theorem forQ_range {n : Nat} (I : Nat → PSt → Sto → Prop) (h0 : I 0 τ S)
    (hs : ∀ i : Nat, i < n → ∀ τ S (N : PSt → Sto → Prop), I i τ S → (∀ τ' S', I (i + 1) τ' S' → keep S' → N τ' S') → g (.int i) τ S fun τ1 S1 => tb { D with nx := N, ct := N, bk := D.nx } τ1 S1)
    (hd : ∀ τ S, I n τ S → D.nx τ S) : forQ keep g tb D (rangeP 0 n) τ S :=
  forQ_ix I h0 (fun i p hp τ S N h hN => by
    obtain ⟨e, hi⟩ := rangeP_at hp
    subst e
    exact hs i hi τ S N h hN) fun τ S h => hd τ S (by rwa [rangeP_length] at h)
end
/-! ### stores, once more -/
theorem put_put {S : Sto} {a : Addr} {o o' : Ob} : put (put S a o) a o' = put S a o' := by
  funext b
  simp only [put_apply]
  split <;> rfl
theorem Bx.put {S : Sto} {b c : Addr} {o : Ob} (h : Bx S b) (n : b ≠ c) : Bx (put S c o) b := let ⟨x, y, e, r⟩ := h; ⟨x, y, by rw [put_ne n]; exact e, r⟩
theorem Ext.at {b p : Addr} {S S' : Sto} {o : Ob} (x : Ext b S S') (n : p ≠ b) (h : S p = some o) : S' p = some o := x p o n h
theorem rangeP_len {n : Nat} (h : n ≤ 1000) : (rangeP 0 n).length ≤ sizeLine := by rw [rangeP_length]; exact le_line h
theorem Ext.wr {b p : Addr} {S S' : Sto} {o : Ob} (x : Ext b S S') (n : S p = none) : Ext b S (Mp.put S' p o) := fun a q ha h => by
  rw [put_ne (new_ne h n)]
  exact x a q ha h
theorem lt_line {n : Nat} (h : n < 1000) : n < sizeLine := Nat.lt_of_lt_of_le h (le_line (Nat.le_refl _))
theorem Sub.none {p : Addr} {S S' : Sto} (x : Sub S S') (h : S' p = none) : S p = none := by
  cases z : S p with
  | none => rfl
  | some o => rw [x p o z] at h; cases h
theorem Ext.none {b p : Addr} {S S' : Sto} (x : Ext b S S') (n : p ≠ b) (h : S' p = none) : S p = none := by
  cases z : S p with
  | none => rfl
  | some o => rw [x p o n z] at h; cases h
/-! ### what may be sorted -/
theorem sortC_str {os : List (List Nat)} (h : os.length ≤ sizeLine) : sortC (os.map PV.str) := by
  refine ⟨fun x hx => ?_, fun d hd d' hd' => ?_, Or.inr (fun d hd => ?_), (by rw [List.length_map]; exact h)⟩
  · obtain ⟨o, _, rfl⟩ := List.mem_map.mp hx
    exact ⟨rfl, (by rw [dOf, PyData.depth]; decide)⟩
  · obtain ⟨x, hx, rfl⟩ := List.mem_map.mp hd
    obtain ⟨o, _, rfl⟩ := List.mem_map.mp hx
    obtain ⟨y, hy, rfl⟩ := List.mem_map.mp hd'
    obtain ⟨u, _, rfl⟩ := List.mem_map.mp hy
    rfl
  · obtain ⟨x, hx, rfl⟩ := List.mem_map.mp hd
    obtain ⟨o, _, rfl⟩ := List.mem_map.mp hx
    exact ⟨fun e => (nomatch e), fun _ e => (nomatch e)⟩
/-- every item through a word -/
theorem lcQ_map {keep : Sto → Prop} {g : Tg} {q : QTE} {τ : PSt} {P : QK (List PV)} {S : Sto} {its : List PV} (m : PV → PV) (hz : its.length ≤ sizeLine) (kp : keep S)
    (step : ∀ p (N : PV → Sto → Prop), p ∈ its → N (m p) S → ∃ τ1, g.go p τ = some τ1 ∧ q τ1 S N X0) (fin : P (its.map m) S) : lcQ keep g qYes q τ P its [] S :=
  lcQ_pure (fun _ => true) m hz kp (fun p N M hp h1 _ => step p N hp (h1 rfl)) (by rw [List.filter_eq_self.mpr fun _ _ => rfl]; exact fin)
/-! ### places -/
theorem ixN_of {n : Nat} {i : Int} (h0 : 0 ≤ i) (h1 : i < n) : ixN n i = some i.toNat := by
  unfold ixN
  rw [if_pos h0, if_pos h1]
theorem atI_of {α : Type} {xs : List α} {i : Int} {x : α} (h0 : 0 ≤ i) (h : xs[i.toNat]? = some x) : atI xs i = some x := by
  have hl := (List.getElem?_eq_some_iff.mp h).1
  unfold atI
  rw [ixN_of h0 (by omega)]
  exact h
theorem atI_0 {α : Type} {x : α} {xs : List α} : atI (x :: xs) 0 = some x := atI_of (by decide) rfl
theorem atI_1 {α : Type} {x y : α} {xs : List α} : atI (x :: y :: xs) 1 = some y := atI_of (by decide) rfl
theorem cut_to {α : Type} {xs : List α} {h : Int} (h0 : 0 ≤ h) : cut xs none (some h) = xs.take h.toNat := by
  have e : HT.sIx xs.length xs.length (some h) = min h.toNat xs.length := by
    show (if h < 0 then _ else min h.toNat xs.length) = _
    rw [if_neg (by omega)]
  unfold cut
  rw [e, HT.sIx_none, List.drop_zero, Nat.sub_zero]
  rcases Nat.le_total h.toNat xs.length with g | g
  · rw [Nat.min_eq_left g]
  · rw [Nat.min_eq_right g, List.take_of_length_le (Nat.le_refl _), List.take_of_length_le g]
theorem cut_nat {α : Type} {xs : List α} {n : Nat} : cut xs none (some (n : Int)) = xs.take n := by
  rw [cut_to (by omega), Int.toNat_natCast]
theorem cut_from {α : Type} {xs : List α} {h : Int} (h0 : 0 ≤ h) : cut xs (some h) none = xs.drop h.toNat := by
  have e : HT.sIx xs.length 0 (some h) = min h.toNat xs.length := by
    show (if h < 0 then _ else min h.toNat xs.length) = _
    rw [if_neg (by omega)]
  unfold cut
  rw [e, HT.sIx_none]
  rcases Nat.le_total h.toNat xs.length with g | g
  · rw [Nat.min_eq_left g, List.take_of_length_le (by rw [List.length_drop]; exact Nat.le_refl _)]
  · rw [Nat.min_eq_right g, List.drop_eq_nil_of_le (Nat.le_refl _), List.drop_eq_nil_of_le g, List.take_nil]
end Mp

set_option Elab.async false
set_option linter.all false
set_option maxRecDepth 100000
set_option maxHeartbeats 2000000
namespace Mp
open PySem PySem.Spec PySem.W PySem.Calls PyProof.Rows PySem.HandSPX

/-! ### an own exception: super().__init__(text), then one field -/
structure XPos where
  (p1 p2 q1 q2 q3 q4 q5 q6 q7 q8 q9 q10 : Pos)
  j : Nat
def xArgs (fld : Str) (z : XPos) : Arguments := { posonlyargs := [], args := [{ arg := "self", annotation := none, pos := z.p1 }, { arg := fld, annotation := none, pos := z.p2 }], vararg := none, kwonlyargs := [], kw_defaults := [], kwarg := none, defaults := [] }
def xBody (fld msg : Str) (z : XPos) : List Stmt :=
  [.Expr (.Call (.Attribute (.Call (.Name "super" z.q1) [] [] z.q2) "__init__" z.q3) [.Constant (.str msg) z.j z.q4] [] z.q5) z.q6, .Assign [.Attribute (.Name "self" z.q7) fld z.q8] (.Name fld z.q9) z.q10]
def xScope (fld : Str) : Scope := { kind := .function, names := [("self", .local), (fld, .local), ("__class__", .free), ("super", .globalImplicit)], isGenerator := false, isCoroutine := false, more := [] }
structure OwnTxt (prog : Program) (K : Frag) (mg : Str → Option Value) (C fI : Addr) (fld : Str) : Prop where
  cls : ∃ nm q N bs bm sn sub ab col dd k0 k1 k2 k3 k5, K.lookup C = some (excClassObj nm q C N bs bm true sn sub ab col dd k0 k1 k2 k3 k5 "ValueError.__new__") ∧ refsVE bm = true
  sa : findIn K (.ref C) "__setattr__" = some (some (.builtin "object.__setattr__"))
  noN : findIn K (.ref C) fld = some none
  iC : findIn K (.ref C) "__init__" = some (some (.ref fI))
  tC : typeIn K (.ref fI) = some (.type "function")
  kC : keepIn K (.ref C) = true
  exC : subIn K (.ref C) (.type "BaseException") = some true
  tyC : typeIn K (.ref C) = some (.type "type")
  sup : ks_superIn K C C "__init__" = some (some (.builtin "ValueError.__init__"))
  subB : subIn K (.ref C) (.type "ValueError") = some true
  mroC : mroIn K C (.ref C) = some true
  stat : nsIn K cStatics "thirdparty.any" = some none
  fn : ∃ (oc doc pm ct ccl cl : Value) (od cdd cld an : Option Addr) (osl ccs csl : Array (Option Value)) (cda cc : Addr) (vs : Array Value) (file qual msg : Str) (tf : Tok) (z : XPos),
    (z.q3.endLine == z.q5.line) = true ∧ K.lookup fI = some ⟨oc, od, .func (ksFn "__init__" qual (xArgs fld z) (xBody fld msg z) (xScope fld) .none .none doc pm an (.ref cda) ct cc), osl⟩ ∧ codeIn K (.ref cda) qual = true ∧
    K.lookup cda = some ⟨ccl, cdd, .fields vs, ccs⟩ ∧ vs[2]? = some (.str file tf) ∧ ((prog.main.file : Str) == file) = true ∧ K.lookup cc = some ⟨cl, cld, .cell (some (.ref C)), csl⟩
/-- what __init__ leaves of a fresh exception at x -/
structure InitEnd (h h' : Heap) (x C dx : Addr) (fld : Str) (v : Value) : Prop where
  keep : ∀ b o, b ≠ x → h.get? b = some o → h'.get? b = some o
  obj : ∃ t1, h'.get? x = some { cls := .ref C, dict := some dx, data := .fields #[.ref t1, .none, .none, .none, .bool false, .none] }
  dbig : h.objs.size ≤ dx
  dne : dx ≠ x
  ns : h'.Ns1 dx (fun y => if y = fld then some v else none)
theorem at_mcall {M : Model} {A : Around} {E : Value → Shared → Prop} {s : Shared} {c : Code} {env : Env} {o : Expr} {name : Str} {apos pos : Pos} {args : List Expr} {Q : Value → Shared → Prop} (hline : (apos.endLine == pos.line) = true)
    (hfew : methodCallForm (args.length + ([] : List Keyword).length) (backTo pos (starEach args env)) (backToKw pos (keywordEach [] env)) = true)
    (h : _root_.PySem.wpAt M A c (attributeBase o name env (eval o env)) (fun ov s₁ => wpAny M A (calleeOf true o env ov name) (fun fx s₂ => wpAny M A (callWith pos fx.1 fx.2 (backTo pos (starEach args env)) []) Q E s₂) E s₁) E s) :
    _root_.PySem.wpAt M A c (eval (.Call (.Attribute o name apos) args [] pos) env) Q E s := by
  rw [arm_eval_Call]
  refine _root_.PySem.wpAt_bind (ks_wpAt_mono h (fun ov s₁ h₁ => _root_.PySem.wpAt_of_wpAny (wpAny_bind (wpAny_standAt ?_))) fun _ _ x => x)
  have hpos : methodCallPos true o env apos pos = pure pos := by unfold methodCallPos; simp [hline]
  unfold methodCall
  rw [hfew]
  refine wpAny_bind (wpAny_holding (wpAny_mono h₁ (fun fx s₂ h₂ => ?_) fun _ _ x => x))
  exact wpAny_bind (wpAny_of_eq hpos h₂)
theorem call_mw {prog : Program} {w : World} {A : Around} {E : Value → Shared → Prop} {h : Heap} {g : Array GenState} {d : Drawn} {t : Nat} {os : OsState} {nm q : Str} {C N : Addr} {bs bm : List Value} {hdct : Bool} {sn : List Str} {sub : List Value} {ab : Bool} {col : Option Bool} {dd : Option Addr} {k0 k1 k2 k3 k5 : Option Value}
    {u e t0 : Addr} {rest : List Value} {Q : Value → Shared → Prop} (hC : h.get? C = some (excClassObj nm q C N bs bm hdct sn sub ab col dd k0 k1 k2 k3 k5 "ValueError.__new__")) (he : h.get? e = some (excO C t0)) (hu : h.get? u = some (kxs_mw "ValueError.__init__" e)) (hrest : rest.length ≤ sizeLine)
    (hq : ∀ h' t1, (∀ b o, b ≠ e → h.get? b = some o → h'.get? b = some o) → h'.get? e = some (excO C t1) → Q .none ⟨h', g, d, t, os⟩) :
    wpAny (model prog w) A (call (.ref u) rest) Q E ⟨h, g, d, t, os⟩ := by
  refine wpAny_call (codeAny_of_tree ?_)
  show wpAny _ A.in1 (callAny (.ref u) ⟨rest, []⟩) _ _ _
  simp only [callAny]
  refine wpAny_bind (wpAny_load hu ?_)
  simp only [kxs_mw, show (Value.type "method-wrapper" == Value.type "method" || Value.type "method-wrapper" == Value.type "builtin_function_or_method" || Value.type "method-wrapper" == Value.type "method-wrapper") = true by decide, if_true]
  refine W.KFB.if_so (by decide) ?_
  refine wpAny_bind (check_bound_init F.excBase_ValueError.toExcCallFacts hC he rfl ?_)
  refine wpAny_bind (wpAny_pure (wpAny_pure ?_))
  refine ⟨Code.quiet_builtin _ (by decide +kernel), codeAny_builtin F.excBase_ValueError.initEntry ?_⟩
  rw [Around.under_plainId F.excBase_ValueError.init.plain _]
  wp_walk
  refine hq _ h.objs.size (fun b o hb ho => ?_) ?_
  · rw [Heap.get?_update_other _ _ (Ne.symm hb)]
    exact Heap.get?_push_of_some _ ho
  · rw [Heap.get?_update_self _ (Heap.get?_push_of_some _ he) rfl]
    rfl
section
variable {prog : Program} {w : World} {A : Around} {E : Value → Shared → Prop} {R : Result → Shared → Prop} {s : Shared} {K : Frag} {mg mb : Str → Option Value} {C fI : Addr} {fld : Str}
theorem own_init (T : OwnTxt prog K mg C fI fld) {x t0 : Addr} {v : Value} (X : K.In s.heap) (G : s.heap.Ns mainGlobals mg) (B : s.heap.Ns builtinsNs mb) (hs : mg "super" = none) (hb : mb "super" = some (.type "super")) (htop : (prog.main.scope.names.lookup ("super" : Str)).isSome = false)
    (hfl : fld = "at" ∨ fld = "value") (hlim : s.heap.NoLimit) (hx : s.heap.get? x = some (excO C t0)) (hxC : x ≠ C) (hnx : K.lookup x = none) (hroom : A.depth < recursionLimit)
    (hq : ∀ h' tk dx, InitEnd s.heap h' x C dx fld v → R (.ok (.ret .none)) { s with heap := h', toks := tk }) :
    codeAny (model prog w) A (.call (.ref fI) ⟨[.ref x, v], []⟩) R s := by
  obtain ⟨oc, doc, pm, ct, ccl, cl, od, cdd, cld, an, osl, ccs, csl, cda, cc, vs, file, qual, msg, tf, z, hline, ho, hcd, hco, hvs, hfile, hcell⟩ := T.fn
  obtain ⟨nm, q, N, bs, bm, sn, sub, ab, col, dd, k0, k1, k2, k3, k5, hC, hbm⟩ := T.cls
  have hcl : clsIn K C = some { name := nm, bases := bs, mro := .ref C :: bm, ns := N, qualname := q, hasDict := true, slotNames := sn, subclasses := sub, abstract := ab, collection := col, hasDel := false } := by unfold clsIn; rw [hC] <;> rfl
  have hbind : ∀ (doc pm : Value) (an : Option Addr), BindsTo s (ksFn "__init__" qual (xArgs fld z) (xBody fld msg z) (xScope fld) .none .none doc pm an (.ref cda) ct cc) ⟨[.ref x, v], []⟩ [("self", .ref x), (fld, v)] := fun doc pm an => by
    rcases hfl with rfl | rfl <;> exact BindsTo.of_eq (by first | rfl | with_unfolding_all rfl)
  have hcells : ∀ y ∈ (xScope fld).names, y.2 ≠ .cell := by rcases hfl with rfl | rfl <;> decide +kernel
  have hlocs : ∀ y ∈ ([("self", .ref x), (fld, v)] : List (Str × Value)), (xScope fld).names.lookup y.1 = some .local := by
    rcases hfl with rfl | rfl <;> (intro y hy; simp only [List.mem_cons, List.not_mem_nil, or_false] at hy; rcases hy with rfl | rfl <;> rfl)
  refine ks_codeAny_call_defAt (fd := ksFn "__init__" qual (xArgs fld z) (xBody fld msg z) (xScope fld) .none .none doc pm an (.ref cda) ct cc) (body := xBody fld msg z) (binds := [("self", .ref x), (fld, v)]) hroom (X _ _ ho) rfl hlim (codeRec_of X hcd) rfl
    (hbind doc pm an) hcells hlocs (fun h₁ hns k₁ => ?_) rfl rfl rfl
  have X₁ : K.In h₁ := X.keeps k₁
  have hx₁ := k₁ _ _ hx
  refine ks_wpAt_execs_cons (ks_wpAt_Expr_any (at_mcall hline (by rfl) ?_))
  have hks : (ksEnv qual (xScope fld) s.heap.objs.size fI (.ref cda) cc).kindOf "super" = some .globalImplicit := by rcases hfl with rfl | rfl <;> rfl
  have hkc : (ksEnv qual (xScope fld) s.heap.objs.size fI (.ref cda) cc).kindOf "__class__" = some .free := by rcases hfl with rfl | rfl <;> rfl
  have hself : (ksEnv qual (xScope fld) s.heap.objs.size fI (.ref cda) cc).kindOf "self" = some .local := rfl
  refine ks_wpAt_super_base (env := ksEnv qual (xScope fld) s.heap.objs.size fI (.ref cda) cc) hks hkc (by decide) rfl (X₁ _ _ ho) rfl rfl rfl (X₁ _ _ hco) rfl hvs hfile htop ?_
  refine ks_loadName_global rfl hks (loadGlobal_builtin (G.keeps k₁) hs (B.keeps k₁) hb ⟨rfl, ?_⟩)
  refine wpAny_loadName_free rfl hkc rfl ⟨_, X₁ _ _ hcell, rfl⟩ ?_
  refine wpAny_loadName_local rfl hself hns (v := .ref x) (by rcases hfl with rfl | rfl <;> rfl) ?_
  refine ks_wpAny_isType_cls (X₁ _ _ hC) rfl ⟨rfl, ?_⟩
  have X1e : ({ s with heap := h₁, toks := s.toks + ([("self", .ref x), (fld, v)] : List (Str × Value)).length } : Shared) = ⟨h₁, s.gens, s.drawn, s.toks + 2, s.os⟩ := rfl
  refine ks_wpAny_call_super (X₁ _ _ hC) rfl hx₁ rfl (fun c e => nomatch e) (looks_mroIn X₁ T.mroC) (fun h₂ hso k₂ => ?_)
  have X₂ : K.In h₂ := X₁.keeps k₂
  have hx₂ := k₂ _ _ hx₁
  have hsup : alongIn K "__init__" (((Value.ref C :: bm).dropWhile (· != .ref C)).drop 1) = some (some (.builtin "ValueError.__init__")) := by
    have z := T.sup
    unfold ks_superIn at z
    rw [hcl] at z
    exact z
  have IA : InstAt h₂ x (excO C t0) C none := ⟨hx₂, rfl, rfl, trivial⟩
  show wpAny _ _ (getMethod (.ref h₁.objs.size) "__init__" _) _ _ _
  refine kxs_getMethod kxs_ValueError hso (looks_opaque X₂ T.stat) (l₀ := .ref C :: bm) ?_ rfl X₂ hsup (IA.type.andThen (looks_subIn X₂ T.subB)) hxC (by decide) ?_
  · exact fun A Q E s k q => wpAny_bind ((looks_clsIn X₂ hcl) A _ E s k (wpAny_pure q))
  have lt2 : h₂.get? h₂.objs.size = none := by
    cases z : h₂.get? h₂.objs.size with
    | none => rfl
    | some o => exact absurd (Heap.lt_size z) (Nat.lt_irrefl _)
  have k₃ : ∀ b o, h₂.get? b = some o → (h₂.push (kxs_mw "ValueError.__init__" x)).get? b = some o := fun b o e => Heap.get?_push_of_some _ e
  refine kxs_callWith (i := "ValueError.__init__") (x := x) (by rfl) (evalArgs_plain (spliced_cons (wpAny_Constant_str (pos := z.q4) (k := z.j) (spliced_nil ⟨Heap.get?_push_at rfl rfl, ?_⟩))))
  refine call_mw (k₃ _ _ (X₂ _ _ hC)) (k₃ _ _ hx₂) (Heap.get?_push_at rfl rfl) (by rw [sizeLine_eq]; exact (by decide : 1 ≤ 16777216)) fun h₄ t1 k₄ hx₄ => ?_
  have k14 : ∀ b o, b ≠ x → h₁.get? b = some o → h₄.get? b = some o := fun b o n e => k₄ b o n (k₃ _ _ (k₂ _ _ e))
  have X₄ : K.In h₄ := fun a o e => k14 a o (fun zz => by rw [zz, hnx] at e; cases e) (X₁ a o e)
  have nL : s.heap.objs.size ≠ x := Nat.ne_of_gt (Heap.lt_size hx)
  have hns₄ : h₄.Ns s.heap.objs.size (fun y => ([("self", .ref x), (fld, v)] : List (Str × Value)).reverse.lookup y) := by
    obtain ⟨oL, es, ep, hL, r⟩ := hns
    exact ⟨oL, es, ep, k14 _ _ nL hL, r⟩
  show _root_.PySem.wpAt _ _ _ (execs _ _) _ _ _
  refine _root_.PySem.wpAt_of_wpAny (wpAny_execs_cons (plainObj_wpAny_Assign_Attribute ?_))
  refine wpAny_Name (wpAny_loadName_local rfl (by rcases hfl with rfl | rfl <;> rfl) hns₄ (v := v) (by rcases hfl with rfl | rfl <;> rfl) ?_) (by rcases hfl with rfl | rfl <;> decide)
  refine wpAny_Name (wpAny_loadName_local rfl hself hns₄ (v := .ref x) (by rcases hfl with rfl | rfl <;> rfl) ?_) (by decide)
  refine set_plain X₄ (ox := excO C t1) (od := none) ⟨hx₄, rfl, rfl, trivial⟩ T.sa ?_
  refine exc_osa X₄ hx₄ hcl (show refsVE (.ref C :: bm) = true from hbm) rfl T.noN (fun h₅ tk₅ dx k₅ dn dne hx₅ hn₅ => ?_)
  refine wpAny_execs_nil (hq h₅ tk₅ dx ⟨fun b o n e => k₅ b o n (k14 b o n (k₁ b o e)), ⟨t1, hx₅⟩, ?_, dne, hn₅⟩)
  have z := hns₄.lt
  exact Nat.le_of_lt (Nat.lt_of_lt_of_le z dn)
end
end Mp

set_option Elab.async false
set_option linter.all false
set_option maxRecDepth 100000
set_option maxHeartbeats 2000000
namespace Mp
open PySem PySem.Spec PyProof.Rows PySem.HandSPX L2

/-! ### an own exception, made -/
structure OwnMade (h h' : Heap) (e C d : Addr) (fld : Str) (v : Value) : Prop where
  keep : ∀ b o, h.get? b = some o → h'.get? b = some o
  new : h.objs.size ≤ e
  obj : ∃ oe vs, h'.get? e = some oe ∧ oe.cls = .ref C ∧ oe.dict = some d ∧ oe.data = .fields vs ∧ vs[1]? = some .none ∧ vs[2]? = some .none
  dbig : h.objs.size ≤ d
  dne : d ≠ e
  ns : h'.Ns1 d (fun y => if y = fld then some v else none)
section
variable {prog : Program} {w : World} {A : Around} {E : Value → Shared → Prop} {R : Result → Shared → Prop} {s : Shared} {K : PySem.W.Frag} {mg mb : Str → Option Value} {C fI : Addr} {fld : Str}
theorem own_made (T : OwnTxt prog K mg C fI fld) {v : Value} (X : K.In s.heap) (G : s.heap.Ns mainGlobals mg) (B : s.heap.Ns builtinsNs mb) (hs : mg "super" = none) (hb : mb "super" = some (.type "super")) (htop : (prog.main.scope.names.lookup ("super" : Str)).isSome = false)
    (hfl : fld = "at" ∨ fld = "value") (hlim : s.heap.NoLimit) (hroom : A.depth + 1 < recursionLimit)
    (hq : ∀ h' tk e d, OwnMade s.heap h' e C d fld v → R (.ok (.ret (.ref e))) { s with heap := h', toks := tk }) :
    codeAny (model prog w) A (.call (.ref C) ⟨[v], []⟩) R s := by
  obtain ⟨nm, q, N, bs, bm, sn, sub, ab, col, dd, k0, k1, k2, k3, k5, hC, hbm⟩ := T.cls
  obtain ⟨hp, g, dr, tk, os⟩ := s
  have k : ∀ b o, hp.get? b = some o → ((hp.push (PySem.W.kdv_tup [v])).push (excO C hp.objs.size)).get? b = some o := fun b o e => Heap.get?_push_of_some _ (Heap.get?_push_of_some _ e)
  have hget : ((hp.push (PySem.W.kdv_tup [v])).push (excO C hp.objs.size)).get? (hp.objs.size + 1) = some (excO C hp.objs.size) := by heap_get
  have hnx : K.lookup (hp.objs.size + 1) = none := by
    cases e : K.lookup (hp.objs.size + 1) with
    | none => rfl
    | some o =>
      have z : hp.get? (hp.objs.size + 1) = some o := X _ _ e
      exact absurd (Nat.lt_of_succ_lt (Heap.lt_size z)) (Nat.lt_irrefl _)
  have hxC : hp.objs.size + 1 ≠ C := fun z => by
    have y : hp.get? C = some _ := X _ _ hC
    rw [← z] at y
    exact absurd (Nat.lt_of_succ_lt (Heap.lt_size y)) (Nat.lt_irrefl _)
  refine call_own F.excBase_ValueError (fun Y => refsVE_contains Y bm hbm) (X _ _ hC) (PySem.W.looks_findIn X T.iC) (fun self => PySem.W.bind_fn X self T.tC) (by rw [sizeLine_eq]; exact (by decide : 1 ≤ 16777216)) ?_
  refine own_init (s := ⟨(hp.push (PySem.W.kdv_tup [v])).push (excO C hp.objs.size), g, dr, tk, os⟩) T (X.keeps k) (G.keeps k) (B.keeps k) hs hb htop hfl (hlim.keeps k) hget hxC hnx ?_ fun h' tk' dx ⟨k', ⟨t1, hx⟩, dn, dne, hns⟩ => ?_
  · show A.depth + 1 < recursionLimit
    exact hroom
  · have old : ∀ b o, hp.get? b = some o → h'.get? b = some o := fun b o e => k' b o (Nat.ne_of_lt (Nat.lt_succ_of_lt (Heap.lt_size e))) (k b o e)
    have z : hp.objs.size + 1 + 1 ≤ dx := by
      first
        | (simpa only [Heap.size_push] using dn)
        | exact dn
        | (have q := dn; rw [Heap.size_push, Heap.size_push] at q; exact q)
    exact ⟨rfl, hq h' tk' (hp.objs.size + 1) dx ⟨old, Nat.le_succ _, ⟨_, _, hx, rfl, rfl, rfl, rfl, rfl⟩, Nat.le_trans (Nat.le_trans (Nat.le_succ _) (Nat.le_succ _)) z, dne, hns⟩⟩
end
theorem relO_one {fld : Str} {v : V} {v' : Value} (r : RelV v v') (f : Str) : RelO (List.lookup f [(fld, v)]) (if f = fld then some v' else none) := by
  by_cases hw : f = fld
  · subst hw
    rw [if_pos rfl]
    have q : List.lookup f [(f, v)] = some v := by simp [List.lookup]
    rw [q]
    exact r
  · rw [if_neg hw]
    have qw : (f == fld) = false := by simpa using hw
    have q2 : List.lookup f [(fld, v)] = none := by simp [List.lookup, qw]
    rw [q2]
    trivial
section
variable {X : Cx} {C fI : Addr} {fld : Str}
/-- Refused(e) -/
def tMkOwn (C : Addr) (fld : Str) (ta : TA) : L2.St → Hp → XK → Prop := fun σ H Q => ta σ H fun vs H1 => ∃ v, vs = [v] ∧ ∀ d, H1 d = none → Q (.ref C) (some d) (upd H1 d (.xd [(fld, v)]))
theorem pmk_own1 {a : Expr} {ta : TA} {x : Str} {p pos : Pos} {k : Nat} (T : OwnTxt X.prog X.K X.mg C fI fld) (hfl : fld = "at" ∨ fld = "value") (gC : X.mg x = some (.ref C)) (hs : X.mg "super" = none) (htop : (X.prog.main.scope.names.lookup ("super" : Str)).isSome = false) (hr : Room k X.A) (ha : PA X [a] ta) (hg : Gl X x)
    (hdb : (x == ("__debug__" : Str)) = false := by decide) (he : starEach (a :: []) X.env = (false, eval a X.env) :: starEach [] X.env := by rfl) (hpl : (backTo pos (starEach [] X.env)).any (·.1) = false := by rfl) :
    L2N.PMk X (.Call (.Name x p) [a] [] pos) (tMkOwn C fld ta) := by
  intro pins s σ H Q I h
  refine wpAny_Call_Name_kw (ld_glob I hg gC ?_ hdb)
  refine PySem.W.callWith_K (h₀ := X.base) I.ok.mod.kin T.kC (thn (ha.run pos pins s σ H _ I h) fun us s1 hh => ?_) he hpl
  obtain ⟨vs, H1, I1, r1, v, ev, q1⟩ := hh
  subst ev
  refine ⟨I1.kIn, ?_⟩
  cases r1 with
  | cons rv rn =>
    rename_i v' us'
    cases rn
    show wpAny _ _ (call (.ref C) [v']) _ _ _
    have hlim := I1.nolimit
    obtain ⟨mb, b1, b2⟩ := I1.mod.blt
    have G := I1.mod.glob.keeps I1.bk
    have B := b1.keeps I1.bk
    have hsup : mb "super" = some (.type "super") := (b2 _ (by decide)).trans (by decide +kernel)
    obtain ⟨hp, g, dr, tk, os⟩ := s1
    refine wpAny_call (own_made T I1.kIn G B hs hsup htop hfl hlim (by have := hr.dp; omega) fun h' tk' e d M => ?_)
    show L2N.MkP X pins σ Q (.ref e) ⟨h', g, dr, tk', os⟩
    obtain ⟨oe, fv, hoe, hc, hd, hdat, h1, h2⟩ := M.obj
    have hz : L2N.Zn (.ref C) (some d) oe := by first | exact ⟨hc, hd⟩ | exact ⟨hc, hd, fun vs q => by rw [hdat] at q; cases q; exact h2⟩
    have hns := M.ns
    obtain ⟨G', g1, g2⟩ := restrict h' fun b => decide (b ≠ e)
    have gk : ∀ b, b ≠ e → G'.get? b = h'.get? b := fun b hb => g1 b (decide_eq_true hb)
    have ge : G'.get? e = none := g2 e (by simp)
    have old : ∀ b o, hp.get? b = some o → G'.get? b = some o := fun b o q => (gk b (Nat.ne_of_lt (Nat.lt_of_lt_of_le (Heap.lt_size q) M.new))).trans (M.keep b o q)
    have ob : ObjOk X.prog X.w (upd H1 d (.xd [(fld, v)])) G' d (.xd [(fld, v)]) := ⟨_, hns.at (fun o q => (gk d M.dne).trans q), fun f => relO_one rv f⟩
    have J : L2.Inv X pins σ (upd H1 d (.xd [(fld, v)])) ⟨G', g, dr, tk', os⟩ := I1.laid (t' := tk') old M.dbig ob
    refine ⟨e, oe, fv, ⟨G', g, dr, tk', os⟩, _, .ref C, some d, rfl, J, fun b o q => ?_, ge, hoe, hz, hdat, h1, ?_, rfl, I1.bare, raises_own T.exC T.tyC, q1 d (I1.hok.fresh M.dbig)⟩
    · by_cases hb : b = e
      · have q' : G'.get? b = some o := q
        rw [hb, ge] at q'; cases q'
      · exact (gk b hb).symm.trans q
    · rw [upd_ne (Ne.symm M.dne)]
      exact I1.hok.fresh M.new
end

/-! ### raise, try, over trees -/
section
variable {X : Cx} {T : List (Addr × Str)} {W : WX} {e a b tg : Expr} {es : List Expr} {K : PySem.W.Frag} {S S' S0 S1 : Sto} {H H' H0 H1 : Hp} {σ : L2.St} {τ : PSt} {PD : PEnds} {D : Ends} {pos p : Pos} {q : QTA} {C fI : Addr} {fld : Str}
/-- raise N(e) -/
def qRaise (n fld : Str) (q : QTE) : QTS := fun D τ S => q τ S (fun x S1 => D.ex ⟨n, [(fld, x)]⟩ τ S1) (exAt D τ)
theorem qs_raise {q : QTE} {x : Str} {pos2 : Pos} {k : Nat} (hc : X.calm = true) (Tx : OwnTxt X.prog X.K X.mg C fI fld) (hn : PySem.W.nsIn X.K mainGlobals x = some (some (.ref C))) (hfl : fld = "at" ∨ fld = "value") (gC : X.mg x = some (.ref C)) (hs : X.mg "super" = none) (htop : (X.prog.main.scope.names.lookup ("super" : Str)).isSome = false) (hr : Room k X.A) (tk : L2N.Takes X W) (ha : QE X T W a q) (hg : Gl X x := by rfl)
    (hdb : (x == ("__debug__" : Str)) = false := by decide) (he : starEach (a :: []) X.env = (false, eval a X.env) :: starEach [] X.env := by rfl) (hpl : (backTo pos (starEach [] X.env)).any (·.1) = false := by rfl) :
    QS X T W (.Raise (some (.Call (.Name x p) [a] [] pos)) none pos2) (qRaise x fld q) :=
  ps_imp (L2N.ps_raise hc tk (pmk_own1 Tx hfl gC hs htop hr (pa_cons ha pa_nil he) hg hdb he hpl)) fun D σ H ⟨τ, S, PD, r, rep, hq, c⟩ => by
    refine con_up (RR := Rl X.K) r rep c hq fun v x1 H1 S1 fr rs rl rp hp => ?_
    refine ⟨v, rfl, fun d hd => ?_⟩
    refine c.ex (.ref C) (some d) ⟨x, [(fld, x1)]⟩ σ τ _ S1 (fr.trans (Fr.hid hd)) (rs.mono (le_new hd)) ⟨hn, .inr ⟨d, [(fld, v)], rfl, upd_same, rfl, Rls.one (Rl.mono (le_new hd) _ _ rl)⟩⟩ (rp.hid hd) hp
end
end Mp

set_option Elab.async false
set_option linter.all false
set_option maxRecDepth 100000
set_option maxHeartbeats 2000000
namespace Mp
open PySem PySem.Spec PyProof.Rows PySem.HandSPX L2
section
variable {X : Cx} {T : List (Addr × Str)} {W : WX} {e a b tg : Expr} {es : List Expr} {K : PySem.W.Frag} {S S' S0 S1 : Sto} {H H' H0 H1 : Hp} {σ : L2.St} {τ : PSt} {PD : PEnds} {D : Ends} {pos p : Pos} {q : QTA}
/-- which classes a clause takes -/
abbrev XTab := Str → Option Bool
def XTest (K : PySem.W.Frag) (t : XTab) (cv : Value) : Prop := ∀ n b cls, t n = some b → PySem.W.nsIn K mainGlobals n = some (some cls) → PySem.W.exmOne K cls cv = some b
/-- a table written out -/
def tabL (l : List (Str × Bool)) : XTab := fun n => l.lookup n
theorem tabL_mem {l : List (Str × Bool)} {n : Str} {b : Bool} (h : tabL l n = some b) : (n, b) ∈ l := PySem.mem_of_lookup h
theorem tabL_true {l : List (Str × Bool)} {n : Str} {names : List Str} (h : tabL l n = some true) (hl : ∀ p ∈ l, p.2 = true → p.1 ∈ names) : n ∈ names := hl _ (tabL_mem h) rfl
/-- what a suite is read under -/
def XAt (K : PySem.W.Frag) (cls : Value) (x : PX) (d : Option Addr) : Prop := PySem.W.nsIn K mainGlobals x.C = some (some cls) ∧ ((d = none ∧ x.fs = []) ∨ ∃ dd, d = some dd)
abbrev exvOf (a : Addr) (x : PX) (d : Option Addr) : PV := .exv a x.C d (x.fs.map Prod.fst) (x.fs.map Prod.snd)
abbrev noEx (D : PEnds) : PEnds := { D with ex := fun _ _ _ => False }
/-- try: .. except N as n: .. -/
def qTryAs (i : Nat) (t : XTab) (tb : QTS) (ts : Addr → PX → Option Addr → QTS) : QTS := fun D τ S =>
  tb { D with ex := fun x τ' S' => ∃ b, t x.C = some b ∧ (b = true → ∀ a d, S' a = none → ts a x d { nx := fun τ2 S2 => D.nx (τ2.set i none) S2, rt := D.rt, bk := fun τ2 S2 => D.bk (τ2.set i none) S2, ct := fun τ2 S2 => D.ct (τ2.set i none) S2 } (τ'.set i (some (exvOf a x d))) S') ∧
    (b = false → D.ex x τ' S') } τ S
/-- try: .. except N: .. -/
def qTry (t : XTab) (tb : QTS) (ts : Addr → PX → Option Addr → QTS) : QTS := fun D τ S =>
  tb { D with ex := fun x τ' S' => ∃ b, t x.C = some b ∧ (b = true → ∀ a d, S' a = none → ts a x d { nx := D.nx, rt := D.rt, bk := D.bk, ct := D.ct } τ' S') ∧ (b = false → D.ex x τ' S') } τ S
theorem pss_ex {st : List Stmt} {ι : Type} {C : ι → Prop} {t : ι → TS} (h : ∀ i, C i → PSs X st (t i)) : PSs X st (fun D σ H => ∃ i, C i ∧ t i D σ H) := ⟨fun pins s σ H D I ⟨i, hi, w⟩ => (h i hi).run pins s σ H D I w⟩
theorem exv_rl {a : Addr} {x : PX} {c : Value} {d : Option Addr} (h : XR K H c d x) : Rl K H (.ref a) (exvOf a x d) := by
  refine ⟨rfl, ?_⟩
  rcases h.2 with ⟨e1, e2⟩ | ⟨dd, gs, e1, e2, e3, r⟩
  · exact .inl ⟨e1, by rw [e2]; rfl, by rw [e2]; rfl⟩
  · exact .inr ⟨dd, gs, e1, e2, e3, r⟩
theorem xat_of {x : PX} {c : Value} {d : Option Addr} (h : XR K H c d x) : XAt K c x d := ⟨h.1, h.2.imp id fun ⟨dd, _, e, _⟩ => ⟨dd, e⟩⟩
theorem qs_tryAs {x n : Str} {cv : Value} {i : Nat} {body suite : List Stmt} {b₀ : Stmt} {np pos' : Pos} {tb : QTS} {ts : Addr → PX → Option Addr → QTS} {t : XTab}
    (hs : X.stack = X.env :: X.outer) (hf : X.env.frame = some X.env.locals) (hN : X.N.Nodup) (hc : Names X x cv) (tk : L2N.Takes X W) (ht : XTest X.K t cv)
    (hb : ∀ (W : WX) (pn : List (Addr × Obj)) (xe : Value → Shared → Prop), L2N.Takes (X.tr pn xe) W → PassesOwn (model X.prog X.w) X.A X.env xe → QSs (X.tr pn xe) T W body tb)
    (hsu : ∀ (a : Addr) (oe : Obj) (cls : Value) (d : Option Addr) (pn : List (Addr × Obj)), L2N.Zn cls d oe → (∃ vs, oe.data = .fields vs) → ∀ x : PX, XAt X.K cls x d → t x.C = some true → QSs (X.suite a ((a, oe) :: pn)) T W0 (b₀ :: suite) (ts a x d))
    (hi : X.N[i]? = some n := by rfl) (hln : X.env.kindOf n = some .local := by rfl) :
    QS X T W (.Try body [.ExceptHandler (some (.Name x np)) (some n) (b₀ :: suite) pos'] [] [] pos) (qTryAs i t tb ts) :=
  ps_imp (L2N.ps_try_as (tb := fun W => upS X.K T W tb) (ts := fun a cls d D σ H => ∃ x : PX, (XAt X.K cls x d ∧ t x.C = some true) ∧ upS X.K T W0 (ts a x d) D σ H) hs hf hN hi hln hc tk (fun W pn xe tk hp => hb W pn xe tk hp) fun a oe cls d pn hz hv => pss_ex fun x hx => hsu a oe cls d pn hz hv x hx.1 hx.2)
    fun D σ H ⟨τ, S, PD, r, rep, hq, c⟩ => by
      refine ⟨τ, S, _, r, rep, hq, ⟨c.nx, c.rt, c.bk, c.ct, fun cl d x σ' τ' H' S' fr rs xr rp hx => ?_⟩⟩
      obtain ⟨b, h1, h2, h3⟩ := hx
      refine ⟨b, ht _ _ _ h1 xr.1, fun hb a ha => ?_, fun hb => c.ex cl d x σ' τ' H' S' fr rs xr rp (h3 hb)⟩
      refine ⟨x, ⟨xat_of xr, by rw [h1, hb]⟩, τ'.set i (some (exvOf a x d)), S', _, rs.set (exv_rl xr), rp, h2 hb a d (rp.free ha), ⟨fun σ2 τ2 H2 S2 f2 r2 p2 h => c.nx _ _ H2 S2 (fr.trans f2) r2.unset p2 h, fun v p H2 S2 f2 => c.rt v p H2 S2 (fr.trans f2), fun σ2 τ2 H2 S2 f2 r2 p2 h => c.bk _ _ H2 S2 (fr.trans f2) r2.unset p2 h, fun σ2 τ2 H2 S2 f2 r2 p2 h => c.ct _ _ H2 S2 (fr.trans f2) r2.unset p2 h, fun _ _ _ _ _ _ _ _ _ _ _ z => z⟩⟩
theorem qs_try {x : Str} {cv : Value} {body suite : List Stmt} {b₀ : Stmt} {np pos' : Pos} {tb : QTS} {ts : Addr → PX → Option Addr → QTS} {t : XTab}
    (hs : X.stack = X.env :: X.outer) (hf : X.env.frame = some X.env.locals) (hc : Names X x cv) (tk : L2N.Takes X W) (ht : XTest X.K t cv)
    (hb : ∀ (W : WX) (pn : List (Addr × Obj)) (xe : Value → Shared → Prop), L2N.Takes (X.tr pn xe) W → PassesOwn (model X.prog X.w) X.A X.env xe → QSs (X.tr pn xe) T W body tb)
    (hsu : ∀ (a : Addr) (oe : Obj) (cls : Value) (d : Option Addr) (pn : List (Addr × Obj)), L2N.Zn cls d oe → (∃ vs, oe.data = .fields vs) → ∀ x : PX, XAt X.K cls x d → t x.C = some true → QSs (X.suite a ((a, oe) :: pn)) T W0 (b₀ :: suite) (ts a x d)) :
    QS X T W (.Try body [.ExceptHandler (some (.Name x np)) none (b₀ :: suite) pos'] [] [] pos) (qTry t tb ts) :=
  ps_imp (L2N.ps_try_many (tb := fun W => upS X.K T W tb) (l := [(cv, fun a cls d D σ H => ∃ x : PX, (XAt X.K cls x d ∧ t x.C = some true) ∧ upS X.K T W0 (ts a x d) D σ H)]) hs hf tk (fun W pn xe tk hp => hb W pn xe tk hp) (L2N.HdsOk.cons hc (fun a oe cls d pn hz hv => pss_ex fun x hx => hsu a oe cls d pn hz hv x hx.1 hx.2) .nil))
    fun D σ H ⟨τ, S, PD, r, rep, hq, c⟩ => by
      refine ⟨τ, S, _, r, rep, hq, ⟨c.nx, c.rt, c.bk, c.ct, fun cl d x σ' τ' H' S' fr rs xr rp hx => ?_⟩⟩
      obtain ⟨b, h1, h2, h3⟩ := hx
      refine ⟨b, ht _ _ _ h1 xr.1, fun hb a ha => ?_, fun hb => c.ex cl d x σ' τ' H' S' fr rs xr rp (h3 hb)⟩
      refine ⟨x, ⟨xat_of xr, by rw [h1, hb]⟩, τ', S', _, rs, rp, h2 hb a d (rp.free ha), ⟨fun σ2 τ2 H2 S2 f2 r2 p2 h => c.nx _ _ H2 S2 (fr.trans f2) r2 p2 h, fun v p H2 S2 f2 => c.rt v p H2 S2 (fr.trans f2), fun σ2 τ2 H2 S2 f2 r2 p2 h => c.bk _ _ H2 S2 (fr.trans f2) r2 p2 h, fun σ2 τ2 H2 S2 f2 r2 p2 h => c.ct _ _ H2 S2 (fr.trans f2) r2 p2 h, fun _ _ _ _ _ _ _ _ _ _ _ z => z⟩⟩
/-- fault.field -/
def qXf (a : Addr) (x : PX) (d : Option Addr) (f : Str) (q : QTE) : QTE := fun τ S P EP => q τ S (fun y S1 => match y with
  | .exv a' C' d' ns ps => (a' = a ∧ C' = x.C ∧ d' = d) ∧ match ns, ps with
    | [g], [v] => f = g ∧ P v S1
    | _, _ => False
  | _ => False) EP
def XFields (K : PySem.W.Frag) (names : List Str) (f : Str) : Prop := ∀ n ∈ names, ∃ C, PySem.W.nsIn K mainGlobals n = some (some (.ref C)) ∧ XfC K C ∧ PySem.W.findIn K (.ref C) f = some none
theorem q_xf {a0 : Addr} {oe : Obj} {cls : Value} {d : Option Addr} {pn : List (Addr × Obj)} {x : PX} {f : Str} {q : QTE} {names : List Str} (hz0 : L2N.Zn cls d oe) (hv : ∃ vs, oe.data = .fields vs) (hx : XAt X.K cls x d) (hn : x.C ∈ names) (hF : XFields X.K names f)
    (he : QE (X.suite a0 ((a0, oe) :: pn)) T W e q) (hb : attributeBase e f X.env (eval e X.env) = eval e X.env := by rfl) : QE (X.suite a0 ((a0, oe) :: pn)) T W (.Attribute e f pos) (qXf a0 x d f q) := by
  have hz : Zc cls d oe := by first | exact hz0 | exact hz0.zc
  obtain ⟨C, h1, h2, h3⟩ := hF _ hn
  have ec : cls = .ref C := Option.some.inj (Option.some.inj (hx.1.symm.trans h1))
  exact pe_imp (pe_xf h2 h3 hz hv he hb) fun σ H Q h => up_then (RR := Rl X.K) (RR' := Rl X.K) (qk := fun y _ S1 P _ => match y with
    | .exv a' C' d' ns ps => (a' = a0 ∧ C' = x.C ∧ d' = d) ∧ match ns, ps with
      | [g], [v] => f = g ∧ P v S1
      | _, _ => False
    | _ => False) h fun v y H1 l rl ⟨τ, S, P, EP, rs, rep, hf, k, kx⟩ => by
      cases y with
      | exv a' C' d' ns ps =>
        obtain ⟨⟨e1, e2, e3⟩, hf⟩ := hf
        subst e1; subst e3
        obtain ⟨ev, rl⟩ := rl
        match ns, ps, hf, rl with
        | [g], [pv], ⟨e4, hp⟩, rl =>
          subst e4
          rcases rl with ⟨_, z, _⟩ | ⟨dd, gs, g1, g2, g3, g4⟩
          · cases z
          · obtain ⟨u, g5, g6⟩ := g4.one_of
            match gs, g2, g3, g5 with
            | [(g, w)], g2, g3, g5 =>
              have e5 : g = f := by simpa using g3
              subst e5
              have e6 : w = u := by simpa using g5
              subst e6
              exact ⟨ev, ec, dd, _, w, g1, g2, by simp [List.lookup], k w pv H1 S Fr.refl g6 rep hp⟩
      | _ => exact hf.elim
end
end Mp

set_option Elab.async false
set_option linter.all false
set_option maxRecDepth 100000
set_option maxHeartbeats 2000000
namespace Mp
open PySem PySem.Spec PyProof.Rows PySem.HandSPX L2
section
variable {X : Cx} {T : List (Addr × Str)} {W : WX} {e a b tg : Expr} {es : List Expr} {K : PySem.W.Frag} {S S' S0 S1 : Sto} {H H' H0 H1 : Hp} {σ : L2.St} {τ : PSt} {PD : PEnds} {D : Ends} {pos p : Pos} {q : QTA}

/-! ### isinstance(fault, C), isinstance(fault, (C, ..)) -/
def rIsX (K : PySem.W.Frag) (C a : Addr) (d : Option Addr) : List V → Hp → VK → Prop := fun xs H Q => ∃ (c : V) (cv : Value) (b : Bool) (dd : Addr) (gs : List (Str × V)), xs = [.ref a, c] ∧ (∀ u, RelV c u → u = cv) ∧ PySem.W.kitOne K (.ref C) cv = some b ∧ d = some dd ∧ H dd = some (.xd gs) ∧ Q (.bl b) H
def rIsXT (K : PySem.W.Frag) (C a : Addr) (d : Option Addr) : List V → Hp → VK → Prop := fun xs H Q => ∃ (p : Addr) (cs : List V) (cvs : List Value) (b : Bool) (dd : Addr) (gs : List (Str × V)), xs = [.ref a, .ref p] ∧ SqT K H p cs ∧ (∀ us, Vals cs us → us = cvs) ∧ PySem.W.kitAny K (.ref C) cvs = some b ∧ d = some dd ∧ H dd = some (.xd gs) ∧ Q (.bl b) H
theorem inst_at {C a0 : Addr} {oe : Obj} {d : Option Addr} {pn pins : List (Addr × Obj)} {s : Shared} {dd : Addr} {gs : List (Str × V)} (hz : Zc (.ref C) d oe) (hf : ∃ vs, oe.data = .fields vs) (I : L2.Inv (X.suite a0 ((a0, oe) :: pn)) pins σ H s) (ed : d = some dd) (eh : H dd = some (.xd gs)) :
    ∃ od, PySem.W.InstAt s.heap a0 oe C (some od) := by
  obtain ⟨ha, _⟩ := I.pin (a0, oe) (List.mem_append.mpr (.inl List.mem_cons_self))
  obtain ⟨vs, hd⟩ := hf
  have hx : ObjOk X.prog X.w H s.heap dd (.xd gs) := I.hok dd _ eh
  obtain ⟨mA, hns, hr⟩ := hx
  obtain ⟨od, ho, hl⟩ := lookIn_ns hns
  exact ⟨od, ha, hz.1, by unfold PySem.W.notCls; rw [hd] <;> rfl, by rw [hz.2, ed]; exact ho⟩
theorem kitx_of_c {C x : Addr} {ox : Obj} {od : Option Obj} (c : ExcC K C) : PySem.W.KitX K (.ref x) (.ref C) (fun h => PySem.W.InstAt h x ox C od) :=
  PySem.W.kitx_exc (by obtain ⟨cd, h, _⟩ := PySem.W.any_some c.hd; rw [h]; rfl) c.hg c.hk c.hs c.ha c.hn c.ht c.hm
theorem call_isX {a0 C : Addr} {oe : Obj} {d : Option Addr} {pn : List (Addr × Obj)} (c : ExcC X.K C) (hz : Zc (.ref C) d oe) (hf : ∃ vs, oe.data = .fields vs) : CallR (X.suite a0 ((a0, oe) :: pn)) (.builtin "isinstance") (rIsX X.K C a0 d) := by
  intro pins s σ H xs us Q I r ⟨cc, cv, b, dd, gs, e1, hcv, e, ed, eh, hq⟩
  subst e1
  cases r with
  | cons rx rr =>
    cases rr with
    | cons rt rr =>
      cases rr
      cases rx
      have ec := hcv _ rt
      subst ec
      obtain ⟨od, J⟩ := inst_at hz hf I ed eh
      exact PySem.W.kia_one (kitx_of_c c) I.kIn J e (fun z => nomatch z) fun tk => ⟨.bl b, H, I.kept (t' := tk) fun _ _ z => z, rfl, hq⟩
theorem call_isXT {a0 C : Addr} {oe : Obj} {d : Option Addr} {pn : List (Addr × Obj)} (c : ExcC X.K C) (hz : Zc (.ref C) d oe) (hf : ∃ vs, oe.data = .fields vs) : CallR (X.suite a0 ((a0, oe) :: pn)) (.builtin "isinstance") (rIsXT X.K C a0 d) := by
  intro pins s σ H xs us Q I r ⟨p, cs, cvs, b, dd, gs, e1, hs, hcv, e, ed, eh, hq⟩
  subst e1
  cases r with
  | cons rx rr =>
    cases rr with
    | cons rt rr =>
      cases rr
      cases rx
      cases rt
      obtain ⟨its, rv, ht, _⟩ := I.tuple hs
      have ec := hcv _ rv
      subst ec
      obtain ⟨⟨cls, od0, dat, sl⟩, ho, hc, n, hd⟩ := ht
      simp only at hc hd
      subst hc hd
      obtain ⟨od, J⟩ := inst_at hz hf I ed eh
      exact PySem.W.kia_tup (kitx_of_c c) I.kIn J ho e (fun z => nomatch z) fun tk => ⟨.bl b, H, I.kept (t' := tk) fun _ _ z => z, rfl, hq⟩
def qIsE (t : XTab) (a : Addr) (x : PX) (d : Option Addr) (q : QTE) : QTE := fun τ S P EP => q τ S (fun y S1 => match y with
  | .exv a' C' d' (_ :: _) _ => (a' = a ∧ C' = x.C ∧ d' = d) ∧ match t C' with
    | some b => P (.bl b) S1
    | none => False
  | _ => False) EP
def XIs (K : PySem.W.Frag) (t : XTab) (c : V) : Prop := ∀ n b, t n = some b → ∃ C cv, PySem.W.nsIn K mainGlobals n = some (some (.ref C)) ∧ ExcC K C ∧ (∀ u, RelV c u → u = cv) ∧ PySem.W.kitOne K (.ref C) cv = some b
def XIsT (K : PySem.W.Frag) (t : XTab) (cs : List V) : Prop := ∀ n b, t n = some b → ∃ C cvs, PySem.W.nsIn K mainGlobals n = some (some (.ref C)) ∧ ExcC K C ∧ (∀ us, Vals cs us → us = cvs) ∧ PySem.W.kitAny K (.ref C) cvs = some b
theorem exv_dd {v : V} {a' : Addr} {C' : Str} {d : Option Addr} {n : Str} {ns : List Str} {ps : List PV} (r : Rl K H v (.exv a' C' d (n :: ns) ps)) : v = .ref a' ∧ ∃ dd gs, d = some dd ∧ H dd = some (.xd gs) := by
  obtain ⟨e, h⟩ := r
  rcases h with ⟨_, z, _⟩ | ⟨dd, gs, h1, h2, _⟩
  · cases z
  · exact ⟨e, dd, gs, h1, h2⟩
theorem q_isE {a0 : Addr} {oe : Obj} {cls : Value} {d : Option Addr} {pn : List (Addr × Obj)} {x : PX} {c : V} {t : XTab} {q : QTE} (hz0 : L2N.Zn cls d oe) (hv : ∃ vs, oe.data = .fields vs) (hx : XAt X.K cls x d) (hT : XIs X.K t c) (hg : Gl X "isinstance") (hm : X.mg "isinstance" = none)
    (hd : t x.C ≠ none) (he : QE (X.suite a0 ((a0, oe) :: pn)) T W e q) (hc : PE (X.suite a0 ((a0, oe) :: pn)) b (tC c)) (hs : starEach [e, b] X.env = (false, eval e X.env) :: starEach [b] X.env := by rfl) (hs2 : starEach [b] X.env = [(false, eval b X.env)] := by rfl)
    (hpl : (backTo pos (starEach [b] X.env)).any (·.1) = false := by rfl) :
    QE (X.suite a0 ((a0, oe) :: pn)) T W (.Call (.Name "isinstance" p) [e, b] [] pos) (qIsE t a0 x d q) := by
  have hz : Zc cls d oe := by first | exact hz0 | exact hz0.zc
  obtain ⟨bb, hb⟩ : ∃ bb, t x.C = some bb := Option.ne_none_iff_exists'.mp hd
  obtain ⟨C, cv, h1, h2, h3, h4⟩ := hT _ _ hb
  have ec : cls = .ref C := Option.some.inj (Option.some.inj (hx.1.symm.trans h1))
  subst ec
  exact pe_imp (pe_callB (call_isX h2 hz hv) hg hm (by decide +kernel) (pa_cons he (pa_cons hc pa_nil hs2) hs) (he := hs) (hpl := hpl)) fun σ H Q h => up_then (RR := Rl X.K) (RR' := Rl X.K) (qk := fun y _ S1 P _ => match y with
    | .exv a' C' d' (_ :: _) _ => (a' = a0 ∧ C' = x.C ∧ d' = d) ∧ match t C' with
      | some b => P (PV.bl b) S1
      | none => False
    | _ => False) h fun v y H1 l rl ⟨τ, S, P, EP, rs, rep, hf, k, kx⟩ => by
      match y, hf, rl with
      | .exv a' C' d' (n :: ns) ps, ⟨⟨e1, e2, e3⟩, hf2⟩, rl =>
        subst e1; subst e2; subst e3
        rw [hb] at hf2
        obtain ⟨ev, dd, gs, g1, g2⟩ := exv_dd rl
        subst ev
        exact ⟨c, cv, bb, dd, gs, rfl, h3, h4, g1, g2, k (.bl _) (.bl bb) H1 S Fr.refl rfl rep hf2⟩
theorem pac_nil : PA X [] (fun σ H Q => Q [] H) := pa_nil
theorem pac_cons {c : V} {cs : List V} (h : PE X e (tC c)) (hr : PA X es (fun σ H Q => Q cs H)) (hs : starEach (e :: es) X.env = (false, eval e X.env) :: starEach es X.env := by rfl) : PA X (e :: es) (fun σ H Q => Q (c :: cs) H) := pa_cons h hr hs
theorem q_isET {a0 : Addr} {oe : Obj} {cls : Value} {d : Option Addr} {pn : List (Addr × Obj)} {x : PX} {cs : List V} {t : XTab} {q : QTE} {k1 : Nat} {p1 : Pos} (hz0 : L2N.Zn cls d oe) (hv : ∃ vs, oe.data = .fields vs) (hx : XAt X.K cls x d) (hT : XIsT X.K t cs) (hg : Gl X "isinstance") (hm : X.mg "isinstance" = none)
    (hd : t x.C ≠ none) (hl : cs.length ≤ 1000) (he : QE (X.suite a0 ((a0, oe) :: pn)) T W e q) (hc : PA (X.suite a0 ((a0, oe) :: pn)) es (fun σ H Q => Q cs H)) (hs : starEach [e, .Tuple es k1 p1] X.env = (false, eval e X.env) :: starEach [.Tuple es k1 p1] X.env := by rfl) (hs2 : starEach [.Tuple es k1 p1] X.env = [(false, eval (.Tuple es k1 p1) X.env)] := by rfl)
    (hpl : (backTo pos (starEach [.Tuple es k1 p1] X.env)).any (·.1) = false := by rfl) :
    QE (X.suite a0 ((a0, oe) :: pn)) T W (.Call (.Name "isinstance" p) [e, .Tuple es k1 p1] [] pos) (qIsE t a0 x d q) := by
  have hz : Zc cls d oe := by first | exact hz0 | exact hz0.zc
  obtain ⟨bb, hb⟩ : ∃ bb, t x.C = some bb := Option.ne_none_iff_exists'.mp hd
  obtain ⟨C, cvs, h1, h2, h3, h4⟩ := hT _ _ hb
  have ec : cls = .ref C := Option.some.inj (Option.some.inj (hx.1.symm.trans h1))
  subst ec
  exact pe_imp (pe_callB (call_isXT h2 hz hv) hg hm (by decide +kernel) (pa_cons he (pa_cons (pe_tup hc) pa_nil hs2) hs) (he := hs) (hpl := hpl)) fun σ H Q h => up_then (RR := Rl X.K) (RR' := Rl X.K) (qk := fun y _ S1 P _ => match y with
    | .exv a' C' d' (_ :: _) _ => (a' = a0 ∧ C' = x.C ∧ d' = d) ∧ match t C' with
      | some b => P (PV.bl b) S1
      | none => False
    | _ => False) h fun v y H1 l rl ⟨τ, S, P, EP, rs, rep, hf, k, kx⟩ => by
      match y, hf, rl with
      | .exv a' C' d' (n :: ns) ps, ⟨⟨e1, e2, e3⟩, hf2⟩, rl =>
        subst e1; subst e2; subst e3
        rw [hb] at hf2
        obtain ⟨ev, dd, gs, g1, g2⟩ := exv_dd rl
        subst ev
        refine ⟨le_line hl, fun p hp => ⟨p, cs, cvs, bb, dd, gs, rfl, SqT.of upd_same, h3, h4, g1, ?_, k (.bl _) (.bl bb) _ S (Fr.hid hp) rfl (rep.hid hp) hf2⟩⟩
        rw [upd_ne (ne_of_none g2 hp)]
        exact g2
end
end Mp

set_option Elab.async false
set_option linter.all false
set_option maxRecDepth 100000
set_option maxHeartbeats 2000000
namespace Mp
open PySem PySem.Spec PyProof.Rows PySem.HandSPX L2

/-! ### what is known of own exceptions, by computing over K -/
def ownB (K : PySem.W.Frag) (C fI : Addr) (fld : Str) : Bool :=
  decide (PySem.W.findIn K (.ref C) "__setattr__" = some (some (.builtin "object.__setattr__"))) && (decide (PySem.W.findIn K (.ref C) fld = some none) && (decide (PySem.W.typeIn K (.ref fI) = some (.type "function")) && (PySem.W.keepIn K (.ref C) && (decide (PySem.W.subIn K (.ref C) (.type "BaseException") = some true) &&
  (decide (PySem.W.typeIn K (.ref C) = some (.type "type")) && (decide (PySem.W.ks_superIn K C C "__init__" = some (some (.builtin "ValueError.__init__"))) && (decide (PySem.W.subIn K (.ref C) (.type "ValueError") = some true) && (decide (PySem.W.mroIn K C (.ref C) = some true) && decide (PySem.W.nsIn K cStatics "thirdparty.any" = some none)))))))))
theorem own_mk {prog : Program} {K : PySem.W.Frag} {mg : Str → Option Value} {C fI O : Addr} {fld : Str} {nm q : Str} {N : Addr} {bs : List Value} {sn : List Str} {sub : List Value} {ab : Bool} {col : Option Bool} {dd : Option Addr} {k0 k1 k2 k3 k5 : Option Value}
    {oc doc pm ct ccl cl : Value} {od cdd cld an : Option Addr} {osl ccs csl : Array (Option Value)} {cda cc : Addr} {vs : Array Value} {file qual msg : Str} {tf : Tok} {z1 z2 y1 y2 y3 y4 y5 y6 y7 y8 y9 y10 : Pos} {j : Nat}
    (xL : K.lookup C = some (excClassObj nm q C N bs [.ref O, .type "ValueError", .type "Exception", .type "BaseException", .type "object"] true sn sub ab col dd k0 k1 k2 k3 k5 "ValueError.__new__"))
    (iC : PySem.W.findIn K (.ref C) "__init__" = some (some (.ref fI))) (hb : ownB K C fI fld = true)
    (l : K.lookup fI = some ⟨oc, od, .func (PySem.W.ksFn "__init__" qual (xArgs fld ⟨z1, z2, y1, y2, y3, y4, y5, y6, y7, y8, y9, y10, j⟩) (xBody fld msg ⟨z1, z2, y1, y2, y3, y4, y5, y6, y7, y8, y9, y10, j⟩) (xScope fld) .none .none doc pm an (.ref cda) ct cc), osl⟩)
    (hline : (y3.endLine == y5.line) = true) (hcd : PySem.W.codeIn K (.ref cda) qual = true) (l2 : K.lookup cda = some ⟨ccl, cdd, .fields vs, ccs⟩) (l3 : vs[2]? = some (.str file tf)) (l4 : ((prog.main.file : Str) == file) = true) (l5 : K.lookup cc = some ⟨cl, cld, .cell (some (.ref C)), csl⟩) :
    OwnTxt prog K mg C fI fld := by
  unfold ownB at hb
  simp only [Bool.and_eq_true, decide_eq_true_eq] at hb
  obtain ⟨h1, h2, h3, h4, h5, h6, h7, h8, h9, h10⟩ := hb
  exact ⟨⟨nm, q, N, bs, _, sn, sub, ab, col, dd, k0, k1, k2, k3, k5, xL, by rfl⟩, h1, h2, iC, h3, h4, h5, h6, h7, h8, h9, h10, ⟨oc, doc, pm, ct, ccl, cl, od, cdd, cld, an, osl, ccs, csl, cda, cc, vs, file, qual, msg, tf, ⟨z1, z2, y1, y2, y3, y4, y5, y6, y7, y8, y9, y10, j⟩, hline, l, hcd, l2, l3, l4, l5⟩⟩
def excCB (K : PySem.W.Frag) (D : Addr) : Bool :=
  decide (PySem.W.findIn K (.ref D) "__getattribute__" = some (some (.builtin "BaseException.__getattribute__"))) && (decide (PySem.W.findIn K (.ref D) "__getattr__" = some none) && (decide (PySem.W.subIn K (.ref D) (.type "BaseException") = some true) && (PySem.W.hasDictIn K D &&
  (decide (PySem.W.findIn K (.ref D) "__class__" = some (some (.builtin "object.__class__"))) && (decide (PySem.W.specialIn K (.builtin "object.__class__") "__get__" = some (some (.builtin "getset_descriptor.__get__"))) && (decide (PySem.W.takesIn K (.builtin "object.__class__") = some true) && decide (PySem.W.mroIn K D (.type "object") = some true)))))))
theorem excCB_ok {K : PySem.W.Frag} {D : Addr} (hb : excCB K D = true) : ExcC K D := by
  unfold excCB at hb
  simp only [Bool.and_eq_true, decide_eq_true_eq] at hb
  obtain ⟨h1, h2, h3, h4, h5, h6, h7, h8⟩ := hb
  exact ⟨h1, h2, h3, h4, h5, h6, h7, h8⟩
section
variable {K : PySem.W.Frag} {C : Addr} {n : Str} {b : Bool} {l : List (Str × Bool)} {cv : Value}
theorem lookup_cons {n m : Str} {b : Bool} {l : List (Str × Bool)} : ((n, b) :: l).lookup m = if m = n then some b else l.lookup m := by
  by_cases h : m = n
  · subst h; simp [List.lookup]
  · have q : (m == n) = false := by simpa using h
    simp [List.lookup, q, h]
theorem xtest_nil : XTest K (tabL []) cv := fun _ _ _ h => by cases h
theorem xtest_cons (h : PySem.W.nsIn K mainGlobals n = some (some (.ref C))) (e : PySem.W.exmOne K (.ref C) cv = some b) (t : XTest K (tabL l) cv) : XTest K (tabL ((n, b) :: l)) cv := fun m c cls hm hc => by
  unfold tabL at hm
  rw [lookup_cons] at hm
  by_cases hn : m = n
  · rw [if_pos hn] at hm
    cases hm
    subst hn
    rw [h] at hc
    cases hc
    exact e
  · rw [if_neg hn] at hm
    exact t m c cls hm hc
theorem xis_nil {c : V} : XIs K (tabL []) c := fun _ _ h => by cases h
theorem xis_cons {c : V} (h : PySem.W.nsIn K mainGlobals n = some (some (.ref C))) (hx : excCB K C = true) (hr : ∀ u, RelV c u → u = cv) (e : PySem.W.kitOne K (.ref C) cv = some b) (t : XIs K (tabL l) c) : XIs K (tabL ((n, b) :: l)) c := fun m d hm => by
  unfold tabL at hm
  rw [lookup_cons] at hm
  by_cases hn : m = n
  · rw [if_pos hn] at hm
    cases hm
    subst hn
    exact ⟨C, cv, h, excCB_ok hx, hr, e⟩
  · rw [if_neg hn] at hm
    exact t m d hm
def cvOf : V → Value
  | .ref a => .ref a
  | .ty n => .type n
  | _ => .none
def cvOk : V → Bool
  | .ref _ => true
  | .ty _ => true
  | _ => false
theorem cv_rel {v : V} {u : Value} (h : cvOk v = true) (r : RelV v u) : u = cvOf v := by
  cases v with
  | ref a => exact r
  | ty n => exact r
  | _ => cases h
theorem cvs_rel : ∀ {cs : List V}, cs.all cvOk = true → ∀ us : List Value, Vals cs us → us = cs.map cvOf
  | [], _, us, r => by
    have r : Vals [] us := r
    cases r; rfl
  | c :: cs, h, us, r => by
    have r2 : Vals (c :: cs) us := r
    rw [List.all_cons, Bool.and_eq_true] at h
    cases r2 with
    | cons r3 rr => rw [cv_rel h.1 r3, cvs_rel h.2 _ rr]; rfl
theorem xist_nil {cs : List V} : XIsT K (tabL []) cs := fun _ _ h => by cases h
theorem xist_cons {cs : List V} (h : PySem.W.nsIn K mainGlobals n = some (some (.ref C))) (hx : excCB K C = true) (hr : cs.all cvOk = true) (e : PySem.W.kitAny K (.ref C) (cs.map cvOf) = some b) (t : XIsT K (tabL l) cs) : XIsT K (tabL ((n, b) :: l)) cs := fun m d hm => by
  unfold tabL at hm
  rw [lookup_cons] at hm
  by_cases hn : m = n
  · rw [if_pos hn] at hm
    cases hm
    subst hn
    exact ⟨C, _, h, excCB_ok hx, cvs_rel hr, e⟩
  · rw [if_neg hn] at hm
    exact t m d hm
theorem xfields_nil {f : Str} : XFields K [] f := fun _ h => by cases h
theorem xfields_cons {f : Str} {ns : List Str} (h : PySem.W.nsIn K mainGlobals n = some (some (.ref C))) (hx : xfB K C = true) (hf : PySem.W.findIn K (.ref C) f = some none) (t : XFields K ns f) : XFields K (n :: ns) f := fun m hm => by
  rcases List.mem_cons.mp hm with e | hm
  · subst e
    exact ⟨C, h, xfB_ok hx, hf⟩
  · exact t m hm
end
end Mp
namespace Mp
theorem tab_uniq {l : List (PySem.Addr × PySem.Str)} (nd : (l.map (·.1)).Nodup) {a : PySem.Addr} {q : PySem.Str} (m : (a, q) ∈ l) : ∀ p ∈ l, p.1 = a → p.2 = q := by
  induction l with
  | nil => cases m
  | cons x r ih =>
    rw [List.map_cons, List.nodup_cons] at nd
    intro p hp e
    rcases List.mem_cons.mp m with m1 | m1
    · rcases List.mem_cons.mp hp with p1 | p1
      · rw [p1, ← m1]
      · exact absurd (List.mem_map.mpr ⟨p, p1, by rw [e, ← m1]⟩) nd.1
    · rcases List.mem_cons.mp hp with p1 | p1
      · exact absurd (List.mem_map.mpr ⟨_, m1, by rw [← p1, e]⟩) nd.1
      · exact ih nd.2 m1 p p1 e
end Mp

set_option Elab.async false
set_option linter.all false
set_option maxRecDepth 100000
set_option maxHeartbeats 2000000
namespace PySem
open Sem (wp)
open AutoSeq1 (wpAny_loadPart')
theorem mp_enumerate_newT (l : Addr) (items : Array Value) (n : Nat) (dct : Option Addr) (sl : Array (Option Value)) :
    Meets (Builtin.«enumerate.__new__» ⟨[.type "enumerate", .ref l], []⟩) (fun _ R s => s.heap.get? l = some { cls := .type "tuple", dict := dct, data := .seq items n, slots := sl } ∧
      R (.ok (.ret (.ref (s.heap.push { cls := .type "tuple_iterator", data := .fields #[.ref l, .int 0 0] }).objs.size)))
        { s with heap := (s.heap.push { cls := .type "tuple_iterator", data := .fields #[.ref l, .int 0 0] }).push { cls := .type "enumerate", data := .fields #[.none, .bool false, .ref s.heap.objs.size, rawInt 0, .none, .none] } }) :=
  .of_wp fun prog w A R s h => by
    obtain ⟨hp, g, d, tk, os⟩ := s; obtain ⟨hl, h⟩ := h
    have hsub := sub_enumerate
    have hL : Heap.IsTuple (Shared.heap ⟨hp, g, d, tk, os⟩) l items := ⟨_, hl, rfl, n, rfl⟩
    wp_walk using wpAny_loadPart' hl
    refine wpAny_stack_any fun st => wpAny_pure ?_
    split
    · rename_i c _ _ _ _ _
      cases (c == Value.type "enumerate")
      · wp_walk using wpAny_loadPart' hl, wpAny_pyIter_tuple hL
        exact ⟨_, rfl, h⟩
      · wp_walk using wpAny_loadPart' hl, wpAny_pyIter_tuple hL
        exact ⟨_, rfl, h⟩
    · wp_walk using wpAny_loadPart' hl, wpAny_pyIter_tuple hL
      exact ⟨_, rfl, h⟩
theorem mp_call_enumerate_tuple {prog : Program} {w : World} {A : Around} {E : Value → Shared → Prop} {s : Shared} {l : Addr} {items : Array Value} {Q : Value → Shared → Prop} (hL : s.heap.IsTuple l items)
    (h : ∀ h', IsEnum h' (s.heap.objs.size + 1) s.heap.objs.size 0 .none → h'.IsTupleIter s.heap.objs.size l 0 → h'.objs.size = s.heap.objs.size + 2 →
      (∀ b o, s.heap.get? b = some o → h'.get? b = some o) → Q (.ref (s.heap.objs.size + 1)) { s with heap := h' }) :
    wpAny (model prog w) A (call (.type "enumerate") [.ref l]) Q E s := by
  obtain ⟨⟨c, dct, dt, sl⟩, hl, hc, n, hd⟩ := hL
  replace hc : c = .type "tuple" := hc
  replace hd : dt = .seq items n := hd
  subst hc hd
  refine callType_new F.called_enumerate (by decide) (F.typeCall_enumerate_1 _) (F.newCall_enumerate_1 _) (fun obj => F.args_object_init_2 obj _) F.entry_enumerate_new
    (mp_enumerate_newT l items n dct sl) ⟨hl, ?_⟩
  have hz : (s.heap.push { cls := .type "tuple_iterator", data := .fields #[.ref l, .int 0 0] }).objs.size = s.heap.objs.size + 1 := Heap.size_push ..
  show _ ∧ _
  rw [hz]
  have he : IsEnum ((s.heap.push { cls := .type "tuple_iterator", data := .fields #[.ref l, .int 0 0] }).push
      { cls := .type "enumerate", data := .fields #[.none, .bool false, .ref s.heap.objs.size, rawInt 0, .none, .none] }) (s.heap.objs.size + 1) s.heap.objs.size 0 .none := by
    have := Heap.get?_push_size (s.heap.push { cls := .type "tuple_iterator", data := .fields #[.ref l, .int 0 0] })
      (o := { cls := .type "enumerate", data := .fields #[.none, .bool false, .ref s.heap.objs.size, rawInt 0, .none, .none] }) rfl
    rw [hz] at this; exact this
  refine ⟨⟨_, he, rfl⟩, h _ he ⟨_, Heap.get?_push_of_some _ (Heap.get?_push_size _ rfl), rfl, rfl⟩ (by rw [Heap.size_push, hz]) fun b o x => Heap.get?_push_of_some _ (Heap.get?_push_of_some _ x)⟩
end PySem
namespace Mp
open PySem PySem.Spec PyProof.Rows L2

/-! ### enumerate over a tuple, over a text -/
def ItET (K : PySem.W.Frag) (a : Addr) : It :=
  ⟨fun i H => ∃ (xs : List V) (x : V), SqT K H a xs ∧ xs[i]? = some x, fun i H v H' => ∃ T x, v = .ref T ∧ H T = none ∧ H' = upd H T (.tup [.int (i : Nat), x]) ∧ ∀ xs, SqT K H a xs → xs[i]? = some x, fun i H => ∃ xs : List V, SqT K H a xs ∧ xs.length = i⟩
def ItES (x : Str) : It :=
  ⟨fun i _ => ∃ c, x.cps[i]? = some c, fun i H v H' => ∃ T c, v = .ref T ∧ H T = none ∧ H' = upd H T (.tup [.int (i : Nat), .str ⟨#[c]⟩]) ∧ x.cps[i]? = some c, fun i _ => x.cps.size = i⟩
theorem turn_enumT {P : Program} {w : World} {K : PySem.W.Frag} {elts : List Expr} {kk : Nat} {tpos : Pos} (a e it : Addr) :
    Turn P w K (.Tuple elts kk tpos) (ItET K a) [e, it] e (fun i h => (∃ old, IsEnum h e it ((i : Nat) : Int) old) ∧ h.IsTupleIter it a i ∧ e ≠ it ∧ a ≠ it ∧ e ≠ a) where
  mem := by simp
  obj := fun i h st b hb => by
    obtain ⟨⟨old, he⟩, ⟨o, ho, hc, hd⟩, _⟩ := st
    have e' : b = e ∨ b = it := by simpa using hb
    rcases e' with z | z
    · rw [z]; exact ⟨_, he, fun v q => nomatch q⟩
    · rw [z]; exact ⟨o, ho, fun v q => by rw [hd] at q; cases q⟩
  keep := fun i h h' st k => let ⟨⟨old, he⟩, hi, hne⟩ := st; ⟨⟨old, k e (by simp) _ he⟩, hi.at fun o q => k it (by simp) o q, hne⟩
  item := by
    intro X hP hw hK hc i pins s σ H E I hf st hg
    subst hP hw hK
    obtain ⟨⟨old, he⟩, hit, hne, hai, hea⟩ := st
    obtain ⟨xs, x, hq, hx⟩ := hg
    obtain ⟨its, rv, p, hz⟩ := I.tuple hq
    obtain ⟨u, hu, ru⟩ := rv.get hx
    have hel : e < s.heap.objs.size := Heap.lt_size he
    have hil : it < s.heap.objs.size := by obtain ⟨_, q, _⟩ := hit; exact Heap.lt_size q
    have hu2 : its.toArray[i]? = some u := by simpa using hu
    have hlt : i < its.toArray.size := (Array.getElem?_eq_some_iff.mp hu2).1
    refine wpAny_pyNext_enum_itemD (Draws.tuple (show X.A.in1.handled = none from I.ok.hd hc) it a hai its.toArray) he ⟨hit, p⟩ hlt hne (by simp [hne, hea]) fun x' h' tk hP ho hs' hT hsz hk => ?_
    have hP : its.toArray[i]? = some x' := hP
    rw [hu2] at hP
    cases hP
    obtain ⟨hit', _⟩ := hs'
    refine ⟨_, rfl, wpAny_letOwnedTupleGo_enum (s := { s with heap := h', toks := tk + 1 }) ho fun h'' he' sb => ?_⟩
    have hT2 : h''.get? s.heap.objs.size = some { cls := .type "tuple", data := .seq #[.int i tk, u] } := (sb.2 _ (Nat.ne_of_gt hel)).trans hT
    have new : ObjOk X.prog X.w (upd H s.heap.objs.size (.tup [.int (i : Nat), x])) h'' s.heap.objs.size (.tup [.int (i : Nat), x]) :=
      ⟨by show 2 ≤ sizeLine; decide, [.int i tk, u], .cons ⟨_, rfl⟩ (.cons ru .nil), ⟨_, hT2, rfl, _, rfl⟩⟩
    have I1 : Inv X pins σ (upd H s.heap.objs.size (.tup [.int (i : Nat), x])) { s with heap := h'', toks := tk + 1 } :=
      I.turnedNew (ch := [e, it]) (fun b ob hb q => (sb.2 b (fun z => hb (by simp [z]))).trans (hk b ob (fun z => hb (by simp [z])) (fun z => hb (by simp [z])) q)) hf (Nat.le_refl _) new
    refine ⟨.ref s.heap.objs.size, _, I1, rfl, ⟨_, x, rfl, I.hok.fresh (Nat.le_refl _), rfl, fun ys hy => by rw [I.tuple_inj hy hq]; exact hx⟩, ⟨⟨u, ?_⟩, hit'.at fun o q => (sb.2 it (Ne.symm hne)).trans q, hne, hai, hea⟩, fun b hb => ?_⟩
    · have e1 : ((i + 1 : Nat) : Int) = (i : Int) + 1 := by omega
      rw [e1]; exact he'
    · have hb' : b < s.heap.objs.size := by
        have e' : b = e ∨ b = it := by simpa using hb
        rcases e' with z | z
        · rw [z]; exact hel
        · rw [z]; exact hil
      rw [upd_ne (Nat.ne_of_lt hb')]
      exact (hf b hb).1
  done := by
    intro X hP hw hK hc i pins s σ H E I hf st hg
    subst hP hw hK
    obtain ⟨⟨old, he⟩, hit, hne, hai, hea⟩ := st
    obtain ⟨xs, hq, hx⟩ := hg
    obtain ⟨its, rv, p, hz⟩ := I.tuple hq
    obtain ⟨f0, f1, f2, f3, f4, f5⟩ := hf it (by simp)
    have hl := rv.length
    have es : its.toArray.size = i := by simp; omega
    subst es
    exact wpAny_pyNext_enum_endD (Draws.tuple (show X.A.in1.handled = none from I.ok.hd hc) it a hai its.toArray) he ⟨hit, p⟩ fun h' eb => ⟨rfl, I.turned (t' := s.toks) (fun b o hb q => eb b o hb q) f0 f1 f3 f4 f5⟩
  self := fun A i s Q E st h => let ⟨⟨_, he⟩, _⟩ := st; wpAny_pyIter_enum he h
theorem turn_enumS {P : Program} {w : World} {K : PySem.W.Frag} {elts : List Expr} {kk : Nat} {tpos : Pos} (x : Str) (t : Tok) (e it : Addr) :
    Turn P w K (.Tuple elts kk tpos) (ItES x) [e, it] e (fun i h => (∃ old, IsEnum h e it ((i : Nat) : Int) old) ∧ h.IsStrIter it (strIterType x) x t i ∧ e ≠ it) where
  mem := by simp
  obj := fun i h st b hb => by
    obtain ⟨⟨old, he⟩, ⟨o, ho, hc, hd⟩, _⟩ := st
    have e' : b = e ∨ b = it := by simpa using hb
    rcases e' with z | z
    · rw [z]; exact ⟨_, he, fun v q => nomatch q⟩
    · rw [z]; exact ⟨o, ho, fun v q => by rw [hd] at q; cases q⟩
  keep := fun i h h' st k => let ⟨⟨old, he⟩, ⟨o, ho, hr⟩, hne⟩ := st; ⟨⟨old, k e (by simp) _ he⟩, ⟨o, k it (by simp) o ho, hr⟩, hne⟩
  item := by
    intro X hP hw hK hc i pins s σ H E I hf st hg
    subst hP hw hK
    obtain ⟨⟨old, he⟩, hit, hne⟩ := st
    obtain ⟨c, hx⟩ := hg
    have hel : e < s.heap.objs.size := Heap.lt_size he
    have hil : it < s.heap.objs.size := by obtain ⟨_, q, _⟩ := hit; exact Heap.lt_size q
    have hlt : i < x.cps.size := (Array.getElem?_eq_some_iff.mp hx).1
    refine wpAny_pyNext_enum_itemD (Draws.text (show X.A.in1.handled = none from I.ok.hd hc) it x t) he hit hlt hne (by simp [hne]) fun x' h' tk hP ho hit' hT hsz hk => ?_
    obtain ⟨c', u, hc', rfl⟩ := hP
    rw [hx] at hc'
    cases hc'
    refine ⟨_, rfl, wpAny_letOwnedTupleGo_enum (s := { s with heap := h', toks := tk + 1 }) ho fun h'' he' sb => ?_⟩
    have hT2 : h''.get? s.heap.objs.size = some { cls := .type "tuple", data := .seq #[.int i tk, .str ⟨#[c]⟩ u] } := (sb.2 _ (Nat.ne_of_gt hel)).trans hT
    have new : ObjOk X.prog X.w (upd H s.heap.objs.size (.tup [.int (i : Nat), .str ⟨#[c]⟩])) h'' s.heap.objs.size (.tup [.int (i : Nat), .str ⟨#[c]⟩]) :=
      ⟨by show 2 ≤ sizeLine; decide, [.int i tk, .str ⟨#[c]⟩ u], .cons ⟨_, rfl⟩ (.cons ⟨_, rfl⟩ .nil), ⟨_, hT2, rfl, _, rfl⟩⟩
    have I1 : Inv X pins σ (upd H s.heap.objs.size (.tup [.int (i : Nat), .str ⟨#[c]⟩])) { s with heap := h'', toks := tk + 1 } :=
      I.turnedNew (ch := [e, it]) (fun b ob hb q => (sb.2 b (fun z => hb (by simp [z]))).trans (hk b ob (fun z => hb (by simp [z])) (fun z => hb (by simp [z])) q)) hf (Nat.le_refl _) new
    refine ⟨.ref s.heap.objs.size, _, I1, rfl, ⟨_, c, rfl, I.hok.fresh (Nat.le_refl _), rfl, hx⟩, ⟨⟨Value.str ⟨#[c]⟩ u, ?_⟩, (let ⟨o, q1, q2⟩ := hit'; ⟨o, (sb.2 it (Ne.symm hne)).trans q1, q2⟩), hne⟩, fun b hb => ?_⟩
    · have e1 : ((i + 1 : Nat) : Int) = (i : Int) + 1 := by omega
      rw [e1]; exact he'
    · have hb' : b < s.heap.objs.size := by
        have e' : b = e ∨ b = it := by simpa using hb
        rcases e' with z | z
        · rw [z]; exact hel
        · rw [z]; exact hil
      rw [upd_ne (Nat.ne_of_lt hb')]
      exact (hf b hb).1
  done := by
    intro X hP hw hK hc i pins s σ H E I hf st hg
    subst hP hw hK
    obtain ⟨⟨old, he⟩, hit, hne⟩ := st
    have hg : x.cps.size = i := hg
    obtain ⟨f0, f1, f2, f3, f4, f5⟩ := hf it (by simp)
    subst hg
    exact wpAny_pyNext_enum_endD (Draws.text (show X.A.in1.handled = none from I.ok.hd hc) it x t) he hit fun h' eb => ⟨rfl, I.turned (t' := s.toks) (fun b o hb q => eb b o hb q) f0 f1 f3 f4 f5⟩
  self := fun A i s Q E st h => let ⟨⟨_, he⟩, _⟩ := st; wpAny_pyIter_enum he h
section
variable {X : Cx} {T : List (Addr × Str)} {W : WX} {e a b tg : Expr} {es : List Expr} {K : PySem.W.Frag} {S S' S0 S1 : Sto} {H H' H0 H1 : Hp} {σ : L2.St} {τ : PSt} {PD : PEnds} {D : Ends} {pos p : Pos} {q : QTA}
def enumP : Nat → List PV → List PV
  | _, [] => []
  | k, x :: r => .tup [.int k, x] :: enumP (k + 1) r
theorem enumP_len : ∀ (k : Nat) (xs : List PV), (enumP k xs).length = xs.length
  | _, [] => rfl
  | k, x :: r => by rw [enumP, List.length_cons, List.length_cons, enumP_len]
theorem enumP_at : ∀ {xs : List PV} {k i : Nat} {p : PV}, (enumP k xs)[i]? = some p → ∃ x, xs[i]? = some x ∧ p = .tup [.int ((k + i : Nat) : Int), x]
  | [], k, i, p, h => by simp [enumP] at h
  | x :: r, k, 0, p, h => by
    simp [enumP] at h
    exact ⟨x, rfl, by rw [← h]; rfl⟩
  | x :: r, k, i + 1, p, h => by
    rw [enumP, List.getElem?_cons_succ] at h
    obtain ⟨y, h1, h2⟩ := enumP_at h
    exact ⟨y, by simpa using h1, by rw [h2]; congr 3; omega⟩
theorem walkP_enumT {c : Addr} {vs : List V} {xs : List PV} (sq : SqT K H0 c vs) (t : Rls K H0 vs xs) (rep0 : Rep K T S0 H0) : WalkP K T (ItET K c) ⟨enumP 0 xs, kT⟩ S0 H0 := fun S H fr rep _ => by
  have s1 := (fr.le rep0).sq sq
  have t1 := Rls.mono (fr.le rep0) _ _ t
  refine ⟨⟨vs, s1, by show vs.length = (enumP 0 xs).length; rw [enumP_len, Rls.length t1]⟩, fun i p h => ?_⟩
  obtain ⟨x, h1, h2⟩ := enumP_at h
  obtain ⟨v, h3, h4⟩ := t1.get h1
  refine ⟨⟨vs, v, s1, h3⟩, fun v' H' ⟨T0, x', ev, hn, eH, k1⟩ => ?_⟩
  have e1 := k1 vs s1
  rw [h3] at e1; cases e1
  subst ev; subst eH; subst h2
  rw [Nat.zero_add]
  exact ⟨Fr.hid hn, rep.hid hn, pair_new hn rfl h4⟩
theorem walkP_enumL {c : Addr} {xs : List PV} {keep : Sto → Prop} (hs : ∀ S H, Fr S0 H0 S H → Rep K T S H → keep S → ∃ vs, SqL K H c vs ∧ Rls K H vs xs) : WalkP K T (Ite K c) ⟨enumP 0 xs, keep⟩ S0 H0 := fun S H fr rep kp => by
  obtain ⟨vs, s1, t1⟩ := hs S H fr rep kp
  refine ⟨⟨vs, s1, by show vs.length ≤ (enumP 0 xs).length; rw [enumP_len, Rls.length t1]; exact Nat.le_refl _⟩, fun i p h => ?_⟩
  obtain ⟨x, h1, h2⟩ := enumP_at h
  obtain ⟨v, h3, h4⟩ := t1.get h1
  refine ⟨⟨vs, v, s1, h3⟩, fun v' H' ⟨T0, x', ev, hn, eH, k1⟩ => ?_⟩
  have e1 := k1 vs s1
  rw [h3] at e1; cases e1
  subst ev; subst eH; subst h2
  rw [Nat.zero_add]
  exact ⟨Fr.hid hn, rep.hid hn, pair_new hn rfl h4⟩
theorem walkP_enumS {cs : List Nat} : WalkP K T (ItES ⟨cs.toArray⟩) ⟨enumP 0 (strP cs), kT⟩ S0 H0 := fun S H fr rep _ => by
  refine ⟨?_, fun i p h => ?_⟩
  · show cs.toArray.size = (enumP 0 (strP cs)).length
    rw [enumP_len]; simp [strP]
  obtain ⟨x, h1, h2⟩ := enumP_at h
  unfold strP at h1
  rw [List.getElem?_map] at h1
  cases z : cs[i]? with
  | none => rw [z] at h1; cases h1
  | some c =>
    rw [z] at h1
    cases h1
    have hz : (⟨cs.toArray⟩ : Str).cps[i]? = some c := by simpa using z
    refine ⟨⟨c, hz⟩, fun v' H' ⟨T0, c', ev, hn, eH, k1⟩ => ?_⟩
    rw [hz] at k1; cases k1
    subst ev; subst eH; subst h2
    rw [Nat.zero_add]
    exact ⟨Fr.hid hn, rep.hid hn, pair_new hn rfl rfl⟩
def qiEnum (q : QTE) : QTI := fun τ S P EP => q τ S (fun x S1 => match x with
  | .tup xs => P ⟨enumP 0 xs, kT⟩ S1
  | .str cs => P ⟨enumP 0 (strP cs), kT⟩ S1
  | .lsv xs => P ⟨enumP 0 xs, kT⟩ S1
  | .ref c => match S1 c with
    | some (.lst xs) => P ⟨enumP 0 xs, fun S => S c = some (.lst xs)⟩ S1
    | _ => False
  | _ => False) EP
theorem qi_enum {q : QTE} {elts : List Expr} {kk : Nat} {tpos : Pos} (hg : Gl X "enumerate") (hm : X.mg "enumerate" = none) (ha : QE X T W e q) (hs : starEach [e] X.env = [(false, eval e X.env)] := by rfl) :
    QI X T W (.Tuple elts kk tpos) (.Call (.Name "enumerate" p) [e] [] pos) (qiEnum q) := by
  refine ⟨fun pins s σ H R I h => ?_⟩
  obtain ⟨τ, S, P, EP, h1, h2, h3, h4, h5⟩ := h
  refine Call_ (ld_blt I hg hm boot_enumerate (PyProof.Rows.callWith_type1 (thn ((pa_cons ha pa_nil hs).run pos pins s σ H (fun vs H1 => ∃ v x S1, vs = [v] ∧ Fr S H S1 H1 ∧ Rl X.K H1 v x ∧ Rep X.K T S1 H1 ∧ (match x with
    | .tup xs => P ⟨enumP 0 xs, kT⟩ S1
    | .str cs => P ⟨enumP 0 (strP cs), kT⟩ S1
    | .lsv xs => P ⟨enumP 0 xs, kT⟩ S1
    | .ref c => match S1 c with
      | some (.lst xs) => P ⟨enumP 0 xs, fun S => S c = some (.lst xs)⟩ S1
      | _ => False
    | _ => False)) I ⟨τ, S, _, EP, h1, h2, h3, fun v x H1 S1 fr rl rep hp => ⟨v, x, S1, rfl, fr, rl, rep, hp⟩, h5⟩) fun us s1 ⟨vs, H1, I1, r1, v, x, S1, ev, fr, rl, rep, hp⟩ => ?_) hs rfl))
  subst ev
  have lists : ∀ {c : Addr} {ws : List V} {R' : It → Hp → Prop}, v = .ref c → SqL X.K H1 c ws → (R (Ite X.K c) H1) → wpAny (model X.prog X.w) X.A (call (.type "enumerate") us) (fun v s => wpAny (model X.prog X.w) X.A (pyIter v) (PIE X pins σ (.Tuple elts kk tpos) R) X.xe s) X.xe s1 := fun {c ws R'} ev hq q => by
    subst ev
    cases r1 with
    | cons r rr =>
      cases rr
      cases r
      obtain ⟨its, rv, p', hz⟩ := I1.list hq
      refine call_enumerate_list p'.isList fun h' he hit hsz hk => wpAny_pyIter_enum he ?_
      have I2 : Inv X pins σ H1 { s1 with heap := h' } := I1.kept (t' := s1.toks) hk
      refine ⟨s1.heap.objs.size + 1, [s1.heap.objs.size + 1, s1.heap.objs.size], _, _, H1, rfl, I2, turn_enum c (s1.heap.objs.size + 1) s1.heap.objs.size, ⟨⟨.none, he⟩, hit, Nat.succ_ne_self _⟩, fun b hb => ?_, q⟩
      have e' : b = s1.heap.objs.size + 1 ∨ b = s1.heap.objs.size := by simpa using hb
      have hle : s1.heap.objs.size ≤ b := by
        rcases e' with z | z
        · rw [z]; exact Nat.le_add_right _ _
        · rw [z]; exact Nat.le_refl _
      exact I1.fpOk hle (I1.hok.fresh hle)
  cases x with
  | tup xs =>
    obtain ⟨c, ws, e1, sq', t⟩ := rl
    have sq : SqT X.K H1 c ws := SqT.of sq'
    subst e1
    cases r1 with
    | cons r rr =>
      cases rr
      cases r
      obtain ⟨its, rv, p', hz⟩ := I1.tuple sq
      have hlt : c < s1.heap.objs.size := by obtain ⟨_, z, _⟩ := p'; exact Heap.lt_size z
      refine mp_call_enumerate_tuple p' fun h' he hit hsz hk => wpAny_pyIter_enum he ?_
      have I2 : Inv X pins σ H1 { s1 with heap := h' } := I1.kept (t' := s1.toks) hk
      refine ⟨s1.heap.objs.size + 1, [s1.heap.objs.size + 1, s1.heap.objs.size], _, _, H1, rfl, I2, turn_enumT c (s1.heap.objs.size + 1) s1.heap.objs.size, ⟨⟨.none, he⟩, hit, Nat.succ_ne_self _, Nat.ne_of_lt hlt, Nat.ne_of_gt (Nat.lt_succ_of_lt hlt)⟩, fun b hb => ?_, h4 _ ⟨enumP 0 xs, kT⟩ H1 S1 fr (walkP_enumT sq t rep) trivial rep hp⟩
      have e' : b = s1.heap.objs.size + 1 ∨ b = s1.heap.objs.size := by simpa using hb
      have hle : s1.heap.objs.size ≤ b := by
        rcases e' with z | z
        · rw [z]; exact Nat.le_add_right _ _
        · rw [z]; exact Nat.le_refl _
      exact I1.fpOk hle (I1.hok.fresh hle)
  | str cs =>
    have e1 : v = .str ⟨cs.toArray⟩ := rl
    subst e1
    cases r1 with
    | cons r rr =>
      cases rr
      obtain ⟨t, rfl⟩ := r
      refine call_enumerate_str fun h' he hit hsz hk => wpAny_pyIter_enum he ?_
      have I2 : Inv X pins σ H1 { s1 with heap := h' } := I1.kept (t' := s1.toks) hk
      refine ⟨s1.heap.objs.size + 1, [s1.heap.objs.size + 1, s1.heap.objs.size], _, _, H1, rfl, I2, turn_enumS ⟨cs.toArray⟩ t (s1.heap.objs.size + 1) s1.heap.objs.size, ⟨⟨.none, he⟩, hit, Nat.succ_ne_self _⟩, fun b hb => ?_, h4 _ ⟨enumP 0 (strP cs), kT⟩ H1 S1 fr walkP_enumS trivial rep hp⟩
      have e' : b = s1.heap.objs.size + 1 ∨ b = s1.heap.objs.size := by simpa using hb
      have hle : s1.heap.objs.size ≤ b := by
        rcases e' with z | z
        · rw [z]; exact Nat.le_add_right _ _
        · rw [z]; exact Nat.le_refl _
      exact I1.fpOk hle (I1.hok.fresh hle)
  | lsv xs =>
    obtain ⟨c, ws, e1, sq, t⟩ := rl
    exact lists (R' := R) e1 sq.sq (h4 _ ⟨enumP 0 xs, kT⟩ H1 S1 fr (walkP_enumL fun S2 H2 f2 _ _ => ⟨ws, ((f2.le rep).sqf sq).sq, Rls.mono (f2.le rep) _ _ t⟩) trivial rep hp)
  | ref c =>
    have e1 : v = .ref c := rl
    simp only at hp
    cases z : S1 c with
    | none => rw [z] at hp; exact hp.elim
    | some ob =>
      rw [z] at hp
      cases ob with
      | lst xs =>
        obtain ⟨ws, e2, t⟩ := rep.ob c _ z
        exact lists (R' := R) e1 (SqL.of e2) (h4 _ ⟨enumP 0 xs, fun S => S c = some (.lst xs)⟩ H1 S1 fr (walkP_enumL fun S2 H2 f2 r2 kp => (let ⟨vs, e, t⟩ := r2.ob c _ kp; ⟨vs, SqL.of e, t⟩)) z rep hp)
      | _ => exact hp.elim
  | _ => exact hp.elim

/-! ### xs[::-1] -/
theorem Rls.reverse : ∀ {ps : List PV} {vs : List V}, Rls K H vs ps → Rls K H vs.reverse ps.reverse
  | [], _, e => by
    have e : _ = [] := e
    subst e; exact rfl
  | p :: ps, _, ⟨v, r, e, h1, h2⟩ => by
    subst e
    rw [List.reverse_cons, List.reverse_cons]
    exact Rls.append (Rls.reverse h2) (Rls.one h1)
def qRevL (qa : QTH) : QTA := fun τ S P EP => qa τ S (fun x S1 => match x.its S1 with
  | some xs => x.tup = false ∧ P xs.reverse S1
  | none => False) EP
theorem ql_rev {qa : QTH} {k : Nat} {p1 p2 p3 : Pos} (ha : QH X T W e qa) : QL X T W (.Subscript e (.Slice none none (some (.UnaryOp .USub (.Constant (.int 1) k p1) p2)) p3) pos) (qRevL qa) :=
  pe_imp (pe_revL ha) fun σ H Q ⟨τ, S, P, EP, h1, h2, h3, h4, h5⟩ =>
    ⟨τ, S, _, EP, h1, h2, h3, fun v x H1 S1 fr rl rep hp => by
      cases z : x.its S1 with
      | none => rw [z] at hp; exact hp.elim
      | some xs =>
        rw [z] at hp
        obtain ⟨a, us, e1, s, t⟩ := rl.lst rep z hp.1
        exact ⟨a, us, e1, s, fun n hn => h4 n _ _ _ S1 (fr.trans (Fr.hid hn)) upd_same (rep.free hn) (Nu.of fr hn) (Rls.mono (le_new hn) _ _ (Rls.reverse t)) (rep.hid hn) hp.2⟩, h5⟩
end
end Mp

set_option Elab.async false
set_option linter.all false
set_option maxRecDepth 100000
set_option maxHeartbeats 2000000
namespace PySem
open Sem (wp)
open AutoSeq1 (wpAny_loadPart')
theorem mp_extend_tuple (l : Addr) (items : Array Value) (n : Nat) (b : Addr) (items2 : Array Value) (n2 : Nat) (dct : Option Addr) (sl : Array (Option Value)) (hs0 : ¬(!items.isEmpty && Builtin.List.listTooLong (items.size + items2.size)) = true) (hs1 : items.size ≤ sizeLine) (hs2 : items.size + items2.size ≤ sizeLine + 1) :
    Meets (Builtin.«list.extend» ⟨[.ref l, .ref b], []⟩) (fun _ R s => s.heap.get? l = some { cls := .type "list", dict := none, data := .seq items n, slots := #[] } ∧ s.heap.get? b = some { cls := .type "tuple", dict := dct, data := .seq items2 n2, slots := sl } ∧ R (.ok (.ret Value.none)) { s with heap := s.heap.update l (Obj.mapSeq fun x => x ++ items2), toks := s.toks }) :=
  .of_wp fun prog w A R s h => by
    obtain ⟨hp, g, d, tk, os⟩ := s; obtain ⟨hl, hb, h⟩ := h; have f1 := AutoSeq1.idx_int; have f2 := AutoSeq1.sub_tuple_tuple; have f3 := AutoSeq1.sub_list_list; have f4 := AutoSeq1.sub_tuple_list; have f5 := AutoSeq1.sub_list_tuple
    have hz' : (items ++ items2).size ≤ sizeLine + 1 := by rw [Array.size_append]; exact hs2
    wp_walk using (wpAny_updateSeq hl rfl (hz := hs1) (_hz' := hz')), wpAny_loadPart' hl, wpAny_loadPart' hb; exact ⟨_, rfl, h⟩
end PySem
namespace Mp
open PySem PySem.Spec PyProof.Rows L2
section
variable {X : Cx} {T : List (Addr × Str)} {W : WX} {e a b tg : Expr} {es : List Expr} {K : PySem.W.Frag} {S S' S0 S1 : Sto} {H H' H0 H1 : Hp} {σ : L2.St} {τ : PSt} {PD : PEnds} {D : Ends} {pos p : Pos} {q : QTA}

/-! ### xs.extend(a tuple) -/
def rExtT (K : PySem.W.Frag) : V → List V → Hp → VK → Prop := fun x vs H Q => ∃ l b xs zs, x = .ref l ∧ vs = [.ref b] ∧ H l = some (.lst xs) ∧ SqT K H b zs ∧ xs.length + zs.length ≤ sizeLine ∧ Q .non (upd H l (.lst (xs ++ zs)))
theorem mt_extT : MtR X "list.extend" (rExtT X.K) := by
  intro pins s σ H x vs v us Q I rx rv h
  obtain ⟨l, b, xs, zs, rfl, rfl, hH, hB, hz, q⟩ := h
  cases rx
  obtain ⟨u, rfl, ru⟩ := rv.one
  cases ru
  obtain ⟨z, its, n, r, hl, e⟩ := I.lstM hH
  obtain ⟨its2, r2, ⟨⟨cls, dd, dt, sl⟩, ho, hc, n2, hd⟩, hl2⟩ := I.tuple hB
  simp only at hc hd
  subst hc hd
  have l2 := r2.length
  have hsz : its.toArray.size + its2.toArray.size ≤ sizeLine := by rw [List.size_toArray, List.size_toArray]; omega
  have hlong : ¬ (!its.toArray.isEmpty && Builtin.List.listTooLong (its.toArray.size + its2.toArray.size)) = true := by
    rw [notLongL hsz, Bool.and_false]
    exact Bool.false_ne_true
  refine call_meets PySem.F.slot_list_extend ⟨_, e, rfl⟩ PySem.F.entry_list_extend (PySem.F.args_list_extend_2 _ _)
    (mp_extend_tuple l its.toArray n b its2.toArray n2 dd sl hlong (by rw [List.size_toArray]; omega) (by omega)) ⟨e, ho, ?_⟩
  refine ⟨.non, _, I.lset (its' := its ++ its2) hH e (by simp) (r.append r2) ?_, rfl, q⟩
  rw [List.length_append]
  omega
def qExtA (qo : QTE) (qa : QTH) : QTE := fun τ S P EP => qo τ S (fun o S1 => match o with
  | .ref c => match S1 c with
    | some (.lst _) => qa τ S1 (fun x S2 => match S2 c, x.its S2 with
      | some (.lst xs), some ys => (x.mut || x.tup) = true ∧ xs.length + ys.length ≤ sizeLine ∧ P .non (put S2 c (.lst (xs ++ ys)))
      | _, _ => False) EP
    | _ => False
  | _ => False) EP
theorem q_extendA {qo : QTE} {qa : QTH} {o e : Expr} {apos cpos : Pos} (ho : QE X T W o qo) (ha : QH X T W e qa)
    (hbase : attributeBase o "extend" X.env (eval o X.env) = eval o X.env := by rfl)
    (hfew : ((backTo cpos (starEach [e] X.env)).all (fun x => !x.1) && (backToKw cpos (keywordEach [] X.env)).all (fun x => x.1.isSome) && decide ([e].length + ([] : List Keyword).length + (if ([] : List Keyword).isEmpty then 0 else 1) < 30)) = true := by rfl)
    (hline : (apos.endLine == cpos.line) = true := by rfl) (hs : starEach [e] X.env = (false, eval e X.env) :: starEach [] X.env := by rfl) (hplain : (backTo cpos (starEach [] X.env)).any (·.1) = false := by rfl) :
    QE X T W (.Call (.Attribute o "extend" apos) [e] [] cpos) (qExtA qo qa) :=
  pe_imp (pe_bm PySem.F.plainAttrs_list PySem.F.slot_list_extend PySem.F.type_list_extend (MtR.or mt_extend mt_extT) ho (pa_cons ha pa_nil hs) hbase hfew hline hs hplain) fun σ H Q h =>
    up_then (RR := Rl X.K) (RR' := Rl X.K) (qk := fun o τ S1 P EP => match o with
      | .ref c => match S1 c with
        | some (.lst _) => qa τ S1 (fun x S2 => match S2 c, x.its S2 with
          | some (.lst xs), some ys => (x.mut || x.tup) = true ∧ xs.length + ys.length ≤ sizeLine ∧ P PV.non (put S2 c (.lst (xs ++ ys)))
          | _, _ => False) EP
        | _ => False
      | _ => False) h fun v x H1 l rl ⟨τ, S, P, EP, rs, rep, hf, k, kx⟩ => by
      cases x with
      | ref c =>
        have e1 : v = .ref c := rl
        subst e1
        simp only at hf
        cases z : S c with
        | none => rw [z] at hf; exact hf.elim
        | some ob =>
          rw [z] at hf
          cases ob with
          | lst xs0 =>
            obtain ⟨vs0, e0, t0⟩ := rep.ob c _ z
            refine ⟨.inl ⟨rfl, vs0, SqL.of e0⟩, τ, S, _, EP, rs, rep, hf, fun w y H2 S2 fr r2 rep2 hp => ?_, kx⟩
            cases z2 : S2 c with
            | none => simp only [z2] at hp
            | some ob2 =>
              cases ob2 with
              | lst xs =>
                cases z3 : y.its S2 with
                | none => simp only [z2, z3] at hp
                | some ys =>
                  simp only [z2, z3] at hp
                  obtain ⟨vs, e1, t1⟩ := rep2.ob c _ z2
                  have f2 : ∀ us, Fr S2 H2 (put S2 c (.lst (xs ++ ys))) (upd H2 c (.lst (vs ++ us))) := fun us => Fr.wr z2
                  cases hm : y.mut with
                  | true =>
                    obtain ⟨c2, us, e2, g2, t2⟩ := r2.mutl rep2 z3 hm
                    subst e2
                    refine .inl ⟨c, c2, vs, us, rfl, rfl, e1, g2, by rw [Rls.length t1, Rls.length t2]; exact hp.2.1, ?_⟩
                    exact k .non .non _ _ (fr.trans (f2 us)) rfl (rep2.wr (ob := .lst (xs ++ ys)) z2 fun le => ⟨_, upd_same, Rls.mono le _ _ (t1.append t2)⟩) hp.2.2
                  | false =>
                    have ht : y.tup = true := by
                      have := hp.1
                      rw [hm] at this
                      exact this
                    obtain ⟨c2, us, e2, g2, t2⟩ := r2.tupl z3 ht
                    subst e2
                    refine .inr ⟨c, c2, vs, us, rfl, rfl, e1, g2, by rw [Rls.length t1, Rls.length t2]; exact hp.2.1, ?_⟩
                    exact k .non .non _ _ (fr.trans (f2 us)) rfl (rep2.wr (ob := .lst (xs ++ ys)) z2 fun le => ⟨_, upd_same, Rls.mono le _ _ (t1.append t2)⟩) hp.2.2
              | _ => simp only [z2] at hp
          | _ => exact hf.elim
      | _ => exact hf.elim

/-! ### tuples of texts of the module; the place of a text -/
def TupS (K : PySem.W.Frag) (mg : Str → Option Value) (x : Str) (ns : List (List Nat)) : Prop := ∃ (a : Addr) (o : Obj) (its : Array Value) (n : Nat), mg x = some (.ref a) ∧ K.lookup a = some o ∧ o.cls = .type "tuple" ∧ o.dict = none ∧ o.data = .seq its n ∧ its.size ≤ sizeLine ∧ Vals ((ns.map fun c => (⟨c.toArray⟩ : Str)).map V.str) its.toList
theorem rls_strs {H : Hp} : ∀ ns : List (List Nat), Rls K H ((ns.map fun c => (⟨c.toArray⟩ : Str)).map V.str) (ns.map PV.str)
  | [] => rfl
  | n :: ns => ⟨_, _, rfl, rfl, rls_strs ns⟩
theorem q_gtup {x : Str} {ns : List (List Nat)} (t : TupS X.K X.mg x ns) (hg : Gl X x := by rfl) (hd : (x == ("__debug__" : Str)) = false := by decide) : QE X T W (.Name x pos) (qC (.ktp (ns.map PV.str))) := by
  obtain ⟨a, o, its, n, hm, h1, h2, h3, h4, h5, h6⟩ := t
  exact q_con (pe_glob (v := .ref a) hg hm rfl hd) fun H => ⟨a, _, rfl, .inr ⟨o, its, n, h1, h2, h4, h5, h6⟩, rls_strs ns⟩
def idxS (z : List Nat) : List (List Nat) → Option Nat
  | [] => none
  | n :: ns => if n = z then some 0 else (idxS z ns).map (· + 1)
theorem idxS_some {z : List Nat} : ∀ {ns : List (List Nat)} {j : Nat}, idxS z ns = some j → ns[j]? = some z ∧ ∀ m, m < j → ns[m]? ≠ some z
  | [], j, h => by cases h
  | n :: ns, j, h => by
    unfold idxS at h
    by_cases hn : n = z
    · rw [if_pos hn] at h
      cases h
      exact ⟨by rw [hn]; rfl, fun m hm => by omega⟩
    · rw [if_neg hn] at h
      cases q : idxS z ns with
      | none => rw [q] at h; cases h
      | some i =>
        rw [q] at h
        cases h
        obtain ⟨h1, h2⟩ := idxS_some q
        refine ⟨h1, fun m hm => ?_⟩
        cases m with
        | zero => exact fun z => hn (by simpa using z)
        | succ m =>
          have hm : m + 1 < i + 1 := hm
          exact h2 m (by omega)
theorem str_get {ns : List (List Nat)} {j : Nat} {z : List Nat} (h : ns[j]? = some z) : (ns.map fun c => (⟨c.toArray⟩ : Str))[j]? = some ⟨z.toArray⟩ := by rw [List.getElem?_map, h]; rfl
theorem str_inj {c d : List Nat} (h : (⟨c.toArray⟩ : Str) = ⟨d.toArray⟩) : c = d := by
  have h2 := congrArg (fun s : Str => s.cps.toList) h
  simpa using h2
theorem str_no {ns : List (List Nat)} {j : Nat} {z : List Nat} (h : ∀ m, m < j → ns[m]? ≠ some z) : ∀ m, m < j → (ns.map fun c => (⟨c.toArray⟩ : Str))[m]? ≠ some ⟨z.toArray⟩ := fun m hm q => by
  rw [List.getElem?_map] at q
  cases w : ns[m]? with
  | none => rw [w] at q; cases q
  | some u =>
    rw [w] at q
    have e : u = z := str_inj (Option.some.inj q)
    subst e
    exact h m hm w
def qIdxG (ns : List (List Nat)) (qa : QTE) : QTE := fun τ S P EP => qa τ S (fun y S1 => match y with
  | .str z => match idxS z ns with
    | some j => P (.int j) S1
    | none => False
  | _ => False) EP
theorem q_idxG {x : Str} {ns : List (List Nat)} {qa : QTE} {npos apos cpos : Pos} (t : TupS X.K X.mg x ns) (ha : QE X T W e qa) (hg : Gl X x := by rfl) (hd : (x == ("__debug__" : Str)) = false := by decide)
    (hbase : attributeBase (.Name x npos) "index" X.env (eval (.Name x npos) X.env) = eval (.Name x npos) X.env := by rfl)
    (hfew : ((backTo cpos (starEach [e] X.env)).all (fun x => !x.1) && (backToKw cpos (keywordEach [] X.env)).all (fun x => x.1.isSome) && decide ([e].length + ([] : List Keyword).length + (if ([] : List Keyword).isEmpty then 0 else 1) < 30)) = true := by rfl)
    (hline : (apos.endLine == cpos.line) = true := by rfl) (hs : starEach [e] X.env = (false, eval e X.env) :: starEach [] X.env := by rfl) (hplain : (backTo cpos (starEach [] X.env)).any (·.1) = false := by rfl) :
    QE X T W (.Call (.Attribute (.Name x npos) "index" apos) [e] [] cpos) (qIdxG ns qa) := by
  obtain ⟨a, o, its, n, hm, h1, h2, h3, h4, h5, h6⟩ := t
  exact pe_imp (pe_bm PySem.F.plainAttrs_tuple PySem.F.slot_tuple_index PySem.F.type_tuple_index mt_tup_index (pe_glob (v := .ref a) hg hm rfl hd) (pa_cons ha pa_nil hs) hbase hfew hline hs hplain) fun σ H Q h =>
    ⟨.inr (.inl ⟨rfl, o, h1, h2, h3⟩), up_then (RR := Rl X.K) (RR' := Rl X.K) (qk := fun y _ S1 P _ => match y with
      | .str z => match idxS z ns with
        | some j => P (PV.int j) S1
        | none => False
      | _ => False) h fun v y H1 l rl ⟨τ, S, P, EP, rs, rep, hf, k, kx⟩ => by
        cases y with
        | str z =>
          have e1 : v = .str ⟨z.toArray⟩ := rl
          subst e1
          simp only at hf
          cases q : idxS z ns with
          | none => rw [q] at hf; exact hf.elim
          | some j =>
            rw [q] at hf
            obtain ⟨g1, g2⟩ := idxS_some q
            exact ⟨a, _, _, j, rfl, rfl, .inr ⟨o, its, n, h1, h2, h4, h5, h6⟩, str_get g1, str_no g2, k (.int _) (.int _) H1 S Fr.refl rfl rep hf⟩
        | _ => exact hf.elim⟩
/-- [..].index(text) -/
def qIdxL (qo : QTA) (qa : QTE) : QTE := fun τ S P EP => qo τ S (fun xs S1 => qa τ S1 (fun y S2 => match y, strsOf xs with
  | .str z, some ns => match idxS z ns with
    | some j => P (.int j) S2
    | none => False
  | _, _ => False) EP) EP
theorem flat_strs2 : ∀ ns : List Str, (ns.map V.str).all flatV = true
  | [] => rfl
  | n :: ns => by
    rw [List.map_cons, List.all_cons, flat_strs2 ns]; rfl
theorem q_idxL {qo : QTA} {qa : QTE} {o : Expr} {apos cpos : Pos} (ho : QL X T W o qo) (ha : QE X T W e qa)
    (hbase : attributeBase o "index" X.env (eval o X.env) = eval o X.env := by rfl)
    (hfew : ((backTo cpos (starEach [e] X.env)).all (fun x => !x.1) && (backToKw cpos (keywordEach [] X.env)).all (fun x => x.1.isSome) && decide ([e].length + ([] : List Keyword).length + (if ([] : List Keyword).isEmpty then 0 else 1) < 30)) = true := by rfl)
    (hline : (apos.endLine == cpos.line) = true := by rfl) (hs : starEach [e] X.env = (false, eval e X.env) :: starEach [] X.env := by rfl) (hplain : (backTo cpos (starEach [] X.env)).any (·.1) = false := by rfl) :
    QE X T W (.Call (.Attribute o "index" apos) [e] [] cpos) (qIdxL qo qa) :=
  pe_imp (pe_bm PySem.F.plainAttrs_list PySem.F.slot_list_index PySem.F.type_list_index mt_index ho (pa_cons ha pa_nil hs) hbase hfew hline hs hplain) fun σ H Q ⟨τ, S, P, EP, h1, h2, h3, h4, h5⟩ => by
    refine ⟨τ, S, _, EP, h1, h2, h3, fun c vs xs H1 S1 fr g nS nu rl rep hp => ?_, h5⟩
    refine ⟨.inl ⟨rfl, vs, SqL.of g⟩, τ, S1, _, EP, h1.mono (fr.le h2), rep, hp, fun w y H2 S2 fr2 r2 rep2 hp2 => ?_, fun c d x H' S' f => h5 c d x H' S' (fr.trans f)⟩
    cases y with
    | str z =>
      have e1 : w = .str ⟨z.toArray⟩ := r2
      subst e1
      cases z2 : strsOf xs with
      | none => simp only [z2] at hp2
      | some ns =>
        simp only [z2] at hp2
        cases q : idxS z ns with
        | none => simp only [q] at hp2
        | some j =>
          simp only [q] at hp2
          obtain ⟨g1, g2⟩ := idxS_some q
          have g' := (fr2 c _ g (fun _ q => nomatch q) (.inl nS)).1
          have ev := strsOf_rl z2 (Rls.mono (fr2.le rep) _ _ rl)
          subst ev
          refine ⟨c, _, _, j, .str ⟨z.toArray⟩, rfl, rfl, SqL.of g', rfl, flat_strs2 _, ?_, by show ((⟨z.toArray⟩ : Str) == ⟨z.toArray⟩) = true; simp, fun m z' hm hz => ?_, h4 (.int _) (.int _) H2 S2 (fr.trans fr2) rfl rep2 hp2⟩
          · rw [List.getElem?_map, str_get g1]; rfl
          · rw [List.getElem?_map] at hz
            cases w : (ns.map fun c => (⟨c.toArray⟩ : Str))[m]? with
            | none => rw [w] at hz; cases hz
            | some u =>
              rw [w] at hz
              cases hz
              show (u == (⟨z.toArray⟩ : Str)) = false
              rw [beq_eq_false_iff_ne]
              exact fun q => str_no g2 m hm (by rw [w, q])
    | _ => exact hp2.elim
end
end Mp

set_option Elab.async false
set_option linter.all false
set_option maxRecDepth 100000
namespace Mp
open PySem PySem.Spec PyProof.Rows L2

/-! ### fields by numbers -/
theorem fld_inj : ∀ i < 36, ∀ j < 36, fld i = fld j → i = j := by decide +kernel
def lkF : List (Nat × PV) → Nat → Option PV
  | [], _ => none
  | (j, x) :: r, i => match Nat.beq i j with
    | true => some x
    | false => lkF r i
def ptF : List (Nat × PV) → Nat → PV → List (Nat × PV)
  | [], i, v => [(i, v)]
  | (j, x) :: r, i, v => match Nat.beq i j with
    | true => (j, v) :: r
    | false => (j, x) :: ptF r i v
section
variable {K : PySem.W.Frag} {H : Hp}
theorem beq_t {i j : Nat} (h : Nat.beq i j = true) : i = j := Nat.eq_of_beq_eq_true h
theorem beq_f {i j : Nat} (h : Nat.beq i j = false) : i ≠ j := Nat.ne_of_beq_eq_false h
theorem str_bt {a b : Str} (h : a = b) : (a == b) = true := beq_iff_eq.mpr h
theorem str_bf {a b : Str} (h : a ≠ b) : (a == b) = false := beq_eq_false_iff_ne.mpr h
theorem lk_some : ∀ {fs : List (Nat × PV)} {gs : List (Str × V)} {i : Nat} {x : PV}, gs.map Prod.fst = fs.map (fun x => fld x.1) → (∀ x ∈ fs, x.1 < 36) → i < 36 → Rls K H (gs.map Prod.snd) (fs.map Prod.snd) → lkF fs i = some x → ∃ v, gs.lookup (fld i) = some v ∧ Rl K H v x
  | [], _, _, _, _, _, _, _, h => by cases h
  | (j, y) :: fs, [], _, _, e, _, _, _, _ => by cases e
  | (j, y) :: fs, (g, w) :: gs, i, x, e, b, hi, r, h => by
    injection e with e1 e2
    have e1 : g = fld j := e1
    obtain ⟨w', r', e3, r1, r2⟩ := r
    injection e3 with e3 e4
    have e3 : w = w' := e3
    subst e3
    have r2 : Rls K H (gs.map Prod.snd) (fs.map Prod.snd) := by
      have e4 : gs.map Prod.snd = r' := e4
      rw [e4]; exact r2
    unfold lkF at h
    cases hb : Nat.beq i j with
    | true =>
      rw [hb] at h
      have h : some y = some x := h
      cases h
      exact ⟨w, by rw [List.lookup, str_bt (by rw [e1, beq_t hb])], r1⟩
    | false =>
      rw [hb] at h
      have h : lkF fs i = some x := h
      have hj : j < 36 := b (j, y) (List.mem_cons_self ..)
      obtain ⟨v, h1, h2⟩ := lk_some e2 (fun x hx => b x (List.mem_cons_of_mem _ hx)) hi r2 h
      refine ⟨v, ?_, h2⟩
      rw [List.lookup, str_bf (by rw [e1]; exact fun z => beq_f hb (fld_inj i hi j hj z))]
      exact h1
theorem lk_no : ∀ {fs : List (Nat × PV)} {gs : List (Str × V)} {m : Str}, gs.map Prod.fst = fs.map (fun x => fld x.1) → (∀ x ∈ fs, x.1 < 36) → (∀ i < 36, fld i ≠ m) → gs.lookup m = none
  | _, [], _, _, _, _ => rfl
  | [], _ :: _, _, e, _, _ => by cases e
  | (j, y) :: fs, (g, w) :: gs, m, e, b, hm => by
    injection e with e1 e2
    have e1 : g = fld j := e1
    have hj : j < 36 := b (j, y) (List.mem_cons_self ..)
    rw [List.lookup, str_bf (by rw [e1]; exact fun z => hm j hj z.symm)]
    exact lk_no e2 (fun x hx => b x (List.mem_cons_of_mem _ hx)) hm
theorem pt_fst : ∀ {fs : List (Nat × PV)} {gs : List (Str × V)} {i : Nat} {x : PV} {v : V}, gs.map Prod.fst = fs.map (fun x => fld x.1) → (∀ x ∈ fs, x.1 < 36) → i < 36 → Rls K H (gs.map Prod.snd) (fs.map Prod.snd) → Rl K H v x →
    (putF (fld i) v gs).map Prod.fst = (ptF fs i x).map (fun x => fld x.1) ∧ (∀ y ∈ ptF fs i x, y.1 < 36) ∧ Rls K H ((putF (fld i) v gs).map Prod.snd) ((ptF fs i x).map Prod.snd)
  | [], [], i, x, v, _, _, hi, _, rx => ⟨rfl, fun y hy => by
    have hy : y ∈ [(i, x)] := hy
    rw [List.mem_singleton] at hy; subst hy; exact hi, ⟨v, [], rfl, rx, rfl⟩⟩
  | [], _ :: _, _, _, _, e, _, _, _, _ => by cases e
  | (j, y) :: fs, [], _, _, _, e, _, _, _, _ => by cases e
  | (j, y) :: fs, (g, w) :: gs, i, x, v, e, b, hi, r, rx => by
    injection e with e1 e2
    have e1 : g = fld j := e1
    have hj : j < 36 := b (j, y) (List.mem_cons_self ..)
    have b2 : ∀ x ∈ fs, x.1 < 36 := fun x hx => b x (List.mem_cons_of_mem _ hx)
    obtain ⟨w', r', e3, r1, r2⟩ := r
    injection e3 with e3 e4
    have e3 : w = w' := e3
    subst e3
    have r2 : Rls K H (gs.map Prod.snd) (fs.map Prod.snd) := by
      have e4 : gs.map Prod.snd = r' := e4
      rw [e4]; exact r2
    unfold ptF putF
    cases hb : Nat.beq i j with
    | true =>
      rw [if_pos (by rw [e1, beq_t hb])]
      refine ⟨?_, fun z hz => ?_, ⟨v, gs.map Prod.snd, rfl, rx, r2⟩⟩
      · show g :: gs.map Prod.fst = fld j :: _
        rw [e1, e2]
      · rcases List.mem_cons.mp hz with h | h
        · subst h; exact hj
        · exact b2 z h
    | false =>
      rw [if_neg (by rw [e1]; exact fun z => beq_f hb (fld_inj i hi j hj z.symm))]
      obtain ⟨h1, h2, h3⟩ := pt_fst e2 b2 hi r2 rx
      refine ⟨?_, fun z hz => ?_, ⟨w, (putF (fld i) v gs).map Prod.snd, rfl, r1, h3⟩⟩
      · show g :: (putF (fld i) v gs).map Prod.fst = fld j :: _
        rw [e1, h1]
      · rcases List.mem_cons.mp hz with h | h
        · subst h; exact hj
        · exact h2 z h
end
section
variable {X : Cx} {T : List (Addr × Str)} {W : WX} {e a b o tg : Expr} {es : List Expr} {K : PySem.W.Frag} {S S' S0 S1 : Sto} {H H' H0 H1 : Hp} {σ : L2.St} {τ : PSt} {PD : PEnds} {D : Ends} {pos pos' p apos : Pos} {q : QTA}
/-- what is known of classes -/
structure InsC (K : PySem.W.Frag) (C : Nat) (fs : List Nat) : Prop where
  at_ : ∀ c, PySem.W.nsIn K mainGlobals (cls C) = some (some (.ref c)) → Cls K c ∧ ∀ i ∈ fs, NoAttr K c (fld i)
def InsCs (K : PySem.W.Frag) (l : List (Nat × List Nat)) : Prop := ∀ x ∈ l, InsC K x.1 x.2
/-- which classes have the field -/
def hasF (l : List (Nat × List Nat)) (i C : Nat) : Bool := l.any fun x => Nat.beq x.1 C && x.2.any (Nat.beq i)
theorem hasF_ok {l : List (Nat × List Nat)} {i C : Nat} {c : Addr} (h : InsCs K l) (f : hasF l i C = true) (n : PySem.W.nsIn K mainGlobals (cls C) = some (some (.ref c))) : Cls K c ∧ NoAttr K c (fld i) := by
  unfold hasF at f
  obtain ⟨x, hx, h1⟩ := List.any_eq_true.mp f
  rw [Bool.and_eq_true] at h1
  obtain ⟨j, hj, h2⟩ := List.any_eq_true.mp h1.2
  have e1 := beq_t h1.1
  have e2 := beq_t h2
  subst e2
  obtain ⟨g1, g2⟩ := (h x hx).at_ c (by rw [e1]; exact n)
  exact ⟨g1, g2 i hj⟩
/-- o.f -/
def qFld (l : List (Nat × List Nat)) (i : Nat) (qo : QTE) : QTE := fun τ S P EP => qo τ S (fun o S1 => match o with
  | .ref p => match S1 p with
    | some (.ins C fs) => match lkF fs i with
      | some x => hasF l i C = true ∧ P x S1
      | none => False
    | _ => False
  | _ => False) EP
theorem q_fld {l : List (Nat × List Nat)} {i : Nat} {f : Str} {qo : QTE} (hl : InsCs X.K l) (ho : QE X T W o qo) (hf : fld i = f := by rfl) (hi : i < 36 := by decide) (hb : attributeBase o f X.env (eval o X.env) = eval o X.env := by rfl) : QE X T W (.Attribute o f pos) (qFld l i qo) := by
  subst hf
  exact pe_imp (pe_fld ho hb) fun σ H Q h => up_then (RR := Rl X.K) (RR' := Rl X.K) (qk := fun o _ S1 P _ => match o with
    | .ref p => match S1 p with
      | some (.ins C fs) => match lkF fs i with
        | some x => hasF l i C = true ∧ P x S1
        | none => False
      | _ => False
    | _ => False) h fun v x H1 le rl ⟨τ, S, P, EP, rs, rep, hf, k, kx⟩ => by
    cases x with
    | ref c =>
      have e1 : v = .ref c := rl
      subst e1
      simp only at hf
      cases z : S c with
      | none => simp only [z] at hf
      | some ob =>
        cases ob with
        | ins C fs =>
          simp only [z] at hf
          cases z2 : lkF fs i with
          | none => simp only [z2] at hf
          | some y =>
            simp only [z2] at hf
            obtain ⟨cc, dx, gs, e2, n, m, bd, r⟩ := rep.ob c _ z
            obtain ⟨w, e3, r3⟩ := lk_some m bd hi r z2
            obtain ⟨g1, g2⟩ := hasF_ok hl hf.1 n
            exact ⟨c, cc, dx, gs, w, rfl, e2, g1, g2, e3, k w y H1 S Fr.refl r3 rep hf.2⟩
        | _ => simp only [z] at hf
    | _ => exact hf.elim
/-- o.f = e -/
def qSFld (l : List (Nat × List Nat)) (i : Nat) (qo qe : QTE) : QTS := fun D τ S => qe τ S (fun y S1 => qo τ S1 (fun o S2 => match o with
  | .ref p => match S2 p with
    | some (.ins C fs) => (hasF l i C = true ∧ fs.length < 1000) ∧ D.nx τ (put S2 p (.ins C (ptF fs i y)))
    | _ => False
  | _ => False) (exAt D τ)) (exAt D τ)
theorem qs_fld {l : List (Nat × List Nat)} {i : Nat} {f : Str} {qo qe : QTE} (hl : InsCs X.K l) (ho : QE X T W o qo) (he : QE X T W e qe) (hf : fld i = f := by rfl) (hi : i < 36 := by decide) (hs : swapsWith e (some (.Attribute o f pos')) pos.line X.env = pure false := by rfl) :
    QS X T W (.Assign [.Attribute o f pos'] e pos) (qSFld l i qo qe) := by
  subst hf
  refine ps_imp (ps_fld ho he hs) fun D σ H ⟨τ, S, PD, rs, rep, q, c⟩ => con_up rs rep c q fun y py H1 S1 fr1 rs1 ry rep1 h1 => con_up rs1 rep1 (c.mono fr1) h1 fun v x H2 S2 fr2 rs2 rx rep2 h2 => ?_
  cases x with
  | ref p =>
    have e1 : v = .ref p := rx
    subst e1
    simp only at h2
    cases z : S2 p with
    | none => simp only [z] at h2
    | some ob =>
      cases ob with
      | ins C fs =>
        simp only [z] at h2
        obtain ⟨cc, dx, gs, e2, n, m, bd, r⟩ := rep2.ob p _ z
        obtain ⟨g1, g2⟩ := hasF_ok hl h2.1.1 n
        have hlen : gs.length < 1000 := by
          have q := congrArg List.length m
          rw [List.length_map, List.length_map] at q
          rw [q]; exact h2.1.2
        have ry2 : Rl X.K H2 y py := Rl.mono (fr2.le rep1) _ _ ry
        have fr := (fr1.trans fr2).trans (Fr.wr (o := .ins cc dx (putF (fld i) y gs)) (ob := .ins C (ptF fs i py)) z)
        have rp := rep2.wr (ob := .ins C (ptF fs i py)) (o := .ins cc dx (putF (fld i) y gs)) z fun le => by
          obtain ⟨k1, k2, k3⟩ := pt_fst m bd hi (Rls.mono le _ _ r) (Rl.mono le _ _ ry2)
          exact ⟨cc, dx, _, upd_same, n, k1, k2, k3⟩
        exact ⟨p, cc, dx, gs, rfl, e2, g1, g2, hlen, c.nx σ τ _ _ fr (rs2.mono ((Fr.wr (o := .ins cc dx (putF (fld i) y gs)) (ob := .ins C (ptF fs i py)) z).le rep2)) rp h2.2⟩
      | _ => simp only [z] at h2
  | _ => exact h2.elim

/-! ### methods -/
/-- a method that keeps a promise -/
structure Mt (P : Program) (w : World) (K : PySem.W.Frag) (mg : Str → Option Value) (base : Heap) (T : List (Addr × Str)) (k : Nat) (C : Nat) (m : Str) (st : Stmt) (n : Nat) (sp : PSp) : Prop where
  ex : ∃ (c f : Addr) (fd : FuncData) (ps : List Str), mg (cls C) = some (.ref c) ∧ PySem.W.nsIn K mainGlobals (cls C) = some (some (.ref c)) ∧ Cls K c ∧ Meth K c m f ∧ (∃ q, Fun K m q st f fd) ∧ Binds K fd ps [] ∧ ps.length = n ∧ ps = (defArgs st).args.map (·.arg) ∧ FnOk P w K mg base (L2N.CX P w) k f fd ps (spOf K T n sp)
theorem Mt.mono {P : Program} {w : World} {mg : Str → Option Value} {base : Heap} {k j C n : Nat} {m : Str} {st : Stmt} {sp : PSp} (M : Mt P w K mg base T j C m st n sp) (h : j ≤ k) : Mt P w K mg base T k C m st n sp :=
  let ⟨c, f, fd, ps, h0, h1, h2, h3, h4, h5, h6, h7, h8⟩ := M.ex
  ⟨c, f, fd, ps, h0, h1, h2, h3, h4, h5, h6, h7, h8.mono h⟩
def qMeth (C n : Nat) (sp : PSp) (qo : QTE) (qa : QTA) : QTE := fun τ S P EP => qo τ S (fun o S1 => match o with
  | .ref p => match S1 p with
    | some (.ins D _) => D = C ∧ qa τ S1 (fun xs S2 => xs.length + 1 = n ∧ sp (.ref p :: xs) S2 P EP) EP
    | _ => False
  | _ => False) EP
theorem meth_then {qo : QTE} {qa : QTA} {C n : Nat} {sp : PSp} {m : Str} {c : Addr} {Q : VK} (hn : PySem.W.nsIn K mainGlobals (cls C) = some (some (.ref c))) (hm : ∀ i < 36, fld i ≠ m) (h : upG K T W (Rl K) (qMeth C n sp qo qa) σ H Q) :
    upG K T W (Rl K) qo σ H fun x H1 => ∃ a dx fs, x = V.ref a ∧ H1 a = some (.ins c dx fs) ∧ fs.lookup m = none ∧ upG K T W (Rls K) qa σ H1 fun vs H2 => spOf K T n sp (.ref a :: vs) H2 Q (WE W σ) :=
  up_then (RR := Rl K) (RR' := Rl K) (qk := fun o τ S1 P EP => match o with
    | .ref p => match S1 p with
      | some (.ins D _) => D = C ∧ qa τ S1 (fun xs S2 => xs.length + 1 = n ∧ sp (PV.ref p :: xs) S2 P EP) EP
      | _ => False
    | _ => False) h fun v x H1 le rl ⟨τ, S, P, EP, rs, rep, hf, k, kx⟩ => by
    cases x with
    | ref p =>
      have e1 : v = .ref p := rl
      subst e1
      simp only at hf
      cases z : S p with
      | none => simp only [z] at hf
      | some ob =>
        cases ob with
        | ins D fs =>
          simp only [z] at hf
          obtain ⟨rfl, hf⟩ := hf
          obtain ⟨cc, dx, gs, e2, n1, m1, bd, r⟩ := rep.ob p _ z
          rw [hn] at n1
          cases n1
          refine ⟨p, dx, gs, rfl, e2, lk_no m1 bd hm, τ, S, _, EP, rs, rep, hf, fun vs ps H2 S2 fr rl2 rep2 ⟨hl, hs⟩ => ?_, kx⟩
          exact ⟨by rw [List.length_cons, Rls.length rl2]; exact hl, _, S2, P, EP, Rls.cons (p := .ref p) rfl rl2, rep2, hs, fun w p2 H3 S3 f3 => k w p2 H3 S3 (fr.trans f3), fun cv d y H3 S3 f3 => kx cv d y H3 S3 (fr.trans f3)⟩
        | _ => simp only [z] at hf
    | _ => exact hf.elim
theorem q_meth {k C n : Nat} {m : Str} {st : Stmt} {sp : PSp} {qo : QTE} {qa : QTA} {pl : Sem Bool} (M : Mt X.prog X.w X.K X.mg X.base T k C m st n sp) (hm : ∀ i < 36, fld i ≠ m) (hr : Room k X.A) (tk : L2N.Takes X W) (ho : QE X T W o qo) (ha : QA X T W (e :: es) qa)
    (hst : starEach (e :: es) X.env = (false, eval e X.env) :: starEach es X.env := by rfl) (hpl : (backTo pos (starEach es X.env)).any (·.1) = false := by rfl)
    (ht : eval (.Call (.Attribute o m apos) (e :: es) [] pos) X.env = (do
      let ov ← eval o X.env
      standAt apos.atName
      let (f, first) ← holding [ov] (getMethod ov m pl)
      callWith pos f first (backTo pos (starEach (e :: es) X.env)) (backToKw pos (keywordEach [] X.env))) := by rfl) : QE X T W (.Call (.Attribute o m apos) (e :: es) [] pos) (qMeth C n sp qo qa) := by
  obtain ⟨c, f, fd, ps, h0, h1, h2, h3, h4, h5, h6, h7, h8⟩ := M.ex
  refine ⟨fun pins s σ H Q I h => ?_⟩
  refine PySem.W.methodCall_KW (pl := pl) (thn (PE.run ho pins s σ H _ I (meth_then h1 hm h)) fun u s1 ⟨x, H1, I1, rx, a, dx, fs, ex, ea, l, q⟩ => ?_) ht
  subst ex
  obtain rfl : u = Value.ref a := rx
  refine getmeth_ok I1 ea h2 h3 l ?_
  refine PySem.W.callWith_K (first := [.ref a]) (h₀ := X.base) I.ok.mod.kin h3.kp (thn (PA.run ha pos pins s1 σ H1 _ I1 q) fun us s2 ⟨vs, H2, I2, r, q2⟩ => ⟨I2.kIn, ?_⟩) hst hpl
  exact run_fnS (us := .ref a :: us) (vs := .ref a :: vs) (E := WE W) h8 hr h5 (L2N.passAt tk σ) I2 (.cons rfl r) q2
theorem q_meth0 {k C n : Nat} {m : Str} {st : Stmt} {sp : PSp} {qo : QTE} {pl : Sem Bool} (M : Mt X.prog X.w X.K X.mg X.base T k C m st n sp) (hm : ∀ i < 36, fld i ≠ m) (hr : Room k X.A) (tk : L2N.Takes X W) (ho : QE X T W o qo)
    (ht : eval (.Call (.Attribute o m apos) [] [] pos) X.env = (do
      let ov ← eval o X.env
      standAt apos.atName
      let (f, first) ← holding [ov] (getMethod ov m pl)
      callWith pos f first (backTo pos (starEach [] X.env)) (backToKw pos (keywordEach [] X.env))) := by rfl) : QE X T W (.Call (.Attribute o m apos) [] [] pos) (qMeth C n sp qo qaN) := by
  obtain ⟨c, f, fd, ps, h0, h1, h2, h3, h4, h5, h6, h7, h8⟩ := M.ex
  refine ⟨fun pins s σ H Q I h => ?_⟩
  refine PySem.W.methodCall_KW (pl := pl) (thn (PE.run ho pins s σ H _ I (meth_then h1 hm h)) fun u s1 ⟨x, H1, I1, rx, a, dx, fs, ex, ea, l, q⟩ => ?_) ht
  subst ex
  obtain rfl : u = Value.ref a := rx
  refine getmeth_ok I1 ea h2 h3 l ?_
  refine PySem.W.callWith_K0 (first := [.ref a]) I1.kIn h3.kp ?_
  obtain ⟨τ, S, P, EP, rs, rep, hq, k1, k2⟩ := q
  exact run_fnS (us := [.ref a]) (vs := [.ref a]) (E := WE W) h8 hr h5 (L2N.passAt tk σ) I1 (.cons rfl .nil) (k1 [] [] H1 S Fr.refl rfl rep hq)

/-! ### new instances -/
structure MkC (P : Program) (w : World) (K : PySem.W.Frag) (mg : Str → Option Value) (base : Heap) (T : List (Addr × Str)) (k : Nat) (C : Nat) (st : Stmt) (n : Nat) (sp : PSp) : Prop where
  ex : ∃ (c f : Addr) (fd : FuncData) (ps : List Str), mg (cls C) = some (.ref c) ∧ PySem.W.nsIn K mainGlobals (cls C) = some (some (.ref c)) ∧ Mk K c f ∧ (∃ q, Fun K "__init__" q st f fd) ∧ Binds K fd ps [] ∧ ps.length = n ∧ ps = (defArgs st).args.map (·.arg) ∧ FnOk P w K mg base (L2N.CX P w) k f fd ps (spOf K T n sp)
theorem MkC.mono {P : Program} {w : World} {mg : Str → Option Value} {base : Heap} {k j C n : Nat} {st : Stmt} {sp : PSp} (M : MkC P w K mg base T j C st n sp) (h : j ≤ k) : MkC P w K mg base T k C st n sp :=
  let ⟨c, f, fd, ps, h0, h1, h2, h4, h5, h6, h7, h8⟩ := M.ex
  ⟨c, f, fd, ps, h0, h1, h2, h4, h5, h6, h7, h8.mono h⟩
theorem passes_no {P : Program} {w : World} : Passes (L2N.CX P w) X (fun _ _ _ => False) := fun _ _ _ _ _ _ _ ⟨_, _, _, _, _, _, _, _, _, _, _, _, z⟩ => z.elim
def mkIns (C n : Nat) (sp : PSp) (xs : List PV) (S : Sto) (P : QK PV) : Prop := ∀ p, S p = none → xs.length + 1 = n ∧ sp (.ref p :: xs) (put S p (.ins C [])) (fun v S2 => v = .non ∧ P (.ref p) S2) X0
def qMake (C n : Nat) (sp : PSp) (qa : QTA) : QTE := fun τ S P EP => qa τ S (fun xs S1 => mkIns C n sp xs S1 P) EP
theorem mk_ins {C n : Nat} {sp : PSp} {vs : List V} {xs : List PV} {c : Addr} {P : QK PV} {Q : VK} (hn : PySem.W.nsIn K mainGlobals (cls C) = some (some (.ref c))) (rl : Rls K H vs xs) (rep : Rep K T S H) (hp : mkIns C n sp xs S P)
    (k : ∀ v p H' S', Fr S H S' H' → Rl K H' v p → Rep K T S' H' → P p S' → Q v H') (x dx : Addr) (hx : H x = none) (hd : H dx = none) (hne : dx ≠ x) :
    spOf K T n sp (.ref x :: vs) (upd (upd H dx (.own x)) x (.ins c dx [])) (fun v H2 => v = .non ∧ Q (.ref x) H2) (fun _ _ _ => False) := by
  have n1 : upd H dx (.own x) x = none := by rw [upd_ne (Ne.symm hne)]; exact hx
  obtain ⟨hl, hs⟩ := hp x (rep.free hx)
  have f1 : Fr S H S (upd H dx (.own x)) := Fr.hid hd
  have rep1 : Rep K T S (upd H dx (.own x)) := rep.hid hd
  have rep2 : Rep K T (put S x (.ins C [])) (upd (upd H dx (.own x)) x (.ins c dx [])) := rep1.new n1 ⟨c, dx, [], upd_same, hn, rfl, fun _ h => (nomatch h), rfl⟩
  have f2 : Fr S H (put S x (.ins C [])) (upd (upd H dx (.own x)) x (.ins c dx [])) := f1.trans (Fr.new n1)
  refine ⟨by rw [List.length_cons, Rls.length rl]; exact hl, _, _, _, _, Rls.cons (p := .ref x) rfl (Rls.mono (f2.le rep) _ _ rl), rep2, hs, fun v p H' S' fr rv rp ⟨e, hq⟩ => ?_, fun _ _ _ _ _ _ _ _ z => z.elim⟩
  subst e
  exact ⟨rv, k (.ref x) (.ref x) H' S' (f2.trans fr) rfl rp hq⟩
theorem q_make {k C n : Nat} {st : Stmt} {sp : PSp} {x : Str} {qa : QTA} (M : MkC X.prog X.w X.K X.mg X.base T k C st n sp) (hr : Room (k + 1) X.A) (hg : Gl X x) (ha : QA X T W (e :: es) qa) (hx : cls C = x := by rfl) (hdb : (x == ("__debug__" : Str)) = false := by decide)
    (he : starEach (e :: es) X.env = (false, eval e X.env) :: starEach es X.env := by rfl) (hpl : (backTo pos (starEach es X.env)).any (·.1) = false := by rfl) : QE X T W (.Call (.Name x p) (e :: es) [] pos) (qMake C n sp qa) := by
  obtain ⟨c, f, fd, ps, h0, h1, h2, h4, h5, h6, h7, h8⟩ := M.ex
  rw [hx] at h0
  refine pe_imp (pe_make (E := fun _ _ _ => False) h2 h8 hr hg h0 h5 .nil passes_no ha hdb he hpl) fun σ H Q ⟨τ, S, P, EP, rs, rep, hq, k1, k2⟩ => ?_
  refine ⟨τ, S, _, EP, rs, rep, hq, fun vs ps H' S' fr rl rep' hp => ?_, k2⟩
  intro x dx nx nd ne
  rw [List.append_nil]
  exact mk_ins h1 rl rep' hp (fun v p H2 S2 f2 => k1 v p H2 S2 (fr.trans f2)) x dx nx nd ne
theorem q_make0 {k C n : Nat} {st : Stmt} {sp : PSp} {x : Str} (M : MkC X.prog X.w X.K X.mg X.base T k C st n sp) (hr : Room (k + 1) X.A) (hg : Gl X x) (hx : cls C = x := by rfl) (hdb : (x == ("__debug__" : Str)) = false := by decide) : QE X T W (.Call (.Name x p) [] [] pos) (qMake C n sp qaN) := by
  obtain ⟨c, f, fd, ps, h0, h1, h2, h4, h5, h6, h7, h8⟩ := M.ex
  rw [hx] at h0
  refine pe_imp (pe_make0 (E := fun _ _ _ => False) h2 h8 hr hg h0 h5 .nil passes_no hdb) fun σ H Q ⟨τ, S, P, EP, rs, rep, hq, k1, k2⟩ => ?_
  intro x dx nx nd ne
  exact mk_ins (vs := []) (xs := []) h1 rfl rep hq k1 x dx nx nd ne
end
end Mp

set_option Elab.async false
set_option linter.all false
set_option maxRecDepth 100000
set_option maxHeartbeats 2000000
namespace Mp
open PySem PySem.Spec PyProof.Rows L2
section
variable {X : Cx} {T : List (Addr × Str)} {W : WX} {e a b o tg : Expr} {es : List Expr} {K : PySem.W.Frag} {S S' S0 S1 : Sto} {H H' H0 H1 : Hp} {σ : L2.St} {τ : PSt} {PD : PEnds} {D : Ends} {pos pos' p apos : Pos} {q : QTA}
theorem insC_mk {C : Nat} {fs : List Nat} {a : Addr} (h : PySem.W.nsIn K mainGlobals (cls C) = some (some (.ref a))) (c : Cls K a) (n : ∀ i ∈ fs, NoAttr K a (fld i)) : InsC K C fs := ⟨fun c' h' => by
  rw [h] at h'
  cases h'
  exact ⟨c, n⟩⟩

/-! ### isinstance(x, (T1, T2, ..)), built in -/
def isKinds (k : String) (ts : List String) : Bool := ts.any (isKind k)
theorem kit_anys {k : String} (hk : k ∈ ["NoneType", "bool", "int", "str", "tuple", "list", "dict"]) : ∀ {ts : List String}, (∀ t ∈ ts, t ∈ ["bool", "int", "str", "tuple", "list", "dict"]) → PySem.W.kitAny K (.type k) (ts.map Value.type) = some (isKinds k ts)
  | [], _ => rfl
  | t :: ts, h => by
    have ih := kit_anys hk (ts := ts) fun u hu => h u (List.mem_cons_of_mem _ hu)
    refine kitAny_cons (b := isKind k t) (kit_ty (kit_all k hk t (h t (List.mem_cons_self ..)))) (fun e => ?_) fun e => ?_
    · rw [ih]
      show some (isKinds k ts) = some (isKind k t || isKinds k ts)
      rw [e]; rfl
    · show (isKind k t || isKinds k ts) = true
      rw [e]; rfl
def qIsiT (ts : List String) (q : QTE) : QTE := fun τ S P EP => q τ S (fun x S1 => match kindOf x S1 with
  | some k => P (.bl (isKinds k ts)) S1
  | none => False) EP
theorem paired_ty : ∀ ts : List String, Paired ClsV (ts.map V.ty) (ts.map Value.type)
  | [] => .nil
  | t :: ts => .cons (.ty t) (paired_ty ts)
theorem pat_nil : PA X [] (fun σ H Q => Q [] H) := pa_nil
theorem pat_cons {c : V} {cs : List V} (h : PE X e (tC c)) (hr : PA X es (fun σ H Q => Q cs H)) (hs : starEach (e :: es) X.env = (false, eval e X.env) :: starEach es X.env := by rfl) : PA X (e :: es) (fun σ H Q => Q (c :: cs) H) := pa_cons h hr hs
theorem q_isiT {ts : List String} {q : QTE} {k1 : Nat} {p1 : Pos} (hg : Gl X "isinstance") (hm : X.mg "isinstance" = none) (ht : ∀ t ∈ ts, t ∈ ["bool", "int", "str", "tuple", "list", "dict"]) (hl : ts.length ≤ 1000) (ha : QE X T W e q) (hc : PA X es (fun σ H Q => Q (ts.map V.ty) H))
    (hs : starEach [e, .Tuple es k1 p1] X.env = (false, eval e X.env) :: starEach [.Tuple es k1 p1] X.env := by rfl) (hs2 : starEach [.Tuple es k1 p1] X.env = [(false, eval (.Tuple es k1 p1) X.env)] := by rfl) (hpl : (backTo pos (starEach [.Tuple es k1 p1] X.env)).any (·.1) = false := by rfl) :
    QE X T W (.Call (.Name "isinstance" p) [e, .Tuple es k1 p1] [] pos) (qIsiT ts q) :=
  pe_imp (pe_callB call_isiT hg hm (by decide +kernel) (pa_cons ha (pa_cons (pe_tup hc) pa_nil hs2) hs) (he := hs) (hpl := hpl)) fun σ H Q h =>
    up_then (RR := Rl X.K) (RR' := Rl X.K) (qk := fun x _ S1 P _ => match kindOf x S1 with | some k => P (PV.bl (isKinds k ts)) S1 | none => False) h fun v x H1 l rl ⟨τ, S, P, EP, rs, rep, hf, k, _⟩ => by
      simp only at hf
      cases z : kindOf x S with
      | none => rw [z] at hf; exact hf.elim
      | some kd =>
        rw [z] at hf
        refine ⟨by rw [List.length_map]; exact le_line hl, fun p hp => ?_⟩
        have le : Le H1 (upd H1 p (.tup (ts.map V.ty))) := le_new hp
        exact ⟨v, p, ts.map V.ty, .type kd, ts.map Value.type, isKinds kd ts, rfl, upd_same, paired_ty ts, kind_ty (Rl.mono le _ _ rl) (rep.hid hp) z, kit_anys (kind_in z) ht, k (.bl _) (.bl _) _ S (Fr.hid hp) rfl (rep.hid hp) hf⟩

/-! ### o.f op= e -/
def qAugF (l : List (Nat × List Nat)) (i : Nat) (f : FO2) (qo qe : QTE) : QTS := fun D τ S => qo τ S (fun o S1 => match o with
  | .ref p => match S1 p with
    | some (.ins C fs) => match lkF fs i with
      | some x => hasF l i C = true ∧ qe τ S1 (fun y S2 => f x y S2 fun z S3 => match S3 p with
        | some (.ins C' fs') => (C' = C ∧ fs'.length < 1000) ∧ D.nx τ (put S3 p (.ins C (ptF fs' i z)))
        | _ => False) (exAt D τ)
      | none => False
    | _ => False
  | _ => False) (exAt D τ)
theorem qs_fldAug {l : List (Nat × List Nat)} {i : Nat} {fn : Str} {op : Operator} {r : R2} {f : FO2} {qo qe : QTE} (hr : OpR X (inplaceOp op) r) (oq : OpQ X.K T r f) (hl : InsCs X.K l) (ho : QE X T W o qo) (he : QE X T W e qe) (hf : fld i = fn := by rfl) (hi : i < 36 := by decide) :
    QS X T W (.AugAssign (.Attribute o fn pos') op e pos) (qAugF l i f qo qe) := by
  subst hf
  refine ps_imp (ps_fldaug ho he (fun pins s σ H x y u v Q I rx ry h => hr pins s σ H x y u v Q I rx ry h)) fun D σ H ⟨τ, S, PD, rs, rep, q, c⟩ => con_up rs rep c q fun v x H1 S1 fr1 rs1 rx rep1 h1 => ?_
  cases x with
  | ref p =>
    have e1 : v = .ref p := rx
    subst e1
    simp only at h1
    cases z : S1 p with
    | none => simp only [z] at h1
    | some ob =>
      cases ob with
      | ins C fs =>
        simp only [z] at h1
        cases z2 : lkF fs i with
        | none => simp only [z2] at h1
        | some y =>
          simp only [z2] at h1
          obtain ⟨cc, dx, gs, e2, n, m, bd, r1⟩ := rep1.ob p _ z
          obtain ⟨w, e3, r3⟩ := lk_some m bd hi r1 z2
          obtain ⟨g1, g2⟩ := hasF_ok hl h1.1 n
          refine ⟨p, cc, dx, gs, w, rfl, e2, g1, g2, e3, con_up rs1 rep1 (c.mono fr1) h1.2 fun v2 y2 H2 S2 fr2 rs2 ry rep2 h2 => ?_⟩
          refine oq w v2 y y2 H2 S2 _ _ (Rl.mono (fr2.le rep1) _ _ r3) ry rep2 h2 fun v3 y3 H3 S3 fr3 r3' rep3 h3 => ?_
          cases z3 : S3 p with
          | none => simp only [z3] at h3
          | some ob3 =>
            cases ob3 with
            | ins C' fs' =>
              simp only [z3] at h3
              obtain ⟨⟨rfl, hlen⟩, h3⟩ := h3
              obtain ⟨cc', dx', gs', e2', n', m', bd', r1'⟩ := rep3.ob p _ z3
              rw [n] at n'
              cases n'
              have hlen' : gs'.length < 1000 := by
                have q := congrArg List.length m'
                rw [List.length_map, List.length_map] at q
                rw [q]; exact hlen
              have fw : Fr S3 H3 (put S3 p (.ins C' (ptF fs' i y3))) (upd H3 p (.ins cc dx' (putF (fld i) v3 gs'))) := Fr.wr z3
              have rp := rep3.wr (ob := .ins C' (ptF fs' i y3)) (o := .ins cc dx' (putF (fld i) v3 gs')) z3 fun le => by
                obtain ⟨k1, k2, k3⟩ := pt_fst m' bd' hi (Rls.mono le _ _ r1') (Rl.mono le _ _ r3')
                exact ⟨cc, dx', _, upd_same, n, k1, k2, k3⟩
              exact ⟨dx', gs', e2', hlen', c.nx σ τ _ _ ((fr1.trans fr2).trans (fr3.trans fw)) (rs2.mono ((fr3.trans fw).le rep2)) rp h3⟩
            | _ => simp only [z3] at h3
      | _ => simp only [z] at h1
  | _ => exact h1.elim
theorem qs_fldSub {l : List (Nat × List Nat)} {i : Nat} {fn : Str} {qo qe : QTE} (hl : InsCs X.K l) (ho : QE X T W o qo) (he : QE X T W e qe) (hf : fld i = fn := by rfl) (hi : i < 36 := by decide) : QS X T W (.AugAssign (.Attribute o fn pos') .Sub e pos) (qAugF l i fSub qo qe) :=
  qs_fldAug iop_sub (oq_int0 fun p1 p2 S P h => by
    cases p1 <;> cases p2 <;> first | exact h.elim | exact ⟨_, _, _, rfl, rfl, h, fun _ _ => rfl⟩) hl ho he hf hi
theorem oq_addA : OpQ K T (fun x y H Q => rAddI x y H Q ∨ rAddS x y H Q) fAddA := fun x y p1 p2 H S P Q r1 r2 rep h k => by
  cases p1 <;> cases p2 <;> try exact h.elim
  case int.int i j => exact .inl ⟨i, j, r1, r2, k (.int (i + j)) (.int (i + j)) H S Fr.refl rfl rep h⟩
  case str.str c d =>
    refine .inr ⟨_, _, r1, r2, by rw [str_len, str_len]; exact h.1, ?_⟩
    rw [str_app]
    exact k (.str ⟨(c ++ d).toArray⟩) (.str (c ++ d)) H S Fr.refl rfl rep h.2
theorem qs_fldAdd {l : List (Nat × List Nat)} {i : Nat} {fn : Str} {qo qe : QTE} (hl : InsCs X.K l) (ho : QE X T W o qo) (he : QE X T W e qe) (hf : fld i = fn := by rfl) (hi : i < 36 := by decide) : QS X T W (.AugAssign (.Attribute o fn pos') .Add e pos) (qAugF l i fAddA qo qe) :=
  qs_fldAug (r := fun x y H Q => rAddI x y H Q ∨ rAddS x y H Q) (OpR.or iop_add iop_add_str) oq_addA hl ho he hf hi
theorem qs_augMul {i : Nat} {x : Str} {q : QTE} (hN : X.N.Nodup) (he : QE X T W e q) (hi : X.N[i]? = some x := by rfl) (hx : Loc X.env.scope x := by first | exact Or.inl rfl | exact Or.inr rfl)
    (hf : X.fn x = true ∨ X.env.scope.names.lookup x = some .local := by first | exact .inl rfl | exact .inr rfl | assumption) : QS X T W (.AugAssign (.Name x pos') .Mult e pos) (qAug i fMul q) :=
  qs_aug iop_mul (oq_int fun p1 p2 S P h => by
    cases p1 <;> cases p2 <;> first | exact h.elim | exact ⟨_, _, _, rfl, rfl, h.1, h.2, fun _ _ => rfl⟩) hN he hi hx hf
end
end Mp

set_option Elab.async false
set_option linter.all false
set_option maxRecDepth 100000
set_option maxHeartbeats 2000000
namespace Mp
open PySem PySem.Spec PyProof.Rows L2
section
variable {X : Cx} {T : List (Addr × Str)} {W : WX} {e a b o tg : Expr} {es : List Expr} {K : PySem.W.Frag} {S S' S0 S1 : Sto} {H H' H0 H1 : Hp} {σ : L2.St} {τ : PSt} {PD : PEnds} {D : Ends} {pos pos' p apos cpos : Pos} {q : QTA}

/-! ### xs.remove(x), xs.index(x): data -/
def rRemD (K : PySem.W.Frag) : V → List V → Hp → VK → Prop := fun x vs H Q => ∃ (l : Addr) (xs : List V) (y : V) (ds : List PyData) (d : PyData) (j : Nat), x = .ref l ∧ vs = [y] ∧ H l = some (.lst xs) ∧ DpAll K H xs ds ∧ Dp K H y d ∧ SeqAt.shaped d = true ∧ SeqAt.shaped (.list ds) = true ∧ SeqAt.dataPlace ds d = some j ∧ Q .non (upd H l (.lst (xs.eraseIdx j)))
theorem mt_removeD (hu : X.A.units + 65 < cLine) : MtR X "list.remove" (rRemD X.K) := by
  intro pins s σ H x vs v us Q I rx rxs h
  obtain ⟨l, xs, y, ds, d, j, rfl, rfl, hH, hx, hy, sd, sl, hj, q⟩ := h
  cases rx
  obtain ⟨u, rfl, ru⟩ := rxs.one
  obtain ⟨z, its, n, r, hl, e⟩ := I.lstM hH
  obtain ⟨as, r1⟩ := Dp.readsAll I ds xs its hx r
  obtain ⟨bs, r2⟩ := Dp.reads I d y u hy ru
  have hroom : X.A.units + 1 + min (PyData.depthAll ds) d.depth < cLine := room_sh sd hu
  refine SeqAt.remove_list_data (vs := its.toArray) (xs := ds) (as := as) (bs := bs) ⟨_, e, rfl, n, rfl⟩ (by simpa using r1) r2 (PyData.plainAll_of_canLay0 ds (SeqAt.canLay_of_shaped sl)) (PyData.plain_of_canLay0 d (SeqAt.canLay_of_shaped sd)) hroom hj (by rw [List.size_toArray]; omega) ?_
  refine ⟨.non, _, I.lset (its' := its.eraseIdx j) (t' := s.toks) hH e ?_ (r.eraseIdx j) ?_, rfl, q⟩
  · show its.toArray.eraseIdxIfInBounds j = (its.eraseIdx j).toArray
    rw [List.eraseIdxIfInBounds_toArray]
  · have := len_erase xs j
    omega
def plP (x : PV) (xs : List PV) : Option Nat := xs.findIdx? fun y => PyData.eqv (dOf y) (dOf x)
def okD (x : PV) (xs : List PV) : Prop := (datP x = true ∧ datsP xs = true) ∧ SeqAt.shaped (dOf x) = true ∧ SeqAt.shaped (.list (dsOf xs)) = true
theorem plP_place {x : PV} {xs : List PV} : SeqAt.dataPlace (dsOf xs) (dOf x) = plP x xs := by
  unfold SeqAt.dataPlace plP
  rw [dsOf_map, List.findIdx?_map]
  rfl
def qRem (qo qe : QTE) : QTE := fun τ S P EP => qo τ S (fun o S1 => match o with
  | .ref c => match S1 c with
    | some (.lst _) => qe τ S1 (fun x S2 => match S2 c with
      | some (.lst xs) => okD x xs ∧ match plP x xs with
        | some j => P .non (put S2 c (.lst (xs.eraseIdx j)))
        | none => False
      | _ => False) EP
    | _ => False
  | _ => False) EP
theorem q_remove {qo qe : QTE} (hu : X.A.units + 65 < cLine) (ho : QE X T W o qo) (ha : QE X T W e qe)
    (hbase : attributeBase o "remove" X.env (eval o X.env) = eval o X.env := by rfl)
    (hfew : ((backTo cpos (starEach [e] X.env)).all (fun x => !x.1) && (backToKw cpos (keywordEach [] X.env)).all (fun x => x.1.isSome) && decide ([e].length + ([] : List Keyword).length + (if ([] : List Keyword).isEmpty then 0 else 1) < 30)) = true := by rfl)
    (hline : (apos.endLine == cpos.line) = true := by rfl) (hs : starEach [e] X.env = (false, eval e X.env) :: starEach [] X.env := by rfl) (hplain : (backTo cpos (starEach [] X.env)).any (·.1) = false := by rfl) :
    QE X T W (.Call (.Attribute o "remove" apos) [e] [] cpos) (qRem qo qe) :=
  pe_imp (pe_bm PySem.F.plainAttrs_list PySem.F.slot_list_remove PySem.F.type_list_remove (mt_removeD hu) ho (pa_cons ha pa_nil hs) hbase hfew hline hs hplain) fun σ H Q h =>
    up_then (RR := Rl X.K) (RR' := Rl X.K) (qk := fun o τ S1 P EP => match o with
      | .ref c => match S1 c with
        | some (.lst _) => qe τ S1 (fun x S2 => match S2 c with
          | some (.lst xs) => okD x xs ∧ match plP x xs with
            | some j => P PV.non (put S2 c (.lst (xs.eraseIdx j)))
            | none => False
          | _ => False) EP
        | _ => False
      | _ => False) h fun v x H1 l rl ⟨τ, S, P, EP, rs, rep, hf, k, kx⟩ => by
      cases x with
      | ref c =>
        have e1 : v = .ref c := rl
        subst e1
        simp only at hf
        cases z : S c with
        | none => rw [z] at hf; exact hf.elim
        | some ob =>
          rw [z] at hf
          cases ob with
          | lst xs0 =>
            obtain ⟨vs0, e0, t0⟩ := rep.ob c _ z
            refine ⟨.inl ⟨rfl, vs0, SqL.of e0⟩, τ, S, _, EP, rs, rep, hf, fun w y H2 S2 fr r2 rep2 hp => ?_, kx⟩
            cases z2 : S2 c with
            | none => simp only [z2] at hp
            | some ob2 =>
              cases ob2 with
              | lst xs =>
                simp only [z2] at hp
                obtain ⟨⟨⟨d1, d2⟩, s1, s2⟩, hp⟩ := hp
                cases z3 : plP y xs with
                | none => simp only [z3] at hp
                | some j =>
                  simp only [z3] at hp
                  obtain ⟨vs, e1, t1⟩ := rep2.ob c _ z2
                  refine ⟨c, vs, w, dsOf xs, dOf y, j, rfl, rfl, e1, dats_dp rep2 (datsP_of d2) t1, dat_dp rep2 (datP_of d1) r2, s1, s2, by rw [plP_place, z3], ?_⟩
                  exact k .non .non _ _ (fr.trans (Fr.wr z2)) rfl (rep2.wr (ob := .lst (xs.eraseIdx j)) z2 fun le => ⟨_, upd_same, Rls.mono le _ _ (t1.eraseIdx j)⟩) hp
              | _ => simp only [z2] at hp
          | _ => exact hf.elim
      | _ => exact hf.elim
def fIdxD : FMt := fun c ps S P => match ps with
  | [x] => match S c with
    | some (.lst xs) => okD x xs ∧ match plP x xs with
      | some j => P (.int j) S
      | none => False
    | _ => False
  | _ => False
theorem mq_idxD : MtQ K T (rIndexD K) fIdxD := fun vs ps c H S P Q rl rep h k => by
  match ps, h with
  | [x], h =>
    unfold fIdxD at h
    simp only at h
    obtain ⟨v, w, e1, h1, h2⟩ := rl
    have h2 : w = [] := h2
    subst h2; subst e1
    cases z : S c with
    | none => rw [z] at h; exact h.elim
    | some ob =>
      rw [z] at h
      cases ob with
      | lst xs =>
        obtain ⟨⟨⟨d1, d2⟩, s1, s2⟩, hp⟩ := h
        cases z3 : plP x xs with
        | none => simp only [z3] at hp
        | some j =>
          simp only [z3] at hp
          obtain ⟨us, e2, t⟩ := rep.ob c _ z
          unfold plP at z3
          obtain ⟨g1, g2, g3⟩ := List.findIdx?_eq_some_iff_getElem.mp z3
          have hds : ∀ m (hm : m < xs.length), (dsOf xs)[m]? = some (dOf xs[m]) := fun m hm => by
            rw [dsOf_map, List.getElem?_map, List.getElem?_eq_getElem hm]; rfl
          refine ⟨c, v, dOf x, dsOf xs, j, dOf xs[j], rfl, rfl, .lst (SqL.of e2) (dats_dp rep (datsP_of d2) t), dat_dp rep (datP_of d1) h1, s2, s1, hds j g1, g2, fun m z' hm hz => ?_, k (.int _) (.int _) H S Fr.refl rfl rep hp⟩
          rw [hds m (by omega)] at hz
          cases hz
          simpa using g3 m hm
      | _ => exact h.elim
theorem q_indexD {qo : QTE} (hu : X.A.units + 65 < cLine) (ho : QE X T W o qo) (ha : QA X T W (e :: es) q)
    (hbase : attributeBase o "index" X.env (eval o X.env) = eval o X.env := by rfl)
    (hfew : ((backTo cpos (starEach (e :: es) X.env)).all (fun x => !x.1) && (backToKw cpos (keywordEach [] X.env)).all (fun x => x.1.isSome) && decide ((e :: es).length + ([] : List Keyword).length + (if ([] : List Keyword).isEmpty then 0 else 1) < 30)) = true := by rfl)
    (hline : (apos.endLine == cpos.line) = true := by rfl) (hs : starEach (e :: es) X.env = (false, eval e X.env) :: starEach es X.env := by rfl) (hplain : (backTo cpos (starEach es X.env)).any (·.1) = false := by rfl) :
    QE X T W (.Call (.Attribute o "index" apos) (e :: es) [] cpos) (qMl fIdxD qo q) :=
  q_ml PySem.F.slot_list_index PySem.F.type_list_index (mt_indexD hu) mq_idxD ho ha hbase hfew hline hs hplain

/-! ### len(set(xs)), xs unlike tuples of ints -/
theorem nodup_perm_len {α : Type} [DecidableEq α] {l m : List α} (h1 : l.Nodup) (h2 : m.Nodup) (h : ∀ x, x ∈ l ↔ x ∈ m) : l.length = m.length := ((List.perm_ext_iff_of_nodup h1 h2).mpr h).length_eq
theorem rls_tups : ∀ {ks : List (List Int)} {vs : List V}, Rls K H vs (ks.map fun l => PV.tup (l.map PV.int)) → ∃ ps : List (Addr × List Int), vs = ps.map (fun p => V.ref p.1) ∧ ps.map Prod.snd = ks ∧ ∀ p ∈ ps, SqT K H p.1 (p.2.map V.int)
  | [], vs, h => by
    have e : vs = [] := h
    exact ⟨[], by rw [e]; rfl, rfl, fun _ h => nomatch h⟩
  | k :: ks, _, ⟨v, w, e, h1, h2⟩ => by
    obtain ⟨ps, e1, e2, e3⟩ := rls_tups h2
    obtain ⟨c, us, ev, sq, t⟩ := h1
    have eu := intsOf_rl (intsOf_map k) t
    subst eu
    refine ⟨(c, k) :: ps, by rw [e, e1, ev]; rfl, by rw [List.map_cons, e2], fun p hp => ?_⟩
    rcases List.mem_cons.mp hp with z | z
    · subst z; exact SqT.of sq
    · exact e3 p z
def qLenSetT (qa : QTH) : QTE := fun τ S P EP => qa τ S (fun x S1 => match x.its S1 with
  | some xs => x.tup = false ∧ ∃ ks : List (List Int), xs = ks.map (fun l => PV.tup (l.map PV.int)) ∧ ks.length < 64 ∧ ks.Nodup ∧ P (.int ks.length) S1
  | none => False) EP
theorem q_lenSetT {qa : QTH} {p2 p3 : Pos} (hc : X.calm = true) (hu : X.A.units + 64 < cLine) (hg : Gl X "len") (hm : X.mg "len" = none) (hg2 : Gl X "set") (hm2 : X.mg "set" = none) (ha : QH X T W a qa)
    (na : starEach [a] X.env = (false, eval a X.env) :: starEach [] X.env := by rfl) : QE X T W (.Call (.Name "len" p) [.Call (.Name "set" p2) [a] [] p3] [] pos) (qLenSetT qa) := by
  refine ⟨fun pins s σ H Q I ⟨τ, S, P, EP, rs, rep, hq, k1, k2⟩ => ?_⟩
  refine Call_ (ld_blt I hg hm PySem.boot_len ?_)
  refine PyProof.Rows.callWith_builtin1 (PyProof.Rows.args_cons ?_ rfl) rfl rfl
  refine Call_ (ld_blt I hg2 hm2 PyProof.Rows.boot_set ?_)
  refine PyProof.Rows.callWith_type1 (PyProof.Rows.args_cons (thn (PE.run ha pins s σ H (fun v H1 => ∃ x S1, Fr S H S1 H1 ∧ RSH X.K S1 H1 v x ∧ Rep X.K T S1 H1 ∧ (match x.its S1 with
    | some xs => x.tup = false ∧ ∃ ks : List (List Int), xs = ks.map (fun l => PV.tup (l.map PV.int)) ∧ ks.length < 64 ∧ ks.Nodup ∧ P (.int ks.length) S1
    | none => False)) I ⟨τ, S, _, EP, rs, rep, hq, fun v x H1 S1 fr r1 rep1 hp => ⟨x, S1, fr, r1, rep1, hp⟩, k2⟩) fun v s1 ⟨x, H1, I1, r1, y, S1, fr, rl, rep1, q1⟩ => PyProof.Rows.args_nil ?_) na) na rfl
  cases z : y.its S1 with
  | none => simp only [z] at q1
  | some xs =>
    simp only [z] at q1
    obtain ⟨ht, ks, rfl, h1, hnd, q1⟩ := q1
    obtain ⟨l, vs, rfl, hq, t⟩ := rl.lst rep1 z ht
    cases r1
    obtain ⟨ps, e1, e2, e3⟩ := rls_tups t
    subst e1
    obtain ⟨its, r, pl, hz⟩ := I1.list hq
    have hpl : ps.length = ks.length := by rw [← e2, List.length_map]
    refine call_set_tups (P := X.prog) (w := X.w) ps (I1.ok.hd hc) pl.isList (by simpa using refs_of_vals r) (fun p hp => I1.isT (e3 p hp)) (by omega) (by omega) fun h' tk L es ep t R g hk => ?_
    refine PyProof.Rows.args_nil ?_
    obtain ⟨o, ho, hex, hd⟩ := R.ob
    have hsz := SetTR.size (s := { s1 with heap := h', toks := tk }) R
    have hfew := R.few
    have I2 : Inv X pins σ H1 { s1 with heap := h', toks := tk } := I1.kept fun b o e => hk b o e
    have hlen : es.size = ks.length := by
      rw [hsz]
      have q := nodup_perm_len R.nd hnd fun x => ⟨fun hx => ?_, fun hx => ?_⟩
      · rwa [List.length_map] at q
      · obtain ⟨p, hp, rfl⟩ := List.mem_map.mp hx
        rw [← e2]
        exact List.mem_map_of_mem (List.mem_of_mem_take (g.sub p hp))
      · rw [← e2] at hx
        obtain ⟨p, hp, rfl⟩ := List.mem_map.mp hx
        exact g.all p (by rw [List.take_length]; exact hp)
    refine call_len_set ho hex hd (SetTR.fits (s := { s1 with heap := h', toks := tk }) R) (by rw [hlen] <;> omega) ⟨.int ks.length, H1, I2.tok _, ⟨_, by rw [hlen]⟩, ?_⟩
    exact k1 (.int _) (.int _) H1 S1 fr rfl rep1 q1

/-! ### list(range(..)) -/
theorem rls_range (i : Int) : ∀ n : Nat, Rls K H ((List.range n).map fun k : Nat => V.int (i + k)) (rangeP i n)
  | n => by
    have e : rangeP i n = (List.range n).map fun k : Nat => PV.int (i + k) := by simp [rangeP]
    rw [e]
    generalize List.range n = l
    induction l with
    | nil => exact rfl
    | cons x l ih => exact ⟨_, _, rfl, rfl, ih⟩
def qLstR1 (qa : QTE) : QTA := fun τ S P EP => qa τ S (fun x S1 => match x with
  | .int j => (0 ≤ j ∧ j ≤ 16777216) ∧ P (rangeP 0 j.toNat) S1
  | _ => False) EP
theorem ql_range1 {qa : QTE} {p2 p3 : Pos} (hc : X.calm = true) (hg : Gl X "list") (hm : X.mg "list" = none) (hg2 : Gl X "range") (hm2 : X.mg "range" = none) (ha : QE X T W a qa)
    (ns : starEach [a] X.env = [(false, eval a X.env)] := by rfl) (na : starEach [.Call (.Name "range" p2) [a] [] p3] X.env = (false, eval (.Call (.Name "range" p2) [a] [] p3) X.env) :: starEach [] X.env := by rfl) : QL X T W (.Call (.Name "list" p) [.Call (.Name "range" p2) [a] [] p3] [] pos) (qLstR1 qa) :=
  pe_imp (pe_listRg hc hg hm (prg_1 hg2 hm2 ha ns) na) fun σ H Q ⟨τ, S, P, EP, rs, rep, hq, k1, k2⟩ => by
    refine ⟨τ, S, _, EP, rs, rep, hq, fun v x H1 S1 fr rl rep1 hp => ?_, k2⟩
    cases x with
    | int j =>
      have e1 : v = .int j := rl
      subst e1
      obtain ⟨⟨h0, h1⟩, hp⟩ := hp
      refine ⟨j, rfl, RgOk.of_le (by omega) h1 (by omega) h0, fun c hc => ?_⟩
      have e : rgV 0 j = (List.range j.toNat).map fun k : Nat => V.int (0 + k) := by unfold rgV; rw [Int.sub_zero]
      exact k1 c _ (rangeP 0 j.toNat) _ S1 (fr.trans (Fr.hid hc)) upd_same (rep1.free hc) (Nu.of fr hc) (by rw [e]; exact rls_range 0 _) (rep1.hid hc) hp
    | _ => exact hp.elim

/-! ### min, max, sum of ints -/
def qAgg (f : List Int → QK PV → Sto → Prop) (qa : QTH) : QTE := fun τ S P EP => qa τ S (fun x S1 => match x.its S1 with
  | some xs => x.tup = false ∧ ∃ ns, intsOf xs = some ns ∧ f ns P S1
  | none => False) EP
theorem q_agg {f : List Int → QK PV → Sto → Prop} {qa : QTH} {x : Str} {id : String} {r : List V → Hp → VK → Prop} (cr : CallR X (.builtin id) r) (hv : bootBuiltins x = some (.builtin id))
    (hf : ∀ (l : Addr) (ns : List Int) (H : Hp) (S : Sto) (P : QK PV) (Q : VK), SqL X.K H l (ns.map V.int) → f ns P S → (∀ i, P (.int i) S → Q (.int i) H) → r [.ref l] H Q)
    (hg : Gl X x) (hm : X.mg x = none) (ha : QH X T W a qa) (hn : x ≠ "__name__" := by decide) (hdb : (x == ("__debug__" : Str)) = false := by decide) (he : starEach [a] X.env = [(false, eval a X.env)] := by rfl) : QE X T W (.Call (.Name x p) [a] [] pos) (qAgg f qa) :=
  pe_imp (pe_callB cr hg hm hv (pa_cons ha pa_nil he) hn hdb (he := he)) fun σ H Q ⟨τ, S, P, EP, rs, rep, hq, k1, k2⟩ => by
    refine ⟨τ, S, _, EP, rs, rep, hq, fun v y H1 S1 fr rl rep1 hp => ?_, k2⟩
    cases z : y.its S1 with
    | none => simp only [z] at hp
    | some xs =>
      simp only [z] at hp
      obtain ⟨ht, ns, e1, hp⟩ := hp
      obtain ⟨l, vs, rfl, hq, t⟩ := rl.lst rep1 z ht
      have ev := intsOf_rl e1 t
      subst ev
      exact hf l ns H1 S1 P Q hq hp fun i hi => k1 (.int i) (.int i) H1 S1 fr rfl rep1 hi
def fMinL : List Int → QK PV → Sto → Prop := fun ns P S => 0 < ns.length ∧ ∀ m, m ∈ ns → (∀ y, y ∈ ns → m ≤ y) → P (.int m) S
def fMaxL : List Int → QK PV → Sto → Prop := fun ns P S => 0 < ns.length ∧ ∀ m, m ∈ ns → (∀ y, y ∈ ns → y ≤ m) → P (.int m) S
def fSumL : List Int → QK PV → Sto → Prop := fun ns P S => P (.int ns.sum) S
theorem q_minL {qa : QTH} (hc : X.calm = true) (hg : Gl X "min") (hm : X.mg "min" = none) (ha : QH X T W a qa) (he : starEach [a] X.env = [(false, eval a X.env)] := by rfl) : QE X T W (.Call (.Name "min" p) [a] [] pos) (qAgg fMinL qa) :=
  q_agg (cr_min hc) (by decide +kernel) (fun l ns H S P Q hs h k => ⟨l, ns, rfl, hs, h.1, fun m h1 h2 => k m (h.2 m h1 h2)⟩) hg hm ha (he := he)
theorem q_maxL {qa : QTH} (hc : X.calm = true) (hg : Gl X "max") (hm : X.mg "max" = none) (ha : QH X T W a qa) (he : starEach [a] X.env = [(false, eval a X.env)] := by rfl) : QE X T W (.Call (.Name "max" p) [a] [] pos) (qAgg fMaxL qa) :=
  q_agg (cr_max hc) (by decide +kernel) (fun l ns H S P Q hs h k => ⟨l, ns, rfl, hs, h.1, fun m h1 h2 => k m (h.2 m h1 h2)⟩) hg hm ha (he := he)
theorem q_sumL {qa : QTH} (hc : X.calm = true) (hg : Gl X "sum") (hm : X.mg "sum" = none) (ha : QH X T W a qa) (he : starEach [a] X.env = [(false, eval a X.env)] := by rfl) : QE X T W (.Call (.Name "sum" p) [a] [] pos) (qAgg fSumL qa) :=
  q_agg (cr_sum hc) (by decide +kernel) (fun l ns H S P Q hs h k => ⟨l, ns, rfl, hs, k _ h⟩) hg hm ha (he := he)
end
end Mp

set_option Elab.async false
set_option linter.all false
set_option maxRecDepth 100000
namespace Mp
open PySem PySem.Spec PyProof.Rows L2

/-! ### calls within an except suite -/
structure FnHt (P : Program) (w : World) (K : PySem.W.Frag) (mg : Str → Option Value) (base : Heap) (T : List (Addr × Str)) (k : Nat) (x : Str) (st : Stmt) (n : Nat) (sp : PSp) : Prop where
  ex : ∃ (f : Addr) (fd : FuncData) (ps : List Str), mg x = some (.ref f) ∧ Fun K x x st f fd ∧ Binds K fd ps [] ∧ ps.length = n ∧ L2H.FnH P w K mg base (L2N.CX P w) k f fd ps (spOf K T n sp)
theorem FnHt.mono {P : Program} {w : World} {K : PySem.W.Frag} {mg : Str → Option Value} {base : Heap} {T : List (Addr × Str)} {j k n : Nat} {x : Str} {st : Stmt} {sp : PSp} (F : FnHt P w K mg base T j x st n sp) (h : j ≤ k) : FnHt P w K mg base T k x st n sp :=
  let ⟨f, fd, ps, h1, h2, h3, h4, h5⟩ := F.ex
  ⟨f, fd, ps, h1, h2, h3, h4, h5.len, fun A outer s H args us vs Q E p hr => h5.run A outer s H args us vs Q E p (hr.mono h)⟩
section
variable {X : Cx} {T : List (Addr × Str)} {W : WX} {e a b tg : Expr} {es : List Expr} {K : PySem.W.Frag} {S S' S0 S1 : Sto} {H H' H0 H1 : Hp} {σ : L2.St} {τ : PSt} {PD : PEnds} {D : Ends} {pos p : Pos} {q : QTA}
variable {k n : Nat} {x : Str} {st : Stmt} {sp : PSp}
theorem q_callH (F : FnHt X.prog X.w X.K X.mg X.base T k x st n sp) (hr : L2H.RoomH k X.A) (hc : L2H.HotC X) (tk : L2N.Takes X W) (hg : Gl X x) (ha : QA X T W (e :: es) q) (hdb : (x == ("__debug__" : Str)) = false := by decide)
    (he : starEach (e :: es) X.env = (false, eval e X.env) :: starEach es X.env := by rfl) (hpl : (backTo pos (starEach es X.env)).any (·.1) = false := by rfl) : QE X T W (.Call (.Name x p) (e :: es) [] pos) (qCall n sp q) := by
  obtain ⟨f, fd, ps, h1, h2, h3, h4, h5⟩ := F.ex
  exact pe_imp (L2H.pe_callH h5 hr hc hg h1 h2.kp h3 (fun σ => L2N.passAt tk σ) ha hdb he hpl) fun σ H Q h => up_call h
/-- what is not read there -/
theorem qs_no {st : Stmt} : QS X T W st (fun _ _ _ => False) := ⟨fun _ _ _ _ _ _ ⟨_, _, _, _, _, h, _⟩ => h.elim⟩
theorem hot_of {a0 : Addr} {oe : Obj} {cls : Value} {d : Option Addr} {pn : List (Addr × Obj)} (hz : L2N.Zn cls d oe) (hv : ∃ vs, oe.data = .fields vs) : L2H.HotC (X.suite a0 ((a0, oe) :: pn)) := by
  obtain ⟨vs, h⟩ := hv
  exact ⟨(a0, oe), ⟨rfl, vs, h, hz.2.2 vs h⟩, List.mem_cons_self⟩
theorem roomH_at {a0 : Addr} {pn : List (Addr × Obj)} (r : Room k X.A) : L2H.RoomH k (X.suite a0 pn).A := ⟨r.dp, r.un⟩
theorem roomH_units {A : Around} (r : L2H.RoomH k A) : A.units + 65 < cLine := by have := r.un; omega
end
theorem fnht_mk {P : Program} {w : World} {K : PySem.W.Frag} {mg : Str → Option Value} {base : Heap} {T : List (Addr × Str)} {k m n : Nat} {x : Str} {st : Stmt} {r : QTS} {f : Addr} {fd : FuncData} {N ps : List Str}
    (hm : mg x = some (.ref f)) (F : Fun K x x st f fd) (hb : Binds K fd ps []) (hn : ps.length = n) (hN : N.length = m) (S : FnScope N ps (defScope st))
    (body : ∀ (cdv : Value) (A : Around) (outer : List Env) (s : Shared) (H : Hp) (E : XK) (p : Addr × Obj), L2H.RoomH k (A.deeper (envOfC x (defScope st) s.heap.objs.size f cdv)) →
      L2H.HotC (L2H.cxH (L2N.CX P w) P w K mg base N x (defScope st) f cdv A outer s H E p) → L2N.Takes (L2H.cxH (L2N.CX P w) P w K mg base N x (defScope st) f cdv A outer s H E p) (WD E) →
      (A.deeper (envOfC x (defScope st) s.heap.objs.size f cdv)).units + 65 < cLine → N.Nodup →
      QSs (L2H.cxH (L2N.CX P w) P w K mg base N x (defScope st) f cdv A outer s H E p) T (WD E) (defBody st) r) : FnHt P w K mg base T (k + 1) x st n (spDef m r) := by
  refine ⟨f, fd, ps, hm, F, hb, hn, ?_⟩
  obtain ⟨oc, od, kV, doc, pm, an, cdv, ct, osl, rfl, lk, hcd⟩ := F.ex
  refine L2H.fn_ofH lk hcd S (fun vs H Q E h => by rw [hn]; exact h.1) fun A outer s H vs Q E p hot hr h => ?_
  obtain ⟨hl, qs, S0, PQ, EP, rl, rep, hsp, k1, k2⟩ := h
  refine ⟨_, body cdv A outer s H E p hr ⟨p, hot, List.mem_cons_self⟩ (L2N.takes_of rfl rfl rfl rfl) (roomH_units hr) S.nd, ?_⟩
  refine ⟨st0 m qs, S0, _, rs_start rl hN, rep, hsp, ⟨fun σ' τ' H' S' fr rs rp z => ?_, fun v p H' S' fr rl rp z => ?_, fun _ _ _ _ _ _ _ z => z.elim, fun _ _ _ _ _ _ _ z => z.elim, fun c d x σ' τ' H' S' fr rs xr rp z => ?_⟩⟩
  · obtain ⟨S2, su, hp⟩ := Dr.get z
    exact k1 .non .non H' S2 (fr.sub su) rfl (rp.sub su) hp
  · obtain ⟨S2, su, hp⟩ := Dr.get z
    exact k1 v p H' S2 (fr.sub su) rl (rp.sub su) hp
  · obtain ⟨S2, su, hp⟩ := Dr.get z
    exact k2 c d x H' S2 (fr.sub su) xr (rp.sub su) hp
end Mp

set_option Elab.async false
set_option linter.all false
set_option maxRecDepth 100000
namespace Mp
open PySem PySem.Spec PyProof.Rows L2

/-! ### tuples, greater -/
theorem lexAt_gt {e r : Nat → Bool} {z : Bool} : ∀ (xs ys : List Int) (i : Nat), (∀ j, e (i + j) = decide (xs.getD j 0 = ys.getD j 0)) → (∀ j, r (i + j) = decide (ys.getD j 0 < xs.getD j 0)) → z = decide (xs.length > ys.length) →
    Ob.lexAt e r z i (min xs.length ys.length) = HT.lexLt ys xs
  | [], [], i, _, _, hz => by subst hz; rfl
  | [], y :: ys, i, _, _, hz => by subst hz; rfl
  | x :: xs, [], i, _, _, hz => by
    subst hz
    rw [List.length_nil, Nat.min_zero, Ob.lexAt_zero]
    exact decide_eq_true (by simp)
  | x :: xs, y :: ys, i, he, hr, hz => by
    have e0 : e i = decide (x = y) := he 0
    have r0 : r i = decide (y < x) := hr 0
    rw [List.length_cons, List.length_cons, Nat.succ_min_succ, Ob.lexAt_succ, e0, r0, HT.lexLt_cons]
    by_cases h : x = y
    · subst h
      rw [if_pos (decide_eq_true rfl), if_pos rfl]
      exact lexAt_gt xs ys (i + 1) (fun j => by have := he (j + 1); rw [show i + 1 + j = i + (j + 1) by omega]; exact this) (fun j => by have := hr (j + 1); rw [show i + 1 + j = i + (j + 1) by omega]; exact this) (by rw [hz]; simp)
    · rw [if_neg (by simp [h]), if_neg (fun z => h z.symm)]
def rGtT (K : PySem.W.Frag) : R2 := fun x y H Q => ∃ a b ns ms, x = .ref a ∧ y = .ref b ∧ SqT K H a (ns.map V.int) ∧ SqT K H b (ms.map V.int) ∧ Q (.bl (HT.lexLt ms ns)) H
section
variable {X : Cx} {T : List (Addr × Str)} {W : WX} {e a b tg : Expr} {es : List Expr} {K : PySem.W.Frag} {S S' S0 S1 : Sto} {H H' H0 H1 : Hp} {σ : L2.St} {τ : PSt} {PD : PEnds} {D : Ends} {pos p : Pos} {q : QTA}
theorem op_gtT (hu : X.A.units < cLine) : OpR X (compareOp .Gt) (rGtT X.K) := by
  intro pins s σ H x y v u Q I rx ry h
  obtain ⟨a, b, ns, ms, rfl, rfl, ha, hb, q⟩ := h
  cases rx
  cases ry
  obtain ⟨its, r1, p1, _⟩ := I.tuple ha
  obtain ⟨its2, r2, p2, _⟩ := I.tuple hb
  have i1 : IntsAre its ns := Vals.ints r1
  have i2 : IntsAre its2 ms := Vals.ints r2
  have e1 : its.toArray.size = ns.length := by rw [List.size_toArray]; exact i1.length
  have e2 : its2.toArray.size = ms.length := by rw [List.size_toArray]; exact i2.length
  have at1 : ∀ j (h1 : j < its.toArray.size), ∃ t, its.toArray[j] = .int (ns.getD j 0) t := fun j h1 => PyProof.Rows.IntsAre.int_at i1 _ _ (by simp at h1; simp [h1])
  have at2 : ∀ j (h1 : j < its2.toArray.size), ∃ t, its2.toArray[j] = .int (ms.getD j 0) t := fun j h1 => PyProof.Rows.IntsAre.int_at i2 _ _ (by simp at h1; simp [h1])
  have R := Ob.RcOp.tuples_gt (A := X.A) (s := s) (e := fun j => decide (ns.getD j 0 = ms.getD j 0)) (r := fun j => decide (ms.getD j 0 < ns.getD j 0)) p1 p2 hu (fun j h1 h2 => by
    obtain ⟨t, et⟩ := at1 j h1
    obtain ⟨t', et'⟩ := at2 j h2
    rw [et, et']
    have z : (ns.getD j 0 == ms.getD j 0) = decide (ns.getD j 0 = ms.getD j 0) := by
      by_cases q : ns.getD j 0 = ms.getD j 0
      · rw [decide_eq_true q]; exact beq_iff_eq.mpr q
      · rw [decide_eq_false q]; exact beq_eq_false_iff_ne.mpr q
    rw [← z]
    exact SeqAt.EqAt.int_int _ _ _ _) (fun j h1 h2 _ => by
    obtain ⟨t, et⟩ := at1 j h1
    obtain ⟨t', et'⟩ := at2 j h2
    rw [et, et']
    exact Ob.RcOp.gt_int _ _ _ _)
  rw [e1, e2, lexAt_gt ns ms 0 (fun j => by rw [Nat.zero_add]) (fun j => by rw [Nat.zero_add]) rfl] at R
  have z : wpAny (model X.prog X.w) X.A (compareOp .Gt (.ref a) (.ref b)) (EP X pins σ Q) X.xe s := R X.prog X.w X.xe (EP X pins σ Q) ⟨.bl _, H, I, rfl, q⟩
  exact z
def fGtA : FO2 := fun x y S P => match x, y with
  | .int i, .int j => P (.bl (decide (j < i))) S
  | .tup xs, .tup ys => ∃ ns ms, intsOf xs = some ns ∧ intsOf ys = some ms ∧ P (.bl (HT.lexLt ms ns)) S
  | _, _ => False
theorem oq_gtA : OpQ K T (fun x y H Q => rI0 (fun i j => .bl (decide (j < i))) x y H Q ∨ rGtT K x y H Q) fGtA := by
  intro x y p1 p2 H S P Q r1 r2 rep h k
  cases p1 <;> cases p2 <;> try exact h.elim
  case int.int i j => exact .inl ⟨i, j, r1, r2, k (.bl _) (.bl _) H S Fr.refl rfl rep h⟩
  case tup.tup xs ys =>
    obtain ⟨ns, ms, i1, i2, h⟩ := h
    obtain ⟨u, us, e1, s1, t1⟩ := r1
    obtain ⟨w, ws, e2, s2, t2⟩ := r2
    rw [intsOf_rl i1 t1] at s1
    rw [intsOf_rl i2 t2] at s2
    exact .inr ⟨u, w, ns, ms, e1, e2, SqT.of s1, SqT.of s2, k (.bl _) (.bl _) H S Fr.refl rfl rep h⟩
theorem q_gtA {qa qb : QTE} (hu : X.A.units < cLine) (ha : QE X T W a qa) (hb : QE X T W b qb) : QE X T W (.Compare a [.Gt] [b] pos) (qBin fGtA qa qb) := q_cmp (OpR.or op_gt (op_gtT hu)) oq_gtA (nomark _) ha hb
theorem qt_gtA {qa qb : QTE} (hu : X.A.units < cLine) (ha : QE X T W a qa) (hb : QE X T W b qb) : QT X T W (.Compare a [.Gt] [b] pos) (qTst (qBin fGtA qa qb)) := qt_cmp (OpR.or op_gt (op_gtT hu)) oq_gtA (nomark _) ha hb
end

/-! ### str of a number: some text -/
def fStr : FCal := fun ps S P => match ps with
  | [.int i] => i.natAbs.log2 < 1920 ∧ ∀ cs : List Nat, (∀ c ∈ cs, c < 1114112) → P (.str cs) S
  | _ => False
theorem ofString_lt (s : String) : ∀ c ∈ (Str.ofString s).cps.toList, c < 1114112 := fun c hc => by
  rw [Str.ofString_eq_toList] at hc
  obtain ⟨d, _, rfl⟩ := List.mem_map.mp (by simpa using hc)
  have h := d.valid
  rcases h with h | ⟨_, h⟩
  · exact Nat.lt_of_lt_of_le h (by decide)
  · exact h
theorem cq_str {K : PySem.W.Frag} {T : List (Addr × Str)} : CalQ K T (fun xs H Q => ∃ i, xs = [.int i] ∧ i.natAbs.log2 < 1920 ∧ Q (.str (toString i)) H) fStr := by
  intro vs ps H S P Q rl rep h k
  match ps, h with
  | [.int i], ⟨h1, h2⟩ =>
    obtain ⟨v, w, e1, e2, e3⟩ := rl
    have e2 : v = .int i := e2
    have e3 : w = [] := e3
    subst e2; subst e3
    exact ⟨i, e1, h1, k _ (.str (Str.ofString (toString i)).cps.toList) H S Fr.refl rfl rep (h2 _ (ofString_lt _))⟩
/-! ### blocks over what is written in a code -/
theorem lcQ_enc {α : Type} {enc : α → PV} {as : List α} {keep : Sto → Prop} {g : Tg} {t : QTT} {q : QTE} {τ : PSt} {P : QK (List PV)} {S : Sto} (f : α → Bool) (m : α → PV) (hz : as.length ≤ sizeLine) (kp : keep S)
    (step : ∀ a (N : PV → Sto → Prop) (M : Sto → Prop), a ∈ as → (f a = true → N (m a) S) → (f a = false → M S) → ∃ τ1, g.go (enc a) τ = some τ1 ∧ t τ1 S (fun b S1 => iteB b (q τ1 S1 N X0) (M S1)) X0)
    (fin : P ((as.filter f).map m) S) : lcQ keep g t q τ P (as.map enc) [] S := by
  refine lcQ_inv (fun i acc S' => S' = S ∧ acc = ((as.take i).filter f).map m) (by rw [List.length_map]; exact hz) ⟨rfl, rfl⟩ (fun i p acc S' N M hp ⟨e1, e2⟩ hN hM => ?_) fun acc S' ⟨e1, e2⟩ => ?_
  · subst e1; subst e2
    rw [List.getElem?_map] at hp
    obtain ⟨a, ha, rfl⟩ := Option.map_eq_some_iff.mp hp
    have ht : as.take (i + 1) = as.take i ++ [a] := by rw [List.take_add_one, ha]; rfl
    refine step a N M (List.mem_of_getElem? ha) (fun hf => hN _ _ kp ⟨rfl, ?_⟩) (fun hf => hM _ kp ⟨rfl, ?_⟩)
    · rw [ht, List.filter_append, List.map_append, List.filter_cons_of_pos hf]; rfl
    · rw [ht, List.filter_append, List.filter_cons_of_neg (by rw [hf]; exact Bool.false_ne_true), List.filter_nil, List.append_nil]
  · subst e1; subst e2
    rw [List.length_map, List.take_length]
    exact fin
end Mp

set_option Elab.async false
set_option linter.all false
set_option maxRecDepth 100000
namespace Mp
open PySem PySem.Spec PyProof.Rows L2

abbrev xt_BadNumber : XTab := (tabL [("BadNumber", true), ("BadRow", false), ("Refused", false)])
abbrev xt_Refused : XTab := (tabL [("BadNumber", false), ("BadRow", false), ("Refused", true)])
abbrev clsL : List (Nat × List Nat) := [(0, [0, 1, 2])]
/-- is_int: 0 value -/
def r_is_int : QTS := (qRet (qAndV (qIsi "int" (qVar 0)) (qNotV (qIsi "bool" (qVar 0)))))
@[irreducible] def sp_is_int : PSp := spDef 1 r_is_int

/-- is_from: 0 value, 1 least -/
def r_is_from : QTS := (qRet (qAndV (qCall 1 sp_is_int (qaC (qVar 0) qaN)) (qBin fGe (qVar 0) (qVar 1))))
@[irreducible] def sp_is_from : PSp := spDef 2 r_is_from

/-- is_name: 0 value -/
def r_is_name : QTS := (qRet (qAndV (qCall 2 sp_is_from (qaC (qVar 0) (qaC (qC (.int 0)) qaN))) (qBin fLe (qVar 0) (qC (.int 31)))))
@[irreducible] def sp_is_name : PSp := spDef 1 r_is_name

/-- is_tuple: 0 value, 1 many -/
def r_is_tuple : QTS := (qRet (qAndV (qIsi "tuple" (qVar 0)) (qBin fEq (qCal fLen (qaC (qVar 0) qaN)) (qVar 1))))
@[irreducible] def sp_is_tuple : PSp := spDef 2 r_is_tuple

/-- check_number: 0 value, 1 place, 2 entry -/
def r_check_number : QTS := (qSeq (qIfS (qOr (qNot (qTru (qIsi "tuple" (qVar 0)))) (qTst (qBin fLt (qCal fLen (qaC (qVar 0) qaN)) (qC (.int 2)))))
  (qRaise "BadNumber" "at" (qNeg (qC (.int 1))))
  qNext)
  (qSeq (qFor (qiEnum (qVar 0)) (qgTup 2 (qgC (qgName 1) (qgC (qgName 2) qgN)))
  (qIfS (qNot (qTru (qCall 1 sp_is_int (qaC (qVar 2) qaN))))
  (qRaise "BadNumber" "at" (qVar 1))
  qNext))
  (qSeq (qIfS (qTst (qBin fLt (qBin fIdx (qVar 0) (qC (.int 0))) (qC (.int 0))))
  (qRaise "BadNumber" "at" (qC (.int 0)))
  qNext)
  (qSeq (qIfS (qNot (qTru (qCall 1 sp_is_name (qaC (qBin fIdx (qVar 0) (qNeg (qC (.int 1)))) qaN))))
  (qRaise "BadNumber" "at" (qBin fSub (qCal fLen (qaC (qVar 0) qaN)) (qC (.int 1))))
  qNext)
  (qRet (qVar 0))))))
@[irreducible] def sp_check_number : PSp := spDef 3 r_check_number

/-- is_below: 0 one, 1 two -/
def r_is_below : QTS := (qSeq (qIfS (qTst (qIsN false (qVar 0)))
  (qRet (qC (.bl false)))
  qNext)
  (qRet (qOrV (qIsN false (qVar 1)) (qBin fLt (qVar 0) (qVar 1)))))
@[irreducible] def sp_is_below : PSp := spDef 2 r_is_below

/-- is_told: 0 value -/
def r_is_told : QTS := (qSeq (qIfS (qTst (qIsN false (qVar 0)))
  (qRet (qC (.bl true)))
  qNext)
  (qSeq (qTry xt_BadNumber (qDrop (qCall 1 sp_check_number (qaC (qVar 0) qaN)))
  (fun a0 x0 d0 => (qRet (qC (.bl false)))))
  (qRet (qC (.bl true)))))
@[irreducible] def sp_is_told : PSp := spDef 1 r_is_told

/-- Row_init: 0 self -/
def r_Row_init : QTS := (qSeq (qSFld clsL 0 (qVar 0) (qC (.int 0)))
  (qSeq (qSFld clsL 1 (qVar 0) (qC (.int 0)))
  (qSFld clsL 2 (qVar 0) (qNew (qLst qaN)))))
@[irreducible] def sp_Row_init : PSp := spDef 1 r_Row_init

/-- made_row: 0 head, 1 tail, 2 steps, 3 row -/
def r_made_row : QTS := (qSeq (qSet 3 (qMake 0 1 sp_Row_init qaN))
  (qSeq (qSFld clsL 0 (qVar 3) (qVar 0))
  (qSeq (qSFld clsL 1 (qVar 3) (qVar 1))
  (qSeq (qSFld clsL 2 (qVar 3) (qNew (qListV (qVar 2))))
  (qRet (qVar 3))))))
@[irreducible] def sp_made_row : PSp := spDef 4 r_made_row

/-- begun_row: 0 serial, 1 number -/
def r_begun_row : QTS := (qSeq (qIfS (qAnd (qTst (qBin fEq (qVar 0) (qC (.int 0)))) (qTst (qIsN false (qVar 1))))
  (qRet (qMake 0 1 sp_Row_init qaN))
  qNext)
  (qRet (qCall 3 sp_made_row (qaC (qVar 0) (qaC (qVar 0) (qaC (qNew (qLst (qaC (qTup (qaC (qVar 0) (qaC (qVar 1) qaN))) qaN))) qaN))))))
@[irreducible] def sp_begun_row : PSp := spDef 2 r_begun_row

/-- may_be_first: 0 head, 1 step, 2 serial, 3 number -/
def r_may_be_first : QTS := (qSeq (qAsg (qVar 1) (qgTup 2 (qgC (qgName 2) (qgC (qgName 3) qgN))))
  (qSeq (qIfS (qAnd (qTst (qBin fEq (qVar 0) (qC (.int 0)))) (qTst (qBin fEq (qVar 2) (qC (.int 0)))))
  (qRet (qIsN true (qVar 3)))
  qNext)
  (qRet (qBin fGe (qVar 2) (qCal fMax2 (qaC (qVar 0) (qaC (qC (.int 1)) qaN)))))))
@[irreducible] def sp_may_be_first : PSp := spDef 4 r_may_be_first

/-- is_step: 0 steps, 1 at, 2 head, 3 tail, 4 step, 5 good -/
def r_is_step : QTS := (qSeq (qSet 4 (qBin fIdx (qVar 0) (qVar 1)))
  (qSeq (qIfS (qOr (qNot (qTru (qCall 2 sp_is_tuple (qaC (qVar 4) (qaC (qC (.int 2)) qaN))))) (qOr (qNot (qTru (qCall 2 sp_is_from (qaC (qBin fIdx (qVar 4) (qC (.int 0))) (qaC (qC (.int 0)) qaN))))) (qNot (qTru (qCall 1 sp_is_told (qaC (qBin fIdx (qVar 4) (qC (.int 1))) qaN))))))
  (qRet (qC (.bl false)))
  qNext)
  (qSeq (qIfS (qTst (qBin fEq (qVar 1) (qC (.int 0))))
  (qSet 5 (qCall 2 sp_may_be_first (qaC (qVar 2) (qaC (qVar 4) qaN))))
  (qSet 5 (qAndV (qBin fLt (qBin fIdx (qBin fIdx (qVar 0) (qBin fSub (qVar 1) (qC (.int 1)))) (qC (.int 0))) (qBin fIdx (qVar 4) (qC (.int 0)))) (qCall 2 sp_is_below (qaC (qBin fIdx (qBin fIdx (qVar 0) (qBin fSub (qVar 1) (qC (.int 1)))) (qC (.int 1))) (qaC (qBin fIdx (qVar 4) (qC (.int 1))) qaN))))))
  (qRet (qAndV (qVar 5) (qOrV (qBin fLt (qVar 1) (qBin fSub (qCal fLen (qaC (qVar 0) qaN)) (qC (.int 1)))) (qBin fEq (qBin fIdx (qVar 4) (qC (.int 0))) (qVar 3))))))))
@[irreducible] def sp_is_step : PSp := spDef 6 r_is_step

/-- row_of: 0 state, 1 head, 2 tail, 3 steps, 4 at -/
def r_row_of : QTS := (qSeq (qIfS (qOr (qNot (qTru (qCall 2 sp_is_tuple (qaC (qVar 0) (qaC (qC (.int 3)) qaN))))) (qNot (qTru (qIsi "tuple" (qBin fIdx (qVar 0) (qC (.int 2)))))))
  (qRaise "BadRow" "at" (qNeg (qC (.int 1))))
  qNext)
  (qSeq (qAsg (qVar 0) (qgTup 3 (qgC (qgName 1) (qgC (qgName 2) (qgC (qgName 3) qgN)))))
  (qSeq (qIfS (qNot (qTru (qCall 2 sp_is_from (qaC (qVar 1) (qaC (qC (.int 0)) qaN)))))
  (qRaise "BadRow" "at" (qC (.int 0)))
  qNext)
  (qSeq (qIfS (qOr (qNot (qTru (qCall 2 sp_is_from (qaC (qVar 2) (qaC (qVar 1) qaN))))) (qAnd (qTst (qBin fGtA (qVar 2) (qC (.int 0)))) (qTst (qBin fEq (qCal fLen (qaC (qVar 3) qaN)) (qC (.int 0))))))
  (qRaise "BadRow" "at" (qC (.int 1)))
  qNext)
  (qSeq (qFor (qiR1 (qaC (qCal fLen (qaC (qVar 3) qaN)) qaN)) (qgName 4)
  (qIfS (qNot (qTru (qCall 4 sp_is_step (qaC (qVar 3) (qaC (qVar 4) (qaC (qVar 1) (qaC (qVar 2) qaN)))))))
  (qRaise "BadRow" "at" (qBin fAdd (qC (.int 2)) (qVar 4)))
  qNext))
  (qRet (qCall 3 sp_made_row (qaC (qVar 1) (qaC (qVar 2) (qaC (qVar 3) qaN))))))))))
@[irreducible] def sp_row_of : PSp := spDef 5 r_row_of

/-- _law_box: 0 script, 1 k, 2 cell, 3 great -/
def r__law_box : QTS := (qSeq (qSet 2 (qBin fAdd (qBin fMul (qC (.int 7537)) (qVar 1)) (qC (.int 3391))))
  (qSeq (qIfS (qTst (qBin fLt (qVar 1) (qCal fLen (qaC (qVar 0) qaN))))
  (qSet 2 (qCal fAbs (qaC (qCal fInt (qaC (qBin fIdx (qVar 0) (qVar 1)) qaN)) qaN)))
  (qIfS (qTst (qBin fGtA (qCal fLen (qaC (qVar 0) qaN)) (qC (.int 0))))
  (qSet 2 (qBin fAdd (qVar 2) (qBin fMul (qBin fMod (qCal fInt (qaC (qCal fAbs (qaC (qCal fInt (qaC (qBin fIdx (qVar 0) (qBin fMod (qCal fInt (qaC (qVar 1) qaN)) (qCal fLen (qaC (qVar 0) qaN)))) qaN)) qaN)) qaN)) (qC (.int 2147483563))) (qC (.int 51088)))))
  qNext))
  (qSeq (qSet 3 (qIf (qTst (qBin fGe (qVar 2) (qBin fPow (qC (.int 10)) (qC (.int 18))))) (qVar 2) (qC (.int 0))))
  (qRet (qNew (qLst (qaC (qVar 3) (qaC (qBin fAdd (qBin fMod (qCal fInt (qaC (qBin fAdd (qBin fMul (qBin fMod (qCal fInt (qaC (qVar 2) qaN)) (qC (.int 2147483563))) (qC (.int 40014))) (qBin fMul (qC (.int 3391)) (qVar 1))) qaN)) (qC (.int 2147483563))) (qC (.int 1))) qaN))))))))
@[irreducible] def sp__law_box : PSp := spDef 4 r__law_box

/-- _law_take: 0 box, 1 many, 2 digit, 3 raw -/
def r__law_take : QTS := (qSeq (qIfS (qTst (qBin fGtA (qBin fIdx (qVar 0) (qC (.int 0))) (qC (.int 0))))
  (qSeq (qSet 2 (qBin fMod (qCal fInt (qaC (qBin fIdx (qVar 0) (qC (.int 0))) qaN)) (qVar 1)))
  (qSeq (qAsg (qBin fDiv (qBin fIdx (qVar 0) (qC (.int 0))) (qVar 1)) (qgSub (qVar 0) (qC (.int 0)) fSet))
  (qRet (qVar 2))))
  qNext)
  (qSeq (qSet 3 (qBin fMod (qCal fInt (qaC (qBin fAdd (qBin fMul (qBin fIdx (qVar 0) (qC (.int 1))) (qC (.int 39373))) (qC (.int 331))) qaN)) (qC (.int 2147483647))))
  (qSeq (qAsg (qBin fAdd (qBin fMod (qCal fInt (qaC (qBin fAdd (qBin fMul (qVar 3) (qC (.int 40692))) (qC (.int 37))) qaN)) (qC (.int 2147483399))) (qC (.int 1))) (qgSub (qVar 0) (qC (.int 1)) fSet))
  (qRet (qBin fMod (qCal fInt (qaC (qBin fDiv (qBin fAdd (qBin fMul (qVar 3) (qC (.int 2147483629))) (qBin fIdx (qVar 0) (qC (.int 1)))) (qC (.int 8209))) qaN)) (qVar 1))))))
@[irreducible] def sp__law_take : PSp := spDef 4 r__law_take

/-- _law_pick: 0 box, 1 some -/
def r__law_pick : QTS := (qRet (qBin fIdx (qVar 1) (qCall 2 sp__law_take (qaC (qVar 0) (qaC (qCal fLen (qaC (qVar 1) qaN)) qaN)))))
@[irreducible] def sp__law_pick : PSp := spDef 2 r__law_pick

/-- _law_like: 0 one, 1 due, 2 here, 3 there -/
def r__law_like (sp__law_like : PSp) : QTS := (qSeq (qIfS (qTst (qIsN false (qVar 1)))
  (qRet (qIsN false (qVar 0)))
  qNext)
  (qSeq (qIfS (qOr (qTst (qIsB false true (qVar 1))) (qTst (qIsB false false (qVar 1))))
  (qRet (qAndV (qIsi "bool" (qVar 0)) (qBin fEq (qVar 0) (qVar 1))))
  qNext)
  (qSeq (qIfS (qTru (qIsi "int" (qVar 1)))
  (qRet (qAndV (qIsi "int" (qVar 0)) (qAndV (qNotV (qIsi "bool" (qVar 0))) (qBin fEq (qVar 0) (qVar 1)))))
  qNext)
  (qSeq (qIfS (qTru (qIsi "str" (qVar 1)))
  (qRet (qAndV (qIsi "str" (qVar 0)) (qBin fEq (qVar 0) (qVar 1))))
  qNext)
  (qSeq (qIfS (qOr (qTst (qBin fNe (qIsi "tuple" (qVar 0)) (qIsi "tuple" (qVar 1)))) (qTst (qBin fNe (qIsi "list" (qVar 0)) (qIsi "list" (qVar 1)))))
  (qRet (qC (.bl false)))
  qNext)
  (qSeq (qIfS (qOr (qNot (qTru (qIsiT ["tuple", "list"] (qVar 0)))) (qTst (qBin fNe (qCal fLen (qaC (qVar 0) qaN)) (qCal fLen (qaC (qVar 1) qaN)))))
  (qRet (qC (.bl false)))
  qNext)
  (qRet (qEqL false (qhL (qLc (qiZip (qhE (qVar 0)) (qhE (qVar 1))) (tg2 2 3) (qNot (qTru (qCall 2 sp__law_like (qaC (qVar 2) (qaC (qVar 3) qaN))))) (qC (.int 1)))) (qhL (qLst qaN))))))))))
@[irreducible] def sp__law_like : PSp := spN 4 r__law_like 8

/-- _law_like_h: 0 one, 1 due, 2 here, 3 there -/
def r__law_like_h : QTS := (qSeq (qIfS (qTst (qIsN false (qVar 1)))
  (qRet (qIsN false (qVar 0)))
  qNext)
  (qSeq (qIfS (qOr (qTst (qIsB false true (qVar 1))) (qTst (qIsB false false (qVar 1))))
  (qRet (qAndV (qIsi "bool" (qVar 0)) (qBin fEq (qVar 0) (qVar 1))))
  qNext)
  (qSeq (qIfS (qTru (qIsi "int" (qVar 1)))
  (qRet (qAndV (qIsi "int" (qVar 0)) (qAndV (qNotV (qIsi "bool" (qVar 0))) (qBin fEq (qVar 0) (qVar 1)))))
  qNext)
  (qSeq (qIfS (qTru (qIsi "str" (qVar 1)))
  (qRet (qAndV (qIsi "str" (qVar 0)) (qBin fEq (qVar 0) (qVar 1))))
  qNext)
  (qSeq (qIfS (qOr (qTst (qBin fNe (qIsi "tuple" (qVar 0)) (qIsi "tuple" (qVar 1)))) (qTst (qBin fNe (qIsi "list" (qVar 0)) (qIsi "list" (qVar 1)))))
  (qRet (qC (.bl false)))
  qNext)
  (qSeq (qIfS (qOr (qNot (qTru (qIsiT ["tuple", "list"] (qVar 0)))) (qTst (qBin fNe (qCal fLen (qaC (qVar 0) qaN)) (qCal fLen (qaC (qVar 1) qaN)))))
  (qRet (qC (.bl false)))
  qNext)
  (fun _ _ _ => False)))))))
@[irreducible] def sp__law_like_h : PSp := spDef 4 r__law_like_h

/-- _law_number: 0 box, 1 few, 2 kind, 3 entries, 4 turn -/
def r__law_number : QTS := (qSeq (qSet 2 (qCall 2 sp__law_take (qaC (qVar 0) (qaC (qC (.int 5)) qaN))))
  (qSeq (qIfS (qTst (qBin fEq (qVar 2) (qC (.int 0))))
  (qRet (qC .non))
  qNext)
  (qSeq (qIfS (qTst (qBin fLt (qVar 2) (qC (.int 4))))
  (qRet (qTup (qaC (qCall 2 sp__law_take (qaC (qVar 0) (qaC (qVar 1) qaN))) (qaC (qCall 2 sp__law_take (qaC (qVar 0) (qaC (qC (.int 2)) qaN))) qaN))))
  qNext)
  (qSeq (qSet 3 (qNew (qLst (qaC (qCall 2 sp__law_pick (qaC (qVar 0) (qaC (qNew (qLst (qaC (qC (.int 0)) (qaC (qBin fPow (qC (.int 10)) (qC (.int 12))) (qaC (qCall 2 sp__law_take (qaC (qVar 0) (qaC (qBin fPow (qC (.int 10)) (qC (.int 12))) qaN))) qaN))))) qaN))) qaN))))
  (qSeq (qFor (qiR1 (qaC (qCall 2 sp__law_take (qaC (qVar 0) (qaC (qC (.int 9)) qaN))) qaN)) (qgName 4)
  (qDrop (qMl fApp (qVar 3) (qaC (qCall 2 sp__law_pick (qaC (qVar 0) (qaC (qNew (qLst (qaC (qC (.int 0)) (qaC (qNeg (qC (.int 1))) (qaC (qNeg (qBin fPow (qC (.int 10)) (qC (.int 12)))) (qaC (qBin fPow (qC (.int 10)) (qC (.int 12))) (qaC (qBin fSub (qCall 2 sp__law_take (qaC (qVar 0) (qaC (qBin fPow (qC (.int 10)) (qC (.int 12))) qaN))) (qCall 2 sp__law_take (qaC (qVar 0) (qaC (qBin fPow (qC (.int 10)) (qC (.int 12))) qaN)))) qaN))))))) qaN))) qaN))))
  (qRet (qTupL (qCat (qvE (qVar 3)) (qvL (qLst (qaC (qCall 2 sp__law_take (qaC (qVar 0) (qaC (qC (.int 32)) qaN))) qaN)))))))))))
@[irreducible] def sp__law_number : PSp := spDef 5 r__law_number

/-- _law_above: 0 one, 1 other -/
def r__law_above : QTS := (qSeq (qIfS (qTst (qIsN false (qVar 1)))
  (qRet (qC (.bl false)))
  qNext)
  (qRet (qOrV (qIsN false (qVar 0)) (qBin fGtA (qVar 0) (qVar 1)))))
@[irreducible] def sp__law_above : PSp := spDef 2 r__law_above

/-- _law_state: 0 reports, 1 first, 2 last, 3 falls, 4 at, 5 serial, 6 number, 7 later -/
def r__law_state : QTS := (qSeq (qSet 3 (qNew (qLst qaN)))
  (qSeq (qFor (qiEnum (qVar 0)) (qgTup 2 (qgC (qgName 4) (qgC (qgTup 2 (qgC (qgName 5) (qgC (qgName 6) qgN))) qgN)))
  (qIfS (qAnd (qTst (qBin fGe (qVar 5) (qVar 1))) (qTst (qEqL false (qhL (qLc (qiV (qSl (qVar 0) (qoS (qBin fAdd (qVar 4) (qC (.int 1)))) qoN)) (tg1 7) (qNot (qTru (qCall 2 sp__law_above (qaC (qBin fIdx (qVar 7) (qC (.int 1))) (qaC (qVar 6) qaN))))) (qC (.int 1)))) (qhL (qLst qaN)))))
  (qDrop (qMl fApp (qVar 3) (qaC (qTup (qaC (qVar 5) (qaC (qVar 6) qaN))) qaN)))
  qNext))
  (qRet (qTup (qaC (qVar 1) (qaC (qVar 2) (qaC (qCal fTup (qaC (qVar 3) qaN)) qaN)))))))
@[irreducible] def sp__law_state : PSp := spDef 8 r__law_state

/-- _law_least: 0 reports, 1 k, 2 found, 3 serial, 4 number -/
def r__law_least : QTS := (qSeq (qSet 2 (qC .non))
  (qSeq (qFor (qiV (qVar 0)) (qgTup 2 (qgC (qgName 3) (qgC (qgName 4) qgN)))
  (qIfS (qAnd (qTst (qBin fGe (qVar 3) (qVar 1))) (qAnd (qTst (qIsN true (qVar 4))) (qOr (qTst (qIsN false (qVar 2))) (qTst (qBin fLt (qVar 4) (qVar 2))))))
  (qSet 2 (qVar 4))
  qNext))
  (qRet (qVar 2))))
@[irreducible] def sp__law_least : PSp := spDef 5 r__law_least

/-- _law_deed: 0 box, 1 first, 2 last, 3 few -/
def r__law_deed : QTS := (qSeq (qIfS (qTst (qBin fEq (qCall 2 sp__law_take (qaC (qVar 0) (qaC (qC (.int 3)) qaN))) (qC (.int 0))))
  (qRet (qTup (qaC (qC (.str [97, 99, 107, 101, 100])) (qaC (qBin fAdd (qVar 1) (qCall 2 sp__law_take (qaC (qVar 0) (qaC (qBin fAdd (qBin fSub (qVar 2) (qVar 1)) (qC (.int 2))) qaN)))) (qaC (qC .non) qaN)))))
  qNext)
  (qRet (qTup (qaC (qC (.str [116, 111, 108, 100])) (qaC (qCal fMin2 (qaC (qBin fSub (qBin fPow (qC (.int 10)) (qC (.int 12))) (qC (.int 1))) (qaC (qBin fAdd (qVar 2) (qCall 2 sp__law_pick (qaC (qVar 0) (qaC (qNew (qLst (qaC (qC (.int 0)) (qaC (qC (.int 1)) (qaC (qC (.int 1)) (qaC (qC (.int 1)) (qaC (qC (.int 1)) (qaC (qC (.int 2)) (qaC (qC (.int 9)) (qaC (qCall 2 sp__law_take (qaC (qVar 0) (qaC (qBin fPow (qC (.int 10)) (qC (.int 10))) qaN))) qaN)))))))))) qaN)))) qaN))) (qaC (qCall 2 sp__law_number (qaC (qVar 0) (qaC (qVar 3) qaN))) qaN))))))
@[irreducible] def sp__law_deed : PSp := spDef 4 r__law_deed

/-- Row_told: 0 self, 1 serial, 2 number -/
def r_Row_told : QTS := (qSeq (qIfS (qTst (qBin fLe (qVar 1) (qFld clsL 1 (qVar 0))))
  (qRaise "Refused" "value" (qVar 1))
  qNext)
  (qSeq (qWhile (qAnd (qTst (qBin fGtA (qCal fLen (qaC (qFld clsL 2 (qVar 0)) qaN)) (qC (.int 0)))) (qNot (qTru (qCall 2 sp_is_below (qaC (qBin fIdx (qBin fIdx (qFld clsL 2 (qVar 0)) (qNeg (qC (.int 1)))) (qC (.int 1))) (qaC (qVar 2) qaN))))))
  (qDrop (qPop (qFld clsL 2 (qVar 0)))))
  (qSeq (qDrop (qMl fApp (qFld clsL 2 (qVar 0)) (qaC (qTup (qaC (qVar 1) (qaC (qVar 2) qaN))) qaN)))
  (qSFld clsL 1 (qVar 0) (qVar 1)))))
@[irreducible] def sp_Row_told : PSp := spDef 3 r_Row_told

/-- Row_steps_from: 0 self, 1 k, 2 step -/
def r_Row_steps_from : QTS := (qRet (qNew (qLc (qiV (qFld clsL 2 (qVar 0))) (tg1 2) (qTst (qBin fGe (qBin fIdx (qVar 2) (qC (.int 0))) (qVar 1))) (qVar 2))))
@[irreducible] def sp_Row_steps_from : PSp := spDef 3 r_Row_steps_from

/-- Row_acked: 0 self, 1 k -/
def r_Row_acked : QTS := (qSeq (qIfS (qNot (qTst (qChain fLt fLe (qFld clsL 0 (qVar 0)) (qVar 1) (qFld clsL 1 (qVar 0)))))
  (qRaise "Refused" "value" (qVar 1))
  qNext)
  (qSeq (qSFld clsL 2 (qVar 0) (qMeth 0 2 sp_Row_steps_from (qVar 0) (qaC (qVar 1) qaN)))
  (qSFld clsL 0 (qVar 0) (qVar 1))))
@[irreducible] def sp_Row_acked : PSp := spDef 2 r_Row_acked

/-- _law_take_in: 0 row, 1 deed, 2 word, 3 value, 4 number, 5 wrong -/
def r__law_take_in : QTS := (qSeq (qAsg (qVar 1) (qgTup 3 (qgC (qgName 2) (qgC (qgName 3) (qgC (qgName 4) qgN)))))
  (qSeq (qTryAs 5 xt_Refused (qIfS (qTst (qBin fEq (qVar 2) (qC (.str [116, 111, 108, 100]))))
  (qDrop (qMeth 0 3 sp_Row_told (qVar 0) (qaC (qVar 3) (qaC (qVar 4) qaN))))
  (qDrop (qMeth 0 2 sp_Row_acked (qVar 0) (qaC (qVar 3) qaN))))
  (fun a0 x0 d0 => (qSeq (qIfS (qNot (qTru (qCall 2 sp__law_like_h (qaC (qXf a0 x0 d0 "value" (qVar 5)) (qaC (qVar 3) qaN)))))
  (qRet (qC .non))
  qNext)
  (qRet (qC (.bl false))))))
  (qRet (qC (.bl true)))))
@[irreducible] def sp__law_take_in : PSp := spDef 6 r__law_take_in

/-- _law_due: 0 deed, 1 first, 2 last -/
def r__law_due : QTS := (qRet (qIf (qTst (qBin fEq (qBin fIdx (qVar 0) (qC (.int 0))) (qC (.str [116, 111, 108, 100])))) (qBin fGtA (qBin fIdx (qVar 0) (qC (.int 1))) (qVar 2)) (qChain fLt fLe (qVar 1) (qBin fIdx (qVar 0) (qC (.int 1))) (qVar 2))))
@[irreducible] def sp__law_due : PSp := spDef 3 r__law_due

/-- Row_since: 0 self, 1 k -/
def r_Row_since : QTS := (qSeq (qIfS (qNot (qTst (qChain fLe fLe (qCal fMax2 (qaC (qFld clsL 0 (qVar 0)) (qaC (qC (.int 1)) qaN))) (qVar 1) (qFld clsL 1 (qVar 0)))))
  (qRaise "Refused" "value" (qVar 1))
  qNext)
  (qRet (qBin fIdx (qBin fIdx (qMeth 0 2 sp_Row_steps_from (qVar 0) (qaC (qVar 1) qaN)) (qC (.int 0))) (qC (.int 1)))))
@[irreducible] def sp_Row_since : PSp := spDef 2 r_Row_since

/-- _law_since: 0 row, 1 k -/
def r__law_since : QTS := (qTry xt_Refused (qRet (qTup (qaC (qC (.str [105, 115])) (qaC (qMeth 0 2 sp_Row_since (qVar 0) (qaC (qVar 1) qaN)) qaN))))
  (fun a0 x0 d0 => (qRet (qC (.str [114, 101, 102, 117, 115, 101, 100])))))
@[irreducible] def sp__law_since : PSp := spDef 2 r__law_since

/-- Row_least: 0 self -/
def r_Row_least : QTS := (qRet (qIf (qTst (qBin fGtA (qCal fLen (qaC (qFld clsL 2 (qVar 0)) qaN)) (qC (.int 0)))) (qBin fIdx (qBin fIdx (qFld clsL 2 (qVar 0)) (qC (.int 0))) (qC (.int 1))) (qC .non)))
@[irreducible] def sp_Row_least : PSp := spDef 1 r_Row_least

/-- Row_newest: 0 self -/
def r_Row_newest : QTS := (qRet (qIf (qTst (qBin fGtA (qCal fLen (qaC (qFld clsL 2 (qVar 0)) qaN)) (qC (.int 0)))) (qBin fIdx (qBin fIdx (qFld clsL 2 (qVar 0)) (qNeg (qC (.int 1)))) (qC (.int 1))) (qC .non)))
@[irreducible] def sp_Row_newest : PSp := spDef 1 r_Row_newest

/-- Row_state: 0 self -/
def r_Row_state : QTS := (qRet (qTup (qaC (qFld clsL 0 (qVar 0)) (qaC (qFld clsL 1 (qVar 0)) (qaC (qCal fTup (qaC (qFld clsL 2 (qVar 0)) qaN)) qaN)))))
@[irreducible] def sp_Row_state : PSp := spDef 1 r_Row_state

/-- _law_answers: 0 row, 1 ks, 2 k -/
def r__law_answers : QTS := (qRet (qNew (qCat (qvL (qLst (qaC (qMeth 0 1 sp_Row_state (qVar 0) qaN) (qaC (qMeth 0 1 sp_Row_least (qVar 0) qaN) (qaC (qMeth 0 1 sp_Row_newest (qVar 0) qaN) qaN))))) (qvL (qLc (qiV (qVar 1)) (tg1 2) qYes (qCall 2 sp__law_since (qaC (qVar 0) (qaC (qVar 2) qaN))))))))
@[irreducible] def sp__law_answers : PSp := spDef 3 r__law_answers

/-- _law_whole: 0 reports, 1 first, 2 last, 3 ks, 4 found, 5 k -/
def r__law_whole : QTS := (qSeq (qSet 4 (qNew (qLst (qaC (qCall 3 sp__law_state (qaC (qVar 0) (qaC (qVar 1) (qaC (qVar 2) qaN)))) (qaC (qCall 2 sp__law_least (qaC (qVar 0) (qaC (qVar 1) qaN))) (qaC (qIf (qTst (qEqL true (qhE (qVar 0)) (qhL (qLst qaN)))) (qBin fIdx (qBin fIdx (qVar 0) (qNeg (qC (.int 1)))) (qC (.int 1))) (qC .non)) qaN))))))
  (qSeq (qFor (qiV (qVar 3)) (qgName 5)
  (qDrop (qMl fApp (qVar 4) (qaC (qIf (qOr (qTst (qBin fLt (qVar 5) (qC (.int 1)))) (qOr (qTst (qBin fLt (qVar 5) (qVar 1))) (qTst (qBin fGtA (qVar 5) (qVar 2))))) (qC (.str [114, 101, 102, 117, 115, 101, 100])) (qTup (qaC (qC (.str [105, 115])) (qaC (qCall 2 sp__law_least (qaC (qVar 0) (qaC (qVar 5) qaN))) qaN)))) qaN))))
  (qRet (qVar 4))))
@[irreducible] def sp__law_whole : PSp := spDef 6 r__law_whole

/-- _law_drawn: 0 box, 1 few, 2 row, 3 reports, 4 first, 5 last, 6 number, 7 turn, 8 deed -/
def r__law_drawn : QTS := (qSeq (qAsg (qTup (qaC (qMake 0 1 sp_Row_init qaN) (qaC (qNew (qLst qaN)) (qaC (qC (.int 0)) (qaC (qC (.int 0)) qaN))))) (qgTup 4 (qgC (qgName 2) (qgC (qgName 3) (qgC (qgName 4) (qgC (qgName 5) qgN))))))
  (qSeq (qIfS (qTst (qBin fEq (qCall 2 sp__law_take (qaC (qVar 0) (qaC (qC (.int 3)) qaN))) (qC (.int 0))))
  (qSeq (qPar 4 6 (qaC (qCall 2 sp__law_pick (qaC (qVar 0) (qaC (qNew (qLst (qaC (qC (.int 0)) (qaC (qC (.int 0)) (qaC (qC (.int 1)) (qaC (qC (.int 3)) (qaC (qBin fSub (qBin fPow (qC (.int 10)) (qC (.int 12))) (qC (.int 50))) qaN))))))) qaN))) (qaC (qCall 2 sp__law_number (qaC (qVar 0) (qaC (qVar 1) qaN))) qaN)))
  (qSeq (qPar 2 5 (qaC (qCall 2 sp_begun_row (qaC (qVar 4) (qaC (qVar 6) qaN))) (qaC (qVar 4) qaN)))
  (qIfS (qOr (qTst (qBin fGtA (qVar 4) (qC (.int 0)))) (qTst (qIsN true (qVar 6))))
  (qSet 3 (qNew (qLst (qaC (qTup (qaC (qVar 4) (qaC (qVar 6) qaN))) qaN))))
  qNext)))
  qNext)
  (qSeq (qFor (qiR1 (qaC (qCall 2 sp__law_pick (qaC (qVar 0) (qaC (qNew (qLst (qaC (qC (.int 0)) (qaC (qC (.int 2)) (qaC (qC (.int 4)) (qaC (qC (.int 10)) (qaC (qC (.int 20)) qaN))))))) qaN))) qaN)) (qgName 7)
  (qSeq (qSet 8 (qCall 4 sp__law_deed (qaC (qVar 0) (qaC (qVar 4) (qaC (qVar 5) (qaC (qVar 1) qaN))))))
  (qSeq (qIfS (qTst (qBin fNe (qCall 2 sp__law_take_in (qaC (qVar 2) (qaC (qVar 8) qaN))) (qCall 3 sp__law_due (qaC (qVar 8) (qaC (qVar 4) (qaC (qVar 5) qaN))))))
  (qRet (qC .non))
  qNext)
  (qIfS (qAnd (qTst (qBin fEq (qBin fIdx (qVar 8) (qC (.int 0))) (qC (.str [116, 111, 108, 100])))) (qTst (qBin fGtA (qBin fIdx (qVar 8) (qC (.int 1))) (qVar 5))))
  (qSeq (qSet 5 (qBin fIdx (qVar 8) (qC (.int 1))))
  (qDrop (qMl fApp (qVar 3) (qaC (qTup (qaC (qVar 5) (qaC (qBin fIdx (qVar 8) (qC (.int 2))) qaN))) qaN))))
  (qIfS (qAnd (qTst (qBin fEq (qBin fIdx (qVar 8) (qC (.int 0))) (qC (.str [97, 99, 107, 101, 100])))) (qTst (qChain fLt fLe (qVar 4) (qBin fIdx (qVar 8) (qC (.int 1))) (qVar 5))))
  (qSet 4 (qBin fIdx (qVar 8) (qC (.int 1))))
  qNext)))))
  (qRet (qTup (qaC (qVar 2) (qaC (qVar 3) (qaC (qVar 4) (qaC (qVar 5) qaN)))))))))
@[irreducible] def sp__law_drawn : PSp := spDef 9 r__law_drawn

/-- _law_near: 0 box, 1 state, 2 first, 3 last, 4 falls, 5 found, 6 at -/
def r__law_near : QTS := (qSeq (qAsg (qVar 1) (qgTup 3 (qgC (qgName 2) (qgC (qgName 3) (qgC (qgName 4) qgN)))))
  (qSeq (qSet 5 (qNew (qCat (qvL (qLst (qaC (qVar 1) qaN))) (qvL (qLc (qiR1 (qaC (qBin fSub (qCal fLen (qaC (qVar 4) qaN)) (qC (.int 1))) qaN)) (tg1 6) qYes (qTup (qaC (qVar 2) (qaC (qVar 3) (qaC (qBin fAdd (qSl (qVar 4) qoN (qoS (qVar 6))) (qSl (qVar 4) (qoS (qBin fAdd (qVar 6) (qC (.int 1)))) qoN)) qaN)))))))))
  (qSeq (qIfS (qTst (qBin fGtA (qVar 3) (qC (.int 0))))
  (qSeq (qDrop (qMl fApp (qVar 5) (qaC (qTup (qaC (qVar 2) (qaC (qBin fAdd (qVar 3) (qC (.int 1))) (qaC (qBin fAdd (qSl (qVar 4) qoN (qoS (qNeg (qC (.int 1))))) (qTup (qaC (qTup (qaC (qBin fAdd (qVar 3) (qC (.int 1))) (qaC (qBin fIdx (qBin fIdx (qVar 4) (qNeg (qC (.int 1)))) (qC (.int 1))) qaN))) qaN))) qaN)))) qaN)))
  (qSeq (qDrop (qMl fApp (qVar 5) (qaC (qTup (qaC (qVar 2) (qaC (qVar 3) (qaC (qBin fAdd (qSl (qVar 4) qoN (qoS (qNeg (qC (.int 1))))) (qTup (qaC (qTup (qaC (qVar 3) (qaC (qC .non) qaN))) qaN))) qaN)))) qaN)))
  (qIfS (qAnd (qTst (qBin fGtA (qBin fIdx (qBin fIdx (qVar 4) (qC (.int 0))) (qC (.int 0))) (qVar 2))) (qTst (qBin fGtA (qVar 3) (qVar 2))))
  (qDrop (qMl fApp (qVar 5) (qaC (qTup (qaC (qBin fAdd (qVar 2) (qC (.int 1))) (qaC (qVar 3) (qaC (qVar 4) qaN)))) qaN)))
  qNext)))
  qNext)
  (qRet (qCall 2 sp__law_pick (qaC (qVar 0) (qaC (qIf (qAnd (qTst (qBin fGtA (qCal fLen (qaC (qVar 5) qaN)) (qC (.int 1)))) (qTst (qBin fGtA (qCall 2 sp__law_take (qaC (qVar 0) (qaC (qC (.int 4)) qaN))) (qC (.int 0))))) (qSl (qVar 5) (qoS (qC (.int 1))) qoN) (qVar 5)) qaN)))))))
@[irreducible] def sp__law_near : PSp := spDef 7 r__law_near

/-- _law_apart: 0 one, 1 other, 2 here, 3 there, 4 first, 5 last, 6 k, 7 fall -/
def r__law_apart : QTS := (qSeq (qPar 4 5 (qaC (qCal fMin2 (qaC (qBin fIdx (qVar 2) (qC (.int 0))) (qaC (qBin fIdx (qVar 3) (qC (.int 0))) qaN))) (qaC (qCal fMin2 (qaC (qBin fIdx (qVar 2) (qC (.int 1))) (qaC (qBin fIdx (qVar 3) (qC (.int 1))) qaN))) qaN)))
  (qSeq (qIfS (qTst (qBin fNe (qBin fIdx (qVar 2) (qC (.int 1))) (qBin fIdx (qVar 3) (qC (.int 1)))))
  (qRet (qEqL false (qhL (qSorted (qhL (qLst (qaC (qCall 2 sp__law_take_in (qaC (qVar 0) (qaC (qTup (qaC (qC (.str [116, 111, 108, 100])) (qaC (qBin fAdd (qVar 5) (qC (.int 1))) (qaC (qC .non) qaN)))) qaN))) (qaC (qCall 2 sp__law_take_in (qaC (qVar 1) (qaC (qTup (qaC (qC (.str [116, 111, 108, 100])) (qaC (qBin fAdd (qVar 5) (qC (.int 1))) (qaC (qC .non) qaN)))) qaN))) qaN)))))) (qhL (qLst (qaC (qC (.bl false)) (qaC (qC (.bl true)) qaN))))))
  qNext)
  (qSeq (qIfS (qTst (qBin fNe (qBin fIdx (qVar 2) (qC (.int 0))) (qBin fIdx (qVar 3) (qC (.int 0)))))
  (qSeq (qSet 6 (qCal fMax2 (qaC (qBin fIdx (qVar 2) (qC (.int 0))) (qaC (qBin fIdx (qVar 3) (qC (.int 0))) qaN))))
  (qRet (qEqL false (qhL (qSorted (qhL (qLst (qaC (qCall 2 sp__law_take_in (qaC (qVar 0) (qaC (qTup (qaC (qC (.str [97, 99, 107, 101, 100])) (qaC (qVar 6) (qaC (qC .non) qaN)))) qaN))) (qaC (qCall 2 sp__law_take_in (qaC (qVar 1) (qaC (qTup (qaC (qC (.str [97, 99, 107, 101, 100])) (qaC (qVar 6) (qaC (qC .non) qaN)))) qaN))) qaN)))))) (qhL (qLst (qaC (qC (.bl false)) (qaC (qC (.bl true)) qaN)))))))
  qNext)
  (qSeq (qFor (qiL (qLc (qiV (qBin fAdd (qBin fIdx (qVar 2) (qC (.int 2))) (qBin fIdx (qVar 3) (qC (.int 2))))) (tg1 7) qYes (qBin fIdx (qVar 7) (qC (.int 0))))) (qgName 6)
  (qIfS (qAnd (qTst (qBin fGtA (qVar 6) (qC (.int 0)))) (qNot (qTru (qCall 2 sp__law_like (qaC (qCall 2 sp__law_since (qaC (qVar 0) (qaC (qVar 6) qaN))) (qaC (qCall 2 sp__law_since (qaC (qVar 1) (qaC (qVar 6) qaN))) qaN))))))
  (qRet (qC (.bl true)))
  qNext))
  (qRet (qNotV (qCall 2 sp__law_like (qaC (qMeth 0 1 sp_Row_least (qVar 0) qaN) (qaC (qMeth 0 1 sp_Row_least (qVar 1) qaN) qaN)))))))))
@[irreducible] def sp__law_apart : PSp := spDef 8 r__law_apart

/-- Row_copied: 0 self -/
def r_Row_copied : QTS := (qRet (qCall 3 sp_made_row (qaC (qFld clsL 0 (qVar 0)) (qaC (qFld clsL 1 (qVar 0)) (qaC (qFld clsL 2 (qVar 0)) qaN)))))
@[irreducible] def sp_Row_copied : PSp := spDef 1 r_Row_copied

/-- law: 0 script, 1 box, 2 few, 3 drawn, 4 second, 5 row, 6 reports, 7 first, 8 last, 9 state, 10 near, 11 other, 12 rows, 13 kept, 14 twin, 15 turn, 16 ks, 17 due, 18 one, 19 deed, 20 taken -/
def r_law : QTS := (qSeq (qSet 1 (qCall 2 sp__law_box (qaC (qVar 0) (qaC (qC (.int 0)) qaN))))
  (qSeq (qSet 2 (qBin fAdd (qC (.int 1)) (qCall 2 sp__law_take (qaC (qVar 1) (qaC (qC (.int 4)) qaN)))))
  (qSeq (qPar 3 4 (qaC (qCall 2 sp__law_drawn (qaC (qVar 1) (qaC (qVar 2) qaN))) (qaC (qCall 2 sp__law_drawn (qaC (qCall 2 sp__law_box (qaC (qVar 0) (qaC (qC (.int 1)) qaN))) (qaC (qVar 2) qaN))) qaN)))
  (qSeq (qIfS (qOr (qTst (qIsN false (qVar 3))) (qTst (qIsN false (qVar 4))))
  (qRet (qC (.bl false)))
  qNext)
  (qSeq (qAsg (qVar 3) (qgTup 4 (qgC (qgName 5) (qgC (qgName 6) (qgC (qgName 7) (qgC (qgName 8) qgN))))))
  (qSeq (qPar 9 10 (qaC (qCall 3 sp__law_state (qaC (qVar 6) (qaC (qVar 7) (qaC (qVar 8) qaN)))) (qaC (qCall 3 sp__law_state (qaC (qBin fIdx (qVar 4) (qC (.int 1))) (qaC (qBin fIdx (qVar 4) (qC (.int 2))) (qaC (qBin fIdx (qVar 4) (qC (.int 3))) qaN)))) qaN)))
  (qSeq (qSet 11 (qIf (qTst (qBin fGtA (qCall 2 sp__law_take (qaC (qVar 1) (qaC (qC (.int 3)) qaN))) (qC (.int 0)))) (qCall 2 sp__law_near (qaC (qVar 1) (qaC (qVar 9) qaN))) (qVar 10)))
  (qSeq (qSet 12 (qNew (qLst (qaC (qVar 5) (qaC (qCall 1 sp_row_of (qaC (qVar 9) qaN)) (qaC (qMeth 0 1 sp_Row_copied (qVar 5) qaN) (qaC (qCall 1 sp_row_of (qaC (qMeth 0 1 sp_Row_state (qMeth 0 1 sp_Row_copied (qVar 5) qaN) qaN) qaN)) qaN)))))))
  (qSeq (qPar 13 14 (qaC (qMeth 0 1 sp_Row_copied (qVar 5) qaN) (qaC (qCall 1 sp_row_of (qaC (qVar 9) qaN)) qaN)))
  (qSeq (qIfS (qNot (qTru (qCall 2 sp__law_like (qaC (qMeth 0 1 sp_Row_state (qBin fIdx (qVar 4) (qC (.int 0))) qaN) (qaC (qVar 10) qaN)))))
  (qRet (qC (.bl false)))
  qNext)
  (qSeq (qIfS (qAnd (qTst (qBin fNe (qVar 9) (qVar 11))) (qNot (qTru (qCall 4 sp__law_apart (qaC (qCall 1 sp_row_of (qaC (qVar 9) qaN)) (qaC (qCall 1 sp_row_of (qaC (qVar 11) qaN)) (qaC (qVar 9) (qaC (qVar 11) qaN))))))))
  (qRet (qC (.bl false)))
  qNext)
  (qSeq (qIfS (qTst (qBin fEq (qVar 9) (qVar 11)))
  (qDrop (qMl fApp (qVar 12) (qaC (qCall 1 sp_row_of (qaC (qVar 11) qaN)) qaN)))
  qNext)
  (qSeq (qSet 1 (qCall 2 sp__law_box (qaC (qVar 0) (qaC (qC (.int 2)) qaN))))
  (qSeq (qFor (qiR1 (qaC (qCall 2 sp__law_pick (qaC (qVar 1) (qaC (qNew (qLst (qaC (qC (.int 4)) (qaC (qC (.int 8)) (qaC (qC (.int 16)) qaN))))) qaN))) qaN)) (qgName 15)
  (qSeq (qSet 16 (qNew (qLst (qaC (qVar 7) (qaC (qVar 8) (qaC (qBin fAdd (qVar 7) (qCall 2 sp__law_take (qaC (qVar 1) (qaC (qBin fAdd (qBin fSub (qVar 8) (qVar 7)) (qC (.int 1))) qaN)))) (qaC (qBin fAdd (qVar 8) (qC (.int 1))) (qaC (qBin fSub (qVar 7) (qC (.int 1))) qaN))))))))
  (qSeq (qIfS (qTst (qEqL true (qhE (qVar 6)) (qhL (qLst qaN))))
  (qDrop (qMl fApp (qVar 16) (qaC (qBin fAdd (qBin fIdx (qCall 2 sp__law_pick (qaC (qVar 1) (qaC (qVar 6) qaN))) (qC (.int 0))) (qC (.int 1))) qaN)))
  qNext)
  (qSeq (qSet 17 (qCall 4 sp__law_whole (qaC (qVar 6) (qaC (qVar 7) (qaC (qVar 8) (qaC (qVar 16) qaN))))))
  (qSeq (qIfS (qAnd (qTst (qBin fNe (qBin fMod (qVar 15) (qC (.int 3))) (qC (.int 1)))) (qTst (qEqL true (qhL (qLc (qiV (qVar 12)) (tg1 18) (qNot (qTru (qCall 2 sp__law_like (qaC (qCall 2 sp__law_answers (qaC (qVar 18) (qaC (qVar 16) qaN))) (qaC (qVar 17) qaN))))) (qC (.int 1)))) (qhL (qLst qaN)))))
  (qRet (qC (.bl false)))
  qNext)
  (qSeq (qSet 19 (qCall 4 sp__law_deed (qaC (qVar 1) (qaC (qVar 7) (qaC (qVar 8) (qaC (qVar 2) qaN))))))
  (qSeq (qSet 20 (qCall 3 sp__law_due (qaC (qVar 19) (qaC (qVar 7) (qaC (qVar 8) qaN)))))
  (qSeq (qIfS (qTst (qEqL true (qhL (qLc (qiV (qVar 12)) (tg1 18) (qTst (qBin fNe (qCall 2 sp__law_take_in (qaC (qVar 18) (qaC (qVar 19) qaN))) (qVar 20))) (qC (.int 1)))) (qhL (qLst qaN))))
  (qRet (qC (.bl false)))
  qNext)
  (qIfS (qAnd (qTru (qVar 20)) (qTst (qBin fEq (qBin fIdx (qVar 19) (qC (.int 0))) (qC (.str [116, 111, 108, 100])))))
  (qSeq (qSet 8 (qBin fIdx (qVar 19) (qC (.int 1))))
  (qDrop (qMl fApp (qVar 6) (qaC (qTup (qaC (qVar 8) (qaC (qBin fIdx (qVar 19) (qC (.int 2))) qaN))) qaN))))
  (qIfS (qTru (qVar 20))
  (qSet 7 (qBin fIdx (qVar 19) (qC (.int 1))))
  qNext))))))))))
  (qRet (qAndV (qCall 2 sp__law_like (qaC (qMeth 0 1 sp_Row_state (qVar 13) qaN) (qaC (qVar 9) qaN))) (qAndV (qCall 2 sp__law_like (qaC (qMeth 0 1 sp_Row_state (qVar 14) qaN) (qaC (qVar 9) qaN))) (qCall 2 sp__law_like (qaC (qMeth 0 1 sp_Row_state (qBin fIdx (qVar 12) (qC (.int 0))) qaN) (qaC (qCall 3 sp__law_state (qaC (qVar 6) (qaC (qVar 7) (qaC (qVar 8) qaN)))) qaN))))))))))))))))))))
@[irreducible] def sp_law : PSp := spDef 21 r_law

end Mp

set_option Elab.async false
set_option linter.all false
set_option maxRecDepth 100000
namespace Mp
open PySem PySem.Spec PyProof.Rows PySem.HandSPX L2
open LamX (TabB LamS lamS_by)

def topS (i : Nat) : Stmt := PySem.Challenge.pw_maypoint_k14_whole_rows_go_on_alike.main.body.getD i (.Pass ⟨0, 0, 0, 0⟩)
structure ZT (K : PySem.W.Frag) (mg : Str → Option Value) : Prop where
  z_abs : mg "abs" = none
  z_bool : mg "bool" = none
  z_enumerate : mg "enumerate" = none
  z_int : mg "int" = none
  z_isinstance : mg "isinstance" = none
  z_len : mg "len" = none
  z_list : mg "list" = none
  z_max : mg "max" = none
  z_min : mg "min" = none
  z_range : mg "range" = none
  z_sorted : mg "sorted" = none
  z_str : mg "str" = none
  z_tuple : mg "tuple" = none
  z_zip : mg "zip" = none
  g_MOST_NAME : ∃ t, mg "MOST_NAME" = some (.int 31 t)
  z_cls : InsCs K clsL
structure XFS (prog : Program) (K : PySem.W.Frag) (mg : Str → Option Value) (C_BadNumber C_BadRow C_Refused I_BadNumber I_BadRow I_Refused : Addr) : Prop where
  z_super : mg "super" = none
  z_top : (prog.main.scope.names.lookup ("super" : Str)).isSome = false
  g_BadNumber : mg "BadNumber" = some (.ref C_BadNumber)
  n_BadNumber : PySem.W.nsIn K mainGlobals "BadNumber" = some (some (.ref C_BadNumber))
  g_BadRow : mg "BadRow" = some (.ref C_BadRow)
  n_BadRow : PySem.W.nsIn K mainGlobals "BadRow" = some (some (.ref C_BadRow))
  g_Refused : mg "Refused" = some (.ref C_Refused)
  n_Refused : PySem.W.nsIn K mainGlobals "Refused" = some (some (.ref C_Refused))
  t_BadNumber : OwnTxt prog K mg C_BadNumber I_BadNumber "at"
  t_BadRow : OwnTxt prog K mg C_BadRow I_BadRow "at"
  t_Refused : OwnTxt prog K mg C_Refused I_Refused "value"
  x_BadNumber : XTest K xt_BadNumber (.ref C_BadNumber)
  x_Refused : XTest K xt_Refused (.ref C_Refused)
  f_Refused_value : XFields K ["Refused"] "value"
theorem nf_acked : ∀ i < 36, fld i ≠ "acked" := by decide +kernel
theorem nf_copied : ∀ i < 36, fld i ≠ "copied" := by decide +kernel
theorem nf_least : ∀ i < 36, fld i ≠ "least" := by decide +kernel
theorem nf_newest : ∀ i < 36, fld i ≠ "newest" := by decide +kernel
theorem nf_since : ∀ i < 36, fld i ≠ "since" := by decide +kernel
theorem nf_state : ∀ i < 36, fld i ≠ "state" := by decide +kernel
theorem nf_steps_from : ∀ i < 36, fld i ≠ "steps_from" := by decide +kernel
theorem nf_told : ∀ i < 36, fld i ≠ "told" := by decide +kernel
abbrev s_is_int : Stmt := topS 7
theorem sc_is_int : FnScope ["value"] ["value"] (defScope s_is_int) := ⟨rfl, rfl, rfl, by decide +kernel, rfl, by decide +kernel, by decide +kernel⟩
abbrev s_is_from : Stmt := topS 8
theorem sc_is_from : FnScope ["value", "least"] ["value", "least"] (defScope s_is_from) := ⟨rfl, rfl, rfl, by decide +kernel, rfl, by decide +kernel, by decide +kernel⟩
abbrev s_is_name : Stmt := topS 9
theorem sc_is_name : FnScope ["value"] ["value"] (defScope s_is_name) := ⟨rfl, rfl, rfl, by decide +kernel, rfl, by decide +kernel, by decide +kernel⟩
abbrev s_is_tuple : Stmt := topS 10
theorem sc_is_tuple : FnScope ["value", "many"] ["value", "many"] (defScope s_is_tuple) := ⟨rfl, rfl, rfl, by decide +kernel, rfl, by decide +kernel, by decide +kernel⟩
abbrev s_check_number : Stmt := topS 12
theorem sc_check_number : FnScope ["value", "place", "entry"] ["value"] (defScope s_check_number) := ⟨rfl, rfl, rfl, by decide +kernel, rfl, by decide +kernel, by decide +kernel⟩
abbrev s_is_below : Stmt := topS 13
theorem sc_is_below : FnScope ["one", "two"] ["one", "two"] (defScope s_is_below) := ⟨rfl, rfl, rfl, by decide +kernel, rfl, by decide +kernel, by decide +kernel⟩
abbrev s_is_told : Stmt := topS 15
theorem sc_is_told : FnScope ["value"] ["value"] (defScope s_is_told) := ⟨rfl, rfl, rfl, by decide +kernel, rfl, by decide +kernel, by decide +kernel⟩
abbrev s_Row_init : Stmt := inClass (topS 16) 0
theorem sc_Row_init : FnScope ["self"] ["self"] (defScope s_Row_init) := ⟨rfl, rfl, rfl, by decide +kernel, rfl, by decide +kernel, by decide +kernel⟩
abbrev s_made_row : Stmt := topS 17
theorem sc_made_row : FnScope ["head", "tail", "steps", "row"] ["head", "tail", "steps"] (defScope s_made_row) := ⟨rfl, rfl, rfl, by decide +kernel, rfl, by decide +kernel, by decide +kernel⟩
abbrev s_begun_row : Stmt := topS 18
theorem sc_begun_row : FnScope ["serial", "number"] ["serial", "number"] (defScope s_begun_row) := ⟨rfl, rfl, rfl, by decide +kernel, rfl, by decide +kernel, by decide +kernel⟩
abbrev s_may_be_first : Stmt := topS 19
theorem sc_may_be_first : FnScope ["head", "step", "serial", "number"] ["head", "step"] (defScope s_may_be_first) := ⟨rfl, rfl, rfl, by decide +kernel, rfl, by decide +kernel, by decide +kernel⟩
abbrev s_is_step : Stmt := topS 20
theorem sc_is_step : FnScope ["steps", "at", "head", "tail", "step", "good"] ["steps", "at", "head", "tail"] (defScope s_is_step) := ⟨rfl, rfl, rfl, by decide +kernel, rfl, by decide +kernel, by decide +kernel⟩
abbrev s_row_of : Stmt := topS 21
theorem sc_row_of : FnScope ["state", "head", "tail", "steps", "at"] ["state"] (defScope s_row_of) := ⟨rfl, rfl, rfl, by decide +kernel, rfl, by decide +kernel, by decide +kernel⟩
abbrev s__law_box : Stmt := topS 23
theorem sc__law_box : FnScope ["script", "k", "cell", "great"] ["script", "k"] (defScope s__law_box) := ⟨rfl, rfl, rfl, by decide +kernel, rfl, by decide +kernel, by decide +kernel⟩
abbrev s__law_take : Stmt := topS 24
theorem sc__law_take : FnScope ["box", "many", "digit", "raw"] ["box", "many"] (defScope s__law_take) := ⟨rfl, rfl, rfl, by decide +kernel, rfl, by decide +kernel, by decide +kernel⟩
abbrev s__law_pick : Stmt := topS 25
theorem sc__law_pick : FnScope ["box", "some"] ["box", "some"] (defScope s__law_pick) := ⟨rfl, rfl, rfl, by decide +kernel, rfl, by decide +kernel, by decide +kernel⟩
abbrev s__law_like : Stmt := topS 26
theorem sc__law_like : FnScope ["one", "due", "here", "there"] ["one", "due"] (defScope s__law_like) := ⟨rfl, rfl, rfl, by decide +kernel, rfl, by decide +kernel, by decide +kernel⟩
abbrev s__law_like_h : Stmt := topS 26
theorem sc__law_like_h : FnScope ["one", "due", "here", "there"] ["one", "due"] (defScope s__law_like_h) := ⟨rfl, rfl, rfl, by decide +kernel, rfl, by decide +kernel, by decide +kernel⟩
abbrev s__law_number : Stmt := topS 27
theorem sc__law_number : FnScope ["box", "few", "kind", "entries", "turn"] ["box", "few"] (defScope s__law_number) := ⟨rfl, rfl, rfl, by decide +kernel, rfl, by decide +kernel, by decide +kernel⟩
abbrev s__law_above : Stmt := topS 28
theorem sc__law_above : FnScope ["one", "other"] ["one", "other"] (defScope s__law_above) := ⟨rfl, rfl, rfl, by decide +kernel, rfl, by decide +kernel, by decide +kernel⟩
abbrev s__law_state : Stmt := topS 29
theorem sc__law_state : FnScope ["reports", "first", "last", "falls", "at", "serial", "number", "later"] ["reports", "first", "last"] (defScope s__law_state) := ⟨rfl, rfl, rfl, by decide +kernel, rfl, by decide +kernel, by decide +kernel⟩
abbrev s__law_least : Stmt := topS 30
theorem sc__law_least : FnScope ["reports", "k", "found", "serial", "number"] ["reports", "k"] (defScope s__law_least) := ⟨rfl, rfl, rfl, by decide +kernel, rfl, by decide +kernel, by decide +kernel⟩
abbrev s__law_deed : Stmt := topS 31
theorem sc__law_deed : FnScope ["box", "first", "last", "few"] ["box", "first", "last", "few"] (defScope s__law_deed) := ⟨rfl, rfl, rfl, by decide +kernel, rfl, by decide +kernel, by decide +kernel⟩
abbrev s_Row_told : Stmt := inClass (topS 16) 1
theorem sc_Row_told : FnScope ["self", "serial", "number"] ["self", "serial", "number"] (defScope s_Row_told) := ⟨rfl, rfl, rfl, by decide +kernel, rfl, by decide +kernel, by decide +kernel⟩
abbrev s_Row_steps_from : Stmt := inClass (topS 16) 3
theorem sc_Row_steps_from : FnScope ["self", "k", "step"] ["self", "k"] (defScope s_Row_steps_from) := ⟨rfl, rfl, rfl, by decide +kernel, rfl, by decide +kernel, by decide +kernel⟩
abbrev s_Row_acked : Stmt := inClass (topS 16) 2
theorem sc_Row_acked : FnScope ["self", "k"] ["self", "k"] (defScope s_Row_acked) := ⟨rfl, rfl, rfl, by decide +kernel, rfl, by decide +kernel, by decide +kernel⟩
abbrev s__law_take_in : Stmt := topS 32
theorem sc__law_take_in : FnScope ["row", "deed", "word", "value", "number", "wrong"] ["row", "deed"] (defScope s__law_take_in) := ⟨rfl, rfl, rfl, by decide +kernel, rfl, by decide +kernel, by decide +kernel⟩
abbrev s__law_due : Stmt := topS 33
theorem sc__law_due : FnScope ["deed", "first", "last"] ["deed", "first", "last"] (defScope s__law_due) := ⟨rfl, rfl, rfl, by decide +kernel, rfl, by decide +kernel, by decide +kernel⟩
abbrev s_Row_since : Stmt := inClass (topS 16) 5
theorem sc_Row_since : FnScope ["self", "k"] ["self", "k"] (defScope s_Row_since) := ⟨rfl, rfl, rfl, by decide +kernel, rfl, by decide +kernel, by decide +kernel⟩
abbrev s__law_since : Stmt := topS 34
theorem sc__law_since : FnScope ["row", "k"] ["row", "k"] (defScope s__law_since) := ⟨rfl, rfl, rfl, by decide +kernel, rfl, by decide +kernel, by decide +kernel⟩
abbrev s_Row_least : Stmt := inClass (topS 16) 4
theorem sc_Row_least : FnScope ["self"] ["self"] (defScope s_Row_least) := ⟨rfl, rfl, rfl, by decide +kernel, rfl, by decide +kernel, by decide +kernel⟩
abbrev s_Row_newest : Stmt := inClass (topS 16) 6
theorem sc_Row_newest : FnScope ["self"] ["self"] (defScope s_Row_newest) := ⟨rfl, rfl, rfl, by decide +kernel, rfl, by decide +kernel, by decide +kernel⟩
abbrev s_Row_state : Stmt := inClass (topS 16) 7
theorem sc_Row_state : FnScope ["self"] ["self"] (defScope s_Row_state) := ⟨rfl, rfl, rfl, by decide +kernel, rfl, by decide +kernel, by decide +kernel⟩
abbrev s__law_answers : Stmt := topS 35
theorem sc__law_answers : FnScope ["row", "ks", "k"] ["row", "ks"] (defScope s__law_answers) := ⟨rfl, rfl, rfl, by decide +kernel, rfl, by decide +kernel, by decide +kernel⟩
abbrev s__law_whole : Stmt := topS 36
theorem sc__law_whole : FnScope ["reports", "first", "last", "ks", "found", "k"] ["reports", "first", "last", "ks"] (defScope s__law_whole) := ⟨rfl, rfl, rfl, by decide +kernel, rfl, by decide +kernel, by decide +kernel⟩
abbrev s__law_drawn : Stmt := topS 37
theorem sc__law_drawn : FnScope ["box", "few", "row", "reports", "first", "last", "number", "turn", "deed"] ["box", "few"] (defScope s__law_drawn) := ⟨rfl, rfl, rfl, by decide +kernel, rfl, by decide +kernel, by decide +kernel⟩
abbrev s__law_near : Stmt := topS 38
theorem sc__law_near : FnScope ["box", "state", "first", "last", "falls", "found", "at"] ["box", "state"] (defScope s__law_near) := ⟨rfl, rfl, rfl, by decide +kernel, rfl, by decide +kernel, by decide +kernel⟩
abbrev s__law_apart : Stmt := topS 39
theorem sc__law_apart : FnScope ["one", "other", "here", "there", "first", "last", "k", "fall"] ["one", "other", "here", "there"] (defScope s__law_apart) := ⟨rfl, rfl, rfl, by decide +kernel, rfl, by decide +kernel, by decide +kernel⟩
abbrev s_Row_copied : Stmt := inClass (topS 16) 8
theorem sc_Row_copied : FnScope ["self"] ["self"] (defScope s_Row_copied) := ⟨rfl, rfl, rfl, by decide +kernel, rfl, by decide +kernel, by decide +kernel⟩
abbrev s_law : Stmt := topS 40
theorem sc_law : FnScope ["script", "box", "few", "drawn", "second", "row", "reports", "first", "last", "state", "near", "other", "rows", "kept", "twin", "turn", "ks", "due", "one", "deed", "taken"] ["script"] (defScope s_law) := ⟨rfl, rfl, rfl, by decide +kernel, rfl, by decide +kernel, by decide +kernel⟩
section
variable {P : Program} {w : World} {K : PySem.W.Frag} {mg : Str → Option Value} {base : Heap} {T : List (Addr × Str)} {C_BadNumber C_BadRow C_Refused I_BadNumber I_BadRow I_Refused : Addr}
structure C_is_int (P : Program) (w : World) (K : PySem.W.Frag) (mg : Str → Option Value) (base : Heap) (T : List (Addr × Str))  : Prop where
  ok : True
theorem o_is_int (Z : ZT K mg) (XF : XFS P K mg C_BadNumber C_BadRow C_Refused I_BadNumber I_BadRow I_Refused) (C : C_is_int P w K mg base T) {f : Addr} {fd : FuncData} (F : Fun K "is_int" "is_int" s_is_int f fd) : FnOk P w K mg base (L2N.CX P w) 1 f fd ["value"] (spOf K T 1 sp_is_int) := by
  unfold sp_is_int
  exact
  fnok_mk (N := ["value"]) (ps := ["value"]) F rfl rfl sc_is_int fun cdv A outer s H E hr tk hp hu nd =>
  have hu0 := hr.units0
  have hu1 := hr.units1
  ((qss_one (qs_ret (qe_and (q_isi (Ty := "int") (by rfl) Z.z_isinstance (by rfl) Z.z_int (by decide +kernel) (by decide) (q_var 0)) (qe_one (qe_not (q_isi (Ty := "bool") (by rfl) Z.z_isinstance (by rfl) Z.z_bool (by decide +kernel) (by decide) (q_var 0))))))))
theorem f_is_int (Z : ZT K mg) (XF : XFS P K mg C_BadNumber C_BadRow C_Refused I_BadNumber I_BadRow I_Refused) (C : C_is_int P w K mg base T) {f : Addr} {fd : FuncData} (hm : mg "is_int" = some (.ref f)) (F : Fun K "is_int" "is_int" s_is_int f fd) : Fn P w K mg base T 1 "is_int" s_is_int 1 sp_is_int :=
  fn_mk (ps := ["value"]) hm F (F.binds fun _ _ _ _ _ _ us hl => match us, hl with | [_], _ => rfl) rfl rfl (o_is_int Z XF C F)

structure C_is_from (P : Program) (w : World) (K : PySem.W.Frag) (mg : Str → Option Value) (base : Heap) (T : List (Addr × Str))  : Prop where
  c_is_int : Fn P w K mg base T 1 "is_int" s_is_int 1 sp_is_int
theorem o_is_from (Z : ZT K mg) (XF : XFS P K mg C_BadNumber C_BadRow C_Refused I_BadNumber I_BadRow I_Refused) (C : C_is_from P w K mg base T) {f : Addr} {fd : FuncData} (F : Fun K "is_from" "is_from" s_is_from f fd) : FnOk P w K mg base (L2N.CX P w) 2 f fd ["value", "least"] (spOf K T 2 sp_is_from) := by
  unfold sp_is_from
  exact
  fnok_mk (N := ["value", "least"]) (ps := ["value", "least"]) F rfl rfl sc_is_from fun cdv A outer s H E hr tk hp hu nd =>
  have hu0 := hr.units0
  have hu1 := hr.units1
  ((qss_one (qs_ret (qe_and (q_call C.c_is_int hr tk (by rfl) (qa_cons (q_var 0) qa_nil)) (qe_one (q_ge (q_var 0) (q_var 1)))))))
theorem f_is_from (Z : ZT K mg) (XF : XFS P K mg C_BadNumber C_BadRow C_Refused I_BadNumber I_BadRow I_Refused) (C : C_is_from P w K mg base T) {f : Addr} {fd : FuncData} (hm : mg "is_from" = some (.ref f)) (F : Fun K "is_from" "is_from" s_is_from f fd) : Fn P w K mg base T 2 "is_from" s_is_from 2 sp_is_from :=
  fn_mk (ps := ["value", "least"]) hm F (F.binds fun _ _ _ _ _ _ us hl => match us, hl with | [_, _], _ => rfl) rfl rfl (o_is_from Z XF C F)

structure C_is_name (P : Program) (w : World) (K : PySem.W.Frag) (mg : Str → Option Value) (base : Heap) (T : List (Addr × Str))  : Prop where
  c_is_from : Fn P w K mg base T 2 "is_from" s_is_from 2 sp_is_from
theorem o_is_name (Z : ZT K mg) (XF : XFS P K mg C_BadNumber C_BadRow C_Refused I_BadNumber I_BadRow I_Refused) (C : C_is_name P w K mg base T) {f : Addr} {fd : FuncData} (F : Fun K "is_name" "is_name" s_is_name f fd) : FnOk P w K mg base (L2N.CX P w) 3 f fd ["value"] (spOf K T 1 sp_is_name) := by
  unfold sp_is_name
  exact
  fnok_mk (N := ["value"]) (ps := ["value"]) F rfl rfl sc_is_name fun cdv A outer s H E hr tk hp hu nd =>
  have hu0 := hr.units0
  have hu1 := hr.units1
  ((qss_one (qs_ret (qe_and (q_call C.c_is_from hr tk (by rfl) (qa_cons (q_var 0) (qa_cons q_int qa_nil))) (qe_one (q_le (q_var 0) (q_gint Z.g_MOST_NAME)))))))
theorem f_is_name (Z : ZT K mg) (XF : XFS P K mg C_BadNumber C_BadRow C_Refused I_BadNumber I_BadRow I_Refused) (C : C_is_name P w K mg base T) {f : Addr} {fd : FuncData} (hm : mg "is_name" = some (.ref f)) (F : Fun K "is_name" "is_name" s_is_name f fd) : Fn P w K mg base T 3 "is_name" s_is_name 1 sp_is_name :=
  fn_mk (ps := ["value"]) hm F (F.binds fun _ _ _ _ _ _ us hl => match us, hl with | [_], _ => rfl) rfl rfl (o_is_name Z XF C F)

structure C_is_tuple (P : Program) (w : World) (K : PySem.W.Frag) (mg : Str → Option Value) (base : Heap) (T : List (Addr × Str))  : Prop where
  ok : True
theorem o_is_tuple (Z : ZT K mg) (XF : XFS P K mg C_BadNumber C_BadRow C_Refused I_BadNumber I_BadRow I_Refused) (C : C_is_tuple P w K mg base T) {f : Addr} {fd : FuncData} (F : Fun K "is_tuple" "is_tuple" s_is_tuple f fd) : FnOk P w K mg base (L2N.CX P w) 1 f fd ["value", "many"] (spOf K T 2 sp_is_tuple) := by
  unfold sp_is_tuple
  exact
  fnok_mk (N := ["value", "many"]) (ps := ["value", "many"]) F rfl rfl sc_is_tuple fun cdv A outer s H E hr tk hp hu nd =>
  have hu0 := hr.units0
  have hu1 := hr.units1
  ((qss_one (qs_ret (qe_and (q_isi (Ty := "tuple") (by rfl) Z.z_isinstance (by rfl) Z.z_tuple (by decide +kernel) (by decide) (q_var 0)) (qe_one (q_eq hu (q_callB call_len cq_len (by rfl) Z.z_len PySem.boot_len (qa_cons (q_var 0) qa_nil)) (q_var 1)))))))
theorem f_is_tuple (Z : ZT K mg) (XF : XFS P K mg C_BadNumber C_BadRow C_Refused I_BadNumber I_BadRow I_Refused) (C : C_is_tuple P w K mg base T) {f : Addr} {fd : FuncData} (hm : mg "is_tuple" = some (.ref f)) (F : Fun K "is_tuple" "is_tuple" s_is_tuple f fd) : Fn P w K mg base T 1 "is_tuple" s_is_tuple 2 sp_is_tuple :=
  fn_mk (ps := ["value", "many"]) hm F (F.binds fun _ _ _ _ _ _ us hl => match us, hl with | [_, _], _ => rfl) rfl rfl (o_is_tuple Z XF C F)

structure C_check_number (P : Program) (w : World) (K : PySem.W.Frag) (mg : Str → Option Value) (base : Heap) (T : List (Addr × Str))  : Prop where
  c_is_int : Fn P w K mg base T 3 "is_int" s_is_int 1 sp_is_int
  c_is_name : Fn P w K mg base T 3 "is_name" s_is_name 1 sp_is_name
theorem o_check_number (Z : ZT K mg) (XF : XFS P K mg C_BadNumber C_BadRow C_Refused I_BadNumber I_BadRow I_Refused) (C : C_check_number P w K mg base T) {f : Addr} {fd : FuncData} (F : Fun K "check_number" "check_number" s_check_number f fd) : FnOk P w K mg base (L2N.CX P w) 4 f fd ["value"] (spOf K T 1 sp_check_number) := by
  unfold sp_check_number
  exact
  fnok_mk (N := ["value", "place", "entry"]) (ps := ["value"]) F rfl rfl sc_check_number fun cdv A outer s H E hr tk hp hu nd =>
  have hu0 := hr.units0
  have hu1 := hr.units1
  ((qss_cons (qs_if (qt_w (qw_or (qt_not (qt_tru (q_isi (Ty := "tuple") (by rfl) Z.z_isinstance (by rfl) Z.z_tuple (by decide +kernel) (by decide) (q_var 0)))) (qw_or1 (qt_lt hu0 (q_callB call_len cq_len (by rfl) Z.z_len PySem.boot_len (qa_cons (q_var 0) qa_nil)) q_int))))
  (qss_one (qs_raise rfl XF.t_BadNumber XF.n_BadNumber (.inl rfl) XF.g_BadNumber XF.z_super XF.z_top hr tk (q_neg q_int)))
  qss_nil)
  (qss_cons (qs_for hp rfl (qi_enum (by rfl) Z.z_enumerate (q_var 0)) (qg_tup rfl (qgs_cons (qg_name (i := 1) nd) (qgs_cons (qg_name (i := 2) nd) qgs_nil)))
  (qss_one (qs_if (qt_not (qt_tru (q_call C.c_is_int hr tk (by rfl) (qa_cons (q_var 2) qa_nil))))
  (qss_one (qs_raise rfl XF.t_BadNumber XF.n_BadNumber (.inl rfl) XF.g_BadNumber XF.z_super XF.z_top hr tk (q_var 1)))
  qss_nil)))
  (qss_cons (qs_if (qt_lt hu0 (q_idx (q_var 0) q_int) q_int)
  (qss_one (qs_raise rfl XF.t_BadNumber XF.n_BadNumber (.inl rfl) XF.g_BadNumber XF.z_super XF.z_top hr tk q_int))
  qss_nil)
  (qss_cons (qs_if (qt_not (qt_tru (q_call C.c_is_name hr tk (by rfl) (qa_cons (q_idx (q_var 0) (q_neg q_int)) qa_nil))))
  (qss_one (qs_raise rfl XF.t_BadNumber XF.n_BadNumber (.inl rfl) XF.g_BadNumber XF.z_super XF.z_top hr tk (q_sub (q_callB call_len cq_len (by rfl) Z.z_len PySem.boot_len (qa_cons (q_var 0) qa_nil)) q_int)))
  qss_nil)
  (qss_one (qs_ret (q_var 0))))))))
theorem f_check_number (Z : ZT K mg) (XF : XFS P K mg C_BadNumber C_BadRow C_Refused I_BadNumber I_BadRow I_Refused) (C : C_check_number P w K mg base T) {f : Addr} {fd : FuncData} (hm : mg "check_number" = some (.ref f)) (F : Fun K "check_number" "check_number" s_check_number f fd) : Fn P w K mg base T 4 "check_number" s_check_number 1 sp_check_number :=
  fn_mk (ps := ["value"]) hm F (F.binds fun _ _ _ _ _ _ us hl => match us, hl with | [_], _ => rfl) rfl rfl (o_check_number Z XF C F)

structure C_is_below (P : Program) (w : World) (K : PySem.W.Frag) (mg : Str → Option Value) (base : Heap) (T : List (Addr × Str))  : Prop where
  ok : True
theorem o_is_below (Z : ZT K mg) (XF : XFS P K mg C_BadNumber C_BadRow C_Refused I_BadNumber I_BadRow I_Refused) (C : C_is_below P w K mg base T) {f : Addr} {fd : FuncData} (F : Fun K "is_below" "is_below" s_is_below f fd) : FnOk P w K mg base (L2N.CX P w) 1 f fd ["one", "two"] (spOf K T 2 sp_is_below) := by
  unfold sp_is_below
  exact
  fnok_mk (N := ["one", "two"]) (ps := ["one", "two"]) F rfl rfl sc_is_below fun cdv A outer s H E hr tk hp hu nd =>
  have hu0 := hr.units0
  have hu1 := hr.units1
  ((qss_cons (qs_if (qt_isN (q_var 0))
  (qss_one (qs_ret q_bl))
  qss_nil)
  (qss_one (qs_ret (qe_or (q_isN (q_var 1)) (qe_one (q_lt hu0 (q_var 0) (q_var 1))))))))
theorem f_is_below (Z : ZT K mg) (XF : XFS P K mg C_BadNumber C_BadRow C_Refused I_BadNumber I_BadRow I_Refused) (C : C_is_below P w K mg base T) {f : Addr} {fd : FuncData} (hm : mg "is_below" = some (.ref f)) (F : Fun K "is_below" "is_below" s_is_below f fd) : Fn P w K mg base T 1 "is_below" s_is_below 2 sp_is_below :=
  fn_mk (ps := ["one", "two"]) hm F (F.binds fun _ _ _ _ _ _ us hl => match us, hl with | [_, _], _ => rfl) rfl rfl (o_is_below Z XF C F)

structure C_is_told (P : Program) (w : World) (K : PySem.W.Frag) (mg : Str → Option Value) (base : Heap) (T : List (Addr × Str))  : Prop where
  c_check_number : Fn P w K mg base T 4 "check_number" s_check_number 1 sp_check_number
theorem o_is_told (Z : ZT K mg) (XF : XFS P K mg C_BadNumber C_BadRow C_Refused I_BadNumber I_BadRow I_Refused) (C : C_is_told P w K mg base T) {f : Addr} {fd : FuncData} (F : Fun K "is_told" "is_told" s_is_told f fd) : FnOk P w K mg base (L2N.CX P w) 5 f fd ["value"] (spOf K T 1 sp_is_told) := by
  unfold sp_is_told
  exact
  fnok_mk (N := ["value"]) (ps := ["value"]) F rfl rfl sc_is_told fun cdv A outer s H E hr tk hp hu nd =>
  have hu0 := hr.units0
  have hu1 := hr.units1
  ((qss_cons (qs_if (qt_isN (q_var 0))
  (qss_one (qs_ret q_bl))
  qss_nil)
  (qss_cons (qs_try rfl rfl ⟨rfl, by decide, .inl XF.g_BadNumber⟩ tk XF.x_BadNumber (fun _ _ _ tk hp =>
  (qss_one (qs_expr (q_call C.c_check_number hr tk (by rfl) (qa_cons (q_var 0) qa_nil))))) (fun a0 oe cls d0 pn hz hv x0 hx hx1 =>
  (qss_one (qs_ret q_bl))))
  (qss_one (qs_ret q_bl)))))
theorem f_is_told (Z : ZT K mg) (XF : XFS P K mg C_BadNumber C_BadRow C_Refused I_BadNumber I_BadRow I_Refused) (C : C_is_told P w K mg base T) {f : Addr} {fd : FuncData} (hm : mg "is_told" = some (.ref f)) (F : Fun K "is_told" "is_told" s_is_told f fd) : Fn P w K mg base T 5 "is_told" s_is_told 1 sp_is_told :=
  fn_mk (ps := ["value"]) hm F (F.binds fun _ _ _ _ _ _ us hl => match us, hl with | [_], _ => rfl) rfl rfl (o_is_told Z XF C F)

structure C_Row_init (P : Program) (w : World) (K : PySem.W.Frag) (mg : Str → Option Value) (base : Heap) (T : List (Addr × Str))  : Prop where
  ok : True
theorem o_Row_init (Z : ZT K mg) (XF : XFS P K mg C_BadNumber C_BadRow C_Refused I_BadNumber I_BadRow I_Refused) (C : C_Row_init P w K mg base T) {f : Addr} {fd : FuncData} (F : Fun K "__init__" "Row.__init__" s_Row_init f fd) : FnOk P w K mg base (L2N.CX P w) 1 f fd ["self"] (spOf K T 1 sp_Row_init) := by
  unfold sp_Row_init
  exact
  fnok_mk (N := ["self"]) (ps := ["self"]) F rfl rfl sc_Row_init fun cdv A outer s H E hr tk hp hu nd =>
  have hu0 := hr.units0
  have hu1 := hr.units1
  ((qss_cons (qs_fld Z.z_cls (q_var 0) q_int)
  (qss_cons (qs_fld Z.z_cls (q_var 0) q_int)
  (qss_one (qs_fld Z.z_cls (q_var 0) (q_new (ql_lst qa_nil)))))))
theorem f_Row_init (Z : ZT K mg) (XF : XFS P K mg C_BadNumber C_BadRow C_Refused I_BadNumber I_BadRow I_Refused) (C : C_Row_init P w K mg base T) {c f : Addr} {fd : FuncData} (hm : mg (cls 0) = some (.ref c)) (hn : PySem.W.nsIn K mainGlobals (cls 0) = some (some (.ref c))) (M : Mk K c f) (F : Fun K "__init__" "Row.__init__" s_Row_init f fd) : MkC P w K mg base T 1 0 s_Row_init 1 sp_Row_init :=
  ⟨c, f, fd, ["self"], hm, hn, M, ⟨_, F⟩, (F.binds fun _ _ _ _ _ _ us hl => match us, hl with | [_], _ => rfl), rfl, rfl, o_Row_init Z XF C F⟩

structure C_made_row (P : Program) (w : World) (K : PySem.W.Frag) (mg : Str → Option Value) (base : Heap) (T : List (Addr × Str))  : Prop where
  k_Row_init : MkC P w K mg base T 1 0 s_Row_init 1 sp_Row_init
theorem o_made_row (Z : ZT K mg) (XF : XFS P K mg C_BadNumber C_BadRow C_Refused I_BadNumber I_BadRow I_Refused) (C : C_made_row P w K mg base T) {f : Addr} {fd : FuncData} (F : Fun K "made_row" "made_row" s_made_row f fd) : FnOk P w K mg base (L2N.CX P w) 3 f fd ["head", "tail", "steps"] (spOf K T 3 sp_made_row) := by
  unfold sp_made_row
  exact
  fnok_mk (N := ["head", "tail", "steps", "row"]) (ps := ["head", "tail", "steps"]) F rfl rfl sc_made_row fun cdv A outer s H E hr tk hp hu nd =>
  have hu0 := hr.units0
  have hu1 := hr.units1
  ((qss_cons (qs_set (i := 3) nd (q_make0 C.k_Row_init hr (by rfl)))
  (qss_cons (qs_fld Z.z_cls (q_var 3) (q_var 0))
  (qss_cons (qs_fld Z.z_cls (q_var 3) (q_var 1))
  (qss_cons (qs_fld Z.z_cls (q_var 3) (q_new (ql_list (by rfl) Z.z_list (q_var 2))))
  (qss_one (qs_ret (q_var 3))))))))
theorem f_made_row (Z : ZT K mg) (XF : XFS P K mg C_BadNumber C_BadRow C_Refused I_BadNumber I_BadRow I_Refused) (C : C_made_row P w K mg base T) {f : Addr} {fd : FuncData} (hm : mg "made_row" = some (.ref f)) (F : Fun K "made_row" "made_row" s_made_row f fd) : Fn P w K mg base T 3 "made_row" s_made_row 3 sp_made_row :=
  fn_mk (ps := ["head", "tail", "steps"]) hm F (F.binds fun _ _ _ _ _ _ us hl => match us, hl with | [_, _, _], _ => rfl) rfl rfl (o_made_row Z XF C F)

structure C_begun_row (P : Program) (w : World) (K : PySem.W.Frag) (mg : Str → Option Value) (base : Heap) (T : List (Addr × Str))  : Prop where
  k_Row_init : MkC P w K mg base T 2 0 s_Row_init 1 sp_Row_init
  c_made_row : Fn P w K mg base T 3 "made_row" s_made_row 3 sp_made_row
theorem o_begun_row (Z : ZT K mg) (XF : XFS P K mg C_BadNumber C_BadRow C_Refused I_BadNumber I_BadRow I_Refused) (C : C_begun_row P w K mg base T) {f : Addr} {fd : FuncData} (F : Fun K "begun_row" "begun_row" s_begun_row f fd) : FnOk P w K mg base (L2N.CX P w) 4 f fd ["serial", "number"] (spOf K T 2 sp_begun_row) := by
  unfold sp_begun_row
  exact
  fnok_mk (N := ["serial", "number"]) (ps := ["serial", "number"]) F rfl rfl sc_begun_row fun cdv A outer s H E hr tk hp hu nd =>
  have hu0 := hr.units0
  have hu1 := hr.units1
  ((qss_cons (qs_if (qt_w (qw_and (qt_eq hu (q_var 0) q_int) (qw_and1 (qt_isN (q_var 1)))))
  (qss_one (qs_ret (q_make0 C.k_Row_init hr (by rfl))))
  qss_nil)
  (qss_one (qs_ret (q_call C.c_made_row hr tk (by rfl) (qa_cons (q_var 0) (qa_cons (q_var 0) (qa_cons (q_new (ql_lst (qa_cons (q_tup (qa_cons (q_var 0) (qa_cons (q_var 1) qa_nil))) qa_nil))) qa_nil))))))))
theorem f_begun_row (Z : ZT K mg) (XF : XFS P K mg C_BadNumber C_BadRow C_Refused I_BadNumber I_BadRow I_Refused) (C : C_begun_row P w K mg base T) {f : Addr} {fd : FuncData} (hm : mg "begun_row" = some (.ref f)) (F : Fun K "begun_row" "begun_row" s_begun_row f fd) : Fn P w K mg base T 4 "begun_row" s_begun_row 2 sp_begun_row :=
  fn_mk (ps := ["serial", "number"]) hm F (F.binds fun _ _ _ _ _ _ us hl => match us, hl with | [_, _], _ => rfl) rfl rfl (o_begun_row Z XF C F)

structure C_may_be_first (P : Program) (w : World) (K : PySem.W.Frag) (mg : Str → Option Value) (base : Heap) (T : List (Addr × Str))  : Prop where
  ok : True
theorem o_may_be_first (Z : ZT K mg) (XF : XFS P K mg C_BadNumber C_BadRow C_Refused I_BadNumber I_BadRow I_Refused) (C : C_may_be_first P w K mg base T) {f : Addr} {fd : FuncData} (F : Fun K "may_be_first" "may_be_first" s_may_be_first f fd) : FnOk P w K mg base (L2N.CX P w) 1 f fd ["head", "step"] (spOf K T 2 sp_may_be_first) := by
  unfold sp_may_be_first
  exact
  fnok_mk (N := ["head", "step", "serial", "number"]) (ps := ["head", "step"]) F rfl rfl sc_may_be_first fun cdv A outer s H E hr tk hp hu nd =>
  have hu0 := hr.units0
  have hu1 := hr.units1
  ((qss_cons (qs_asg (q_var 1) (qg_tup rfl (qgs_cons (qg_name (i := 2) nd) (qgs_cons (qg_name (i := 3) nd) qgs_nil))))
  (qss_cons (qs_if (qt_w (qw_and (qt_eq hu (q_var 0) q_int) (qw_and1 (qt_eq hu (q_var 2) q_int))))
  (qss_one (qs_ret (q_notN (q_var 3))))
  qss_nil)
  (qss_one (qs_ret (q_ge (q_var 2) (q_callB (call_max2 rfl) cq_max2 (by rfl) Z.z_max (by decide +kernel) (qa_cons (q_var 0) (qa_cons q_int qa_nil)))))))))
theorem f_may_be_first (Z : ZT K mg) (XF : XFS P K mg C_BadNumber C_BadRow C_Refused I_BadNumber I_BadRow I_Refused) (C : C_may_be_first P w K mg base T) {f : Addr} {fd : FuncData} (hm : mg "may_be_first" = some (.ref f)) (F : Fun K "may_be_first" "may_be_first" s_may_be_first f fd) : Fn P w K mg base T 1 "may_be_first" s_may_be_first 2 sp_may_be_first :=
  fn_mk (ps := ["head", "step"]) hm F (F.binds fun _ _ _ _ _ _ us hl => match us, hl with | [_, _], _ => rfl) rfl rfl (o_may_be_first Z XF C F)

structure C_is_step (P : Program) (w : World) (K : PySem.W.Frag) (mg : Str → Option Value) (base : Heap) (T : List (Addr × Str))  : Prop where
  c_is_from : Fn P w K mg base T 5 "is_from" s_is_from 2 sp_is_from
  c_is_tuple : Fn P w K mg base T 5 "is_tuple" s_is_tuple 2 sp_is_tuple
  c_is_below : Fn P w K mg base T 5 "is_below" s_is_below 2 sp_is_below
  c_is_told : Fn P w K mg base T 5 "is_told" s_is_told 1 sp_is_told
  c_may_be_first : Fn P w K mg base T 5 "may_be_first" s_may_be_first 2 sp_may_be_first
theorem o_is_step (Z : ZT K mg) (XF : XFS P K mg C_BadNumber C_BadRow C_Refused I_BadNumber I_BadRow I_Refused) (C : C_is_step P w K mg base T) {f : Addr} {fd : FuncData} (F : Fun K "is_step" "is_step" s_is_step f fd) : FnOk P w K mg base (L2N.CX P w) 6 f fd ["steps", "at", "head", "tail"] (spOf K T 4 sp_is_step) := by
  unfold sp_is_step
  exact
  fnok_mk (N := ["steps", "at", "head", "tail", "step", "good"]) (ps := ["steps", "at", "head", "tail"]) F rfl rfl sc_is_step fun cdv A outer s H E hr tk hp hu nd =>
  have hu0 := hr.units0
  have hu1 := hr.units1
  ((qss_cons (qs_set (i := 4) nd (q_idx (q_var 0) (q_var 1)))
  (qss_cons (qs_if (qt_w (qw_or (qt_not (qt_tru (q_call C.c_is_tuple hr tk (by rfl) (qa_cons (q_var 4) (qa_cons q_int qa_nil))))) (qw_or (qt_not (qt_tru (q_call C.c_is_from hr tk (by rfl) (qa_cons (q_idx (q_var 4) q_int) (qa_cons q_int qa_nil))))) (qw_or1 (qt_not (qt_tru (q_call C.c_is_told hr tk (by rfl) (qa_cons (q_idx (q_var 4) q_int) qa_nil))))))))
  (qss_one (qs_ret q_bl))
  qss_nil)
  (qss_cons (qs_if (qt_eq hu (q_var 1) q_int)
  (qss_one (qs_set (i := 5) nd (q_call C.c_may_be_first hr tk (by rfl) (qa_cons (q_var 2) (qa_cons (q_var 4) qa_nil)))))
  (qss_one (qs_set (i := 5) nd (qe_and (q_lt hu0 (q_idx (q_idx (q_var 0) (q_sub (q_var 1) q_int)) q_int) (q_idx (q_var 4) q_int)) (qe_one (q_call C.c_is_below hr tk (by rfl) (qa_cons (q_idx (q_idx (q_var 0) (q_sub (q_var 1) q_int)) q_int) (qa_cons (q_idx (q_var 4) q_int) qa_nil))))))))
  (qss_one (qs_ret (qe_and (q_var 5) (qe_one (qe_or (q_lt hu0 (q_var 1) (q_sub (q_callB call_len cq_len (by rfl) Z.z_len PySem.boot_len (qa_cons (q_var 0) qa_nil)) q_int)) (qe_one (q_eq hu (q_idx (q_var 4) q_int) (q_var 3))))))))))))
theorem f_is_step (Z : ZT K mg) (XF : XFS P K mg C_BadNumber C_BadRow C_Refused I_BadNumber I_BadRow I_Refused) (C : C_is_step P w K mg base T) {f : Addr} {fd : FuncData} (hm : mg "is_step" = some (.ref f)) (F : Fun K "is_step" "is_step" s_is_step f fd) : Fn P w K mg base T 6 "is_step" s_is_step 4 sp_is_step :=
  fn_mk (ps := ["steps", "at", "head", "tail"]) hm F (F.binds fun _ _ _ _ _ _ us hl => match us, hl with | [_, _, _, _], _ => rfl) rfl rfl (o_is_step Z XF C F)

structure C_row_of (P : Program) (w : World) (K : PySem.W.Frag) (mg : Str → Option Value) (base : Heap) (T : List (Addr × Str))  : Prop where
  c_is_from : Fn P w K mg base T 6 "is_from" s_is_from 2 sp_is_from
  c_is_tuple : Fn P w K mg base T 6 "is_tuple" s_is_tuple 2 sp_is_tuple
  c_made_row : Fn P w K mg base T 6 "made_row" s_made_row 3 sp_made_row
  c_is_step : Fn P w K mg base T 6 "is_step" s_is_step 4 sp_is_step
theorem o_row_of (Z : ZT K mg) (XF : XFS P K mg C_BadNumber C_BadRow C_Refused I_BadNumber I_BadRow I_Refused) (C : C_row_of P w K mg base T) {f : Addr} {fd : FuncData} (F : Fun K "row_of" "row_of" s_row_of f fd) : FnOk P w K mg base (L2N.CX P w) 7 f fd ["state"] (spOf K T 1 sp_row_of) := by
  unfold sp_row_of
  exact
  fnok_mk (N := ["state", "head", "tail", "steps", "at"]) (ps := ["state"]) F rfl rfl sc_row_of fun cdv A outer s H E hr tk hp hu nd =>
  have hu0 := hr.units0
  have hu1 := hr.units1
  ((qss_cons (qs_if (qt_w (qw_or (qt_not (qt_tru (q_call C.c_is_tuple hr tk (by rfl) (qa_cons (q_var 0) (qa_cons q_int qa_nil))))) (qw_or1 (qt_not (qt_tru (q_isi (Ty := "tuple") (by rfl) Z.z_isinstance (by rfl) Z.z_tuple (by decide +kernel) (by decide) (q_idx (q_var 0) q_int)))))))
  (qss_one (qs_raise rfl XF.t_BadRow XF.n_BadRow (.inl rfl) XF.g_BadRow XF.z_super XF.z_top hr tk (q_neg q_int)))
  qss_nil)
  (qss_cons (qs_asg (q_var 0) (qg_tup rfl (qgs_cons (qg_name (i := 1) nd) (qgs_cons (qg_name (i := 2) nd) (qgs_cons (qg_name (i := 3) nd) qgs_nil)))))
  (qss_cons (qs_if (qt_not (qt_tru (q_call C.c_is_from hr tk (by rfl) (qa_cons (q_var 1) (qa_cons q_int qa_nil)))))
  (qss_one (qs_raise rfl XF.t_BadRow XF.n_BadRow (.inl rfl) XF.g_BadRow XF.z_super XF.z_top hr tk q_int))
  qss_nil)
  (qss_cons (qs_if (qt_w (qw_or (qt_not (qt_tru (q_call C.c_is_from hr tk (by rfl) (qa_cons (q_var 2) (qa_cons (q_var 1) qa_nil))))) (qw_or1 (qt_w (qw_and (qt_gtA hu0 (q_var 2) q_int) (qw_and1 (qt_eq hu (q_callB call_len cq_len (by rfl) Z.z_len PySem.boot_len (qa_cons (q_var 3) qa_nil)) q_int)))))))
  (qss_one (qs_raise rfl XF.t_BadRow XF.n_BadRow (.inl rfl) XF.g_BadRow XF.z_super XF.z_top hr tk q_int))
  qss_nil)
  (qss_cons (qs_for hp rfl (qi_r1 (by rfl) Z.z_range (qa_cons (q_callB call_len cq_len (by rfl) Z.z_len PySem.boot_len (qa_cons (q_var 3) qa_nil)) qa_nil)) (qg_name (i := 4) nd)
  (qss_one (qs_if (qt_not (qt_tru (q_call C.c_is_step hr tk (by rfl) (qa_cons (q_var 3) (qa_cons (q_var 4) (qa_cons (q_var 1) (qa_cons (q_var 2) qa_nil)))))))
  (qss_one (qs_raise rfl XF.t_BadRow XF.n_BadRow (.inl rfl) XF.g_BadRow XF.z_super XF.z_top hr tk (q_add q_int (q_var 4))))
  qss_nil)))
  (qss_one (qs_ret (q_call C.c_made_row hr tk (by rfl) (qa_cons (q_var 1) (qa_cons (q_var 2) (qa_cons (q_var 3) qa_nil))))))))))))
theorem f_row_of (Z : ZT K mg) (XF : XFS P K mg C_BadNumber C_BadRow C_Refused I_BadNumber I_BadRow I_Refused) (C : C_row_of P w K mg base T) {f : Addr} {fd : FuncData} (hm : mg "row_of" = some (.ref f)) (F : Fun K "row_of" "row_of" s_row_of f fd) : Fn P w K mg base T 7 "row_of" s_row_of 1 sp_row_of :=
  fn_mk (ps := ["state"]) hm F (F.binds fun _ _ _ _ _ _ us hl => match us, hl with | [_], _ => rfl) rfl rfl (o_row_of Z XF C F)

structure C__law_box (P : Program) (w : World) (K : PySem.W.Frag) (mg : Str → Option Value) (base : Heap) (T : List (Addr × Str))  : Prop where
  ok : True
theorem o__law_box (Z : ZT K mg) (XF : XFS P K mg C_BadNumber C_BadRow C_Refused I_BadNumber I_BadRow I_Refused) (C : C__law_box P w K mg base T) {f : Addr} {fd : FuncData} (F : Fun K "_law_box" "_law_box" s__law_box f fd) : FnOk P w K mg base (L2N.CX P w) 1 f fd ["script", "k"] (spOf K T 2 sp__law_box) := by
  unfold sp__law_box
  exact
  fnok_mk (N := ["script", "k", "cell", "great"]) (ps := ["script", "k"]) F rfl rfl sc__law_box fun cdv A outer s H E hr tk hp hu nd =>
  have hu0 := hr.units0
  have hu1 := hr.units1
  ((qss_cons (qs_set (i := 2) nd (q_add (q_mul q_int (q_var 1)) q_int))
  (qss_cons (qs_if (qt_lt hu0 (q_var 1) (q_callB call_len cq_len (by rfl) Z.z_len PySem.boot_len (qa_cons (q_var 0) qa_nil)))
  (qss_one (qs_set (i := 2) nd (q_callB call_abs cq_abs (by rfl) Z.z_abs (by decide +kernel) (qa_cons (q_callTy call_int1 cq_int (by rfl) Z.z_int (by decide +kernel) (qa_cons (q_idx (q_var 0) (q_var 1)) qa_nil)) qa_nil))))
  (qss_one (qs_if (qt_gtA hu0 (q_callB call_len cq_len (by rfl) Z.z_len PySem.boot_len (qa_cons (q_var 0) qa_nil)) q_int)
  (qss_one (qs_set (i := 2) nd (q_add (q_var 2) (q_mul (q_mod (q_callTy call_int1 cq_int (by rfl) Z.z_int (by decide +kernel) (qa_cons (q_callB call_abs cq_abs (by rfl) Z.z_abs (by decide +kernel) (qa_cons (q_callTy call_int1 cq_int (by rfl) Z.z_int (by decide +kernel) (qa_cons (q_idx (q_var 0) (q_mod (q_callTy call_int1 cq_int (by rfl) Z.z_int (by decide +kernel) (qa_cons (q_var 1) qa_nil)) (q_callB call_len cq_len (by rfl) Z.z_len PySem.boot_len (qa_cons (q_var 0) qa_nil)))) qa_nil)) qa_nil)) qa_nil)) q_int) q_int))))
  qss_nil)))
  (qss_cons (qs_set (i := 3) nd (qe_if (qt_ge (q_var 2) (q_pow q_int q_int)) (q_var 2) q_int))
  (qss_one (qs_ret (q_new (ql_lst (qa_cons (q_var 3) (qa_cons (q_add (q_mod (q_callTy call_int1 cq_int (by rfl) Z.z_int (by decide +kernel) (qa_cons (q_add (q_mul (q_mod (q_callTy call_int1 cq_int (by rfl) Z.z_int (by decide +kernel) (qa_cons (q_var 2) qa_nil)) q_int) q_int) (q_mul q_int (q_var 1))) qa_nil)) q_int) q_int) qa_nil))))))))))
theorem f__law_box (Z : ZT K mg) (XF : XFS P K mg C_BadNumber C_BadRow C_Refused I_BadNumber I_BadRow I_Refused) (C : C__law_box P w K mg base T) {f : Addr} {fd : FuncData} (hm : mg "_law_box" = some (.ref f)) (F : Fun K "_law_box" "_law_box" s__law_box f fd) : Fn P w K mg base T 1 "_law_box" s__law_box 2 sp__law_box :=
  fn_mk (ps := ["script", "k"]) hm F (F.binds fun _ _ _ _ _ _ us hl => match us, hl with | [_, _], _ => rfl) rfl rfl (o__law_box Z XF C F)

structure C__law_take (P : Program) (w : World) (K : PySem.W.Frag) (mg : Str → Option Value) (base : Heap) (T : List (Addr × Str))  : Prop where
  ok : True
theorem o__law_take (Z : ZT K mg) (XF : XFS P K mg C_BadNumber C_BadRow C_Refused I_BadNumber I_BadRow I_Refused) (C : C__law_take P w K mg base T) {f : Addr} {fd : FuncData} (F : Fun K "_law_take" "_law_take" s__law_take f fd) : FnOk P w K mg base (L2N.CX P w) 1 f fd ["box", "many"] (spOf K T 2 sp__law_take) := by
  unfold sp__law_take
  exact
  fnok_mk (N := ["box", "many", "digit", "raw"]) (ps := ["box", "many"]) F rfl rfl sc__law_take fun cdv A outer s H E hr tk hp hu nd =>
  have hu0 := hr.units0
  have hu1 := hr.units1
  ((qss_cons (qs_if (qt_gtA hu0 (q_idx (q_var 0) q_int) q_int)
  (qss_cons (qs_set (i := 2) nd (q_mod (q_callTy call_int1 cq_int (by rfl) Z.z_int (by decide +kernel) (qa_cons (q_idx (q_var 0) q_int) qa_nil)) (q_var 1)))
  (qss_cons (qs_asg (q_div (q_idx (q_var 0) q_int) (q_var 1)) (qg_idx (q_var 0) q_int))
  (qss_one (qs_ret (q_var 2)))))
  qss_nil)
  (qss_cons (qs_set (i := 3) nd (q_mod (q_callTy call_int1 cq_int (by rfl) Z.z_int (by decide +kernel) (qa_cons (q_add (q_mul (q_idx (q_var 0) q_int) q_int) q_int) qa_nil)) q_int))
  (qss_cons (qs_asg (q_add (q_mod (q_callTy call_int1 cq_int (by rfl) Z.z_int (by decide +kernel) (qa_cons (q_add (q_mul (q_var 3) q_int) q_int) qa_nil)) q_int) q_int) (qg_idx (q_var 0) q_int))
  (qss_one (qs_ret (q_mod (q_callTy call_int1 cq_int (by rfl) Z.z_int (by decide +kernel) (qa_cons (q_div (q_add (q_mul (q_var 3) q_int) (q_idx (q_var 0) q_int)) q_int) qa_nil)) (q_var 1))))))))
theorem f__law_take (Z : ZT K mg) (XF : XFS P K mg C_BadNumber C_BadRow C_Refused I_BadNumber I_BadRow I_Refused) (C : C__law_take P w K mg base T) {f : Addr} {fd : FuncData} (hm : mg "_law_take" = some (.ref f)) (F : Fun K "_law_take" "_law_take" s__law_take f fd) : Fn P w K mg base T 1 "_law_take" s__law_take 2 sp__law_take :=
  fn_mk (ps := ["box", "many"]) hm F (F.binds fun _ _ _ _ _ _ us hl => match us, hl with | [_, _], _ => rfl) rfl rfl (o__law_take Z XF C F)

structure C__law_pick (P : Program) (w : World) (K : PySem.W.Frag) (mg : Str → Option Value) (base : Heap) (T : List (Addr × Str))  : Prop where
  c__law_take : Fn P w K mg base T 1 "_law_take" s__law_take 2 sp__law_take
theorem o__law_pick (Z : ZT K mg) (XF : XFS P K mg C_BadNumber C_BadRow C_Refused I_BadNumber I_BadRow I_Refused) (C : C__law_pick P w K mg base T) {f : Addr} {fd : FuncData} (F : Fun K "_law_pick" "_law_pick" s__law_pick f fd) : FnOk P w K mg base (L2N.CX P w) 2 f fd ["box", "some"] (spOf K T 2 sp__law_pick) := by
  unfold sp__law_pick
  exact
  fnok_mk (N := ["box", "some"]) (ps := ["box", "some"]) F rfl rfl sc__law_pick fun cdv A outer s H E hr tk hp hu nd =>
  have hu0 := hr.units0
  have hu1 := hr.units1
  ((qss_one (qs_ret (q_idx (q_var 1) (q_call C.c__law_take hr tk (by rfl) (qa_cons (q_var 0) (qa_cons (q_callB call_len cq_len (by rfl) Z.z_len PySem.boot_len (qa_cons (q_var 1) qa_nil)) qa_nil)))))))
theorem f__law_pick (Z : ZT K mg) (XF : XFS P K mg C_BadNumber C_BadRow C_Refused I_BadNumber I_BadRow I_Refused) (C : C__law_pick P w K mg base T) {f : Addr} {fd : FuncData} (hm : mg "_law_pick" = some (.ref f)) (F : Fun K "_law_pick" "_law_pick" s__law_pick f fd) : Fn P w K mg base T 2 "_law_pick" s__law_pick 2 sp__law_pick :=
  fn_mk (ps := ["box", "some"]) hm F (F.binds fun _ _ _ _ _ _ us hl => match us, hl with | [_, _], _ => rfl) rfl rfl (o__law_pick Z XF C F)

structure C__law_like (P : Program) (w : World) (K : PySem.W.Frag) (mg : Str → Option Value) (base : Heap) (T : List (Addr × Str))  : Prop where
  ok : True
theorem o__law_like (Z : ZT K mg) (XF : XFS P K mg C_BadNumber C_BadRow C_Refused I_BadNumber I_BadRow I_Refused) (C : C__law_like P w K mg base T) {f : Addr} {fd : FuncData} (F : Fun K "_law_like" "_law_like" s__law_like f fd) (k : Nat) (sp : PSp) (hk : 0 ≤ k) (rec : Fn P w K mg base T k "_law_like" s__law_like 2 sp) : FnOk P w K mg base (L2N.CX P w) (k + 1) f fd ["one", "due"] (spOf K T 2 (spDef 4 (r__law_like sp))) :=
  fnok_mk (N := ["one", "due", "here", "there"]) (ps := ["one", "due"]) F rfl rfl sc__law_like fun cdv A outer s H E hr tk hp hu nd =>
  have hu0 := hr.units0
  have hu1 := hr.units1
  ((qss_cons (qs_if (qt_isN (q_var 1))
  (qss_one (qs_ret (q_isN (q_var 0))))
  qss_nil)
  (qss_cons (qs_if (qt_w (qw_or (qt_isB (q_var 1)) (qw_or1 (qt_isB (q_var 1)))))
  (qss_one (qs_ret (qe_and (q_isi (Ty := "bool") (by rfl) Z.z_isinstance (by rfl) Z.z_bool (by decide +kernel) (by decide) (q_var 0)) (qe_one (q_eq hu (q_var 0) (q_var 1))))))
  qss_nil)
  (qss_cons (qs_if (qt_tru (q_isi (Ty := "int") (by rfl) Z.z_isinstance (by rfl) Z.z_int (by decide +kernel) (by decide) (q_var 1)))
  (qss_one (qs_ret (qe_and (q_isi (Ty := "int") (by rfl) Z.z_isinstance (by rfl) Z.z_int (by decide +kernel) (by decide) (q_var 0)) (qe_and (qe_not (q_isi (Ty := "bool") (by rfl) Z.z_isinstance (by rfl) Z.z_bool (by decide +kernel) (by decide) (q_var 0))) (qe_one (q_eq hu (q_var 0) (q_var 1)))))))
  qss_nil)
  (qss_cons (qs_if (qt_tru (q_isi (Ty := "str") (by rfl) Z.z_isinstance (by rfl) Z.z_str (by decide +kernel) (by decide) (q_var 1)))
  (qss_one (qs_ret (qe_and (q_isi (Ty := "str") (by rfl) Z.z_isinstance (by rfl) Z.z_str (by decide +kernel) (by decide) (q_var 0)) (qe_one (q_eq hu (q_var 0) (q_var 1))))))
  qss_nil)
  (qss_cons (qs_if (qt_w (qw_or (qt_ne hu (q_isi (Ty := "tuple") (by rfl) Z.z_isinstance (by rfl) Z.z_tuple (by decide +kernel) (by decide) (q_var 0)) (q_isi (Ty := "tuple") (by rfl) Z.z_isinstance (by rfl) Z.z_tuple (by decide +kernel) (by decide) (q_var 1))) (qw_or1 (qt_ne hu (q_isi (Ty := "list") (by rfl) Z.z_isinstance (by rfl) Z.z_list (by decide +kernel) (by decide) (q_var 0)) (q_isi (Ty := "list") (by rfl) Z.z_isinstance (by rfl) Z.z_list (by decide +kernel) (by decide) (q_var 1))))))
  (qss_one (qs_ret q_bl))
  qss_nil)
  (qss_cons (qs_if (qt_w (qw_or (qt_not (qt_tru (q_isiT (ts := ["tuple", "list"]) (by rfl) Z.z_isinstance (by decide) (Nat.le_of_ble_eq_true rfl) (q_var 0) (pat_cons (pe_bltn (v := .ty "tuple") (by rfl) Z.z_tuple (by decide +kernel) rfl) (pat_cons (pe_bltn (v := .ty "list") (by rfl) Z.z_list (by decide +kernel) rfl) pat_nil))))) (qw_or1 (qt_ne hu (q_callB call_len cq_len (by rfl) Z.z_len PySem.boot_len (qa_cons (q_var 0) qa_nil)) (q_callB call_len cq_len (by rfl) Z.z_len PySem.boot_len (qa_cons (q_var 1) qa_nil))))))
  (qss_one (qs_ret q_bl))
  qss_nil)
  (qss_one (qs_ret (q_eqL hu (qh_l (ql_lc (g := (tg2 2 3)) rfl nd (qi_zip (by rfl) Z.z_zip (qh_e (q_var 0)) (qh_e (q_var 1))) (blkOk_by (own := [("here", 2), ("there", 3)]) (by show blkC ["one", "due", "here", "there"] (defScope s__law_like) _ _ = true; decide +kernel)) rfl tg2_ok (fun _ _ _ _ _ => pg_tup rfl (pgs_cons (pg_name (i := 2) nd rfl (Or.inl rfl)) (pgs_cons (pg_name (i := 3) nd rfl (Or.inl rfl)) pgs_nil))) (fun _ _ _ _ _ => (qts_one (qt_not (qt_tru (q_call rec hr tk0 (by rfl) (qa_cons (q_var 2) (qa_cons (q_var 3) qa_nil))))))) (fun _ _ _ _ _ => q_int))) (qh_l (ql_lst qa_nil))))))))))))
theorem f__law_like (Z : ZT K mg) (XF : XFS P K mg C_BadNumber C_BadRow C_Refused I_BadNumber I_BadRow I_Refused) (C : C__law_like P w K mg base T) {f : Addr} {fd : FuncData} (hm : mg "_law_like" = some (.ref f)) (F : Fun K "_law_like" "_law_like" s__law_like f fd) : Fn P w K mg base T 8 "_law_like" s__law_like 2 sp__law_like := by
  unfold sp__law_like
  exact fn_rec (L0 := 0) (ps := ["one", "due"]) hm F (F.binds fun _ _ _ _ _ _ us hl => match us, hl with | [_, _], _ => rfl) rfl rfl (o__law_like Z XF C F) 8

structure C__law_like_h (P : Program) (w : World) (K : PySem.W.Frag) (mg : Str → Option Value) (base : Heap) (T : List (Addr × Str))  : Prop where
  ok : True
theorem f__law_like_h (Z : ZT K mg) (XF : XFS P K mg C_BadNumber C_BadRow C_Refused I_BadNumber I_BadRow I_Refused) (C : C__law_like_h P w K mg base T) {f : Addr} {fd : FuncData} (hm : mg "_law_like" = some (.ref f)) (F : Fun K "_law_like" "_law_like" s__law_like_h f fd) : FnHt P w K mg base T 1 "_law_like" s__law_like_h 2 sp__law_like_h := by
  unfold sp__law_like_h
  exact fnht_mk (N := ["one", "due", "here", "there"]) (ps := ["one", "due"]) hm F (F.binds fun _ _ _ _ _ _ us hl => match us, hl with | [_, _], _ => rfl) rfl rfl sc__law_like_h fun cdv A outer s H E p hr hc0 tk hu1 nd =>
  have hu0 := Nat.lt_of_le_of_lt (Nat.le_add_right _ 65) hu1
  have hu := Nat.lt_of_succ_lt hu1
  ((qss_cons (qs_if (qt_isN (q_var 1))
  (qss_one (qs_ret (q_isN (q_var 0))))
  qss_nil)
  (qss_cons (qs_if (qt_w (qw_or (qt_isB (q_var 1)) (qw_or1 (qt_isB (q_var 1)))))
  (qss_one (qs_ret (qe_and (q_isi (Ty := "bool") (by rfl) Z.z_isinstance (by rfl) Z.z_bool (by decide +kernel) (by decide) (q_var 0)) (qe_one (q_eq hu (q_var 0) (q_var 1))))))
  qss_nil)
  (qss_cons (qs_if (qt_tru (q_isi (Ty := "int") (by rfl) Z.z_isinstance (by rfl) Z.z_int (by decide +kernel) (by decide) (q_var 1)))
  (qss_one (qs_ret (qe_and (q_isi (Ty := "int") (by rfl) Z.z_isinstance (by rfl) Z.z_int (by decide +kernel) (by decide) (q_var 0)) (qe_and (qe_not (q_isi (Ty := "bool") (by rfl) Z.z_isinstance (by rfl) Z.z_bool (by decide +kernel) (by decide) (q_var 0))) (qe_one (q_eq hu (q_var 0) (q_var 1)))))))
  qss_nil)
  (qss_cons (qs_if (qt_tru (q_isi (Ty := "str") (by rfl) Z.z_isinstance (by rfl) Z.z_str (by decide +kernel) (by decide) (q_var 1)))
  (qss_one (qs_ret (qe_and (q_isi (Ty := "str") (by rfl) Z.z_isinstance (by rfl) Z.z_str (by decide +kernel) (by decide) (q_var 0)) (qe_one (q_eq hu (q_var 0) (q_var 1))))))
  qss_nil)
  (qss_cons (qs_if (qt_w (qw_or (qt_ne hu (q_isi (Ty := "tuple") (by rfl) Z.z_isinstance (by rfl) Z.z_tuple (by decide +kernel) (by decide) (q_var 0)) (q_isi (Ty := "tuple") (by rfl) Z.z_isinstance (by rfl) Z.z_tuple (by decide +kernel) (by decide) (q_var 1))) (qw_or1 (qt_ne hu (q_isi (Ty := "list") (by rfl) Z.z_isinstance (by rfl) Z.z_list (by decide +kernel) (by decide) (q_var 0)) (q_isi (Ty := "list") (by rfl) Z.z_isinstance (by rfl) Z.z_list (by decide +kernel) (by decide) (q_var 1))))))
  (qss_one (qs_ret q_bl))
  qss_nil)
  (qss_cons (qs_if (qt_w (qw_or (qt_not (qt_tru (q_isiT (ts := ["tuple", "list"]) (by rfl) Z.z_isinstance (by decide) (Nat.le_of_ble_eq_true rfl) (q_var 0) (pat_cons (pe_bltn (v := .ty "tuple") (by rfl) Z.z_tuple (by decide +kernel) rfl) (pat_cons (pe_bltn (v := .ty "list") (by rfl) Z.z_list (by decide +kernel) rfl) pat_nil))))) (qw_or1 (qt_ne hu (q_callB call_len cq_len (by rfl) Z.z_len PySem.boot_len (qa_cons (q_var 0) qa_nil)) (q_callB call_len cq_len (by rfl) Z.z_len PySem.boot_len (qa_cons (q_var 1) qa_nil))))))
  (qss_one (qs_ret q_bl))
  qss_nil)
  (qss_one qs_no))))))))

structure C__law_number (P : Program) (w : World) (K : PySem.W.Frag) (mg : Str → Option Value) (base : Heap) (T : List (Addr × Str))  : Prop where
  c__law_take : Fn P w K mg base T 2 "_law_take" s__law_take 2 sp__law_take
  c__law_pick : Fn P w K mg base T 2 "_law_pick" s__law_pick 2 sp__law_pick
theorem o__law_number (Z : ZT K mg) (XF : XFS P K mg C_BadNumber C_BadRow C_Refused I_BadNumber I_BadRow I_Refused) (C : C__law_number P w K mg base T) {f : Addr} {fd : FuncData} (F : Fun K "_law_number" "_law_number" s__law_number f fd) : FnOk P w K mg base (L2N.CX P w) 3 f fd ["box", "few"] (spOf K T 2 sp__law_number) := by
  unfold sp__law_number
  exact
  fnok_mk (N := ["box", "few", "kind", "entries", "turn"]) (ps := ["box", "few"]) F rfl rfl sc__law_number fun cdv A outer s H E hr tk hp hu nd =>
  have hu0 := hr.units0
  have hu1 := hr.units1
  ((qss_cons (qs_set (i := 2) nd (q_call C.c__law_take hr tk (by rfl) (qa_cons (q_var 0) (qa_cons q_int qa_nil))))
  (qss_cons (qs_if (qt_eq hu (q_var 2) q_int)
  (qss_one (qs_ret q_non))
  qss_nil)
  (qss_cons (qs_if (qt_lt hu0 (q_var 2) q_int)
  (qss_one (qs_ret (q_tup (qa_cons (q_call C.c__law_take hr tk (by rfl) (qa_cons (q_var 0) (qa_cons (q_var 1) qa_nil))) (qa_cons (q_call C.c__law_take hr tk (by rfl) (qa_cons (q_var 0) (qa_cons q_int qa_nil))) qa_nil)))))
  qss_nil)
  (qss_cons (qs_set (i := 3) nd (q_new (ql_lst (qa_cons (q_call C.c__law_pick hr tk (by rfl) (qa_cons (q_var 0) (qa_cons (q_new (ql_lst (qa_cons q_int (qa_cons (q_pow q_int q_int) (qa_cons (q_call C.c__law_take hr tk (by rfl) (qa_cons (q_var 0) (qa_cons (q_pow q_int q_int) qa_nil))) qa_nil))))) qa_nil))) qa_nil))))
  (qss_cons (qs_for hp rfl (qi_r1 (by rfl) Z.z_range (qa_cons (q_call C.c__law_take hr tk (by rfl) (qa_cons (q_var 0) (qa_cons q_int qa_nil))) qa_nil)) (qg_name (i := 4) nd)
  (qss_one (qs_expr (q_append (q_var 3) (qa_cons (q_call C.c__law_pick hr tk (by rfl) (qa_cons (q_var 0) (qa_cons (q_new (ql_lst (qa_cons q_int (qa_cons (q_neg q_int) (qa_cons (q_neg (q_pow q_int q_int)) (qa_cons (q_pow q_int q_int) (qa_cons (q_sub (q_call C.c__law_take hr tk (by rfl) (qa_cons (q_var 0) (qa_cons (q_pow q_int q_int) qa_nil))) (q_call C.c__law_take hr tk (by rfl) (qa_cons (q_var 0) (qa_cons (q_pow q_int q_int) qa_nil)))) qa_nil))))))) qa_nil))) qa_nil)))))
  (qss_one (qs_ret (q_tupL (by rfl) Z.z_tuple (ql_cat (qv_e (q_var 3)) (qv_l (ql_lst (qa_cons (q_call C.c__law_take hr tk (by rfl) (qa_cons (q_var 0) (qa_cons q_int qa_nil))) qa_nil)))))))))))))
theorem f__law_number (Z : ZT K mg) (XF : XFS P K mg C_BadNumber C_BadRow C_Refused I_BadNumber I_BadRow I_Refused) (C : C__law_number P w K mg base T) {f : Addr} {fd : FuncData} (hm : mg "_law_number" = some (.ref f)) (F : Fun K "_law_number" "_law_number" s__law_number f fd) : Fn P w K mg base T 3 "_law_number" s__law_number 2 sp__law_number :=
  fn_mk (ps := ["box", "few"]) hm F (F.binds fun _ _ _ _ _ _ us hl => match us, hl with | [_, _], _ => rfl) rfl rfl (o__law_number Z XF C F)

structure C__law_above (P : Program) (w : World) (K : PySem.W.Frag) (mg : Str → Option Value) (base : Heap) (T : List (Addr × Str))  : Prop where
  ok : True
theorem o__law_above (Z : ZT K mg) (XF : XFS P K mg C_BadNumber C_BadRow C_Refused I_BadNumber I_BadRow I_Refused) (C : C__law_above P w K mg base T) {f : Addr} {fd : FuncData} (F : Fun K "_law_above" "_law_above" s__law_above f fd) : FnOk P w K mg base (L2N.CX P w) 1 f fd ["one", "other"] (spOf K T 2 sp__law_above) := by
  unfold sp__law_above
  exact
  fnok_mk (N := ["one", "other"]) (ps := ["one", "other"]) F rfl rfl sc__law_above fun cdv A outer s H E hr tk hp hu nd =>
  have hu0 := hr.units0
  have hu1 := hr.units1
  ((qss_cons (qs_if (qt_isN (q_var 1))
  (qss_one (qs_ret q_bl))
  qss_nil)
  (qss_one (qs_ret (qe_or (q_isN (q_var 0)) (qe_one (q_gtA hu0 (q_var 0) (q_var 1))))))))
theorem f__law_above (Z : ZT K mg) (XF : XFS P K mg C_BadNumber C_BadRow C_Refused I_BadNumber I_BadRow I_Refused) (C : C__law_above P w K mg base T) {f : Addr} {fd : FuncData} (hm : mg "_law_above" = some (.ref f)) (F : Fun K "_law_above" "_law_above" s__law_above f fd) : Fn P w K mg base T 1 "_law_above" s__law_above 2 sp__law_above :=
  fn_mk (ps := ["one", "other"]) hm F (F.binds fun _ _ _ _ _ _ us hl => match us, hl with | [_, _], _ => rfl) rfl rfl (o__law_above Z XF C F)

structure C__law_state (P : Program) (w : World) (K : PySem.W.Frag) (mg : Str → Option Value) (base : Heap) (T : List (Addr × Str))  : Prop where
  c__law_above : Fn P w K mg base T 1 "_law_above" s__law_above 2 sp__law_above
theorem o__law_state (Z : ZT K mg) (XF : XFS P K mg C_BadNumber C_BadRow C_Refused I_BadNumber I_BadRow I_Refused) (C : C__law_state P w K mg base T) {f : Addr} {fd : FuncData} (F : Fun K "_law_state" "_law_state" s__law_state f fd) : FnOk P w K mg base (L2N.CX P w) 2 f fd ["reports", "first", "last"] (spOf K T 3 sp__law_state) := by
  unfold sp__law_state
  exact
  fnok_mk (N := ["reports", "first", "last", "falls", "at", "serial", "number", "later"]) (ps := ["reports", "first", "last"]) F rfl rfl sc__law_state fun cdv A outer s H E hr tk hp hu nd =>
  have hu0 := hr.units0
  have hu1 := hr.units1
  ((qss_cons (qs_set (i := 3) nd (q_new (ql_lst qa_nil)))
  (qss_cons (qs_for hp rfl (qi_enum (by rfl) Z.z_enumerate (q_var 0)) (qg_tup rfl (qgs_cons (qg_name (i := 4) nd) (qgs_cons (qg_tup rfl (qgs_cons (qg_name (i := 5) nd) (qgs_cons (qg_name (i := 6) nd) qgs_nil))) qgs_nil)))
  (qss_one (qs_if (qt_w (qw_and (qt_ge (q_var 5) (q_var 1)) (qw_and1 (qt_eqL hu (qh_l (ql_lc (g := (tg1 7)) rfl nd (qi_v (q_slice (q_var 0) (qo_some (q_add (q_var 4) q_int)) qo_none)) (blkOk_by (own := [("later", 7)]) (by show blkC ["reports", "first", "last", "falls", "at", "serial", "number", "later"] (defScope s__law_state) _ _ = true; decide +kernel)) rfl tg1_ok (fun _ _ _ _ _ => pg_name (i := 7) nd rfl (Or.inl rfl)) (fun _ _ _ _ _ => (qts_one (qt_not (qt_tru (q_call C.c__law_above hr tk0 (by rfl) (qa_cons (q_idx (q_var 7) q_int) (qa_cons (q_var 6) qa_nil))))))) (fun _ _ _ _ _ => q_int))) (qh_l (ql_lst qa_nil))))))
  (qss_one (qs_expr (q_append (q_var 3) (qa_cons (q_tup (qa_cons (q_var 5) (qa_cons (q_var 6) qa_nil))) qa_nil))))
  qss_nil)))
  (qss_one (qs_ret (q_tup (qa_cons (q_var 1) (qa_cons (q_var 2) (qa_cons (q_callTy call_tuple_of cq_tup (by rfl) Z.z_tuple (by decide +kernel) (qa_cons (q_var 3) qa_nil)) qa_nil)))))))))
theorem f__law_state (Z : ZT K mg) (XF : XFS P K mg C_BadNumber C_BadRow C_Refused I_BadNumber I_BadRow I_Refused) (C : C__law_state P w K mg base T) {f : Addr} {fd : FuncData} (hm : mg "_law_state" = some (.ref f)) (F : Fun K "_law_state" "_law_state" s__law_state f fd) : Fn P w K mg base T 2 "_law_state" s__law_state 3 sp__law_state :=
  fn_mk (ps := ["reports", "first", "last"]) hm F (F.binds fun _ _ _ _ _ _ us hl => match us, hl with | [_, _, _], _ => rfl) rfl rfl (o__law_state Z XF C F)

structure C__law_least (P : Program) (w : World) (K : PySem.W.Frag) (mg : Str → Option Value) (base : Heap) (T : List (Addr × Str))  : Prop where
  ok : True
theorem o__law_least (Z : ZT K mg) (XF : XFS P K mg C_BadNumber C_BadRow C_Refused I_BadNumber I_BadRow I_Refused) (C : C__law_least P w K mg base T) {f : Addr} {fd : FuncData} (F : Fun K "_law_least" "_law_least" s__law_least f fd) : FnOk P w K mg base (L2N.CX P w) 1 f fd ["reports", "k"] (spOf K T 2 sp__law_least) := by
  unfold sp__law_least
  exact
  fnok_mk (N := ["reports", "k", "found", "serial", "number"]) (ps := ["reports", "k"]) F rfl rfl sc__law_least fun cdv A outer s H E hr tk hp hu nd =>
  have hu0 := hr.units0
  have hu1 := hr.units1
  ((qss_cons (qs_set (i := 2) nd q_non)
  (qss_cons (qs_for hp rfl (qi_v (q_var 0)) (qg_tup rfl (qgs_cons (qg_name (i := 3) nd) (qgs_cons (qg_name (i := 4) nd) qgs_nil)))
  (qss_one (qs_if (qt_w (qw_and (qt_ge (q_var 3) (q_var 1)) (qw_and (qt_notN (q_var 4)) (qw_and1 (qt_w (qw_or (qt_isN (q_var 2)) (qw_or1 (qt_lt hu0 (q_var 4) (q_var 2)))))))))
  (qss_one (qs_set (i := 2) nd (q_var 4)))
  qss_nil)))
  (qss_one (qs_ret (q_var 2))))))
theorem f__law_least (Z : ZT K mg) (XF : XFS P K mg C_BadNumber C_BadRow C_Refused I_BadNumber I_BadRow I_Refused) (C : C__law_least P w K mg base T) {f : Addr} {fd : FuncData} (hm : mg "_law_least" = some (.ref f)) (F : Fun K "_law_least" "_law_least" s__law_least f fd) : Fn P w K mg base T 1 "_law_least" s__law_least 2 sp__law_least :=
  fn_mk (ps := ["reports", "k"]) hm F (F.binds fun _ _ _ _ _ _ us hl => match us, hl with | [_, _], _ => rfl) rfl rfl (o__law_least Z XF C F)

structure C__law_deed (P : Program) (w : World) (K : PySem.W.Frag) (mg : Str → Option Value) (base : Heap) (T : List (Addr × Str))  : Prop where
  c__law_take : Fn P w K mg base T 3 "_law_take" s__law_take 2 sp__law_take
  c__law_pick : Fn P w K mg base T 3 "_law_pick" s__law_pick 2 sp__law_pick
  c__law_number : Fn P w K mg base T 3 "_law_number" s__law_number 2 sp__law_number
theorem o__law_deed (Z : ZT K mg) (XF : XFS P K mg C_BadNumber C_BadRow C_Refused I_BadNumber I_BadRow I_Refused) (C : C__law_deed P w K mg base T) {f : Addr} {fd : FuncData} (F : Fun K "_law_deed" "_law_deed" s__law_deed f fd) : FnOk P w K mg base (L2N.CX P w) 4 f fd ["box", "first", "last", "few"] (spOf K T 4 sp__law_deed) := by
  unfold sp__law_deed
  exact
  fnok_mk (N := ["box", "first", "last", "few"]) (ps := ["box", "first", "last", "few"]) F rfl rfl sc__law_deed fun cdv A outer s H E hr tk hp hu nd =>
  have hu0 := hr.units0
  have hu1 := hr.units1
  ((qss_cons (qs_if (qt_eq hu (q_call C.c__law_take hr tk (by rfl) (qa_cons (q_var 0) (qa_cons q_int qa_nil))) q_int)
  (qss_one (qs_ret (q_tup (qa_cons (q_str (by decide +kernel)) (qa_cons (q_add (q_var 1) (q_call C.c__law_take hr tk (by rfl) (qa_cons (q_var 0) (qa_cons (q_add (q_sub (q_var 2) (q_var 1)) q_int) qa_nil)))) (qa_cons q_non qa_nil))))))
  qss_nil)
  (qss_one (qs_ret (q_tup (qa_cons (q_str (by decide +kernel)) (qa_cons (q_callB (call_min2 rfl) cq_min2 (by rfl) Z.z_min (by decide +kernel) (qa_cons (q_sub (q_pow q_int q_int) q_int) (qa_cons (q_add (q_var 2) (q_call C.c__law_pick hr tk (by rfl) (qa_cons (q_var 0) (qa_cons (q_new (ql_lst (qa_cons q_int (qa_cons q_int (qa_cons q_int (qa_cons q_int (qa_cons q_int (qa_cons q_int (qa_cons q_int (qa_cons (q_call C.c__law_take hr tk (by rfl) (qa_cons (q_var 0) (qa_cons (q_pow q_int q_int) qa_nil))) qa_nil)))))))))) qa_nil)))) qa_nil))) (qa_cons (q_call C.c__law_number hr tk (by rfl) (qa_cons (q_var 0) (qa_cons (q_var 3) qa_nil))) qa_nil))))))))
theorem f__law_deed (Z : ZT K mg) (XF : XFS P K mg C_BadNumber C_BadRow C_Refused I_BadNumber I_BadRow I_Refused) (C : C__law_deed P w K mg base T) {f : Addr} {fd : FuncData} (hm : mg "_law_deed" = some (.ref f)) (F : Fun K "_law_deed" "_law_deed" s__law_deed f fd) : Fn P w K mg base T 4 "_law_deed" s__law_deed 4 sp__law_deed :=
  fn_mk (ps := ["box", "first", "last", "few"]) hm F (F.binds fun _ _ _ _ _ _ us hl => match us, hl with | [_, _, _, _], _ => rfl) rfl rfl (o__law_deed Z XF C F)

structure C_Row_told (P : Program) (w : World) (K : PySem.W.Frag) (mg : Str → Option Value) (base : Heap) (T : List (Addr × Str))  : Prop where
  c_is_below : Fn P w K mg base T 1 "is_below" s_is_below 2 sp_is_below
theorem o_Row_told (Z : ZT K mg) (XF : XFS P K mg C_BadNumber C_BadRow C_Refused I_BadNumber I_BadRow I_Refused) (C : C_Row_told P w K mg base T) {f : Addr} {fd : FuncData} (F : Fun K "told" "Row.told" s_Row_told f fd) : FnOk P w K mg base (L2N.CX P w) 2 f fd ["self", "serial", "number"] (spOf K T 3 sp_Row_told) := by
  unfold sp_Row_told
  exact
  fnok_mk (N := ["self", "serial", "number"]) (ps := ["self", "serial", "number"]) F rfl rfl sc_Row_told fun cdv A outer s H E hr tk hp hu nd =>
  have hu0 := hr.units0
  have hu1 := hr.units1
  ((qss_cons (qs_if (qt_le (q_var 1) (q_fld Z.z_cls (q_var 0)))
  (qss_one (qs_raise rfl XF.t_Refused XF.n_Refused (.inr rfl) XF.g_Refused XF.z_super XF.z_top hr tk (q_var 1)))
  qss_nil)
  (qss_cons (qs_while hp (qt_w (qw_and (qt_gtA hu0 (q_callB call_len cq_len (by rfl) Z.z_len PySem.boot_len (qa_cons (q_fld Z.z_cls (q_var 0)) qa_nil)) q_int) (qw_and1 (qt_not (qt_tru (q_call C.c_is_below hr tk (by rfl) (qa_cons (q_idx (q_idx (q_fld Z.z_cls (q_var 0)) (q_neg q_int)) q_int) (qa_cons (q_var 2) qa_nil))))))))
  (qss_one (qs_expr (q_pop (q_fld Z.z_cls (q_var 0))))))
  (qss_cons (qs_expr (q_append (q_fld Z.z_cls (q_var 0)) (qa_cons (q_tup (qa_cons (q_var 1) (qa_cons (q_var 2) qa_nil))) qa_nil)))
  (qss_one (qs_fld Z.z_cls (q_var 0) (q_var 1)))))))
theorem f_Row_told (Z : ZT K mg) (XF : XFS P K mg C_BadNumber C_BadRow C_Refused I_BadNumber I_BadRow I_Refused) (C : C_Row_told P w K mg base T) {c f : Addr} {fd : FuncData} (hm : mg (cls 0) = some (.ref c)) (hn : PySem.W.nsIn K mainGlobals (cls 0) = some (some (.ref c))) (cc : Cls K c) (M : Meth K c "told" f) (F : Fun K "told" "Row.told" s_Row_told f fd) : Mt P w K mg base T 2 0 "told" s_Row_told 3 sp_Row_told :=
  ⟨c, f, fd, ["self", "serial", "number"], hm, hn, cc, M, ⟨_, F⟩, (F.binds fun _ _ _ _ _ _ us hl => match us, hl with | [_, _, _], _ => rfl), rfl, rfl, o_Row_told Z XF C F⟩

structure C_Row_steps_from (P : Program) (w : World) (K : PySem.W.Frag) (mg : Str → Option Value) (base : Heap) (T : List (Addr × Str))  : Prop where
  ok : True
theorem o_Row_steps_from (Z : ZT K mg) (XF : XFS P K mg C_BadNumber C_BadRow C_Refused I_BadNumber I_BadRow I_Refused) (C : C_Row_steps_from P w K mg base T) {f : Addr} {fd : FuncData} (F : Fun K "steps_from" "Row.steps_from" s_Row_steps_from f fd) : FnOk P w K mg base (L2N.CX P w) 1 f fd ["self", "k"] (spOf K T 2 sp_Row_steps_from) := by
  unfold sp_Row_steps_from
  exact
  fnok_mk (N := ["self", "k", "step"]) (ps := ["self", "k"]) F rfl rfl sc_Row_steps_from fun cdv A outer s H E hr tk hp hu nd =>
  have hu0 := hr.units0
  have hu1 := hr.units1
  ((qss_one (qs_ret (q_new (ql_lc (g := (tg1 2)) rfl nd (qi_v (q_fld Z.z_cls (q_var 0))) (blkOk_by (own := [("step", 2)]) (by show blkC ["self", "k", "step"] (defScope s_Row_steps_from) _ _ = true; decide +kernel)) rfl tg1_ok (fun _ _ _ _ _ => pg_name (i := 2) nd rfl (Or.inl rfl)) (fun _ _ _ _ _ => (qts_one (qt_ge (q_idx (q_var 2) q_int) (q_var 1)))) (fun _ _ _ _ _ => (q_var 2)))))))
theorem f_Row_steps_from (Z : ZT K mg) (XF : XFS P K mg C_BadNumber C_BadRow C_Refused I_BadNumber I_BadRow I_Refused) (C : C_Row_steps_from P w K mg base T) {c f : Addr} {fd : FuncData} (hm : mg (cls 0) = some (.ref c)) (hn : PySem.W.nsIn K mainGlobals (cls 0) = some (some (.ref c))) (cc : Cls K c) (M : Meth K c "steps_from" f) (F : Fun K "steps_from" "Row.steps_from" s_Row_steps_from f fd) : Mt P w K mg base T 1 0 "steps_from" s_Row_steps_from 2 sp_Row_steps_from :=
  ⟨c, f, fd, ["self", "k"], hm, hn, cc, M, ⟨_, F⟩, (F.binds fun _ _ _ _ _ _ us hl => match us, hl with | [_, _], _ => rfl), rfl, rfl, o_Row_steps_from Z XF C F⟩

structure C_Row_acked (P : Program) (w : World) (K : PySem.W.Frag) (mg : Str → Option Value) (base : Heap) (T : List (Addr × Str))  : Prop where
  m_Row_steps_from : Mt P w K mg base T 1 0 "steps_from" s_Row_steps_from 2 sp_Row_steps_from
theorem o_Row_acked (Z : ZT K mg) (XF : XFS P K mg C_BadNumber C_BadRow C_Refused I_BadNumber I_BadRow I_Refused) (C : C_Row_acked P w K mg base T) {f : Addr} {fd : FuncData} (F : Fun K "acked" "Row.acked" s_Row_acked f fd) : FnOk P w K mg base (L2N.CX P w) 2 f fd ["self", "k"] (spOf K T 2 sp_Row_acked) := by
  unfold sp_Row_acked
  exact
  fnok_mk (N := ["self", "k"]) (ps := ["self", "k"]) F rfl rfl sc_Row_acked fun cdv A outer s H E hr tk hp hu nd =>
  have hu0 := hr.units0
  have hu1 := hr.units1
  ((qss_cons (qs_if (qt_not (qt_chain (or_lt hu0) oq_lt op_le oq_le (q_fld Z.z_cls (q_var 0)) (q_var 1) (q_fld Z.z_cls (q_var 0))))
  (qss_one (qs_raise rfl XF.t_Refused XF.n_Refused (.inr rfl) XF.g_Refused XF.z_super XF.z_top hr tk (q_var 1)))
  qss_nil)
  (qss_cons (qs_fld Z.z_cls (q_var 0) (q_meth C.m_Row_steps_from nf_steps_from hr tk (q_var 0) (qa_cons (q_var 1) qa_nil)))
  (qss_one (qs_fld Z.z_cls (q_var 0) (q_var 1))))))
theorem f_Row_acked (Z : ZT K mg) (XF : XFS P K mg C_BadNumber C_BadRow C_Refused I_BadNumber I_BadRow I_Refused) (C : C_Row_acked P w K mg base T) {c f : Addr} {fd : FuncData} (hm : mg (cls 0) = some (.ref c)) (hn : PySem.W.nsIn K mainGlobals (cls 0) = some (some (.ref c))) (cc : Cls K c) (M : Meth K c "acked" f) (F : Fun K "acked" "Row.acked" s_Row_acked f fd) : Mt P w K mg base T 2 0 "acked" s_Row_acked 2 sp_Row_acked :=
  ⟨c, f, fd, ["self", "k"], hm, hn, cc, M, ⟨_, F⟩, (F.binds fun _ _ _ _ _ _ us hl => match us, hl with | [_, _], _ => rfl), rfl, rfl, o_Row_acked Z XF C F⟩

structure C__law_take_in (P : Program) (w : World) (K : PySem.W.Frag) (mg : Str → Option Value) (base : Heap) (T : List (Addr × Str))  : Prop where
  c__law_like_h : FnHt P w K mg base T 2 "_law_like" s__law_like_h 2 sp__law_like_h
  m_Row_told : Mt P w K mg base T 2 0 "told" s_Row_told 3 sp_Row_told
  m_Row_acked : Mt P w K mg base T 2 0 "acked" s_Row_acked 2 sp_Row_acked
theorem o__law_take_in (Z : ZT K mg) (XF : XFS P K mg C_BadNumber C_BadRow C_Refused I_BadNumber I_BadRow I_Refused) (C : C__law_take_in P w K mg base T) {f : Addr} {fd : FuncData} (F : Fun K "_law_take_in" "_law_take_in" s__law_take_in f fd) : FnOk P w K mg base (L2N.CX P w) 3 f fd ["row", "deed"] (spOf K T 2 sp__law_take_in) := by
  unfold sp__law_take_in
  exact
  fnok_mk (N := ["row", "deed", "word", "value", "number", "wrong"]) (ps := ["row", "deed"]) F rfl rfl sc__law_take_in fun cdv A outer s H E hr tk hp hu nd =>
  have hu0 := hr.units0
  have hu1 := hr.units1
  ((qss_cons (qs_asg (q_var 1) (qg_tup rfl (qgs_cons (qg_name (i := 2) nd) (qgs_cons (qg_name (i := 3) nd) (qgs_cons (qg_name (i := 4) nd) qgs_nil)))))
  (qss_cons (qs_tryAs (i := 5) rfl rfl nd ⟨rfl, by decide, .inl XF.g_Refused⟩ tk XF.x_Refused (fun _ _ _ tk hp =>
  (qss_one (qs_if (qt_eq hu (q_var 2) (q_str (by decide +kernel)))
  (qss_one (qs_expr (q_meth C.m_Row_told nf_told hr tk (q_var 0) (qa_cons (q_var 3) (qa_cons (q_var 4) qa_nil)))))
  (qss_one (qs_expr (q_meth C.m_Row_acked nf_acked hr tk (q_var 0) (qa_cons (q_var 3) qa_nil))))))) (fun a0 oe cls d0 pn hz hv x0 hx hx1 =>
  (qss_cons (qs_if (qt_not (qt_tru (q_callH C.c__law_like_h (roomH_at hr) (hot_of hz hv) tk0 (by rfl) (qa_cons (q_xf hz hv hx (tabL_true hx1 (by decide)) XF.f_Refused_value (q_var 5)) (qa_cons (q_var 3) qa_nil)))))
  (qss_one (qs_ret q_non))
  qss_nil)
  (qss_one (qs_ret q_bl)))))
  (qss_one (qs_ret q_bl)))))
theorem f__law_take_in (Z : ZT K mg) (XF : XFS P K mg C_BadNumber C_BadRow C_Refused I_BadNumber I_BadRow I_Refused) (C : C__law_take_in P w K mg base T) {f : Addr} {fd : FuncData} (hm : mg "_law_take_in" = some (.ref f)) (F : Fun K "_law_take_in" "_law_take_in" s__law_take_in f fd) : Fn P w K mg base T 3 "_law_take_in" s__law_take_in 2 sp__law_take_in :=
  fn_mk (ps := ["row", "deed"]) hm F (F.binds fun _ _ _ _ _ _ us hl => match us, hl with | [_, _], _ => rfl) rfl rfl (o__law_take_in Z XF C F)

structure C__law_due (P : Program) (w : World) (K : PySem.W.Frag) (mg : Str → Option Value) (base : Heap) (T : List (Addr × Str))  : Prop where
  ok : True
theorem o__law_due (Z : ZT K mg) (XF : XFS P K mg C_BadNumber C_BadRow C_Refused I_BadNumber I_BadRow I_Refused) (C : C__law_due P w K mg base T) {f : Addr} {fd : FuncData} (F : Fun K "_law_due" "_law_due" s__law_due f fd) : FnOk P w K mg base (L2N.CX P w) 1 f fd ["deed", "first", "last"] (spOf K T 3 sp__law_due) := by
  unfold sp__law_due
  exact
  fnok_mk (N := ["deed", "first", "last"]) (ps := ["deed", "first", "last"]) F rfl rfl sc__law_due fun cdv A outer s H E hr tk hp hu nd =>
  have hu0 := hr.units0
  have hu1 := hr.units1
  ((qss_one (qs_ret (qe_if (qt_eq hu (q_idx (q_var 0) q_int) (q_str (by decide +kernel))) (q_gtA hu0 (q_idx (q_var 0) q_int) (q_var 2)) (q_chain (or_lt hu0) oq_lt op_le oq_le (q_var 1) (q_idx (q_var 0) q_int) (q_var 2))))))
theorem f__law_due (Z : ZT K mg) (XF : XFS P K mg C_BadNumber C_BadRow C_Refused I_BadNumber I_BadRow I_Refused) (C : C__law_due P w K mg base T) {f : Addr} {fd : FuncData} (hm : mg "_law_due" = some (.ref f)) (F : Fun K "_law_due" "_law_due" s__law_due f fd) : Fn P w K mg base T 1 "_law_due" s__law_due 3 sp__law_due :=
  fn_mk (ps := ["deed", "first", "last"]) hm F (F.binds fun _ _ _ _ _ _ us hl => match us, hl with | [_, _, _], _ => rfl) rfl rfl (o__law_due Z XF C F)

structure C_Row_since (P : Program) (w : World) (K : PySem.W.Frag) (mg : Str → Option Value) (base : Heap) (T : List (Addr × Str))  : Prop where
  m_Row_steps_from : Mt P w K mg base T 1 0 "steps_from" s_Row_steps_from 2 sp_Row_steps_from
theorem o_Row_since (Z : ZT K mg) (XF : XFS P K mg C_BadNumber C_BadRow C_Refused I_BadNumber I_BadRow I_Refused) (C : C_Row_since P w K mg base T) {f : Addr} {fd : FuncData} (F : Fun K "since" "Row.since" s_Row_since f fd) : FnOk P w K mg base (L2N.CX P w) 2 f fd ["self", "k"] (spOf K T 2 sp_Row_since) := by
  unfold sp_Row_since
  exact
  fnok_mk (N := ["self", "k"]) (ps := ["self", "k"]) F rfl rfl sc_Row_since fun cdv A outer s H E hr tk hp hu nd =>
  have hu0 := hr.units0
  have hu1 := hr.units1
  ((qss_cons (qs_if (qt_not (qt_chain op_le oq_le op_le oq_le (q_callB (call_max2 rfl) cq_max2 (by rfl) Z.z_max (by decide +kernel) (qa_cons (q_fld Z.z_cls (q_var 0)) (qa_cons q_int qa_nil))) (q_var 1) (q_fld Z.z_cls (q_var 0))))
  (qss_one (qs_raise rfl XF.t_Refused XF.n_Refused (.inr rfl) XF.g_Refused XF.z_super XF.z_top hr tk (q_var 1)))
  qss_nil)
  (qss_one (qs_ret (q_idx (q_idx (q_meth C.m_Row_steps_from nf_steps_from hr tk (q_var 0) (qa_cons (q_var 1) qa_nil)) q_int) q_int)))))
theorem f_Row_since (Z : ZT K mg) (XF : XFS P K mg C_BadNumber C_BadRow C_Refused I_BadNumber I_BadRow I_Refused) (C : C_Row_since P w K mg base T) {c f : Addr} {fd : FuncData} (hm : mg (cls 0) = some (.ref c)) (hn : PySem.W.nsIn K mainGlobals (cls 0) = some (some (.ref c))) (cc : Cls K c) (M : Meth K c "since" f) (F : Fun K "since" "Row.since" s_Row_since f fd) : Mt P w K mg base T 2 0 "since" s_Row_since 2 sp_Row_since :=
  ⟨c, f, fd, ["self", "k"], hm, hn, cc, M, ⟨_, F⟩, (F.binds fun _ _ _ _ _ _ us hl => match us, hl with | [_, _], _ => rfl), rfl, rfl, o_Row_since Z XF C F⟩

structure C__law_since (P : Program) (w : World) (K : PySem.W.Frag) (mg : Str → Option Value) (base : Heap) (T : List (Addr × Str))  : Prop where
  m_Row_since : Mt P w K mg base T 2 0 "since" s_Row_since 2 sp_Row_since
theorem o__law_since (Z : ZT K mg) (XF : XFS P K mg C_BadNumber C_BadRow C_Refused I_BadNumber I_BadRow I_Refused) (C : C__law_since P w K mg base T) {f : Addr} {fd : FuncData} (F : Fun K "_law_since" "_law_since" s__law_since f fd) : FnOk P w K mg base (L2N.CX P w) 3 f fd ["row", "k"] (spOf K T 2 sp__law_since) := by
  unfold sp__law_since
  exact
  fnok_mk (N := ["row", "k"]) (ps := ["row", "k"]) F rfl rfl sc__law_since fun cdv A outer s H E hr tk hp hu nd =>
  have hu0 := hr.units0
  have hu1 := hr.units1
  ((qss_one (qs_try rfl rfl ⟨rfl, by decide, .inl XF.g_Refused⟩ tk XF.x_Refused (fun _ _ _ tk hp =>
  (qss_one (qs_ret (q_tup (qa_cons (q_str (by decide +kernel)) (qa_cons (q_meth C.m_Row_since nf_since hr tk (q_var 0) (qa_cons (q_var 1) qa_nil)) qa_nil)))))) (fun a0 oe cls d0 pn hz hv x0 hx hx1 =>
  (qss_one (qs_ret (q_str (by decide +kernel))))))))
theorem f__law_since (Z : ZT K mg) (XF : XFS P K mg C_BadNumber C_BadRow C_Refused I_BadNumber I_BadRow I_Refused) (C : C__law_since P w K mg base T) {f : Addr} {fd : FuncData} (hm : mg "_law_since" = some (.ref f)) (F : Fun K "_law_since" "_law_since" s__law_since f fd) : Fn P w K mg base T 3 "_law_since" s__law_since 2 sp__law_since :=
  fn_mk (ps := ["row", "k"]) hm F (F.binds fun _ _ _ _ _ _ us hl => match us, hl with | [_, _], _ => rfl) rfl rfl (o__law_since Z XF C F)

structure C_Row_least (P : Program) (w : World) (K : PySem.W.Frag) (mg : Str → Option Value) (base : Heap) (T : List (Addr × Str))  : Prop where
  ok : True
theorem o_Row_least (Z : ZT K mg) (XF : XFS P K mg C_BadNumber C_BadRow C_Refused I_BadNumber I_BadRow I_Refused) (C : C_Row_least P w K mg base T) {f : Addr} {fd : FuncData} (F : Fun K "least" "Row.least" s_Row_least f fd) : FnOk P w K mg base (L2N.CX P w) 1 f fd ["self"] (spOf K T 1 sp_Row_least) := by
  unfold sp_Row_least
  exact
  fnok_mk (N := ["self"]) (ps := ["self"]) F rfl rfl sc_Row_least fun cdv A outer s H E hr tk hp hu nd =>
  have hu0 := hr.units0
  have hu1 := hr.units1
  ((qss_one (qs_ret (qe_if (qt_gtA hu0 (q_callB call_len cq_len (by rfl) Z.z_len PySem.boot_len (qa_cons (q_fld Z.z_cls (q_var 0)) qa_nil)) q_int) (q_idx (q_idx (q_fld Z.z_cls (q_var 0)) q_int) q_int) q_non))))
theorem f_Row_least (Z : ZT K mg) (XF : XFS P K mg C_BadNumber C_BadRow C_Refused I_BadNumber I_BadRow I_Refused) (C : C_Row_least P w K mg base T) {c f : Addr} {fd : FuncData} (hm : mg (cls 0) = some (.ref c)) (hn : PySem.W.nsIn K mainGlobals (cls 0) = some (some (.ref c))) (cc : Cls K c) (M : Meth K c "least" f) (F : Fun K "least" "Row.least" s_Row_least f fd) : Mt P w K mg base T 1 0 "least" s_Row_least 1 sp_Row_least :=
  ⟨c, f, fd, ["self"], hm, hn, cc, M, ⟨_, F⟩, (F.binds fun _ _ _ _ _ _ us hl => match us, hl with | [_], _ => rfl), rfl, rfl, o_Row_least Z XF C F⟩

structure C_Row_newest (P : Program) (w : World) (K : PySem.W.Frag) (mg : Str → Option Value) (base : Heap) (T : List (Addr × Str))  : Prop where
  ok : True
theorem o_Row_newest (Z : ZT K mg) (XF : XFS P K mg C_BadNumber C_BadRow C_Refused I_BadNumber I_BadRow I_Refused) (C : C_Row_newest P w K mg base T) {f : Addr} {fd : FuncData} (F : Fun K "newest" "Row.newest" s_Row_newest f fd) : FnOk P w K mg base (L2N.CX P w) 1 f fd ["self"] (spOf K T 1 sp_Row_newest) := by
  unfold sp_Row_newest
  exact
  fnok_mk (N := ["self"]) (ps := ["self"]) F rfl rfl sc_Row_newest fun cdv A outer s H E hr tk hp hu nd =>
  have hu0 := hr.units0
  have hu1 := hr.units1
  ((qss_one (qs_ret (qe_if (qt_gtA hu0 (q_callB call_len cq_len (by rfl) Z.z_len PySem.boot_len (qa_cons (q_fld Z.z_cls (q_var 0)) qa_nil)) q_int) (q_idx (q_idx (q_fld Z.z_cls (q_var 0)) (q_neg q_int)) q_int) q_non))))
theorem f_Row_newest (Z : ZT K mg) (XF : XFS P K mg C_BadNumber C_BadRow C_Refused I_BadNumber I_BadRow I_Refused) (C : C_Row_newest P w K mg base T) {c f : Addr} {fd : FuncData} (hm : mg (cls 0) = some (.ref c)) (hn : PySem.W.nsIn K mainGlobals (cls 0) = some (some (.ref c))) (cc : Cls K c) (M : Meth K c "newest" f) (F : Fun K "newest" "Row.newest" s_Row_newest f fd) : Mt P w K mg base T 1 0 "newest" s_Row_newest 1 sp_Row_newest :=
  ⟨c, f, fd, ["self"], hm, hn, cc, M, ⟨_, F⟩, (F.binds fun _ _ _ _ _ _ us hl => match us, hl with | [_], _ => rfl), rfl, rfl, o_Row_newest Z XF C F⟩

structure C_Row_state (P : Program) (w : World) (K : PySem.W.Frag) (mg : Str → Option Value) (base : Heap) (T : List (Addr × Str))  : Prop where
  ok : True
theorem o_Row_state (Z : ZT K mg) (XF : XFS P K mg C_BadNumber C_BadRow C_Refused I_BadNumber I_BadRow I_Refused) (C : C_Row_state P w K mg base T) {f : Addr} {fd : FuncData} (F : Fun K "state" "Row.state" s_Row_state f fd) : FnOk P w K mg base (L2N.CX P w) 1 f fd ["self"] (spOf K T 1 sp_Row_state) := by
  unfold sp_Row_state
  exact
  fnok_mk (N := ["self"]) (ps := ["self"]) F rfl rfl sc_Row_state fun cdv A outer s H E hr tk hp hu nd =>
  have hu0 := hr.units0
  have hu1 := hr.units1
  ((qss_one (qs_ret (q_tup (qa_cons (q_fld Z.z_cls (q_var 0)) (qa_cons (q_fld Z.z_cls (q_var 0)) (qa_cons (q_callTy call_tuple_of cq_tup (by rfl) Z.z_tuple (by decide +kernel) (qa_cons (q_fld Z.z_cls (q_var 0)) qa_nil)) qa_nil)))))))
theorem f_Row_state (Z : ZT K mg) (XF : XFS P K mg C_BadNumber C_BadRow C_Refused I_BadNumber I_BadRow I_Refused) (C : C_Row_state P w K mg base T) {c f : Addr} {fd : FuncData} (hm : mg (cls 0) = some (.ref c)) (hn : PySem.W.nsIn K mainGlobals (cls 0) = some (some (.ref c))) (cc : Cls K c) (M : Meth K c "state" f) (F : Fun K "state" "Row.state" s_Row_state f fd) : Mt P w K mg base T 1 0 "state" s_Row_state 1 sp_Row_state :=
  ⟨c, f, fd, ["self"], hm, hn, cc, M, ⟨_, F⟩, (F.binds fun _ _ _ _ _ _ us hl => match us, hl with | [_], _ => rfl), rfl, rfl, o_Row_state Z XF C F⟩

structure C__law_answers (P : Program) (w : World) (K : PySem.W.Frag) (mg : Str → Option Value) (base : Heap) (T : List (Addr × Str))  : Prop where
  c__law_since : Fn P w K mg base T 3 "_law_since" s__law_since 2 sp__law_since
  m_Row_least : Mt P w K mg base T 3 0 "least" s_Row_least 1 sp_Row_least
  m_Row_newest : Mt P w K mg base T 3 0 "newest" s_Row_newest 1 sp_Row_newest
  m_Row_state : Mt P w K mg base T 3 0 "state" s_Row_state 1 sp_Row_state
theorem o__law_answers (Z : ZT K mg) (XF : XFS P K mg C_BadNumber C_BadRow C_Refused I_BadNumber I_BadRow I_Refused) (C : C__law_answers P w K mg base T) {f : Addr} {fd : FuncData} (F : Fun K "_law_answers" "_law_answers" s__law_answers f fd) : FnOk P w K mg base (L2N.CX P w) 4 f fd ["row", "ks"] (spOf K T 2 sp__law_answers) := by
  unfold sp__law_answers
  exact
  fnok_mk (N := ["row", "ks", "k"]) (ps := ["row", "ks"]) F rfl rfl sc__law_answers fun cdv A outer s H E hr tk hp hu nd =>
  have hu0 := hr.units0
  have hu1 := hr.units1
  ((qss_one (qs_ret (q_new (ql_cat (qv_l (ql_lst (qa_cons (q_meth0 C.m_Row_state nf_state hr tk (q_var 0)) (qa_cons (q_meth0 C.m_Row_least nf_least hr tk (q_var 0)) (qa_cons (q_meth0 C.m_Row_newest nf_newest hr tk (q_var 0)) qa_nil))))) (qv_l (ql_lc (g := (tg1 2)) rfl nd (qi_v (q_var 1)) (blkOk_by (own := [("k", 2)]) (by show blkC ["row", "ks", "k"] (defScope s__law_answers) _ _ = true; decide +kernel)) rfl tg1_ok (fun _ _ _ _ _ => pg_name (i := 2) nd rfl (Or.inl rfl)) (fun _ _ _ _ _ => qts_nil) (fun _ _ _ _ _ => (q_call C.c__law_since hr tk0 (by rfl) (qa_cons (q_var 0) (qa_cons (q_var 2) qa_nil)))))))))))
theorem f__law_answers (Z : ZT K mg) (XF : XFS P K mg C_BadNumber C_BadRow C_Refused I_BadNumber I_BadRow I_Refused) (C : C__law_answers P w K mg base T) {f : Addr} {fd : FuncData} (hm : mg "_law_answers" = some (.ref f)) (F : Fun K "_law_answers" "_law_answers" s__law_answers f fd) : Fn P w K mg base T 4 "_law_answers" s__law_answers 2 sp__law_answers :=
  fn_mk (ps := ["row", "ks"]) hm F (F.binds fun _ _ _ _ _ _ us hl => match us, hl with | [_, _], _ => rfl) rfl rfl (o__law_answers Z XF C F)

structure C__law_whole (P : Program) (w : World) (K : PySem.W.Frag) (mg : Str → Option Value) (base : Heap) (T : List (Addr × Str))  : Prop where
  c__law_state : Fn P w K mg base T 2 "_law_state" s__law_state 3 sp__law_state
  c__law_least : Fn P w K mg base T 2 "_law_least" s__law_least 2 sp__law_least
theorem o__law_whole (Z : ZT K mg) (XF : XFS P K mg C_BadNumber C_BadRow C_Refused I_BadNumber I_BadRow I_Refused) (C : C__law_whole P w K mg base T) {f : Addr} {fd : FuncData} (F : Fun K "_law_whole" "_law_whole" s__law_whole f fd) : FnOk P w K mg base (L2N.CX P w) 3 f fd ["reports", "first", "last", "ks"] (spOf K T 4 sp__law_whole) := by
  unfold sp__law_whole
  exact
  fnok_mk (N := ["reports", "first", "last", "ks", "found", "k"]) (ps := ["reports", "first", "last", "ks"]) F rfl rfl sc__law_whole fun cdv A outer s H E hr tk hp hu nd =>
  have hu0 := hr.units0
  have hu1 := hr.units1
  ((qss_cons (qs_set (i := 4) nd (q_new (ql_lst (qa_cons (q_call C.c__law_state hr tk (by rfl) (qa_cons (q_var 0) (qa_cons (q_var 1) (qa_cons (q_var 2) qa_nil)))) (qa_cons (q_call C.c__law_least hr tk (by rfl) (qa_cons (q_var 0) (qa_cons (q_var 1) qa_nil))) (qa_cons (qe_if (qt_neL hu (qh_e (q_var 0)) (qh_l (ql_lst qa_nil))) (q_idx (q_idx (q_var 0) (q_neg q_int)) q_int) q_non) qa_nil))))))
  (qss_cons (qs_for hp rfl (qi_v (q_var 3)) (qg_name (i := 5) nd)
  (qss_one (qs_expr (q_append (q_var 4) (qa_cons (qe_if (qt_w (qw_or (qt_lt hu0 (q_var 5) q_int) (qw_or (qt_lt hu0 (q_var 5) (q_var 1)) (qw_or1 (qt_gtA hu0 (q_var 5) (q_var 2)))))) (q_str (by decide +kernel)) (q_tup (qa_cons (q_str (by decide +kernel)) (qa_cons (q_call C.c__law_least hr tk (by rfl) (qa_cons (q_var 0) (qa_cons (q_var 5) qa_nil))) qa_nil)))) qa_nil)))))
  (qss_one (qs_ret (q_var 4))))))
theorem f__law_whole (Z : ZT K mg) (XF : XFS P K mg C_BadNumber C_BadRow C_Refused I_BadNumber I_BadRow I_Refused) (C : C__law_whole P w K mg base T) {f : Addr} {fd : FuncData} (hm : mg "_law_whole" = some (.ref f)) (F : Fun K "_law_whole" "_law_whole" s__law_whole f fd) : Fn P w K mg base T 3 "_law_whole" s__law_whole 4 sp__law_whole :=
  fn_mk (ps := ["reports", "first", "last", "ks"]) hm F (F.binds fun _ _ _ _ _ _ us hl => match us, hl with | [_, _, _, _], _ => rfl) rfl rfl (o__law_whole Z XF C F)

structure C__law_drawn (P : Program) (w : World) (K : PySem.W.Frag) (mg : Str → Option Value) (base : Heap) (T : List (Addr × Str))  : Prop where
  k_Row_init : MkC P w K mg base T 3 0 s_Row_init 1 sp_Row_init
  c_begun_row : Fn P w K mg base T 4 "begun_row" s_begun_row 2 sp_begun_row
  c__law_take : Fn P w K mg base T 4 "_law_take" s__law_take 2 sp__law_take
  c__law_pick : Fn P w K mg base T 4 "_law_pick" s__law_pick 2 sp__law_pick
  c__law_number : Fn P w K mg base T 4 "_law_number" s__law_number 2 sp__law_number
  c__law_deed : Fn P w K mg base T 4 "_law_deed" s__law_deed 4 sp__law_deed
  c__law_take_in : Fn P w K mg base T 4 "_law_take_in" s__law_take_in 2 sp__law_take_in
  c__law_due : Fn P w K mg base T 4 "_law_due" s__law_due 3 sp__law_due
theorem o__law_drawn (Z : ZT K mg) (XF : XFS P K mg C_BadNumber C_BadRow C_Refused I_BadNumber I_BadRow I_Refused) (C : C__law_drawn P w K mg base T) {f : Addr} {fd : FuncData} (F : Fun K "_law_drawn" "_law_drawn" s__law_drawn f fd) : FnOk P w K mg base (L2N.CX P w) 5 f fd ["box", "few"] (spOf K T 2 sp__law_drawn) := by
  unfold sp__law_drawn
  exact
  fnok_mk (N := ["box", "few", "row", "reports", "first", "last", "number", "turn", "deed"]) (ps := ["box", "few"]) F rfl rfl sc__law_drawn fun cdv A outer s H E hr tk hp hu nd =>
  have hu0 := hr.units0
  have hu1 := hr.units1
  ((qss_cons (qs_asg (q_tup (qa_cons (q_make0 C.k_Row_init hr (by rfl)) (qa_cons (q_new (ql_lst qa_nil)) (qa_cons q_int (qa_cons q_int qa_nil))))) (qg_tup rfl (qgs_cons (qg_name (i := 2) nd) (qgs_cons (qg_name (i := 3) nd) (qgs_cons (qg_name (i := 4) nd) (qgs_cons (qg_name (i := 5) nd) qgs_nil))))))
  (qss_cons (qs_if (qt_eq hu (q_call C.c__law_take hr tk (by rfl) (qa_cons (q_var 0) (qa_cons q_int qa_nil))) q_int)
  (qss_cons (qs_par (i := 4) (j := 6) rfl nd (qa_cons (q_call C.c__law_pick hr tk (by rfl) (qa_cons (q_var 0) (qa_cons (q_new (ql_lst (qa_cons q_int (qa_cons q_int (qa_cons q_int (qa_cons q_int (qa_cons (q_sub (q_pow q_int q_int) q_int) qa_nil))))))) qa_nil))) (qa_cons (q_call C.c__law_number hr tk (by rfl) (qa_cons (q_var 0) (qa_cons (q_var 1) qa_nil))) qa_nil)))
  (qss_cons (qs_par (i := 2) (j := 5) rfl nd (qa_cons (q_call C.c_begun_row hr tk (by rfl) (qa_cons (q_var 4) (qa_cons (q_var 6) qa_nil))) (qa_cons (q_var 4) qa_nil)))
  (qss_one (qs_if (qt_w (qw_or (qt_gtA hu0 (q_var 4) q_int) (qw_or1 (qt_notN (q_var 6)))))
  (qss_one (qs_set (i := 3) nd (q_new (ql_lst (qa_cons (q_tup (qa_cons (q_var 4) (qa_cons (q_var 6) qa_nil))) qa_nil)))))
  qss_nil))))
  qss_nil)
  (qss_cons (qs_for hp rfl (qi_r1 (by rfl) Z.z_range (qa_cons (q_call C.c__law_pick hr tk (by rfl) (qa_cons (q_var 0) (qa_cons (q_new (ql_lst (qa_cons q_int (qa_cons q_int (qa_cons q_int (qa_cons q_int (qa_cons q_int qa_nil))))))) qa_nil))) qa_nil)) (qg_name (i := 7) nd)
  (qss_cons (qs_set (i := 8) nd (q_call C.c__law_deed hr tk (by rfl) (qa_cons (q_var 0) (qa_cons (q_var 4) (qa_cons (q_var 5) (qa_cons (q_var 1) qa_nil))))))
  (qss_cons (qs_if (qt_ne hu (q_call C.c__law_take_in hr tk (by rfl) (qa_cons (q_var 2) (qa_cons (q_var 8) qa_nil))) (q_call C.c__law_due hr tk (by rfl) (qa_cons (q_var 8) (qa_cons (q_var 4) (qa_cons (q_var 5) qa_nil)))))
  (qss_one (qs_ret q_non))
  qss_nil)
  (qss_one (qs_if (qt_w (qw_and (qt_eq hu (q_idx (q_var 8) q_int) (q_str (by decide +kernel))) (qw_and1 (qt_gtA hu0 (q_idx (q_var 8) q_int) (q_var 5)))))
  (qss_cons (qs_set (i := 5) nd (q_idx (q_var 8) q_int))
  (qss_one (qs_expr (q_append (q_var 3) (qa_cons (q_tup (qa_cons (q_var 5) (qa_cons (q_idx (q_var 8) q_int) qa_nil))) qa_nil)))))
  (qss_one (qs_if (qt_w (qw_and (qt_eq hu (q_idx (q_var 8) q_int) (q_str (by decide +kernel))) (qw_and1 (qt_chain (or_lt hu0) oq_lt op_le oq_le (q_var 4) (q_idx (q_var 8) q_int) (q_var 5)))))
  (qss_one (qs_set (i := 4) nd (q_idx (q_var 8) q_int)))
  qss_nil)))))))
  (qss_one (qs_ret (q_tup (qa_cons (q_var 2) (qa_cons (q_var 3) (qa_cons (q_var 4) (qa_cons (q_var 5) qa_nil)))))))))))
theorem f__law_drawn (Z : ZT K mg) (XF : XFS P K mg C_BadNumber C_BadRow C_Refused I_BadNumber I_BadRow I_Refused) (C : C__law_drawn P w K mg base T) {f : Addr} {fd : FuncData} (hm : mg "_law_drawn" = some (.ref f)) (F : Fun K "_law_drawn" "_law_drawn" s__law_drawn f fd) : Fn P w K mg base T 5 "_law_drawn" s__law_drawn 2 sp__law_drawn :=
  fn_mk (ps := ["box", "few"]) hm F (F.binds fun _ _ _ _ _ _ us hl => match us, hl with | [_, _], _ => rfl) rfl rfl (o__law_drawn Z XF C F)

structure C__law_near (P : Program) (w : World) (K : PySem.W.Frag) (mg : Str → Option Value) (base : Heap) (T : List (Addr × Str))  : Prop where
  c__law_take : Fn P w K mg base T 2 "_law_take" s__law_take 2 sp__law_take
  c__law_pick : Fn P w K mg base T 2 "_law_pick" s__law_pick 2 sp__law_pick
theorem o__law_near (Z : ZT K mg) (XF : XFS P K mg C_BadNumber C_BadRow C_Refused I_BadNumber I_BadRow I_Refused) (C : C__law_near P w K mg base T) {f : Addr} {fd : FuncData} (F : Fun K "_law_near" "_law_near" s__law_near f fd) : FnOk P w K mg base (L2N.CX P w) 3 f fd ["box", "state"] (spOf K T 2 sp__law_near) := by
  unfold sp__law_near
  exact
  fnok_mk (N := ["box", "state", "first", "last", "falls", "found", "at"]) (ps := ["box", "state"]) F rfl rfl sc__law_near fun cdv A outer s H E hr tk hp hu nd =>
  have hu0 := hr.units0
  have hu1 := hr.units1
  ((qss_cons (qs_asg (q_var 1) (qg_tup rfl (qgs_cons (qg_name (i := 2) nd) (qgs_cons (qg_name (i := 3) nd) (qgs_cons (qg_name (i := 4) nd) qgs_nil)))))
  (qss_cons (qs_set (i := 5) nd (q_new (ql_cat (qv_l (ql_lst (qa_cons (q_var 1) qa_nil))) (qv_l (ql_lc (g := (tg1 6)) rfl nd (qi_r1 (by rfl) Z.z_range (qa_cons (q_sub (q_callB call_len cq_len (by rfl) Z.z_len PySem.boot_len (qa_cons (q_var 4) qa_nil)) q_int) qa_nil)) (blkOk_by (own := [("at", 6)]) (by show blkC ["box", "state", "first", "last", "falls", "found", "at"] (defScope s__law_near) _ _ = true; decide +kernel)) rfl tg1_ok (fun _ _ _ _ _ => pg_name (i := 6) nd rfl (Or.inl rfl)) (fun _ _ _ _ _ => qts_nil) (fun _ _ _ _ _ => (q_tup (qa_cons (q_var 2) (qa_cons (q_var 3) (qa_cons (q_add (q_slice (q_var 4) qo_none (qo_some (q_var 6))) (q_slice (q_var 4) (qo_some (q_add (q_var 6) q_int)) qo_none)) qa_nil))))))))))
  (qss_cons (qs_if (qt_gtA hu0 (q_var 3) q_int)
  (qss_cons (qs_expr (q_append (q_var 5) (qa_cons (q_tup (qa_cons (q_var 2) (qa_cons (q_add (q_var 3) q_int) (qa_cons (q_add (q_slice (q_var 4) qo_none (qo_some (q_neg q_int))) (q_tup (qa_cons (q_tup (qa_cons (q_add (q_var 3) q_int) (qa_cons (q_idx (q_idx (q_var 4) (q_neg q_int)) q_int) qa_nil))) qa_nil))) qa_nil)))) qa_nil)))
  (qss_cons (qs_expr (q_append (q_var 5) (qa_cons (q_tup (qa_cons (q_var 2) (qa_cons (q_var 3) (qa_cons (q_add (q_slice (q_var 4) qo_none (qo_some (q_neg q_int))) (q_tup (qa_cons (q_tup (qa_cons (q_var 3) (qa_cons q_non qa_nil))) qa_nil))) qa_nil)))) qa_nil)))
  (qss_one (qs_if (qt_w (qw_and (qt_gtA hu0 (q_idx (q_idx (q_var 4) q_int) q_int) (q_var 2)) (qw_and1 (qt_gtA hu0 (q_var 3) (q_var 2)))))
  (qss_one (qs_expr (q_append (q_var 5) (qa_cons (q_tup (qa_cons (q_add (q_var 2) q_int) (qa_cons (q_var 3) (qa_cons (q_var 4) qa_nil)))) qa_nil))))
  qss_nil))))
  qss_nil)
  (qss_one (qs_ret (q_call C.c__law_pick hr tk (by rfl) (qa_cons (q_var 0) (qa_cons (qe_if (qt_w (qw_and (qt_gtA hu0 (q_callB call_len cq_len (by rfl) Z.z_len PySem.boot_len (qa_cons (q_var 5) qa_nil)) q_int) (qw_and1 (qt_gtA hu0 (q_call C.c__law_take hr tk (by rfl) (qa_cons (q_var 0) (qa_cons q_int qa_nil))) q_int)))) (q_slice (q_var 5) (qo_some q_int) qo_none) (q_var 5)) qa_nil)))))))))
theorem f__law_near (Z : ZT K mg) (XF : XFS P K mg C_BadNumber C_BadRow C_Refused I_BadNumber I_BadRow I_Refused) (C : C__law_near P w K mg base T) {f : Addr} {fd : FuncData} (hm : mg "_law_near" = some (.ref f)) (F : Fun K "_law_near" "_law_near" s__law_near f fd) : Fn P w K mg base T 3 "_law_near" s__law_near 2 sp__law_near :=
  fn_mk (ps := ["box", "state"]) hm F (F.binds fun _ _ _ _ _ _ us hl => match us, hl with | [_, _], _ => rfl) rfl rfl (o__law_near Z XF C F)

structure C__law_apart (P : Program) (w : World) (K : PySem.W.Frag) (mg : Str → Option Value) (base : Heap) (T : List (Addr × Str))  : Prop where
  c__law_like : Fn P w K mg base T 8 "_law_like" s__law_like 2 sp__law_like
  c__law_take_in : Fn P w K mg base T 8 "_law_take_in" s__law_take_in 2 sp__law_take_in
  c__law_since : Fn P w K mg base T 8 "_law_since" s__law_since 2 sp__law_since
  m_Row_least : Mt P w K mg base T 8 0 "least" s_Row_least 1 sp_Row_least
theorem o__law_apart (Z : ZT K mg) (XF : XFS P K mg C_BadNumber C_BadRow C_Refused I_BadNumber I_BadRow I_Refused) (C : C__law_apart P w K mg base T) {f : Addr} {fd : FuncData} (F : Fun K "_law_apart" "_law_apart" s__law_apart f fd) : FnOk P w K mg base (L2N.CX P w) 9 f fd ["one", "other", "here", "there"] (spOf K T 4 sp__law_apart) := by
  unfold sp__law_apart
  exact
  fnok_mk (N := ["one", "other", "here", "there", "first", "last", "k", "fall"]) (ps := ["one", "other", "here", "there"]) F rfl rfl sc__law_apart fun cdv A outer s H E hr tk hp hu nd =>
  have hu0 := hr.units0
  have hu1 := hr.units1
  ((qss_cons (qs_par (i := 4) (j := 5) rfl nd (qa_cons (q_callB (call_min2 rfl) cq_min2 (by rfl) Z.z_min (by decide +kernel) (qa_cons (q_idx (q_var 2) q_int) (qa_cons (q_idx (q_var 3) q_int) qa_nil))) (qa_cons (q_callB (call_min2 rfl) cq_min2 (by rfl) Z.z_min (by decide +kernel) (qa_cons (q_idx (q_var 2) q_int) (qa_cons (q_idx (q_var 3) q_int) qa_nil))) qa_nil)))
  (qss_cons (qs_if (qt_ne hu (q_idx (q_var 2) q_int) (q_idx (q_var 3) q_int))
  (qss_one (qs_ret (q_eqL hu (qh_l (ql_sorted hu (by rfl) Z.z_sorted (qh_l (ql_lst (qa_cons (q_call C.c__law_take_in hr tk (by rfl) (qa_cons (q_var 0) (qa_cons (q_tup (qa_cons (q_str (by decide +kernel)) (qa_cons (q_add (q_var 5) q_int) (qa_cons q_non qa_nil)))) qa_nil))) (qa_cons (q_call C.c__law_take_in hr tk (by rfl) (qa_cons (q_var 1) (qa_cons (q_tup (qa_cons (q_str (by decide +kernel)) (qa_cons (q_add (q_var 5) q_int) (qa_cons q_non qa_nil)))) qa_nil))) qa_nil)))))) (qh_l (ql_lst (qa_cons q_bl (qa_cons q_bl qa_nil)))))))
  qss_nil)
  (qss_cons (qs_if (qt_ne hu (q_idx (q_var 2) q_int) (q_idx (q_var 3) q_int))
  (qss_cons (qs_set (i := 6) nd (q_callB (call_max2 rfl) cq_max2 (by rfl) Z.z_max (by decide +kernel) (qa_cons (q_idx (q_var 2) q_int) (qa_cons (q_idx (q_var 3) q_int) qa_nil))))
  (qss_one (qs_ret (q_eqL hu (qh_l (ql_sorted hu (by rfl) Z.z_sorted (qh_l (ql_lst (qa_cons (q_call C.c__law_take_in hr tk (by rfl) (qa_cons (q_var 0) (qa_cons (q_tup (qa_cons (q_str (by decide +kernel)) (qa_cons (q_var 6) (qa_cons q_non qa_nil)))) qa_nil))) (qa_cons (q_call C.c__law_take_in hr tk (by rfl) (qa_cons (q_var 1) (qa_cons (q_tup (qa_cons (q_str (by decide +kernel)) (qa_cons (q_var 6) (qa_cons q_non qa_nil)))) qa_nil))) qa_nil)))))) (qh_l (ql_lst (qa_cons q_bl (qa_cons q_bl qa_nil))))))))
  qss_nil)
  (qss_cons (qs_for hp rfl (qi_l (ql_lc (g := (tg1 7)) rfl nd (qi_v (q_add (q_idx (q_var 2) q_int) (q_idx (q_var 3) q_int))) (blkOk_by (own := [("fall", 7)]) (by show blkC ["one", "other", "here", "there", "first", "last", "k", "fall"] (defScope s__law_apart) _ _ = true; decide +kernel)) rfl tg1_ok (fun _ _ _ _ _ => pg_name (i := 7) nd rfl (Or.inl rfl)) (fun _ _ _ _ _ => qts_nil) (fun _ _ _ _ _ => (q_idx (q_var 7) q_int)))) (qg_name (i := 6) nd)
  (qss_one (qs_if (qt_w (qw_and (qt_gtA hu0 (q_var 6) q_int) (qw_and1 (qt_not (qt_tru (q_call C.c__law_like hr tk (by rfl) (qa_cons (q_call C.c__law_since hr tk (by rfl) (qa_cons (q_var 0) (qa_cons (q_var 6) qa_nil))) (qa_cons (q_call C.c__law_since hr tk (by rfl) (qa_cons (q_var 1) (qa_cons (q_var 6) qa_nil))) qa_nil))))))))
  (qss_one (qs_ret q_bl))
  qss_nil)))
  (qss_one (qs_ret (qe_not (q_call C.c__law_like hr tk (by rfl) (qa_cons (q_meth0 C.m_Row_least nf_least hr tk (q_var 0)) (qa_cons (q_meth0 C.m_Row_least nf_least hr tk (q_var 1)) qa_nil)))))))))))
theorem f__law_apart (Z : ZT K mg) (XF : XFS P K mg C_BadNumber C_BadRow C_Refused I_BadNumber I_BadRow I_Refused) (C : C__law_apart P w K mg base T) {f : Addr} {fd : FuncData} (hm : mg "_law_apart" = some (.ref f)) (F : Fun K "_law_apart" "_law_apart" s__law_apart f fd) : Fn P w K mg base T 9 "_law_apart" s__law_apart 4 sp__law_apart :=
  fn_mk (ps := ["one", "other", "here", "there"]) hm F (F.binds fun _ _ _ _ _ _ us hl => match us, hl with | [_, _, _, _], _ => rfl) rfl rfl (o__law_apart Z XF C F)

structure C_Row_copied (P : Program) (w : World) (K : PySem.W.Frag) (mg : Str → Option Value) (base : Heap) (T : List (Addr × Str))  : Prop where
  c_made_row : Fn P w K mg base T 3 "made_row" s_made_row 3 sp_made_row
theorem o_Row_copied (Z : ZT K mg) (XF : XFS P K mg C_BadNumber C_BadRow C_Refused I_BadNumber I_BadRow I_Refused) (C : C_Row_copied P w K mg base T) {f : Addr} {fd : FuncData} (F : Fun K "copied" "Row.copied" s_Row_copied f fd) : FnOk P w K mg base (L2N.CX P w) 4 f fd ["self"] (spOf K T 1 sp_Row_copied) := by
  unfold sp_Row_copied
  exact
  fnok_mk (N := ["self"]) (ps := ["self"]) F rfl rfl sc_Row_copied fun cdv A outer s H E hr tk hp hu nd =>
  have hu0 := hr.units0
  have hu1 := hr.units1
  ((qss_one (qs_ret (q_call C.c_made_row hr tk (by rfl) (qa_cons (q_fld Z.z_cls (q_var 0)) (qa_cons (q_fld Z.z_cls (q_var 0)) (qa_cons (q_fld Z.z_cls (q_var 0)) qa_nil)))))))
theorem f_Row_copied (Z : ZT K mg) (XF : XFS P K mg C_BadNumber C_BadRow C_Refused I_BadNumber I_BadRow I_Refused) (C : C_Row_copied P w K mg base T) {c f : Addr} {fd : FuncData} (hm : mg (cls 0) = some (.ref c)) (hn : PySem.W.nsIn K mainGlobals (cls 0) = some (some (.ref c))) (cc : Cls K c) (M : Meth K c "copied" f) (F : Fun K "copied" "Row.copied" s_Row_copied f fd) : Mt P w K mg base T 4 0 "copied" s_Row_copied 1 sp_Row_copied :=
  ⟨c, f, fd, ["self"], hm, hn, cc, M, ⟨_, F⟩, (F.binds fun _ _ _ _ _ _ us hl => match us, hl with | [_], _ => rfl), rfl, rfl, o_Row_copied Z XF C F⟩

structure C_law (P : Program) (w : World) (K : PySem.W.Frag) (mg : Str → Option Value) (base : Heap) (T : List (Addr × Str))  : Prop where
  c_row_of : Fn P w K mg base T 9 "row_of" s_row_of 1 sp_row_of
  c__law_box : Fn P w K mg base T 9 "_law_box" s__law_box 2 sp__law_box
  c__law_take : Fn P w K mg base T 9 "_law_take" s__law_take 2 sp__law_take
  c__law_pick : Fn P w K mg base T 9 "_law_pick" s__law_pick 2 sp__law_pick
  c__law_like : Fn P w K mg base T 9 "_law_like" s__law_like 2 sp__law_like
  c__law_state : Fn P w K mg base T 9 "_law_state" s__law_state 3 sp__law_state
  c__law_deed : Fn P w K mg base T 9 "_law_deed" s__law_deed 4 sp__law_deed
  c__law_take_in : Fn P w K mg base T 9 "_law_take_in" s__law_take_in 2 sp__law_take_in
  c__law_due : Fn P w K mg base T 9 "_law_due" s__law_due 3 sp__law_due
  m_Row_state : Mt P w K mg base T 9 0 "state" s_Row_state 1 sp_Row_state
  c__law_answers : Fn P w K mg base T 9 "_law_answers" s__law_answers 2 sp__law_answers
  c__law_whole : Fn P w K mg base T 9 "_law_whole" s__law_whole 4 sp__law_whole
  c__law_drawn : Fn P w K mg base T 9 "_law_drawn" s__law_drawn 2 sp__law_drawn
  c__law_near : Fn P w K mg base T 9 "_law_near" s__law_near 2 sp__law_near
  c__law_apart : Fn P w K mg base T 9 "_law_apart" s__law_apart 4 sp__law_apart
  m_Row_copied : Mt P w K mg base T 9 0 "copied" s_Row_copied 1 sp_Row_copied
theorem o_law (Z : ZT K mg) (XF : XFS P K mg C_BadNumber C_BadRow C_Refused I_BadNumber I_BadRow I_Refused) (C : C_law P w K mg base T) {f : Addr} {fd : FuncData} (F : Fun K "law" "law" s_law f fd) : FnOk P w K mg base (L2N.CX P w) 10 f fd ["script"] (spOf K T 1 sp_law) := by
  unfold sp_law
  exact
  fnok_mk (N := ["script", "box", "few", "drawn", "second", "row", "reports", "first", "last", "state", "near", "other", "rows", "kept", "twin", "turn", "ks", "due", "one", "deed", "taken"]) (ps := ["script"]) F rfl rfl sc_law fun cdv A outer s H E hr tk hp hu nd =>
  have hu0 := hr.units0
  have hu1 := hr.units1
  ((qss_cons (qs_set (i := 1) nd (q_call C.c__law_box hr tk (by rfl) (qa_cons (q_var 0) (qa_cons q_int qa_nil))))
  (qss_cons (qs_set (i := 2) nd (q_add q_int (q_call C.c__law_take hr tk (by rfl) (qa_cons (q_var 1) (qa_cons q_int qa_nil)))))
  (qss_cons (qs_par (i := 3) (j := 4) rfl nd (qa_cons (q_call C.c__law_drawn hr tk (by rfl) (qa_cons (q_var 1) (qa_cons (q_var 2) qa_nil))) (qa_cons (q_call C.c__law_drawn hr tk (by rfl) (qa_cons (q_call C.c__law_box hr tk (by rfl) (qa_cons (q_var 0) (qa_cons q_int qa_nil))) (qa_cons (q_var 2) qa_nil))) qa_nil)))
  (qss_cons (qs_if (qt_w (qw_or (qt_isN (q_var 3)) (qw_or1 (qt_isN (q_var 4)))))
  (qss_one (qs_ret q_bl))
  qss_nil)
  (qss_cons (qs_asg (q_var 3) (qg_tup rfl (qgs_cons (qg_name (i := 5) nd) (qgs_cons (qg_name (i := 6) nd) (qgs_cons (qg_name (i := 7) nd) (qgs_cons (qg_name (i := 8) nd) qgs_nil))))))
  (qss_cons (qs_par (i := 9) (j := 10) rfl nd (qa_cons (q_call C.c__law_state hr tk (by rfl) (qa_cons (q_var 6) (qa_cons (q_var 7) (qa_cons (q_var 8) qa_nil)))) (qa_cons (q_call C.c__law_state hr tk (by rfl) (qa_cons (q_idx (q_var 4) q_int) (qa_cons (q_idx (q_var 4) q_int) (qa_cons (q_idx (q_var 4) q_int) qa_nil)))) qa_nil)))
  (qss_cons (qs_set (i := 11) nd (qe_if (qt_gtA hu0 (q_call C.c__law_take hr tk (by rfl) (qa_cons (q_var 1) (qa_cons q_int qa_nil))) q_int) (q_call C.c__law_near hr tk (by rfl) (qa_cons (q_var 1) (qa_cons (q_var 9) qa_nil))) (q_var 10)))
  (qss_cons (qs_set (i := 12) nd (q_new (ql_lst (qa_cons (q_var 5) (qa_cons (q_call C.c_row_of hr tk (by rfl) (qa_cons (q_var 9) qa_nil)) (qa_cons (q_meth0 C.m_Row_copied nf_copied hr tk (q_var 5)) (qa_cons (q_call C.c_row_of hr tk (by rfl) (qa_cons (q_meth0 C.m_Row_state nf_state hr tk (q_meth0 C.m_Row_copied nf_copied hr tk (q_var 5))) qa_nil)) qa_nil)))))))
  (qss_cons (qs_par (i := 13) (j := 14) rfl nd (qa_cons (q_meth0 C.m_Row_copied nf_copied hr tk (q_var 5)) (qa_cons (q_call C.c_row_of hr tk (by rfl) (qa_cons (q_var 9) qa_nil)) qa_nil)))
  (qss_cons (qs_if (qt_not (qt_tru (q_call C.c__law_like hr tk (by rfl) (qa_cons (q_meth0 C.m_Row_state nf_state hr tk (q_idx (q_var 4) q_int)) (qa_cons (q_var 10) qa_nil)))))
  (qss_one (qs_ret q_bl))
  qss_nil)
  (qss_cons (qs_if (qt_w (qw_and (qt_ne hu (q_var 9) (q_var 11)) (qw_and1 (qt_not (qt_tru (q_call C.c__law_apart hr tk (by rfl) (qa_cons (q_call C.c_row_of hr tk (by rfl) (qa_cons (q_var 9) qa_nil)) (qa_cons (q_call C.c_row_of hr tk (by rfl) (qa_cons (q_var 11) qa_nil)) (qa_cons (q_var 9) (qa_cons (q_var 11) qa_nil))))))))))
  (qss_one (qs_ret q_bl))
  qss_nil)
  (qss_cons (qs_if (qt_eq hu (q_var 9) (q_var 11))
  (qss_one (qs_expr (q_append (q_var 12) (qa_cons (q_call C.c_row_of hr tk (by rfl) (qa_cons (q_var 11) qa_nil)) qa_nil))))
  qss_nil)
  (qss_cons (qs_set (i := 1) nd (q_call C.c__law_box hr tk (by rfl) (qa_cons (q_var 0) (qa_cons q_int qa_nil))))
  (qss_cons (qs_for hp rfl (qi_r1 (by rfl) Z.z_range (qa_cons (q_call C.c__law_pick hr tk (by rfl) (qa_cons (q_var 1) (qa_cons (q_new (ql_lst (qa_cons q_int (qa_cons q_int (qa_cons q_int qa_nil))))) qa_nil))) qa_nil)) (qg_name (i := 15) nd)
  (qss_cons (qs_set (i := 16) nd (q_new (ql_lst (qa_cons (q_var 7) (qa_cons (q_var 8) (qa_cons (q_add (q_var 7) (q_call C.c__law_take hr tk (by rfl) (qa_cons (q_var 1) (qa_cons (q_add (q_sub (q_var 8) (q_var 7)) q_int) qa_nil)))) (qa_cons (q_add (q_var 8) q_int) (qa_cons (q_sub (q_var 7) q_int) qa_nil))))))))
  (qss_cons (qs_if (qt_neL hu (qh_e (q_var 6)) (qh_l (ql_lst qa_nil)))
  (qss_one (qs_expr (q_append (q_var 16) (qa_cons (q_add (q_idx (q_call C.c__law_pick hr tk (by rfl) (qa_cons (q_var 1) (qa_cons (q_var 6) qa_nil))) q_int) q_int) qa_nil))))
  qss_nil)
  (qss_cons (qs_set (i := 17) nd (q_call C.c__law_whole hr tk (by rfl) (qa_cons (q_var 6) (qa_cons (q_var 7) (qa_cons (q_var 8) (qa_cons (q_var 16) qa_nil))))))
  (qss_cons (qs_if (qt_w (qw_and (qt_ne hu (q_mod (q_var 15) q_int) q_int) (qw_and1 (qt_neL hu (qh_l (ql_lc (g := (tg1 18)) rfl nd (qi_v (q_var 12)) (blkOk_by (own := [("one", 18)]) (by show blkC ["script", "box", "few", "drawn", "second", "row", "reports", "first", "last", "state", "near", "other", "rows", "kept", "twin", "turn", "ks", "due", "one", "deed", "taken"] (defScope s_law) _ _ = true; decide +kernel)) rfl tg1_ok (fun _ _ _ _ _ => pg_name (i := 18) nd rfl (Or.inl rfl)) (fun _ _ _ _ _ => (qts_one (qt_not (qt_tru (q_call C.c__law_like hr tk0 (by rfl) (qa_cons (q_call C.c__law_answers hr tk0 (by rfl) (qa_cons (q_var 18) (qa_cons (q_var 16) qa_nil))) (qa_cons (q_var 17) qa_nil))))))) (fun _ _ _ _ _ => q_int))) (qh_l (ql_lst qa_nil))))))
  (qss_one (qs_ret q_bl))
  qss_nil)
  (qss_cons (qs_set (i := 19) nd (q_call C.c__law_deed hr tk (by rfl) (qa_cons (q_var 1) (qa_cons (q_var 7) (qa_cons (q_var 8) (qa_cons (q_var 2) qa_nil))))))
  (qss_cons (qs_set (i := 20) nd (q_call C.c__law_due hr tk (by rfl) (qa_cons (q_var 19) (qa_cons (q_var 7) (qa_cons (q_var 8) qa_nil)))))
  (qss_cons (qs_if (qt_neL hu (qh_l (ql_lc (g := (tg1 18)) rfl nd (qi_v (q_var 12)) (blkOk_by (own := [("one", 18)]) (by show blkC ["script", "box", "few", "drawn", "second", "row", "reports", "first", "last", "state", "near", "other", "rows", "kept", "twin", "turn", "ks", "due", "one", "deed", "taken"] (defScope s_law) _ _ = true; decide +kernel)) rfl tg1_ok (fun _ _ _ _ _ => pg_name (i := 18) nd rfl (Or.inl rfl)) (fun _ _ _ _ _ => (qts_one (qt_ne hu (q_call C.c__law_take_in hr tk0 (by rfl) (qa_cons (q_var 18) (qa_cons (q_var 19) qa_nil))) (q_var 20)))) (fun _ _ _ _ _ => q_int))) (qh_l (ql_lst qa_nil)))
  (qss_one (qs_ret q_bl))
  qss_nil)
  (qss_one (qs_if (qt_w (qw_and (qt_tru (q_var 20)) (qw_and1 (qt_eq hu (q_idx (q_var 19) q_int) (q_str (by decide +kernel))))))
  (qss_cons (qs_set (i := 8) nd (q_idx (q_var 19) q_int))
  (qss_one (qs_expr (q_append (q_var 6) (qa_cons (q_tup (qa_cons (q_var 8) (qa_cons (q_idx (q_var 19) q_int) qa_nil))) qa_nil)))))
  (qss_one (qs_if (qt_tru (q_var 20))
  (qss_one (qs_set (i := 7) nd (q_idx (q_var 19) q_int)))
  qss_nil))))))))))))
  (qss_one (qs_ret (qe_and (q_call C.c__law_like hr tk (by rfl) (qa_cons (q_meth0 C.m_Row_state nf_state hr tk (q_var 13)) (qa_cons (q_var 9) qa_nil))) (qe_and (q_call C.c__law_like hr tk (by rfl) (qa_cons (q_meth0 C.m_Row_state nf_state hr tk (q_var 14)) (qa_cons (q_var 9) qa_nil))) (qe_one (q_call C.c__law_like hr tk (by rfl) (qa_cons (q_meth0 C.m_Row_state nf_state hr tk (q_idx (q_var 12) q_int)) (qa_cons (q_call C.c__law_state hr tk (by rfl) (qa_cons (q_var 6) (qa_cons (q_var 7) (qa_cons (q_var 8) qa_nil)))) qa_nil)))))))))))))))))))))))
theorem f_law (Z : ZT K mg) (XF : XFS P K mg C_BadNumber C_BadRow C_Refused I_BadNumber I_BadRow I_Refused) (C : C_law P w K mg base T) {f : Addr} {fd : FuncData} (hm : mg "law" = some (.ref f)) (F : Fun K "law" "law" s_law f fd) : Fn P w K mg base T 10 "law" s_law 1 sp_law :=
  fn_mk (ps := ["script"]) hm F (F.binds fun _ _ _ _ _ _ us hl => match us, hl with | [_], _ => rfl) rfl rfl (o_law Z XF C F)

end
theorem all_mk {l : PySem.W.OpenLaw} {w : World} {K : PySem.W.Frag} {h : Heap} {mg : Str → Option Value} {fa : Addr} (X : K.In h) (G : h.Ns mainGlobals mg) (hfa : mg "law" = some (.ref fa))
    {f0 : Addr} {od0 an0 : Option Addr} {sl0 : Array (Option Value)} {oc0 kV0 dc0 pm0 cd0 ct0 : Value}
    (a0 : PySem.W.nsIn K mainGlobals "is_int" = some (some (.ref f0)))
    (l0 : K.lookup f0 = some ⟨oc0, od0, .func (PySem.W.fnOf "is_int" "is_int" (defArgs s_is_int) (defBody s_is_int) (defScope s_is_int) .none kV0 dc0 pm0 an0 cd0 ct0), sl0⟩)
    (c0 : PySem.W.codeIn K cd0 "is_int" = true)
    (k0 : PySem.W.keepIn K (.ref f0) = true)
    {f1 : Addr} {od1 an1 : Option Addr} {sl1 : Array (Option Value)} {oc1 kV1 dc1 pm1 cd1 ct1 : Value}
    (a1 : PySem.W.nsIn K mainGlobals "is_from" = some (some (.ref f1)))
    (l1 : K.lookup f1 = some ⟨oc1, od1, .func (PySem.W.fnOf "is_from" "is_from" (defArgs s_is_from) (defBody s_is_from) (defScope s_is_from) .none kV1 dc1 pm1 an1 cd1 ct1), sl1⟩)
    (c1 : PySem.W.codeIn K cd1 "is_from" = true)
    (k1 : PySem.W.keepIn K (.ref f1) = true)
    {f2 : Addr} {od2 an2 : Option Addr} {sl2 : Array (Option Value)} {oc2 kV2 dc2 pm2 cd2 ct2 : Value}
    (a2 : PySem.W.nsIn K mainGlobals "is_tuple" = some (some (.ref f2)))
    (l2 : K.lookup f2 = some ⟨oc2, od2, .func (PySem.W.fnOf "is_tuple" "is_tuple" (defArgs s_is_tuple) (defBody s_is_tuple) (defScope s_is_tuple) .none kV2 dc2 pm2 an2 cd2 ct2), sl2⟩)
    (c2 : PySem.W.codeIn K cd2 "is_tuple" = true)
    (k2 : PySem.W.keepIn K (.ref f2) = true)
    {f3 : Addr} {od3 an3 : Option Addr} {sl3 : Array (Option Value)} {oc3 kV3 dc3 pm3 cd3 ct3 : Value}
    {C_Row : Addr}
    (aC_Row : PySem.W.nsIn K mainGlobals "Row" = some (some (.ref C_Row)))
    (pg_Row : PySem.W.plainGet K C_Row Str.empty = true)
    (hd_Row : PySem.W.hasDictIn K C_Row = true)
    (po_Row : PySem.W.plainOver K C_Row = true)
    (sa_Row : PySem.W.findIn K (.ref C_Row) "__setattr__" = some (some (.builtin "object.__setattr__")))
    (nf_Row_head : PySem.W.findIn K (.ref C_Row) "head" = some none)
    (nf_Row_tail : PySem.W.findIn K (.ref C_Row) "tail" = some none)
    (nf_Row_steps : PySem.W.findIn K (.ref C_Row) "steps" = some none)
    (a3 : PySem.W.findIn K (.ref C_Row) "__init__" = some (some (.ref f3)))
    (i3 : PySem.W.isFn K (.ref f3) = true)
    (mk_Row : PySem.W.makesIn K C_Row = true)
    (kc_Row : PySem.W.keepIn K (.ref C_Row) = true)
    (l3 : K.lookup f3 = some ⟨oc3, od3, .func (PySem.W.fnOf "__init__" "Row.__init__" (defArgs s_Row_init) (defBody s_Row_init) (defScope s_Row_init) .none kV3 dc3 pm3 an3 cd3 ct3), sl3⟩)
    (c3 : PySem.W.codeIn K cd3 "Row.__init__" = true)
    (k3 : PySem.W.keepIn K (.ref f3) = true)
    {f4 : Addr} {od4 an4 : Option Addr} {sl4 : Array (Option Value)} {oc4 kV4 dc4 pm4 cd4 ct4 : Value}
    (a4 : PySem.W.nsIn K mainGlobals "made_row" = some (some (.ref f4)))
    (l4 : K.lookup f4 = some ⟨oc4, od4, .func (PySem.W.fnOf "made_row" "made_row" (defArgs s_made_row) (defBody s_made_row) (defScope s_made_row) .none kV4 dc4 pm4 an4 cd4 ct4), sl4⟩)
    (c4 : PySem.W.codeIn K cd4 "made_row" = true)
    (k4 : PySem.W.keepIn K (.ref f4) = true)
    {f5 : Addr} {od5 an5 : Option Addr} {sl5 : Array (Option Value)} {oc5 kV5 dc5 pm5 cd5 ct5 : Value}
    (a5 : PySem.W.nsIn K mainGlobals "is_below" = some (some (.ref f5)))
    (l5 : K.lookup f5 = some ⟨oc5, od5, .func (PySem.W.fnOf "is_below" "is_below" (defArgs s_is_below) (defBody s_is_below) (defScope s_is_below) .none kV5 dc5 pm5 an5 cd5 ct5), sl5⟩)
    (c5 : PySem.W.codeIn K cd5 "is_below" = true)
    (k5 : PySem.W.keepIn K (.ref f5) = true)
    {f6 : Addr} {od6 an6 : Option Addr} {sl6 : Array (Option Value)} {oc6 kV6 dc6 pm6 cd6 ct6 : Value}
    (a6 : PySem.W.nsIn K mainGlobals "is_name" = some (some (.ref f6)))
    (l6 : K.lookup f6 = some ⟨oc6, od6, .func (PySem.W.fnOf "is_name" "is_name" (defArgs s_is_name) (defBody s_is_name) (defScope s_is_name) .none kV6 dc6 pm6 an6 cd6 ct6), sl6⟩)
    (c6 : PySem.W.codeIn K cd6 "is_name" = true)
    (k6 : PySem.W.keepIn K (.ref f6) = true)
    {f7 : Addr} {od7 an7 : Option Addr} {sl7 : Array (Option Value)} {oc7 kV7 dc7 pm7 cd7 ct7 : Value}
    (a7 : PySem.W.nsIn K mainGlobals "check_number" = some (some (.ref f7)))
    (l7 : K.lookup f7 = some ⟨oc7, od7, .func (PySem.W.fnOf "check_number" "check_number" (defArgs s_check_number) (defBody s_check_number) (defScope s_check_number) .none kV7 dc7 pm7 an7 cd7 ct7), sl7⟩)
    (c7 : PySem.W.codeIn K cd7 "check_number" = true)
    (k7 : PySem.W.keepIn K (.ref f7) = true)
    {f8 : Addr} {od8 an8 : Option Addr} {sl8 : Array (Option Value)} {oc8 kV8 dc8 pm8 cd8 ct8 : Value}
    (a8 : PySem.W.nsIn K mainGlobals "is_told" = some (some (.ref f8)))
    (l8 : K.lookup f8 = some ⟨oc8, od8, .func (PySem.W.fnOf "is_told" "is_told" (defArgs s_is_told) (defBody s_is_told) (defScope s_is_told) .none kV8 dc8 pm8 an8 cd8 ct8), sl8⟩)
    (c8 : PySem.W.codeIn K cd8 "is_told" = true)
    (k8 : PySem.W.keepIn K (.ref f8) = true)
    {f9 : Addr} {od9 an9 : Option Addr} {sl9 : Array (Option Value)} {oc9 kV9 dc9 pm9 cd9 ct9 : Value}
    (a9 : PySem.W.nsIn K mainGlobals "may_be_first" = some (some (.ref f9)))
    (l9 : K.lookup f9 = some ⟨oc9, od9, .func (PySem.W.fnOf "may_be_first" "may_be_first" (defArgs s_may_be_first) (defBody s_may_be_first) (defScope s_may_be_first) .none kV9 dc9 pm9 an9 cd9 ct9), sl9⟩)
    (c9 : PySem.W.codeIn K cd9 "may_be_first" = true)
    (k9 : PySem.W.keepIn K (.ref f9) = true)
    {f10 : Addr} {od10 an10 : Option Addr} {sl10 : Array (Option Value)} {oc10 kV10 dc10 pm10 cd10 ct10 : Value}
    (a10 : PySem.W.nsIn K mainGlobals "is_step" = some (some (.ref f10)))
    (l10 : K.lookup f10 = some ⟨oc10, od10, .func (PySem.W.fnOf "is_step" "is_step" (defArgs s_is_step) (defBody s_is_step) (defScope s_is_step) .none kV10 dc10 pm10 an10 cd10 ct10), sl10⟩)
    (c10 : PySem.W.codeIn K cd10 "is_step" = true)
    (k10 : PySem.W.keepIn K (.ref f10) = true)
    {f11 : Addr} {od11 an11 : Option Addr} {sl11 : Array (Option Value)} {oc11 kV11 dc11 pm11 cd11 ct11 : Value}
    (a11 : PySem.W.nsIn K mainGlobals "row_of" = some (some (.ref f11)))
    (l11 : K.lookup f11 = some ⟨oc11, od11, .func (PySem.W.fnOf "row_of" "row_of" (defArgs s_row_of) (defBody s_row_of) (defScope s_row_of) .none kV11 dc11 pm11 an11 cd11 ct11), sl11⟩)
    (c11 : PySem.W.codeIn K cd11 "row_of" = true)
    (k11 : PySem.W.keepIn K (.ref f11) = true)
    {f12 : Addr} {od12 an12 : Option Addr} {sl12 : Array (Option Value)} {oc12 kV12 dc12 pm12 cd12 ct12 : Value}
    (a12 : PySem.W.nsIn K mainGlobals "_law_box" = some (some (.ref f12)))
    (l12 : K.lookup f12 = some ⟨oc12, od12, .func (PySem.W.fnOf "_law_box" "_law_box" (defArgs s__law_box) (defBody s__law_box) (defScope s__law_box) .none kV12 dc12 pm12 an12 cd12 ct12), sl12⟩)
    (c12 : PySem.W.codeIn K cd12 "_law_box" = true)
    (k12 : PySem.W.keepIn K (.ref f12) = true)
    {f13 : Addr} {od13 an13 : Option Addr} {sl13 : Array (Option Value)} {oc13 kV13 dc13 pm13 cd13 ct13 : Value}
    (a13 : PySem.W.nsIn K mainGlobals "_law_take" = some (some (.ref f13)))
    (l13 : K.lookup f13 = some ⟨oc13, od13, .func (PySem.W.fnOf "_law_take" "_law_take" (defArgs s__law_take) (defBody s__law_take) (defScope s__law_take) .none kV13 dc13 pm13 an13 cd13 ct13), sl13⟩)
    (c13 : PySem.W.codeIn K cd13 "_law_take" = true)
    (k13 : PySem.W.keepIn K (.ref f13) = true)
    {f14 : Addr} {od14 an14 : Option Addr} {sl14 : Array (Option Value)} {oc14 kV14 dc14 pm14 cd14 ct14 : Value}
    (a14 : PySem.W.nsIn K mainGlobals "_law_pick" = some (some (.ref f14)))
    (l14 : K.lookup f14 = some ⟨oc14, od14, .func (PySem.W.fnOf "_law_pick" "_law_pick" (defArgs s__law_pick) (defBody s__law_pick) (defScope s__law_pick) .none kV14 dc14 pm14 an14 cd14 ct14), sl14⟩)
    (c14 : PySem.W.codeIn K cd14 "_law_pick" = true)
    (k14 : PySem.W.keepIn K (.ref f14) = true)
    {f15 : Addr} {od15 an15 : Option Addr} {sl15 : Array (Option Value)} {oc15 kV15 dc15 pm15 cd15 ct15 : Value}
    (a15 : PySem.W.nsIn K mainGlobals "_law_like" = some (some (.ref f15)))
    (l15 : K.lookup f15 = some ⟨oc15, od15, .func (PySem.W.fnOf "_law_like" "_law_like" (defArgs s__law_like) (defBody s__law_like) (defScope s__law_like) .none kV15 dc15 pm15 an15 cd15 ct15), sl15⟩)
    (c15 : PySem.W.codeIn K cd15 "_law_like" = true)
    (k15 : PySem.W.keepIn K (.ref f15) = true)
    {f16 : Addr} {od16 an16 : Option Addr} {sl16 : Array (Option Value)} {oc16 kV16 dc16 pm16 cd16 ct16 : Value}
    (a16 : PySem.W.nsIn K mainGlobals "_law_above" = some (some (.ref f16)))
    (l16 : K.lookup f16 = some ⟨oc16, od16, .func (PySem.W.fnOf "_law_above" "_law_above" (defArgs s__law_above) (defBody s__law_above) (defScope s__law_above) .none kV16 dc16 pm16 an16 cd16 ct16), sl16⟩)
    (c16 : PySem.W.codeIn K cd16 "_law_above" = true)
    (k16 : PySem.W.keepIn K (.ref f16) = true)
    {f17 : Addr} {od17 an17 : Option Addr} {sl17 : Array (Option Value)} {oc17 kV17 dc17 pm17 cd17 ct17 : Value}
    (a17 : PySem.W.nsIn K mainGlobals "_law_state" = some (some (.ref f17)))
    (l17 : K.lookup f17 = some ⟨oc17, od17, .func (PySem.W.fnOf "_law_state" "_law_state" (defArgs s__law_state) (defBody s__law_state) (defScope s__law_state) .none kV17 dc17 pm17 an17 cd17 ct17), sl17⟩)
    (c17 : PySem.W.codeIn K cd17 "_law_state" = true)
    (k17 : PySem.W.keepIn K (.ref f17) = true)
    {f18 : Addr} {od18 an18 : Option Addr} {sl18 : Array (Option Value)} {oc18 kV18 dc18 pm18 cd18 ct18 : Value}
    (a18 : PySem.W.nsIn K mainGlobals "_law_number" = some (some (.ref f18)))
    (l18 : K.lookup f18 = some ⟨oc18, od18, .func (PySem.W.fnOf "_law_number" "_law_number" (defArgs s__law_number) (defBody s__law_number) (defScope s__law_number) .none kV18 dc18 pm18 an18 cd18 ct18), sl18⟩)
    (c18 : PySem.W.codeIn K cd18 "_law_number" = true)
    (k18 : PySem.W.keepIn K (.ref f18) = true)
    {f19 : Addr} {od19 an19 : Option Addr} {sl19 : Array (Option Value)} {oc19 kV19 dc19 pm19 cd19 ct19 : Value}
    (a19 : PySem.W.nsIn K mainGlobals "_law_deed" = some (some (.ref f19)))
    (l19 : K.lookup f19 = some ⟨oc19, od19, .func (PySem.W.fnOf "_law_deed" "_law_deed" (defArgs s__law_deed) (defBody s__law_deed) (defScope s__law_deed) .none kV19 dc19 pm19 an19 cd19 ct19), sl19⟩)
    (c19 : PySem.W.codeIn K cd19 "_law_deed" = true)
    (k19 : PySem.W.keepIn K (.ref f19) = true)
    {f20 : Addr} {od20 an20 : Option Addr} {sl20 : Array (Option Value)} {oc20 kV20 dc20 pm20 cd20 ct20 : Value}
    (a20 : PySem.W.nsIn K mainGlobals "_law_like" = some (some (.ref f20)))
    (l20 : K.lookup f20 = some ⟨oc20, od20, .func (PySem.W.fnOf "_law_like" "_law_like" (defArgs s__law_like_h) (defBody s__law_like_h) (defScope s__law_like_h) .none kV20 dc20 pm20 an20 cd20 ct20), sl20⟩)
    (c20 : PySem.W.codeIn K cd20 "_law_like" = true)
    (k20 : PySem.W.keepIn K (.ref f20) = true)
    {f21 : Addr} {od21 an21 : Option Addr} {sl21 : Array (Option Value)} {oc21 kV21 dc21 pm21 cd21 ct21 : Value}
    (a21 : PySem.W.findIn K (.ref C_Row) "told" = some (some (.ref f21)))
    (i21 : PySem.W.isFn K (.ref f21) = true)
    (l21 : K.lookup f21 = some ⟨oc21, od21, .func (PySem.W.fnOf "told" "Row.told" (defArgs s_Row_told) (defBody s_Row_told) (defScope s_Row_told) .none kV21 dc21 pm21 an21 cd21 ct21), sl21⟩)
    (c21 : PySem.W.codeIn K cd21 "Row.told" = true)
    (k21 : PySem.W.keepIn K (.ref f21) = true)
    {f22 : Addr} {od22 an22 : Option Addr} {sl22 : Array (Option Value)} {oc22 kV22 dc22 pm22 cd22 ct22 : Value}
    (a22 : PySem.W.findIn K (.ref C_Row) "steps_from" = some (some (.ref f22)))
    (i22 : PySem.W.isFn K (.ref f22) = true)
    (l22 : K.lookup f22 = some ⟨oc22, od22, .func (PySem.W.fnOf "steps_from" "Row.steps_from" (defArgs s_Row_steps_from) (defBody s_Row_steps_from) (defScope s_Row_steps_from) .none kV22 dc22 pm22 an22 cd22 ct22), sl22⟩)
    (c22 : PySem.W.codeIn K cd22 "Row.steps_from" = true)
    (k22 : PySem.W.keepIn K (.ref f22) = true)
    {f23 : Addr} {od23 an23 : Option Addr} {sl23 : Array (Option Value)} {oc23 kV23 dc23 pm23 cd23 ct23 : Value}
    (a23 : PySem.W.findIn K (.ref C_Row) "acked" = some (some (.ref f23)))
    (i23 : PySem.W.isFn K (.ref f23) = true)
    (l23 : K.lookup f23 = some ⟨oc23, od23, .func (PySem.W.fnOf "acked" "Row.acked" (defArgs s_Row_acked) (defBody s_Row_acked) (defScope s_Row_acked) .none kV23 dc23 pm23 an23 cd23 ct23), sl23⟩)
    (c23 : PySem.W.codeIn K cd23 "Row.acked" = true)
    (k23 : PySem.W.keepIn K (.ref f23) = true)
    {f24 : Addr} {od24 an24 : Option Addr} {sl24 : Array (Option Value)} {oc24 kV24 dc24 pm24 cd24 ct24 : Value}
    (a24 : PySem.W.nsIn K mainGlobals "_law_take_in" = some (some (.ref f24)))
    (l24 : K.lookup f24 = some ⟨oc24, od24, .func (PySem.W.fnOf "_law_take_in" "_law_take_in" (defArgs s__law_take_in) (defBody s__law_take_in) (defScope s__law_take_in) .none kV24 dc24 pm24 an24 cd24 ct24), sl24⟩)
    (c24 : PySem.W.codeIn K cd24 "_law_take_in" = true)
    (k24 : PySem.W.keepIn K (.ref f24) = true)
    {f25 : Addr} {od25 an25 : Option Addr} {sl25 : Array (Option Value)} {oc25 kV25 dc25 pm25 cd25 ct25 : Value}
    (a25 : PySem.W.nsIn K mainGlobals "_law_due" = some (some (.ref f25)))
    (l25 : K.lookup f25 = some ⟨oc25, od25, .func (PySem.W.fnOf "_law_due" "_law_due" (defArgs s__law_due) (defBody s__law_due) (defScope s__law_due) .none kV25 dc25 pm25 an25 cd25 ct25), sl25⟩)
    (c25 : PySem.W.codeIn K cd25 "_law_due" = true)
    (k25 : PySem.W.keepIn K (.ref f25) = true)
    {f26 : Addr} {od26 an26 : Option Addr} {sl26 : Array (Option Value)} {oc26 kV26 dc26 pm26 cd26 ct26 : Value}
    (a26 : PySem.W.findIn K (.ref C_Row) "state" = some (some (.ref f26)))
    (i26 : PySem.W.isFn K (.ref f26) = true)
    (l26 : K.lookup f26 = some ⟨oc26, od26, .func (PySem.W.fnOf "state" "Row.state" (defArgs s_Row_state) (defBody s_Row_state) (defScope s_Row_state) .none kV26 dc26 pm26 an26 cd26 ct26), sl26⟩)
    (c26 : PySem.W.codeIn K cd26 "Row.state" = true)
    (k26 : PySem.W.keepIn K (.ref f26) = true)
    {f27 : Addr} {od27 an27 : Option Addr} {sl27 : Array (Option Value)} {oc27 kV27 dc27 pm27 cd27 ct27 : Value}
    (a27 : PySem.W.findIn K (.ref C_Row) "since" = some (some (.ref f27)))
    (i27 : PySem.W.isFn K (.ref f27) = true)
    (l27 : K.lookup f27 = some ⟨oc27, od27, .func (PySem.W.fnOf "since" "Row.since" (defArgs s_Row_since) (defBody s_Row_since) (defScope s_Row_since) .none kV27 dc27 pm27 an27 cd27 ct27), sl27⟩)
    (c27 : PySem.W.codeIn K cd27 "Row.since" = true)
    (k27 : PySem.W.keepIn K (.ref f27) = true)
    {f28 : Addr} {od28 an28 : Option Addr} {sl28 : Array (Option Value)} {oc28 kV28 dc28 pm28 cd28 ct28 : Value}
    (a28 : PySem.W.nsIn K mainGlobals "_law_since" = some (some (.ref f28)))
    (l28 : K.lookup f28 = some ⟨oc28, od28, .func (PySem.W.fnOf "_law_since" "_law_since" (defArgs s__law_since) (defBody s__law_since) (defScope s__law_since) .none kV28 dc28 pm28 an28 cd28 ct28), sl28⟩)
    (c28 : PySem.W.codeIn K cd28 "_law_since" = true)
    (k28 : PySem.W.keepIn K (.ref f28) = true)
    {f29 : Addr} {od29 an29 : Option Addr} {sl29 : Array (Option Value)} {oc29 kV29 dc29 pm29 cd29 ct29 : Value}
    (a29 : PySem.W.findIn K (.ref C_Row) "least" = some (some (.ref f29)))
    (i29 : PySem.W.isFn K (.ref f29) = true)
    (l29 : K.lookup f29 = some ⟨oc29, od29, .func (PySem.W.fnOf "least" "Row.least" (defArgs s_Row_least) (defBody s_Row_least) (defScope s_Row_least) .none kV29 dc29 pm29 an29 cd29 ct29), sl29⟩)
    (c29 : PySem.W.codeIn K cd29 "Row.least" = true)
    (k29 : PySem.W.keepIn K (.ref f29) = true)
    {f30 : Addr} {od30 an30 : Option Addr} {sl30 : Array (Option Value)} {oc30 kV30 dc30 pm30 cd30 ct30 : Value}
    (a30 : PySem.W.findIn K (.ref C_Row) "newest" = some (some (.ref f30)))
    (i30 : PySem.W.isFn K (.ref f30) = true)
    (l30 : K.lookup f30 = some ⟨oc30, od30, .func (PySem.W.fnOf "newest" "Row.newest" (defArgs s_Row_newest) (defBody s_Row_newest) (defScope s_Row_newest) .none kV30 dc30 pm30 an30 cd30 ct30), sl30⟩)
    (c30 : PySem.W.codeIn K cd30 "Row.newest" = true)
    (k30 : PySem.W.keepIn K (.ref f30) = true)
    {f31 : Addr} {od31 an31 : Option Addr} {sl31 : Array (Option Value)} {oc31 kV31 dc31 pm31 cd31 ct31 : Value}
    (a31 : PySem.W.nsIn K mainGlobals "_law_answers" = some (some (.ref f31)))
    (l31 : K.lookup f31 = some ⟨oc31, od31, .func (PySem.W.fnOf "_law_answers" "_law_answers" (defArgs s__law_answers) (defBody s__law_answers) (defScope s__law_answers) .none kV31 dc31 pm31 an31 cd31 ct31), sl31⟩)
    (c31 : PySem.W.codeIn K cd31 "_law_answers" = true)
    (k31 : PySem.W.keepIn K (.ref f31) = true)
    {f32 : Addr} {od32 an32 : Option Addr} {sl32 : Array (Option Value)} {oc32 kV32 dc32 pm32 cd32 ct32 : Value}
    (a32 : PySem.W.nsIn K mainGlobals "_law_least" = some (some (.ref f32)))
    (l32 : K.lookup f32 = some ⟨oc32, od32, .func (PySem.W.fnOf "_law_least" "_law_least" (defArgs s__law_least) (defBody s__law_least) (defScope s__law_least) .none kV32 dc32 pm32 an32 cd32 ct32), sl32⟩)
    (c32 : PySem.W.codeIn K cd32 "_law_least" = true)
    (k32 : PySem.W.keepIn K (.ref f32) = true)
    {f33 : Addr} {od33 an33 : Option Addr} {sl33 : Array (Option Value)} {oc33 kV33 dc33 pm33 cd33 ct33 : Value}
    (a33 : PySem.W.nsIn K mainGlobals "_law_whole" = some (some (.ref f33)))
    (l33 : K.lookup f33 = some ⟨oc33, od33, .func (PySem.W.fnOf "_law_whole" "_law_whole" (defArgs s__law_whole) (defBody s__law_whole) (defScope s__law_whole) .none kV33 dc33 pm33 an33 cd33 ct33), sl33⟩)
    (c33 : PySem.W.codeIn K cd33 "_law_whole" = true)
    (k33 : PySem.W.keepIn K (.ref f33) = true)
    {f34 : Addr} {od34 an34 : Option Addr} {sl34 : Array (Option Value)} {oc34 kV34 dc34 pm34 cd34 ct34 : Value}
    (a34 : PySem.W.nsIn K mainGlobals "begun_row" = some (some (.ref f34)))
    (l34 : K.lookup f34 = some ⟨oc34, od34, .func (PySem.W.fnOf "begun_row" "begun_row" (defArgs s_begun_row) (defBody s_begun_row) (defScope s_begun_row) .none kV34 dc34 pm34 an34 cd34 ct34), sl34⟩)
    (c34 : PySem.W.codeIn K cd34 "begun_row" = true)
    (k34 : PySem.W.keepIn K (.ref f34) = true)
    {f35 : Addr} {od35 an35 : Option Addr} {sl35 : Array (Option Value)} {oc35 kV35 dc35 pm35 cd35 ct35 : Value}
    (a35 : PySem.W.nsIn K mainGlobals "_law_drawn" = some (some (.ref f35)))
    (l35 : K.lookup f35 = some ⟨oc35, od35, .func (PySem.W.fnOf "_law_drawn" "_law_drawn" (defArgs s__law_drawn) (defBody s__law_drawn) (defScope s__law_drawn) .none kV35 dc35 pm35 an35 cd35 ct35), sl35⟩)
    (c35 : PySem.W.codeIn K cd35 "_law_drawn" = true)
    (k35 : PySem.W.keepIn K (.ref f35) = true)
    {f36 : Addr} {od36 an36 : Option Addr} {sl36 : Array (Option Value)} {oc36 kV36 dc36 pm36 cd36 ct36 : Value}
    (a36 : PySem.W.nsIn K mainGlobals "_law_near" = some (some (.ref f36)))
    (l36 : K.lookup f36 = some ⟨oc36, od36, .func (PySem.W.fnOf "_law_near" "_law_near" (defArgs s__law_near) (defBody s__law_near) (defScope s__law_near) .none kV36 dc36 pm36 an36 cd36 ct36), sl36⟩)
    (c36 : PySem.W.codeIn K cd36 "_law_near" = true)
    (k36 : PySem.W.keepIn K (.ref f36) = true)
    {f37 : Addr} {od37 an37 : Option Addr} {sl37 : Array (Option Value)} {oc37 kV37 dc37 pm37 cd37 ct37 : Value}
    (a37 : PySem.W.nsIn K mainGlobals "_law_apart" = some (some (.ref f37)))
    (l37 : K.lookup f37 = some ⟨oc37, od37, .func (PySem.W.fnOf "_law_apart" "_law_apart" (defArgs s__law_apart) (defBody s__law_apart) (defScope s__law_apart) .none kV37 dc37 pm37 an37 cd37 ct37), sl37⟩)
    (c37 : PySem.W.codeIn K cd37 "_law_apart" = true)
    (k37 : PySem.W.keepIn K (.ref f37) = true)
    {f38 : Addr} {od38 an38 : Option Addr} {sl38 : Array (Option Value)} {oc38 kV38 dc38 pm38 cd38 ct38 : Value}
    (a38 : PySem.W.findIn K (.ref C_Row) "copied" = some (some (.ref f38)))
    (i38 : PySem.W.isFn K (.ref f38) = true)
    (l38 : K.lookup f38 = some ⟨oc38, od38, .func (PySem.W.fnOf "copied" "Row.copied" (defArgs s_Row_copied) (defBody s_Row_copied) (defScope s_Row_copied) .none kV38 dc38 pm38 an38 cd38 ct38), sl38⟩)
    (c38 : PySem.W.codeIn K cd38 "Row.copied" = true)
    (k38 : PySem.W.keepIn K (.ref f38) = true)
    {f39 : Addr} {od39 an39 : Option Addr} {sl39 : Array (Option Value)} {oc39 kV39 dc39 pm39 cd39 ct39 : Value}
    (a39 : PySem.W.nsIn K mainGlobals "law" = some (some (.ref f39)))
    (l39 : K.lookup f39 = some ⟨oc39, od39, .func (PySem.W.fnOf "law" "law" (defArgs s_law) (defBody s_law) (defScope s_law) .none kV39 dc39 pm39 an39 cd39 ct39), sl39⟩)
    (c39 : PySem.W.codeIn K cd39 "law" = true)
    (k39 : PySem.W.keepIn K (.ref f39) = true)
    (z_abs : PySem.W.nsIn K mainGlobals "abs" = some none)
    (z_bool : PySem.W.nsIn K mainGlobals "bool" = some none)
    (z_enumerate : PySem.W.nsIn K mainGlobals "enumerate" = some none)
    (z_int : PySem.W.nsIn K mainGlobals "int" = some none)
    (z_isinstance : PySem.W.nsIn K mainGlobals "isinstance" = some none)
    (z_len : PySem.W.nsIn K mainGlobals "len" = some none)
    (z_list : PySem.W.nsIn K mainGlobals "list" = some none)
    (z_max : PySem.W.nsIn K mainGlobals "max" = some none)
    (z_min : PySem.W.nsIn K mainGlobals "min" = some none)
    (z_range : PySem.W.nsIn K mainGlobals "range" = some none)
    (z_sorted : PySem.W.nsIn K mainGlobals "sorted" = some none)
    (z_str : PySem.W.nsIn K mainGlobals "str" = some none)
    (z_tuple : PySem.W.nsIn K mainGlobals "tuple" = some none)
    (z_zip : PySem.W.nsIn K mainGlobals "zip" = some none)
    {t_MOST_NAME : Tok}
    (g_MOST_NAME : PySem.W.nsIn K mainGlobals "MOST_NAME" = some (some (.int 31 t_MOST_NAME)))
    (z_super : PySem.W.nsIn K mainGlobals "super" = some none)
    (z_top : (l.prog.main.scope.names.lookup ("super" : Str)).isSome = false)
    {C_BadNumber C_BadRow C_Refused I_BadNumber I_BadRow I_Refused O_own : Addr}
    (gx_BadNumber : PySem.W.nsIn K mainGlobals "BadNumber" = some (some (.ref C_BadNumber)))
    (gx_BadRow : PySem.W.nsIn K mainGlobals "BadRow" = some (some (.ref C_BadRow)))
    (gx_Refused : PySem.W.nsIn K mainGlobals "Refused" = some (some (.ref C_Refused)))
    {nm_BadNumber q_BadNumber qq_BadNumber file_BadNumber msg_BadNumber : Str} {N_BadNumber cda_BadNumber cc_BadNumber : Addr} {bs_BadNumber sub_BadNumber : List Value} {sn_BadNumber : List Str} {ab_BadNumber : Bool} {col_BadNumber : Option Bool} {dd_BadNumber od_BadNumber cdd_BadNumber cld_BadNumber an_BadNumber : Option Addr} {k0_BadNumber k1_BadNumber k2_BadNumber k3_BadNumber k5_BadNumber : Option Value} {oc_BadNumber doc_BadNumber pm_BadNumber ct_BadNumber ccl_BadNumber cl_BadNumber : Value} {osl_BadNumber ccs_BadNumber csl_BadNumber : Array (Option Value)} {vs_BadNumber : Array Value} {tf_BadNumber : Tok} {z1_BadNumber z2_BadNumber y1_BadNumber y2_BadNumber y3_BadNumber y4_BadNumber y5_BadNumber y6_BadNumber y7_BadNumber y8_BadNumber y9_BadNumber y10_BadNumber : Pos} {j_BadNumber : Nat}
    (xL_BadNumber : K.lookup C_BadNumber = some (excClassObj nm_BadNumber q_BadNumber C_BadNumber N_BadNumber bs_BadNumber [.ref O_own, .type "ValueError", .type "Exception", .type "BaseException", .type "object"] true sn_BadNumber sub_BadNumber ab_BadNumber col_BadNumber dd_BadNumber k0_BadNumber k1_BadNumber k2_BadNumber k3_BadNumber k5_BadNumber "ValueError.__new__"))
    (iC_BadNumber : PySem.W.findIn K (.ref C_BadNumber) "__init__" = some (some (.ref I_BadNumber)))
    (hb_BadNumber : ownB K C_BadNumber I_BadNumber "at" = true)
    (li_BadNumber : K.lookup I_BadNumber = some ⟨oc_BadNumber, od_BadNumber, .func (PySem.W.ksFn "__init__" qq_BadNumber (xArgs "at" ⟨z1_BadNumber, z2_BadNumber, y1_BadNumber, y2_BadNumber, y3_BadNumber, y4_BadNumber, y5_BadNumber, y6_BadNumber, y7_BadNumber, y8_BadNumber, y9_BadNumber, y10_BadNumber, j_BadNumber⟩) (xBody "at" msg_BadNumber ⟨z1_BadNumber, z2_BadNumber, y1_BadNumber, y2_BadNumber, y3_BadNumber, y4_BadNumber, y5_BadNumber, y6_BadNumber, y7_BadNumber, y8_BadNumber, y9_BadNumber, y10_BadNumber, j_BadNumber⟩) (xScope "at") .none .none doc_BadNumber pm_BadNumber an_BadNumber (.ref cda_BadNumber) ct_BadNumber cc_BadNumber), osl_BadNumber⟩)
    (hl_BadNumber : (y3_BadNumber.endLine == y5_BadNumber.line) = true)
    (ci_BadNumber : PySem.W.codeIn K (.ref cda_BadNumber) qq_BadNumber = true)
    (l2_BadNumber : K.lookup cda_BadNumber = some ⟨ccl_BadNumber, cdd_BadNumber, .fields vs_BadNumber, ccs_BadNumber⟩)
    (l3_BadNumber : vs_BadNumber[2]? = some (.str file_BadNumber tf_BadNumber))
    (l4_BadNumber : ((l.prog.main.file : Str) == file_BadNumber) = true)
    (l5_BadNumber : K.lookup cc_BadNumber = some ⟨cl_BadNumber, cld_BadNumber, .cell (some (.ref C_BadNumber)), csl_BadNumber⟩)
    {nm_BadRow q_BadRow qq_BadRow file_BadRow msg_BadRow : Str} {N_BadRow cda_BadRow cc_BadRow : Addr} {bs_BadRow sub_BadRow : List Value} {sn_BadRow : List Str} {ab_BadRow : Bool} {col_BadRow : Option Bool} {dd_BadRow od_BadRow cdd_BadRow cld_BadRow an_BadRow : Option Addr} {k0_BadRow k1_BadRow k2_BadRow k3_BadRow k5_BadRow : Option Value} {oc_BadRow doc_BadRow pm_BadRow ct_BadRow ccl_BadRow cl_BadRow : Value} {osl_BadRow ccs_BadRow csl_BadRow : Array (Option Value)} {vs_BadRow : Array Value} {tf_BadRow : Tok} {z1_BadRow z2_BadRow y1_BadRow y2_BadRow y3_BadRow y4_BadRow y5_BadRow y6_BadRow y7_BadRow y8_BadRow y9_BadRow y10_BadRow : Pos} {j_BadRow : Nat}
    (xL_BadRow : K.lookup C_BadRow = some (excClassObj nm_BadRow q_BadRow C_BadRow N_BadRow bs_BadRow [.ref O_own, .type "ValueError", .type "Exception", .type "BaseException", .type "object"] true sn_BadRow sub_BadRow ab_BadRow col_BadRow dd_BadRow k0_BadRow k1_BadRow k2_BadRow k3_BadRow k5_BadRow "ValueError.__new__"))
    (iC_BadRow : PySem.W.findIn K (.ref C_BadRow) "__init__" = some (some (.ref I_BadRow)))
    (hb_BadRow : ownB K C_BadRow I_BadRow "at" = true)
    (li_BadRow : K.lookup I_BadRow = some ⟨oc_BadRow, od_BadRow, .func (PySem.W.ksFn "__init__" qq_BadRow (xArgs "at" ⟨z1_BadRow, z2_BadRow, y1_BadRow, y2_BadRow, y3_BadRow, y4_BadRow, y5_BadRow, y6_BadRow, y7_BadRow, y8_BadRow, y9_BadRow, y10_BadRow, j_BadRow⟩) (xBody "at" msg_BadRow ⟨z1_BadRow, z2_BadRow, y1_BadRow, y2_BadRow, y3_BadRow, y4_BadRow, y5_BadRow, y6_BadRow, y7_BadRow, y8_BadRow, y9_BadRow, y10_BadRow, j_BadRow⟩) (xScope "at") .none .none doc_BadRow pm_BadRow an_BadRow (.ref cda_BadRow) ct_BadRow cc_BadRow), osl_BadRow⟩)
    (hl_BadRow : (y3_BadRow.endLine == y5_BadRow.line) = true)
    (ci_BadRow : PySem.W.codeIn K (.ref cda_BadRow) qq_BadRow = true)
    (l2_BadRow : K.lookup cda_BadRow = some ⟨ccl_BadRow, cdd_BadRow, .fields vs_BadRow, ccs_BadRow⟩)
    (l3_BadRow : vs_BadRow[2]? = some (.str file_BadRow tf_BadRow))
    (l4_BadRow : ((l.prog.main.file : Str) == file_BadRow) = true)
    (l5_BadRow : K.lookup cc_BadRow = some ⟨cl_BadRow, cld_BadRow, .cell (some (.ref C_BadRow)), csl_BadRow⟩)
    {nm_Refused q_Refused qq_Refused file_Refused msg_Refused : Str} {N_Refused cda_Refused cc_Refused : Addr} {bs_Refused sub_Refused : List Value} {sn_Refused : List Str} {ab_Refused : Bool} {col_Refused : Option Bool} {dd_Refused od_Refused cdd_Refused cld_Refused an_Refused : Option Addr} {k0_Refused k1_Refused k2_Refused k3_Refused k5_Refused : Option Value} {oc_Refused doc_Refused pm_Refused ct_Refused ccl_Refused cl_Refused : Value} {osl_Refused ccs_Refused csl_Refused : Array (Option Value)} {vs_Refused : Array Value} {tf_Refused : Tok} {z1_Refused z2_Refused y1_Refused y2_Refused y3_Refused y4_Refused y5_Refused y6_Refused y7_Refused y8_Refused y9_Refused y10_Refused : Pos} {j_Refused : Nat}
    (xL_Refused : K.lookup C_Refused = some (excClassObj nm_Refused q_Refused C_Refused N_Refused bs_Refused [.ref O_own, .type "ValueError", .type "Exception", .type "BaseException", .type "object"] true sn_Refused sub_Refused ab_Refused col_Refused dd_Refused k0_Refused k1_Refused k2_Refused k3_Refused k5_Refused "ValueError.__new__"))
    (iC_Refused : PySem.W.findIn K (.ref C_Refused) "__init__" = some (some (.ref I_Refused)))
    (hb_Refused : ownB K C_Refused I_Refused "value" = true)
    (li_Refused : K.lookup I_Refused = some ⟨oc_Refused, od_Refused, .func (PySem.W.ksFn "__init__" qq_Refused (xArgs "value" ⟨z1_Refused, z2_Refused, y1_Refused, y2_Refused, y3_Refused, y4_Refused, y5_Refused, y6_Refused, y7_Refused, y8_Refused, y9_Refused, y10_Refused, j_Refused⟩) (xBody "value" msg_Refused ⟨z1_Refused, z2_Refused, y1_Refused, y2_Refused, y3_Refused, y4_Refused, y5_Refused, y6_Refused, y7_Refused, y8_Refused, y9_Refused, y10_Refused, j_Refused⟩) (xScope "value") .none .none doc_Refused pm_Refused an_Refused (.ref cda_Refused) ct_Refused cc_Refused), osl_Refused⟩)
    (hl_Refused : (y3_Refused.endLine == y5_Refused.line) = true)
    (ci_Refused : PySem.W.codeIn K (.ref cda_Refused) qq_Refused = true)
    (l2_Refused : K.lookup cda_Refused = some ⟨ccl_Refused, cdd_Refused, .fields vs_Refused, ccs_Refused⟩)
    (l3_Refused : vs_Refused[2]? = some (.str file_Refused tf_Refused))
    (l4_Refused : ((l.prog.main.file : Str) == file_Refused) = true)
    (l5_Refused : K.lookup cc_Refused = some ⟨cl_Refused, cld_Refused, .cell (some (.ref C_Refused)), csl_Refused⟩)
    (xt_BadNumber_Refused : PySem.W.exmOne K (.ref C_Refused) (.ref C_BadNumber) = some false)
    (xt_BadNumber_BadRow : PySem.W.exmOne K (.ref C_BadRow) (.ref C_BadNumber) = some false)
    (xt_BadNumber_BadNumber : PySem.W.exmOne K (.ref C_BadNumber) (.ref C_BadNumber) = some true)
    (xt_Refused_Refused : PySem.W.exmOne K (.ref C_Refused) (.ref C_Refused) = some true)
    (xt_Refused_BadRow : PySem.W.exmOne K (.ref C_BadRow) (.ref C_Refused) = some false)
    (xt_Refused_BadNumber : PySem.W.exmOne K (.ref C_BadNumber) (.ref C_Refused) = some false)
    (xf_value_Refused : PySem.W.findIn K (.ref C_Refused) "value" = some none)
    (xfb_Refused : xfB K C_Refused = true) :
    ∃ fd : FuncData, (∀ (s : Shared) (v : Value), BindsTo s fd ⟨[v], []⟩ [("script", v)]) ∧ ∀ base : Heap, K.In base → base.Ns mainGlobals mg → FnOk l.prog w K mg base (L2N.CX l.prog w) 10 fa fd ["script"] (spOf K [] 1 sp_law) := by
  have e := hfa.symm.trans (PySem.W.mg_of X G a39)
  cases e
  have cl_Row : Cls K C_Row := ⟨pg_Row, hd_Row, po_Row, sa_Row⟩
  have ic_Row : InsC K 0 [0, 1, 2] := insC_mk (a := C_Row) aC_Row cl_Row (List.forall_mem_cons.mpr ⟨nf_Row_head, (List.forall_mem_cons.mpr ⟨nf_Row_tail, (List.forall_mem_cons.mpr ⟨nf_Row_steps, (fun _ z => nomatch z)⟩)⟩)⟩)
  have zcls : InsCs K clsL := (List.forall_mem_cons.mpr ⟨ic_Row, (fun _ z => nomatch z)⟩)
  have Z : ZT K mg := ⟨PySem.W.mg_none_of X G z_abs, PySem.W.mg_none_of X G z_bool, PySem.W.mg_none_of X G z_enumerate, PySem.W.mg_none_of X G z_int, PySem.W.mg_none_of X G z_isinstance, PySem.W.mg_none_of X G z_len, PySem.W.mg_none_of X G z_list, PySem.W.mg_none_of X G z_max, PySem.W.mg_none_of X G z_min, PySem.W.mg_none_of X G z_range, PySem.W.mg_none_of X G z_sorted, PySem.W.mg_none_of X G z_str, PySem.W.mg_none_of X G z_tuple, PySem.W.mg_none_of X G z_zip, ⟨_, PySem.W.mg_of X G g_MOST_NAME⟩, zcls⟩
  have XF : XFS l.prog K mg C_BadNumber C_BadRow C_Refused I_BadNumber I_BadRow I_Refused :=
    { z_super := PySem.W.mg_none_of X G z_super,
      z_top := z_top,
      g_BadNumber := PySem.W.mg_of X G gx_BadNumber,
      n_BadNumber := gx_BadNumber,
      g_BadRow := PySem.W.mg_of X G gx_BadRow,
      n_BadRow := gx_BadRow,
      g_Refused := PySem.W.mg_of X G gx_Refused,
      n_Refused := gx_Refused,
      t_BadNumber := own_mk xL_BadNumber iC_BadNumber hb_BadNumber li_BadNumber hl_BadNumber ci_BadNumber l2_BadNumber l3_BadNumber l4_BadNumber l5_BadNumber,
      t_BadRow := own_mk xL_BadRow iC_BadRow hb_BadRow li_BadRow hl_BadRow ci_BadRow l2_BadRow l3_BadRow l4_BadRow l5_BadRow,
      t_Refused := own_mk xL_Refused iC_Refused hb_Refused li_Refused hl_Refused ci_Refused l2_Refused l3_Refused l4_Refused l5_Refused,
      x_BadNumber := (xtest_cons gx_BadNumber xt_BadNumber_BadNumber (xtest_cons gx_BadRow xt_BadNumber_BadRow (xtest_cons gx_Refused xt_BadNumber_Refused xtest_nil))),
      x_Refused := (xtest_cons gx_BadNumber xt_Refused_BadNumber (xtest_cons gx_BadRow xt_Refused_BadRow (xtest_cons gx_Refused xt_Refused_Refused xtest_nil))),
      f_Refused_value := (xfields_cons gx_Refused xfb_Refused xf_value_Refused xfields_nil) }
  refine ⟨PySem.W.fnOf "law" "law" (defArgs s_law) (defBody s_law) (defScope s_law) .none kV39 dc39 pm39 an39 cd39 ct39, fun s v => .of_eq rfl, fun base _ _ => ?_⟩
  have h_is_int := f_is_int (P := l.prog) (w := w) (base := base) (T := []) Z XF ⟨trivial⟩ (PySem.W.mg_of X G a0) (fun_mk (st := s_is_int) l0 c0 k0)
  have h_is_from := f_is_from (P := l.prog) (w := w) (base := base) (T := []) Z XF ⟨h_is_int⟩ (PySem.W.mg_of X G a1) (fun_mk (st := s_is_from) l1 c1 k1)
  have h_is_tuple := f_is_tuple (P := l.prog) (w := w) (base := base) (T := []) Z XF ⟨trivial⟩ (PySem.W.mg_of X G a2) (fun_mk (st := s_is_tuple) l2 c2 k2)
  have h_Row_init := f_Row_init (P := l.prog) (w := w) (base := base) (T := []) Z XF ⟨trivial⟩ (PySem.W.mg_of X G aC_Row) aC_Row ⟨mk_Row, a3, i3, kc_Row⟩ (fun_mk (st := s_Row_init) l3 c3 k3)
  have h_made_row := f_made_row (P := l.prog) (w := w) (base := base) (T := []) Z XF ⟨h_Row_init⟩ (PySem.W.mg_of X G a4) (fun_mk (st := s_made_row) l4 c4 k4)
  have h_is_below := f_is_below (P := l.prog) (w := w) (base := base) (T := []) Z XF ⟨trivial⟩ (PySem.W.mg_of X G a5) (fun_mk (st := s_is_below) l5 c5 k5)
  have h_is_name := f_is_name (P := l.prog) (w := w) (base := base) (T := []) Z XF ⟨h_is_from⟩ (PySem.W.mg_of X G a6) (fun_mk (st := s_is_name) l6 c6 k6)
  have h_check_number := f_check_number (P := l.prog) (w := w) (base := base) (T := []) Z XF ⟨h_is_int.mono (by decide), h_is_name⟩ (PySem.W.mg_of X G a7) (fun_mk (st := s_check_number) l7 c7 k7)
  have h_is_told := f_is_told (P := l.prog) (w := w) (base := base) (T := []) Z XF ⟨h_check_number⟩ (PySem.W.mg_of X G a8) (fun_mk (st := s_is_told) l8 c8 k8)
  have h_may_be_first := f_may_be_first (P := l.prog) (w := w) (base := base) (T := []) Z XF ⟨trivial⟩ (PySem.W.mg_of X G a9) (fun_mk (st := s_may_be_first) l9 c9 k9)
  have h_is_step := f_is_step (P := l.prog) (w := w) (base := base) (T := []) Z XF ⟨h_is_from.mono (by decide), h_is_tuple.mono (by decide), h_is_below.mono (by decide), h_is_told, h_may_be_first.mono (by decide)⟩ (PySem.W.mg_of X G a10) (fun_mk (st := s_is_step) l10 c10 k10)
  have h_row_of := f_row_of (P := l.prog) (w := w) (base := base) (T := []) Z XF ⟨h_is_from.mono (by decide), h_is_tuple.mono (by decide), h_made_row.mono (by decide), h_is_step⟩ (PySem.W.mg_of X G a11) (fun_mk (st := s_row_of) l11 c11 k11)
  have h__law_box := f__law_box (P := l.prog) (w := w) (base := base) (T := []) Z XF ⟨trivial⟩ (PySem.W.mg_of X G a12) (fun_mk (st := s__law_box) l12 c12 k12)
  have h__law_take := f__law_take (P := l.prog) (w := w) (base := base) (T := []) Z XF ⟨trivial⟩ (PySem.W.mg_of X G a13) (fun_mk (st := s__law_take) l13 c13 k13)
  have h__law_pick := f__law_pick (P := l.prog) (w := w) (base := base) (T := []) Z XF ⟨h__law_take⟩ (PySem.W.mg_of X G a14) (fun_mk (st := s__law_pick) l14 c14 k14)
  have h__law_like := f__law_like (P := l.prog) (w := w) (base := base) (T := []) Z XF ⟨trivial⟩ (PySem.W.mg_of X G a15) (fun_mk (st := s__law_like) l15 c15 k15)
  have h__law_above := f__law_above (P := l.prog) (w := w) (base := base) (T := []) Z XF ⟨trivial⟩ (PySem.W.mg_of X G a16) (fun_mk (st := s__law_above) l16 c16 k16)
  have h__law_state := f__law_state (P := l.prog) (w := w) (base := base) (T := []) Z XF ⟨h__law_above⟩ (PySem.W.mg_of X G a17) (fun_mk (st := s__law_state) l17 c17 k17)
  have h__law_number := f__law_number (P := l.prog) (w := w) (base := base) (T := []) Z XF ⟨h__law_take.mono (by decide), h__law_pick⟩ (PySem.W.mg_of X G a18) (fun_mk (st := s__law_number) l18 c18 k18)
  have h__law_deed := f__law_deed (P := l.prog) (w := w) (base := base) (T := []) Z XF ⟨h__law_take.mono (by decide), h__law_pick.mono (by decide), h__law_number⟩ (PySem.W.mg_of X G a19) (fun_mk (st := s__law_deed) l19 c19 k19)
  have h__law_like_h := f__law_like_h (P := l.prog) (w := w) (base := base) (T := []) Z XF ⟨trivial⟩ (PySem.W.mg_of X G a20) (fun_mk (st := s__law_like_h) l20 c20 k20)
  have h_Row_told := f_Row_told (P := l.prog) (w := w) (base := base) (T := []) Z XF ⟨h_is_below⟩ (PySem.W.mg_of X G aC_Row) aC_Row cl_Row ⟨a21, i21, k21⟩ (fun_mk (st := s_Row_told) l21 c21 k21)
  have h_Row_steps_from := f_Row_steps_from (P := l.prog) (w := w) (base := base) (T := []) Z XF ⟨trivial⟩ (PySem.W.mg_of X G aC_Row) aC_Row cl_Row ⟨a22, i22, k22⟩ (fun_mk (st := s_Row_steps_from) l22 c22 k22)
  have h_Row_acked := f_Row_acked (P := l.prog) (w := w) (base := base) (T := []) Z XF ⟨h_Row_steps_from⟩ (PySem.W.mg_of X G aC_Row) aC_Row cl_Row ⟨a23, i23, k23⟩ (fun_mk (st := s_Row_acked) l23 c23 k23)
  have h__law_take_in := f__law_take_in (P := l.prog) (w := w) (base := base) (T := []) Z XF ⟨h__law_like_h.mono (by decide), h_Row_told, h_Row_acked⟩ (PySem.W.mg_of X G a24) (fun_mk (st := s__law_take_in) l24 c24 k24)
  have h__law_due := f__law_due (P := l.prog) (w := w) (base := base) (T := []) Z XF ⟨trivial⟩ (PySem.W.mg_of X G a25) (fun_mk (st := s__law_due) l25 c25 k25)
  have h_Row_state := f_Row_state (P := l.prog) (w := w) (base := base) (T := []) Z XF ⟨trivial⟩ (PySem.W.mg_of X G aC_Row) aC_Row cl_Row ⟨a26, i26, k26⟩ (fun_mk (st := s_Row_state) l26 c26 k26)
  have h_Row_since := f_Row_since (P := l.prog) (w := w) (base := base) (T := []) Z XF ⟨h_Row_steps_from⟩ (PySem.W.mg_of X G aC_Row) aC_Row cl_Row ⟨a27, i27, k27⟩ (fun_mk (st := s_Row_since) l27 c27 k27)
  have h__law_since := f__law_since (P := l.prog) (w := w) (base := base) (T := []) Z XF ⟨h_Row_since⟩ (PySem.W.mg_of X G a28) (fun_mk (st := s__law_since) l28 c28 k28)
  have h_Row_least := f_Row_least (P := l.prog) (w := w) (base := base) (T := []) Z XF ⟨trivial⟩ (PySem.W.mg_of X G aC_Row) aC_Row cl_Row ⟨a29, i29, k29⟩ (fun_mk (st := s_Row_least) l29 c29 k29)
  have h_Row_newest := f_Row_newest (P := l.prog) (w := w) (base := base) (T := []) Z XF ⟨trivial⟩ (PySem.W.mg_of X G aC_Row) aC_Row cl_Row ⟨a30, i30, k30⟩ (fun_mk (st := s_Row_newest) l30 c30 k30)
  have h__law_answers := f__law_answers (P := l.prog) (w := w) (base := base) (T := []) Z XF ⟨h__law_since, h_Row_least.mono (by decide), h_Row_newest.mono (by decide), h_Row_state.mono (by decide)⟩ (PySem.W.mg_of X G a31) (fun_mk (st := s__law_answers) l31 c31 k31)
  have h__law_least := f__law_least (P := l.prog) (w := w) (base := base) (T := []) Z XF ⟨trivial⟩ (PySem.W.mg_of X G a32) (fun_mk (st := s__law_least) l32 c32 k32)
  have h__law_whole := f__law_whole (P := l.prog) (w := w) (base := base) (T := []) Z XF ⟨h__law_state, h__law_least.mono (by decide)⟩ (PySem.W.mg_of X G a33) (fun_mk (st := s__law_whole) l33 c33 k33)
  have h_begun_row := f_begun_row (P := l.prog) (w := w) (base := base) (T := []) Z XF ⟨h_Row_init.mono (by decide), h_made_row⟩ (PySem.W.mg_of X G a34) (fun_mk (st := s_begun_row) l34 c34 k34)
  have h__law_drawn := f__law_drawn (P := l.prog) (w := w) (base := base) (T := []) Z XF ⟨h_Row_init.mono (by decide), h_begun_row, h__law_take.mono (by decide), h__law_pick.mono (by decide), h__law_number.mono (by decide), h__law_deed, h__law_take_in.mono (by decide), h__law_due.mono (by decide)⟩ (PySem.W.mg_of X G a35) (fun_mk (st := s__law_drawn) l35 c35 k35)
  have h__law_near := f__law_near (P := l.prog) (w := w) (base := base) (T := []) Z XF ⟨h__law_take.mono (by decide), h__law_pick⟩ (PySem.W.mg_of X G a36) (fun_mk (st := s__law_near) l36 c36 k36)
  have h__law_apart := f__law_apart (P := l.prog) (w := w) (base := base) (T := []) Z XF ⟨h__law_like, h__law_take_in.mono (by decide), h__law_since.mono (by decide), h_Row_least.mono (by decide)⟩ (PySem.W.mg_of X G a37) (fun_mk (st := s__law_apart) l37 c37 k37)
  have h_Row_copied := f_Row_copied (P := l.prog) (w := w) (base := base) (T := []) Z XF ⟨h_made_row⟩ (PySem.W.mg_of X G aC_Row) aC_Row cl_Row ⟨a38, i38, k38⟩ (fun_mk (st := s_Row_copied) l38 c38 k38)
  exact o_law (P := l.prog) (w := w) (base := base) (T := []) Z XF ⟨h_row_of.mono (by decide), h__law_box.mono (by decide), h__law_take.mono (by decide), h__law_pick.mono (by decide), h__law_like.mono (by decide), h__law_state.mono (by decide), h__law_deed.mono (by decide), h__law_take_in.mono (by decide), h__law_due.mono (by decide), h_Row_state.mono (by decide), h__law_answers.mono (by decide), h__law_whole.mono (by decide), h__law_drawn.mono (by decide), h__law_near.mono (by decide), h__law_apart, h_Row_copied.mono (by decide)⟩ (fun_mk (st := s_law) l39 c39 k39)
end Mp

set_option Elab.async false
set_option maxRecDepth 100000
set_option maxHeartbeats 4000000
set_option pp.deepTerms.threshold 6
set_option pp.maxSteps 3000
namespace Mp
open PySem PySem.Spec PyProof.Rows L2

local macro_rules | `(tactic| walk_at "sd") => `(tactic| first | (exact Eq.refl _) | (exact True.intro) | omega | decide | assumption | (exact le_line (Nat.le_of_ble_eq_true rfl)) | (exact le_line (by omega)) | (exact le_line (by simp; omega)) | (exact lt_line (by omega)) | (exact ⟨lt_line (by omega), trivial, by omega⟩) | (exact ⟨lt_line (by omega), by omega, by omega⟩) | (exact Or.inl ⟨by omega, by omega⟩) | (exact Or.inr ⟨by omega, by omega⟩) | (exact ⟨by omega, by omega⟩) | (exact ⟨by omega, log_small (by omega) (by omega)⟩) | (exact ⟨by omega, by decide⟩))
local macro_rules | `(tactic| walk_at "go") => `(tactic| (repeat ((conv => whnf); first | refine And.intro (by walk_at "sd") ?_ | simp only [put_apply, if_true, if_false, LH.its, SH.its, seqOf, *])); try (conv => whnf))

abbrev tI (l : List Int) : PV := .tup (l.map PV.int)
mutual
def deepP : PV → Nat
  | .tup xs => deepsP xs + 1
  | _ => 0
def deepsP : List PV → Nat
  | [] => 0
  | x :: xs => max (deepP x) (deepsP xs)
end
theorem deep_mem : ∀ {xs : List PV} {x : PV}, x ∈ xs → deepP x ≤ deepsP xs
  | y :: ys, x, h => by
    unfold deepsP
    rcases List.mem_cons.mp h with e | h
    · subst e; exact Nat.le_max_left _ _
    · exact Nat.le_trans (deep_mem h) (Nat.le_max_right _ _)
theorem datsP_mem {xs : List PV} {x : PV} (h : datsP xs = true) (m : x ∈ xs) : datP x = true := by
  rw [datsP_all, List.all_eq_true] at h
  exact h x m
theorem intsOf_tI (l : List Int) : intsOf (l.map PV.int) = some l := by
  induction l with
  | nil => rfl
  | cons x l ih =>
    show (intsOf (l.map PV.int)).map (x :: ·) = _
    rw [ih]; rfl

theorem t_take {b : Addr} {m : Int} {S : Sto} {P : QK PV} {E : QX} (hb : Bx S b) (h0 : 0 < m) (hm : m < 2 ^ 64) (k : ∀ d S', 0 ≤ d → d < m → Ext b S S' → Bx S' b → P (.int d) S') : sp__law_take [.ref b, .int m] S P E := by
  obtain ⟨x, y, hb, hx, hy, hz⟩ := hb
  unfold sp__law_take
  walk_at "go"
  refine iteB_dec (fun h => ?_) (fun h => ?_)
  · walk_at "go"
    exact Dr.self (k _ _ (Int.emod_nonneg _ (by omega)) (Int.emod_lt_of_pos _ h0) Ext.put ⟨x / m, y, put_same, Int.ediv_nonneg hx (by omega), hy, hz⟩)
  · walk_at "go"
    exact Dr.self (k _ _ (Int.emod_nonneg _ (by omega)) (Int.emod_lt_of_pos _ h0) Ext.put ⟨x, _, put_same, hx, by omega, by omega⟩)
theorem at_pick {xs : List PV} {d : Int} (h1 : 0 ≤ d) (h2 : d < xs.length) : atI xs d = some (xs[d.toNat]'(by omega)) := by
  unfold atI ixN
  rw [if_pos h1, if_pos h2]
  simp [show d.toNat < xs.length by omega]
theorem t_pick {b p : Addr} {xs : List PV} {S : Sto} {P : QK PV} {E : QX} (hb : Bx S b) (hp : S p = some (.lst xs)) (hn : p ≠ b) (h0 : 0 < xs.length) (hm : xs.length < 2 ^ 64) (k : ∀ v S', v ∈ xs → Ext b S S' → Bx S' b → P v S') : sp__law_pick [.ref b, .ref p] S P E := by
  unfold sp__law_pick
  walk_at "go"
  refine t_take hb (by omega) (by omega) fun d S' h1 h2 ex hb' => ?_
  have hp' := ex _ _ hn hp
  walk_at "go"
  rw [at_pick h1 h2]
  exact Dr.self (k _ _ (List.getElem_mem _) ex hb')
/-- of a new list: what was there stands -/
theorem t_pickN {b p : Addr} {xs : List PV} {S : Sto} {P : QK PV} {E : QX} (hb : Bx S b) (hp : S p = none) (h0 : 0 < xs.length) (hm : xs.length < 2 ^ 64) (k : ∀ v S', v ∈ xs → Ext b S S' → Bx S' b → P v S') : sp__law_pick [.ref b, .ref p] (put S p (.lst xs)) P E :=
  t_pick (hb.sub (Sub.new hp)) put_same (hb.ne hp).symm h0 hm fun v S' hv x hb' => k v S' hv ((Ext.new hp).trans x) hb'
theorem at_int {ns : List Int} {k : Int} (h0 : 0 ≤ k) (h1 : k < (ns.map PV.int).length) : ∃ z, atI (ns.map PV.int) k = some (.int z) := by
  have h2 : k.toNat < ns.length := by rw [List.length_map] at h1; omega
  refine ⟨ns[k.toNat], ?_⟩
  unfold atI ixN
  rw [if_pos h0, if_pos h1]
  simp [h2]
theorem t_box {ns : List Int} {k : Int} {S : Sto} {P : QK PV} {E : QX} (h0 : 0 ≤ k) (h1 : k ≤ 1000000) (h : ∀ p S', S p = none → Sub S S' → Bx S' p → P (.ref p) S') : sp__law_box [.lsv (ns.map PV.int), .int k] S P E := by
  have fin : ∀ c : Int, 0 ≤ c → ∀ g : Int, (g = c ∨ g = 0) → ∀ p, S p = none → P (.ref p) (put S p (.lst [.int g, .int ((c % 2147483563 * 40014 + 3391 * k) % 2147483563 + 1)])) := fun c hc g hg p hp =>
    h p _ hp (Sub.new hp) ⟨g, _, put_same, by omega, by omega, by omega⟩
  unfold sp__law_box
  walk_at "go"
  refine iteB_dec (fun hk => ?_) (fun hk => ?_)
  · walk_at "go"
    obtain ⟨z, hz⟩ := at_int h0 hk
    rw [hz]
    walk_at "go"
    refine iteB_dec (fun hg => ?_) (fun hg => ?_)
    · walk_at "go"
      intro p hp
      exact Dr.self (fin (if z < 0 then -z else z) (by split <;> omega) _ (.inl rfl) p hp)
    · walk_at "go"
      intro p hp
      exact Dr.self (fin (if z < 0 then -z else z) (by split <;> omega) _ (.inr rfl) p hp)
  · walk_at "go"
    refine iteB_dec (fun hl => ?_) (fun hl => ?_)
    · walk_at "go"
      obtain ⟨z, hz⟩ := at_int (ns := ns) (k := k % ((ns.map PV.int).length : Nat)) (Int.emod_nonneg _ (by omega)) (Int.emod_lt_of_pos _ hl)
      rw [hz]
      walk_at "go"
      have hc : 0 ≤ 7537 * k + 3391 + (if z < 0 then -z else z) % 2147483563 * 51088 := by omega
      refine iteB_dec (fun hg => ?_) (fun hg => ?_)
      · walk_at "go"
        intro p hp
        exact Dr.self (fin _ hc _ (.inl rfl) p hp)
      · walk_at "go"
        intro p hp
        exact Dr.self (fin _ hc _ (.inr rfl) p hp)
    · walk_at "go"
      have hc : 0 ≤ 7537 * k + 3391 := by omega
      refine iteB_dec (fun hg => ?_) (fun hg => ?_)
      · walk_at "go"
        intro p hp
        exact Dr.self (fin _ hc _ (.inl rfl) p hp)
      · walk_at "go"
        intro p hp
        exact Dr.self (fin _ hc _ (.inr rfl) p hp)
/-- a number or none -/
def oI : Option (List Int) → PV
  | none => .non
  | some l => tI l
/-- below: none is above all -/
def belowO : Option (List Int) → Option (List Int) → Bool
  | none, _ => false
  | some _, none => true
  | some l, some m => HT.lexLt l m
theorem t_below {x y : Option (List Int)} {S : Sto} {P : QK PV} {E : QX} (h : P (.bl (belowO x y)) S) : sp_is_below [oI x, oI y] S P E := by
  unfold sp_is_below
  cases x with
  | none =>
    walk_at "go"
    exact Dr.self h
  | some l =>
    cases y with
    | none =>
      walk_at "go"
      exact Dr.self h
    | some m =>
      walk_at "go"
      exact ⟨l, m, intsOf_tI l, intsOf_tI m, Dr.self h⟩
theorem dat_oI (o : Option (List Int)) : datP (oI o) = true := by
  cases o with
  | none => rfl
  | some l =>
    show datsP (l.map PV.int) = true
    rw [datsP_all]
    simp
    intro x _
    rfl
theorem deep_oI (o : Option (List Int)) : deepP (oI o) < 8 := by
  cases o with
  | none => decide
  | some l =>
    show deepsP (l.map PV.int) + 1 < 8
    have e : deepsP (l.map PV.int) = 0 := by
      induction l with
      | nil => rfl
      | cons x l ih => show max 0 (deepsP (l.map PV.int)) = 0; rw [ih]; rfl
    omega
end Mp

set_option Elab.async false
set_option linter.all false
set_option maxRecDepth 100000
set_option maxHeartbeats 4000000
set_option pp.deepTerms.threshold 6
set_option pp.maxSteps 3000
namespace Mp
open PySem PySem.Spec PyProof.Rows L2

local macro_rules | `(tactic| walk_at "sd") => `(tactic| first | (exact Eq.refl _) | (exact True.intro) | omega | decide | assumption | (exact le_line (Nat.le_of_ble_eq_true rfl)) | (exact le_line (by omega)) | (exact le_line (by simp; omega)) | (exact lt_line (by omega)) | (exact ⟨lt_line (by omega), trivial, by omega⟩) | (exact ⟨lt_line (by omega), by omega, by omega⟩) | (exact Or.inl ⟨by omega, by omega⟩) | (exact Or.inr ⟨by omega, by omega⟩) | (exact ⟨by omega, by omega⟩) | (exact ⟨by omega, log_small (by omega) (by omega)⟩) | (exact ⟨by omega, by decide⟩) | (exact ⟨Eq.refl _, by simp⟩) | (exact ⟨Eq.refl _, (by decide : (3 : Nat) < 1000)⟩))
local macro_rules | `(tactic| walk_at "go") => `(tactic| (repeat ((conv => whnf); first | refine And.intro (by walk_at "sd") ?_ | simp only [put_apply, if_true, if_false, LH.its, SH.its, seqOf, *])); try (conv => whnf))

/-! ### rows, plainly -/
abbrev Rp := Int × Option (List Int)
def rP (r : Rp) : PV := .tup [.int r.1, oI r.2]
abbrev rowF (h t : Int) (q : Addr) : Ob := .ins 0 [(0, .int h), (1, .int t), (2, .ref q)]
/-- which reports still count -/
def falls : List Rp → List Rp
  | [] => []
  | x :: r => if r.all (fun y => belowO x.2 y.2) then x :: falls r else falls r
theorem lex_tr : ∀ {x y z : List Int}, HT.lexLt x y = true → HT.lexLt y z = true → HT.lexLt x z = true
  | [], [], _, _, h => h
  | [], _ :: _, [], _, h => by cases h
  | [], _ :: _, _ :: _, _, _ => rfl
  | _ :: _, [], _, h, _ => by cases h
  | _ :: _, _ :: _, [], _, h => by cases h
  | a :: x, b :: y, c :: z, h1, h2 => by
    rw [HT.lexLt_cons] at h1 h2 ⊢
    by_cases e1 : a = b
    · subst e1
      rw [if_pos rfl] at h1
      by_cases e2 : a = c
      · subst e2
        rw [if_pos rfl] at h2 ⊢
        exact lex_tr h1 h2
      · rw [if_neg e2] at h2 ⊢
        exact h2
    · rw [if_neg e1] at h1
      have h1 := of_decide_eq_true h1
      by_cases e2 : b = c
      · subst e2
        rw [if_neg (by omega)]
        exact decide_eq_true h1
      · rw [if_neg e2] at h2
        have h2 := of_decide_eq_true h2
        rw [if_neg (by omega)]
        exact decide_eq_true (by omega)
theorem below_tr {x y z : Option (List Int)} (h1 : belowO x y = true) (h2 : belowO y z = true) : belowO x z = true := by
  cases x with
  | none => cases h1
  | some x =>
    cases y with
    | none => cases h2
    | some y =>
      cases z with
      | none => rfl
      | some z => exact lex_tr h1 h2
/-- each below all behind it -/
def asc : List Rp → Bool
  | [] => true
  | x :: r => r.all (fun y => belowO x.2 y.2) && asc r
theorem falls_sub : ∀ l : List Rp, ∀ x ∈ falls l, x ∈ l
  | [], x, h => h
  | y :: r, x, h => by
    unfold falls at h
    split at h
    · rcases List.mem_cons.mp h with e | h
      · exact List.mem_cons.mpr (.inl e)
      · exact List.mem_cons_of_mem _ (falls_sub r x h)
    · exact List.mem_cons_of_mem _ (falls_sub r x h)
theorem falls_asc : ∀ l : List Rp, asc (falls l) = true
  | [] => rfl
  | x :: r => by
    unfold falls
    split
    · rename_i h
      show ((falls r).all _ && asc (falls r)) = true
      rw [falls_asc r, Bool.and_true]
      rw [List.all_eq_true] at h ⊢
      exact fun y hy => h y (falls_sub r y hy)
    · exact falls_asc r
theorem asc_filter (f : Rp → Bool) : ∀ {l : List Rp}, asc l = true → asc (l.filter f) = true
  | [], _ => rfl
  | x :: r, h => by
    have h : (r.all (fun y => belowO x.2 y.2) && asc r) = true := h
    rw [Bool.and_eq_true] at h
    rw [List.filter_cons]
    split
    · show ((r.filter f).all _ && asc (r.filter f)) = true
      rw [asc_filter f h.2, Bool.and_true, List.all_eq_true]
      exact fun y hy => List.all_eq_true.mp h.1 y ((List.mem_filter.mp hy).1)
    · exact asc_filter f h.2
theorem falls_app (n : Rp) : ∀ l : List Rp, falls (l ++ [n]) = (falls l).filter (fun x => belowO x.2 n.2) ++ [n]
  | [] => rfl
  | x :: r => by
    show (if (r ++ [n]).all (fun y => belowO x.2 y.2) then x :: falls (r ++ [n]) else falls (r ++ [n])) = (if r.all (fun y => belowO x.2 y.2) then x :: falls r else falls r).filter _ ++ [n]
    rw [falls_app n r, List.all_append]
    by_cases h : r.all (fun y => belowO x.2 y.2) = true
    · rw [if_pos h, h, Bool.true_and, List.filter_cons]
      by_cases h2 : belowO x.2 n.2 = true
      · rw [if_pos h2, if_pos (by simp [h2])]; rfl
      · rw [if_neg h2, if_neg (by simp [h2])]
    · rw [if_neg h, if_neg (by simp [h])]
/-- what told takes away -/
def popB (n : Option (List Int)) (st : List Rp) : List Rp := st.filter (fun x => belowO x.2 n)
theorem popB_last {n : Option (List Int)} {u : List Rp} {x : Rp} (h : belowO x.2 n = false) : popB n (u ++ [x]) = popB n u := by
  unfold popB
  rw [List.filter_append, List.filter_cons_of_neg (by rw [h]; exact Bool.false_ne_true)]
  simp
theorem asc_last : ∀ {u : List Rp} {x y : Rp}, asc (u ++ [x]) = true → y ∈ u → belowO y.2 x.2 = true
  | z :: u, x, y, h, hy => by
    have h : ((u ++ [x]).all (fun y => belowO z.2 y.2) && asc (u ++ [x])) = true := h
    rw [Bool.and_eq_true] at h
    rcases List.mem_cons.mp hy with e | hy
    · subst e; exact List.all_eq_true.mp h.1 x (by simp)
    · exact asc_last h.2 hy
theorem asc_init : ∀ {u v : List Rp}, asc (u ++ v) = true → asc u = true
  | [], _, _ => rfl
  | z :: u, v, h => by
    have h : ((u ++ v).all (fun y => belowO z.2 y.2) && asc (u ++ v)) = true := h
    rw [Bool.and_eq_true] at h
    show (u.all _ && asc u) = true
    rw [asc_init h.2, Bool.and_true, List.all_eq_true]
    exact fun y hy => List.all_eq_true.mp h.1 y (List.mem_append_left _ hy)
theorem popB_all {n : Option (List Int)} {u : List Rp} {x : Rp} (ha : asc (u ++ [x]) = true) (h : belowO x.2 n = true) : popB n (u ++ [x]) = u ++ [x] := by
  unfold popB
  rw [List.filter_eq_self]
  intro y hy
  rcases List.mem_append.mp hy with hy | hy
  · exact below_tr (asc_last ha hy) h
  · rw [List.mem_singleton] at hy; subst hy; exact h
theorem atI_last {xs : List PV} {x : PV} : atI (xs ++ [x]) (-1) = some x := by
  unfold atI ixN
  have e : ((xs ++ [x]).length : Int) = xs.length + 1 := by simp
  rw [if_neg (by decide), e, if_pos (by omega)]
  simp
  rw [show (-1 + ((xs.length : Int) + 1)).toNat = xs.length by omega]
  simp

/-! ### rows, walked -/
theorem put_self {S : Sto} {a : Addr} {o : Ob} (h : S a = some o) : put S a o = S := by
  funext b
  rw [put_apply]
  split
  · rename_i e; rw [e, h]
  · rfl
section
variable {S : Sto} {P : QK PV} {E : QX} {p q : Addr} {hd tl : Int} {st : List Rp}
theorem t_told {s : Int} {n : Option (List Int)} (hp : S p = some (rowF hd tl q)) (hq : S q = some (.lst (st.map rP))) (hs : tl < s) (hl : st.length < 900) (ha : asc st = true)
    (h : P .non (put (put S q (.lst ((popB n st ++ [(s, n)]).map rP))) p (rowF hd s q))) : sp_Row_told [.ref p, .int s, oI n] S P E := by
  have hpq : p ≠ q := fun e => by rw [e, hq] at hp; cases hp
  have hqp := hpq.symm
  unfold sp_Row_told
  walk_at "go"
  refine iteB_dec (fun z => absurd z (by omega)) (fun _ => ?_)
  walk_at "go"
  refine qWhile_inv (fun τ S' => ∃ u : List Rp, τ = [some (.ref p), some (.int s), some (oI n)] ∧ S' = put S q (.lst (u.map rP)) ∧ asc u = true ∧ u.length < 900 ∧ popB n u = popB n st) (fun _ S' => match S' q with | some (.lst xs) => xs.length | _ => 0) ⟨st, rfl, (put_self hq).symm, ha, hl, rfl⟩ ?_
  rintro τ S' N ⟨u, rfl, rfl, ha, hl, hu⟩ hN
  have fin : popB n u = u → Dr P .non (put (put S q (.lst (u.map rP ++ [.tup [.int s, oI n]]))) p (rowF hd s q)) := fun e => by
    rw [← hu, e, List.map_append] at h
    exact Dr.self h
  rcases List.eq_nil_or_concat u with rfl | ⟨v, x, rfl⟩
  · have fin := fin rfl
    clear hN hu h
    walk_at "go"
    rw [put_put]
    exact fin
  · rw [List.concat_eq_append] at *
    walk_at "go"
    show iteB (decide _) _ _
    refine iteB_dec (fun hc => ?_) (fun hc => absurd (show (0 : Int) < (List.map rP (v ++ [x])).length by simp) hc)
    rw [List.map_append, show [x].map rP = [rP x] from rfl]
    walk_at "go"
    rw [atI_last]
    walk_at "go"
    refine t_below ?_
    cases hb : belowO x.2 n with
    | true =>
      have fin := fin (popB_all ha hb)
      clear hN hu h
      walk_at "go"
      refine And.intro (lt_line (by simp at hl ⊢; omega)) ?_
      rw [List.map_append] at fin
      walk_at "go"
      rw [put_put]
      exact fin
    | false =>
      rw [popB_last hb] at hu
      have hn := hN [some (.ref p), some (.int s), some (oI n)] (put S q (.lst (v.map rP))) ⟨v, rfl, rfl, asc_init ha, by simp at hl; omega, hu⟩ (by rw [put_same, put_same]; simp)
      clear fin h hN
      walk_at "go"
      rw [show (List.map rP v ++ [rP x])[(List.map rP v ++ [rP x]).length - 1]? = some (rP x) by simp]
      walk_at "go"
      rw [put_put, List.dropLast_concat]
      exact hn
theorem t_toldX {s : Int} {n : Option (List Int)} (hp : S p = some (rowF hd tl q)) (hs : s ≤ tl) (h : E ⟨"Refused", [("value", .int s)]⟩ S) : sp_Row_told [.ref p, .int s, oI n] S P E := by
  unfold sp_Row_told
  walk_at "go"
  exact Dr.self h
theorem t_steps {k : Int} (hp : S p = some (rowF hd tl q)) (hq : S q = some (.lst (st.map rP))) (hl : st.length < 900)
    (h : ∀ r, S r = none → P (.ref r) (put S r (.lst ((st.filter (fun x => decide (k ≤ x.1))).map rP)))) : sp_Row_steps_from [.ref p, .int k] S P E := by
  unfold sp_Row_steps_from
  walk_at "go"
  refine lcQ_pure (fun x => match x with | .tup (.int i :: _) => decide (k ≤ i) | _ => false) id (le_line (by simp; omega)) hq (fun x N M hx hN hM => ?_) ?_
  · obtain ⟨r, hr, rfl⟩ := List.mem_map.mp hx
    refine ⟨_, rfl, ?_⟩
    have hN : decide (k ≤ r.1) = true → N (rP r) S := hN
    have hM : decide (k ≤ r.1) = false → M S := hM
    walk_at "go"
    refine iteB_dec (fun z => ?_) (fun z => ?_)
    · exact hN (decide_eq_true z)
    · exact hM (decide_eq_false z)
  · intro r hr
    have e : (List.map rP st).filter (fun x => match x with | .tup (.int i :: _) => decide (k ≤ i) | _ => false) = (st.filter (fun x => decide (k ≤ x.1))).map rP := by
      rw [List.filter_map]; rfl
    rw [e, List.map_id]
    exact Dr.self (h r hr)
theorem t_ackedX {k : Int} (hp : S p = some (rowF hd tl q)) (hs : ¬ (hd < k ∧ k ≤ tl)) (h : E ⟨"Refused", [("value", .int k)]⟩ S) : sp_Row_acked [.ref p, .int k] S P E := by
  unfold sp_Row_acked
  walk_at "go"
  by_cases z : hd < k
  · rw [decide_eq_true z]
    walk_at "go"
    refine iteB_ndec (fun z2 => ?_) (fun z2 => absurd ⟨z, z2⟩ hs)
    walk_at "go"
    exact Dr.self h
  · rw [decide_eq_false z]
    walk_at "go"
    exact Dr.self h
theorem t_acked {k : Int} (hp : S p = some (rowF hd tl q)) (hq : S q = some (.lst (st.map rP))) (hl : st.length < 900) (h1 : hd < k) (h2 : k ≤ tl)
    (h : ∀ r, S r = none → P .non (put (put S r (.lst ((st.filter (fun x => decide (k ≤ x.1))).map rP))) p (rowF k tl r))) : sp_Row_acked [.ref p, .int k] S P E := by
  unfold sp_Row_acked
  walk_at "go"
  refine t_steps hp hq hl fun r hr => ?_
  have hpr := new_ne hp hr
  have h := h r hr
  walk_at "go"
  rw [put_put]
  exact Dr.self h
end


/-! ### like -/
/-- plain data, not too deep, not too wide -/
def Pl : Nat → PV → Prop
  | 0, _ => False
  | _ + 1, .non => True
  | _ + 1, .bl _ => True
  | _ + 1, .int _ => True
  | _ + 1, .str _ => True
  | n + 1, .tup xs => xs.length ≤ 900 ∧ ∀ x ∈ xs, Pl n x
  | _ + 1, _ => False
theorem pairs_mem {xs : List PV} {p : PV} (h : p ∈ pairsP xs xs) : ∃ y ∈ xs, p = .tup [y, y] := by
  induction xs with
  | nil => cases h
  | cons y ys ih =>
    have h : p ∈ PV.tup [y, y] :: pairsP ys ys := h
    rcases List.mem_cons.mp h with e | h
    · exact ⟨y, List.mem_cons_self, e⟩
    · obtain ⟨z, hz, e⟩ := ih h
      exact ⟨z, List.mem_cons_of_mem _ hz, e⟩
theorem pairs_len (xs : List PV) : (pairsP xs xs).length = xs.length := by unfold pairsP; simp
theorem t_likeF : ∀ (f : Nat) {x : PV} {S : Sto} {P : QK PV} {E : QX}, Pl f x → P (.bl true) S → spN 4 r__law_like f [x, x] S P E
  | 0, _, _, _, _, h, _ => h.elim
  | f + 1, .non, S, P, E, _, h => by
    rw [spN_succ]
    walk_at "go"
    exact Dr.self h
  | f + 1, .bl c, S, P, E, _, h => by
    rw [spN_succ]
    cases c <;> (walk_at "go"; exact Dr.self h)
  | f + 1, .int i, S, P, E, _, h => by
    rw [spN_succ]
    walk_at "go"
    exact Dr.self (by simpa using h)
  | f + 1, .str cs, S, P, E, _, h => by
    rw [spN_succ]
    walk_at "go"
    exact Dr.self (by simpa using h)
  | f + 1, .tup xs, S, P, E, hd, h => by
    obtain ⟨hl, hd⟩ : xs.length ≤ 900 ∧ ∀ x ∈ xs, Pl f x := hd
    rw [spN_succ]
    walk_at "go"
    refine lcQ_pure (fun _ => false) id (le_line (by rw [pairs_len]; omega)) ⟨trivial, trivial⟩ (fun p N M hp _ hM => ?_) ?_
    · obtain ⟨y, hy, rfl⟩ := pairs_mem hp
      refine ⟨_, rfl, ?_⟩
      have hM := hM rfl
      have hy := hd y hy
      clear hd hp
      walk_at "go"
      refine t_likeF f hy ?_
      walk_at "go"
    · rw [List.filter_eq_nil_iff.mpr fun _ _ => Bool.false_ne_true]
      intro a
      walk_at "go"
      intro b
      refine ⟨⟨rfl, rfl⟩, [], [], .nil, .nil, rfl, rfl, ?_⟩
      exact Dr.self h
theorem t_like {x y : PV} {S : Sto} {P : QK PV} {E : QX} (e : x = y) (hd : Pl 8 y) (h : P (.bl true) S) : sp__law_like [x, y] S P E := by
  subst e
  unfold sp__law_like
  exact t_likeF 8 hd h
theorem t_hotlike {v : Int} {S : Sto} {P : QK PV} {E : QX} (h : P (.bl true) S) : sp__law_like_h [.int v, .int v] S P E := by
  unfold sp__law_like_h
  walk_at "go"
  exact Dr.self (by simpa using h)
theorem nil_ints {l : List Int} {S : Sto} {Q : Bool → Prop} (h : Q l.isEmpty) : ∃ ds es, DatsS S (l.map PV.int) ds ∧ DatsS S [] es ∧ SeqAt.shaped (.list ds) = true ∧ SeqAt.shaped (.list es) = true ∧ Q (PyData.eqvAll ds es) := by
  have key : datsP (l.map PV.int) = true ∧ PyData.canLayAll0 (dsOf (l.map PV.int)) = true ∧ PyData.depthAll (dsOf (l.map PV.int)) = 0 := by
    clear h
    induction l with
    | nil => exact ⟨rfl, rfl, rfl⟩
    | cons x l ih => exact ⟨ih.1, ih.2.1, by show max 0 (PyData.depthAll (dsOf (l.map PV.int))) = 0; rw [ih.2.2]; rfl⟩
  refine ⟨dsOf (l.map PV.int), [], datsP_of key.1, .nil, ?_, by decide, ?_⟩
  · unfold SeqAt.shaped
    rw [Bool.and_eq_true]
    refine ⟨key.2.1, decide_eq_true ?_⟩
    show PyData.depthAll (dsOf (l.map PV.int)) + 1 ≤ 64
    rw [key.2.2]; decide
  · cases l with
    | nil => exact h
    | cons x l => exact h
theorem Sub.wr {S S' : Sto} {p : Addr} {o : Ob} (s : Sub S S') (n : S p = Option.none) : Sub S (put S' p o) := fun a u h => by
  rw [put_ne (new_ne h n)]
  exact s a u h
theorem Sub.nw {S S' : Sto} {p : Addr} {o : Ob} (s : Sub S S') (n : S' p = Option.none) : Sub S (put S' p o) := s.trans (Sub.new n)
theorem Sub.fin {S S' : Sto} {p : Addr} {o : Ob} (s : Sub S S') (h : S' p = some o) : Sub (put S p o) S' := fun a u e => by
  by_cases ha : a = p
  · subst ha; rw [put_same] at e; cases e; exact h
  · rw [put_ne ha] at e; exact s a u e
theorem falls_cons {x : Rp} {r : List Rp} : falls (x :: r) = if r.all (fun y => belowO x.2 y.2) then x :: falls r else falls r := rfl
structure Rw (S : Sto) (b p q r : Addr) (h t : Int) (reps : List Rp) : Prop where
  bx : Bx S b
  hp : S p = some (rowF h t q)
  hq : S q = some (.lst (((falls reps).filter (fun x => decide (h ≤ x.1))).map rP))
  hr : S r = some (.lst (reps.map rP))
  pb : p ≠ b
  qb : q ≠ b
  rb : r ≠ b
  pr : p ≠ r
  qr : q ≠ r
theorem Rw.ext {S S' : Sto} {b p q r : Addr} {h t : Int} {reps : List Rp} (R : Rw S b p q r h t reps) (x : Ext b S S') (hb : Bx S' b) : Rw S' b p q r h t reps :=
  ⟨hb, x.at R.pb R.hp, x.at R.qb R.hq, x.at R.rb R.hr, R.pb, R.qb, R.rb, R.pr, R.qr⟩
theorem Rw.box {S S' : Sto} {b b' p q r : Addr} {h t : Int} {reps : List Rp} (R : Rw S b p q r h t reps) (n : S b' = none) (x : Sub S S') (hb : Bx S' b') : Rw S' b' p q r h t reps :=
  ⟨hb, x _ _ R.hp, x _ _ R.hq, x _ _ R.hr, new_ne R.hp n, new_ne R.hq n, new_ne R.hr n, R.pr, R.qr⟩
theorem falls_len : ∀ l : List Rp, (falls l).length ≤ l.length
  | [] => Nat.le_refl _
  | x :: r => by
    rw [falls_cons]
    have := falls_len r
    split
    · simp; omega
    · simp; omega
def okR (reps : List Rp) : Prop := ∀ x ∈ reps, ∀ l, x.2 = some l → l.length ≤ 20
theorem Pl.oI {o : Option (List Int)} (h : ∀ l, o = some l → l.length ≤ 20) : Pl 5 (oI o) := by
  cases o with
  | none => exact trivial
  | some l =>
    refine ⟨by have := h l rfl; simp; omega, fun x hx => ?_⟩
    obtain ⟨i, _, rfl⟩ := List.mem_map.mp hx
    exact trivial
theorem falls_told {reps : List Rp} {h t : Int} {n : Option (List Int)} (ht : h ≤ t) : (falls (reps ++ [(t, n)])).filter (fun x => decide (h ≤ x.1)) = popB n ((falls reps).filter (fun x => decide (h ≤ x.1))) ++ [(t, n)] := by
  rw [falls_app, List.filter_append, List.filter_cons_of_pos (by simpa using ht)]
  unfold popB
  rw [List.filter_filter, List.filter_filter]
  congr 1
  refine List.filter_congr fun x _ => ?_
  rw [Bool.and_comm]
theorem t_rinit {S : Sto} {P : QK PV} {E : QX} {p : Addr} (hp : S p = some (.ins 0 [])) (h : ∀ q S', S q = none → S' p = some (rowF 0 0 q) → S' q = some (.lst []) → Ext p S S' → P .non S') : sp_Row_init [.ref p] S P E := by
  unfold sp_Row_init
  walk_at "go"
  intro q hq
  have hqp : q ≠ p := fun e => by rw [e, if_pos rfl] at hq; cases hq
  have hpq := hqp.symm
  have hq : S q = none := by rw [if_neg hqp, if_neg hqp] at hq; exact hq
  walk_at "go"
  refine Dr.self (h q _ hq put_same (by rw [put_ne hqp]; exact put_same) fun a o ha ho => ?_)
  rw [put_ne ha, put_ne (new_ne ho hq), put_ne ha, put_ne ha]
  exact ho

/-! ### numbers, judged -/
/-! ### values, their kinds -/
def okI (S : Sto) : PV → Prop
  | .non => True
  | .bl _ => True
  | .int _ => True
  | .str _ => True
  | .tup _ => True
  | .ref q => ∃ xs, S q = some (.lst xs)
  | _ => False
def isIntP : PV → Bool
  | .int _ => true
  | _ => false
theorem okI.ext {b : Addr} {S S' : Sto} {x : PV} (h : okI S x) (e : Ext b S S') (hb : Bx S' b) : okI S' x := by
  cases x with
  | ref q =>
    obtain ⟨xs, h⟩ := h
    by_cases hq : q = b
    · subst hq
      obtain ⟨x, y, e, _⟩ := hb
      exact ⟨_, e⟩
    · exact ⟨xs, e q _ hq h⟩
  | _ => exact h
theorem okI.put {S : Sto} {x : PV} {c : Addr} {ys : List PV} (h : okI S x) : okI (put S c (.lst ys)) x := by
  cases x with
  | ref q =>
    obtain ⟨xs, h⟩ := h
    by_cases hq : q = c
    · subst hq; exact ⟨_, put_same⟩
    · exact ⟨xs, by rw [put_ne hq]; exact h⟩
  | _ => exact h
theorem okI.kind {S : Sto} {x : PV} (h : okI S x) : ∃ k, kindOf x S = some k ∧ ((isIntP x = true ∧ isKind k "int" = true ∧ isKind k "bool" = false) ∨ (isIntP x = false ∧ isKind k "int" = false) ∨ (isIntP x = false ∧ isKind k "int" = true ∧ isKind k "bool" = true)) := by
  cases x with
  | non => exact ⟨_, rfl, .inr (.inl ⟨rfl, by decide⟩)⟩
  | bl c => exact ⟨_, rfl, .inr (.inr ⟨rfl, by decide, by decide⟩)⟩
  | int i => exact ⟨_, rfl, .inl ⟨rfl, by decide, by decide⟩⟩
  | str cs => exact ⟨_, rfl, .inr (.inl ⟨rfl, by decide⟩)⟩
  | tup xs => exact ⟨_, rfl, .inr (.inl ⟨rfl, by decide⟩)⟩
  | ref q =>
    obtain ⟨xs, h⟩ := h
    exact ⟨"list", by unfold kindOf; simp only; rw [h], .inr (.inl ⟨rfl, by decide⟩)⟩
  | _ => exact h.elim
theorem okI.notup {S : Sto} {x : PV} (h : okI S x) (hn : ∀ xs, x ≠ .tup xs) : ∃ k, kindOf x S = some k ∧ isKind k "tuple" = false := by
  cases x with
  | non => exact ⟨_, rfl, by decide⟩
  | bl c => exact ⟨_, rfl, by decide⟩
  | int i => exact ⟨_, rfl, by decide⟩
  | str cs => exact ⟨_, rfl, by decide⟩
  | tup xs => exact absurd rfl (hn xs)
  | ref q =>
    obtain ⟨xs, h⟩ := h
    exact ⟨"list", by unfold kindOf; simp only; rw [h], by decide⟩
  | _ => exact h.elim
def okV (S : Sto) (v : PV) : Prop := okI S v ∧ ∀ xs, v = .tup xs → xs.length ≤ 100 ∧ ∀ x ∈ xs, okI S x
theorem t_isint {x : PV} {S : Sto} {P : QK PV} {E : QX} (hx : okI S x) (h : P (.bl (isIntP x)) S) : sp_is_int [x] S P E := by
  obtain ⟨k, hk, h1 | h1 | h1⟩ := hx.kind
  · obtain ⟨h1, h2, h3⟩ := h1
    rw [h1] at h
    unfold sp_is_int
    walk_at "go"
    exact Dr.self h
  · obtain ⟨h1, h2⟩ := h1
    rw [h1] at h
    unfold sp_is_int
    walk_at "go"
    exact Dr.self h
  · obtain ⟨h1, h2, h3⟩ := h1
    rw [h1] at h
    unfold sp_is_int
    walk_at "go"
    exact Dr.self h
theorem t_isname {i : Int} {S : Sto} {P : QK PV} {E : QX} (h : P (.bl (decide (0 ≤ i ∧ i ≤ 31))) S) : sp_is_name [.int i] S P E := by
  unfold sp_is_name
  walk_at "go"
  unfold sp_is_from
  walk_at "go"
  refine t_isint (x := .int i) trivial ?_
  walk_at "go"
  refine Dr.self ?_
  by_cases h0 : 0 ≤ i
  · rw [decide_eq_true h0]
    walk_at "go"
    refine Dr.self ?_
    have e : decide (i ≤ 31) = decide (0 ≤ i ∧ i ≤ 31) := decide_eq_decide.mpr ⟨fun z => ⟨h0, z⟩, fun z => z.2⟩
    rw [e]
    exact h
  · rw [decide_eq_false h0]
    walk_at "go"
    refine Dr.self ?_
    rw [decide_eq_false (fun z => h0 z.1)] at h
    exact h
/-! ### the first fault -/
def badN : Nat → List PV → Option Nat
  | _, [] => none
  | k, x :: r => if isIntP x then badN (k + 1) r else some k
theorem badN_ints : ∀ {xs : List PV} {k : Nat}, badN k xs = none → ∃ l : List Int, xs = l.map PV.int
  | [], _, _ => ⟨[], rfl⟩
  | x :: r, k, h => by
    unfold badN at h
    cases x with
    | int i =>
      obtain ⟨l, e⟩ := badN_ints (k := k + 1) h
      exact ⟨i :: l, by rw [e]; rfl⟩
    | _ => cases h
theorem badN_of : ∀ (l : List Int) (k : Nat), badN k (l.map PV.int) = none
  | [], _ => rfl
  | x :: l, k => badN_of l (k + 1)
def fstI : List PV → Int
  | .int i :: _ => i
  | _ => 0
def lstI (xs : List PV) : Int := match xs.getLast? with
  | some (.int i) => i
  | _ => 0
def faultR (x y : Int) (n : Nat) : Option Int := if x < 0 then some 0 else if 0 ≤ y ∧ y ≤ 31 then none else some ((n : Int) - 1)
def faultT (xs : List PV) : Option Int := match badN 0 xs with
  | some i => some (i : Int)
  | none => faultR (fstI xs) (lstI xs) xs.length
def faultN : PV → Option Int
  | .tup xs => if xs.length < 2 then some (-1) else faultT xs
  | _ => some (-1)
theorem faultN_short {xs : List PV} (h : xs.length < 2) : faultN (.tup xs) = some (-1) := if_pos h
theorem faultN_long {xs : List PV} (h : 2 ≤ xs.length) : faultN (.tup xs) = faultT xs := if_neg (by omega)
theorem faultT_bad {xs : List PV} {i : Nat} (h : badN 0 xs = some i) : faultT xs = some (i : Int) := by unfold faultT; rw [h]
theorem faultT_ok {xs : List PV} (h : badN 0 xs = none) : faultT xs = faultR (fstI xs) (lstI xs) xs.length := by unfold faultT; rw [h]
def fP : Option Int → PV
  | none => .non
  | some i => .int i
theorem at_last {l : List Int} (h : 2 ≤ l.length) : atI (l.map PV.int) (-1) = some (.int (lstI (l.map PV.int))) ∧ atI (l.map PV.int) (((l.map PV.int).length : Int) - 1) = some (.int (lstI (l.map PV.int))) ∧ atI (l.map PV.int) 0 = some (.int (fstI (l.map PV.int))) := by
  have hl : l.length - 1 < l.length := by omega
  have e : lstI (l.map PV.int) = l[l.length - 1] := by
    unfold lstI
    rw [List.getLast?_eq_getElem?, List.getElem?_map]
    simp [hl]
  refine ⟨?_, ?_, ?_⟩
  · unfold atI ixN
    rw [if_neg (by omega), if_pos (by simp; omega), e]
    have e2 : ((-1 : Int) + ((l.map PV.int).length : Int)).toNat = l.length - 1 := by simp; omega
    first
      | (rw [e2]; simp [hl])
      | (simp [hl])
  · rw [e]
    exact atI_of (by simp; omega) (by simp)
  · cases l with
    | nil => simp at h
    | cons x l => exact atI_0
theorem t_check {v : PV} {S : Sto} {P : QK PV} {E : QX} (hv : okV S v) (h1 : faultN v = none → P v S) (h2 : ∀ i, faultN v = some i → E ⟨"BadNumber", [("at", .int i)]⟩ S) : sp_check_number [v] S P E := by
  obtain ⟨hi, ht⟩ := hv
  unfold sp_check_number
  by_cases hn : ∀ xs, v ≠ .tup xs
  · obtain ⟨k, hk, g2⟩ := hi.notup hn
    have e : faultN v = some (-1) := by
      cases v with
      | tup xs => exact absurd rfl (hn xs)
      | _ => rfl
    have h2 := h2 _ e
    clear ht hi hn e h1
    walk_at "go"
    exact Dr.self h2
  · obtain ⟨xs, rfl⟩ : ∃ xs, v = .tup xs := by
      cases v with
      | tup xs => exact ⟨xs, rfl⟩
      | _ => exact absurd (fun xs z => nomatch z) hn
    obtain ⟨hl, hx⟩ := ht xs rfl
    clear ht hi hn
    walk_at "go"
    refine iteB_dec (fun g2 => ?_) (fun g2 => ?_)
    · have h2 := h2 (-1) (faultN_short (by omega))
      clear h1
      walk_at "go"
      exact Dr.self h2
    · have g2 : 2 ≤ xs.length := by omega
      rw [faultN_long g2] at h1 h2
      have k1 : ∀ i : Nat, badN 0 xs = some i → E ⟨"BadNumber", [("at", .int i)]⟩ S := fun i z => h2 i (faultT_bad z)
      walk_at "go"
      refine forQ_at (fun r τ S' => ∃ (j : Nat) (rest : List PV) (v1 v2 : Option PV), r = enumP j rest ∧ τ = [some (.tup xs), v1, v2] ∧ S' = S ∧ badN j rest = badN 0 xs ∧ ∀ x ∈ rest, okI S x) ⟨0, xs, none, none, rfl, rfl, rfl, rfl, hx⟩ (fun q r τ S' N ⟨j, rest, v1, v2, e1, e2, e3, e4, e5⟩ hN => ?_) fun τ S' ⟨j, rest, v1, v2, e1, e2, e3, e4, e5⟩ => ?_
      · subst e2; subst e3
        cases rest with
        | nil => cases e1
        | cons x rest =>
          have e1 : q :: r = .tup [.int j, x] :: enumP (j + 1) rest := e1
          injection e1 with e1 e6
          subst e1; subst e6
          have ox := e5 x (List.mem_cons_self ..)
          have fin : ∀ v1 v2, isIntP x = true → N [some (.tup xs), v1, v2] S' := fun v1 v2 z => hN _ _ ⟨j + 1, rest, v1, v2, rfl, rfl, rfl, (show badN j (x :: rest) = badN (j + 1) rest from if_pos z).symm.trans e4, fun y hy => e5 y (List.mem_cons_of_mem _ hy)⟩ trivial
          have fin2 : isIntP x = false → E ⟨"BadNumber", [("at", .int j)]⟩ S' := fun z => k1 j (e4.symm.trans (if_neg (by rw [z]; exact Bool.false_ne_true)))
          clear hN h1 h2 k1 e4 e5 hx
          walk_at "go"
          refine t_isint ox ?_
          cases hz : isIntP x with
          | true =>
            walk_at "go"
            exact fin _ _ hz
          | false =>
            walk_at "go"
            exact Dr.self (fin2 hz)
      · subst e2; subst e3
        cases rest with
        | cons x rest => cases e1
        | nil =>
          have e4 : badN 0 xs = none := e4.symm
          obtain ⟨l, rfl⟩ := badN_ints e4
          obtain ⟨q1, q2, q3⟩ := at_last (l := l) (by simpa using g2)
          rw [faultT_ok e4] at h1 h2
          unfold faultR at h1 h2
          generalize fstI (l.map PV.int) = x at *
          generalize lstI (l.map PV.int) = y at *
          clear hx e4 hl e5 k1 q2 e1
          walk_at "go"
          refine iteB_dec (fun hx => ?_) (fun hx => ?_)
          · have h2 := h2 0 (if_pos hx)
            clear h1
            walk_at "go"
            exact Dr.self h2
          · rw [if_neg hx] at h1 h2
            by_cases hy : 0 ≤ y ∧ y ≤ 31
            · have h1 := h1 (if_pos hy)
              have hd := decide_eq_true hy
              clear h2 hy hx
              walk_at "go"
              refine t_isname ?_
              rw [hd]
              walk_at "go"
              exact Dr.self h1
            · have h2 := h2 _ (if_neg hy)
              have hd := decide_eq_false hy
              clear h1 hy hx
              walk_at "go"
              refine t_isname ?_
              rw [hd]
              walk_at "go"
              exact Dr.self h2

/-! ### heard -/
theorem fault_none {v : PV} (h : faultN v = none) : ∃ l, v = tI l := by
  cases v with
  | tup xs =>
    by_cases h2 : xs.length < 2
    · rw [faultN_short h2] at h; cases h
    · rw [faultN_long (by omega)] at h
      unfold faultT at h
      cases z : badN 0 xs with
      | some i => rw [z] at h; cases h
      | none =>
        obtain ⟨l, e⟩ := badN_ints z
        exact ⟨l, by rw [e]⟩
  | _ => cases h
section
variable {S : Sto} {P : QK PV} {E : QX} {p q : Addr} {hd tl : Int} {st : List Rp}
theorem t_rstate (hp : S p = some (rowF hd tl q)) (hq : S q = some (.lst (st.map rP))) (h : P (.tup [.int hd, .int tl, .tup (st.map rP)]) S) : sp_Row_state [.ref p] S P E := by
  unfold sp_Row_state
  walk_at "go"
  exact Dr.self h
end
theorem t_above {x y : Option (List Int)} {S : Sto} {P : QK PV} {E : QX} (h : P (.bl (belowO y x)) S) : sp__law_above [oI x, oI y] S P E := by
  unfold sp__law_above
  cases y with
  | none =>
    walk_at "go"
    exact Dr.self h
  | some l =>
    cases x with
    | none =>
      walk_at "go"
      exact Dr.self h
    | some m =>
      walk_at "go"
      exact ⟨m, l, intsOf_tI m, intsOf_tI l, Dr.self h⟩
theorem t_state {reps : List Rp} {r : Addr} {first last : Int} {S : Sto} {P : QK PV} {E : QX} (hr : S r = some (.lst (reps.map rP))) (hl : reps.length ≤ 200)
    (h : P (.tup [.int first, .int last, .tup (((falls reps).filter (fun x => decide (first ≤ x.1))).map rP)]) S) : sp__law_state [.ref r, .int first, .int last] S P E := by
  unfold sp__law_state
  walk_at "go"
  intro f hf
  have hrf := new_ne hr hf
  walk_at "go"
  refine forQ_ix (fun i τ S' => ∃ (acc : List Rp) (v4 v5 v6 v7 : Option PV), τ = [some (.ref r), some (.int first), some (.int last), some (.ref f), v4, v5, v6, v7] ∧ S' f = some (.lst (acc.map rP)) ∧ Sub S S' ∧ acc.length ≤ i ∧
    acc ++ (falls (reps.drop i)).filter (fun x => decide (first ≤ x.1)) = (falls reps).filter (fun x => decide (first ≤ x.1))) ⟨[], none, none, none, none, rfl, put_same, Sub.new hf, Nat.le_refl _, rfl⟩ (fun i p hp τ S' N ⟨acc, v4, v5, v6, v7, e1, e2, es, e3, e4⟩ hN => ?_) fun τ S' ⟨acc, v4, v5, v6, v7, e1, e2, es, e3, e4⟩ => ?_
  · subst e1
    have hr' := es _ _ hr
    have hrf' := new_ne hr hf
    obtain ⟨x, hx, rfl⟩ := enumP_at hp
    rw [List.getElem?_map] at hx
    obtain ⟨w, hw, rfl⟩ := Option.map_eq_some_iff.mp hx
    have hi : i < reps.length := (List.getElem?_eq_some_iff.mp hw).1
    have hd : reps.drop i = w :: reps.drop (i + 1) := by rw [List.drop_eq_getElem_cons hi]; rw [(List.getElem?_eq_some_iff.mp hw).2]
    rw [hd] at e4
    have hN' : ∀ (acc' : List Rp) v4 v5 v6 v7 S', S' f = some (.lst (acc'.map rP)) → Sub S S' → acc'.length ≤ i + 1 → acc' ++ (falls (reps.drop (i + 1))).filter (fun x => decide (first ≤ x.1)) = (falls reps).filter (fun x => decide (first ≤ x.1)) →
        N [some (.ref r), some (.int first), some (.int last), some (.ref f), v4, v5, v6, v7] S' := fun acc' v4 v5 v6 v7 S' h1 h2 h3 h4 => hN _ _ ⟨acc', v4, v5, v6, v7, rfl, h1, h2, h3, h4⟩ (h2 _ _ hr)
    clear hN hx hp h hrf hr
    rw [Nat.zero_add]
    walk_at "go"
    refine iteB_dec (fun z => ?_) (fun z => ?_)
    · walk_at "go"
      intro n hn
      have hn2 : n ≠ f := (new_ne e2 hn).symm
      have hfn := hn2.symm
      rw [show ((i : Int) + 1) = ((i + 1 : Nat) : Int) by omega, cut_from (by simp; omega), show ((i + 1 : Nat) : Int).toNat = i + 1 by omega, ← List.map_drop]
      refine lcQ_enc (fun y : Rp => !belowO w.2 y.2) (fun _ => .int 1) (le_line (by simp; omega)) put_same (fun y N M hy hN hM => ?_) ?_
      · refine ⟨_, rfl, ?_⟩
        clear hN' hd e4 hy hw
        walk_at "go"
        refine t_above ?_
        cases hb : belowO w.2 y.2 with
        | true =>
          have hM := hM (by rw [hb]; rfl)
          clear hN hb
          walk_at "go"
        | false =>
          have hN := hN (by rw [hb]; rfl)
          clear hM hb
          walk_at "go"
      · intro a
        walk_at "go"
        intro a2
        have em : ∀ l : List Rp, List.map (fun _ => PV.int 1) l = (l.map fun _ => (1 : Int)).map PV.int := fun l => by simp
        rw [em]
        obtain ⟨ds, ds2, d1, d2, d3, d4, d5⟩ := nil_ints (l := ((reps.drop (i + 1)).filter fun y : Rp => !belowO w.2 y.2).map fun _ => (1 : Int)) (S := put S' n (.lst ((reps.drop (i + 1)).map rP))) (Q := fun b => b = List.isEmpty _) rfl
        refine ⟨⟨rfl, rfl⟩, ds, ds2, d1, d2, d3, d4, ?_⟩
        clear d1 d2 d3 d4
        rw [d5]
        clear d5 em
        have ee : (((reps.drop (i + 1)).filter fun y : Rp => !belowO w.2 y.2).map fun _ => (1 : Int)).isEmpty = (reps.drop (i + 1)).all (fun y => belowO w.2 y.2) := by
          rw [Bool.eq_iff_iff, List.isEmpty_iff, List.map_eq_nil_iff, List.filter_eq_nil_iff, List.all_eq_true]
          simp
        rw [ee]
        rw [falls_cons] at e4
        cases hb : (reps.drop (i + 1)).all (fun y => belowO w.2 y.2) with
        | true =>
          rw [hb, if_pos rfl, List.filter_cons_of_pos (by simpa using z)] at e4
          have hN := hN' (acc ++ [w]) (some (.int (i : Nat))) (some (.int w.1)) (some (oI w.2)) v7 (put (put S' n (.lst ((reps.drop (i + 1)).map rP))) f (.lst (acc.map rP ++ [rP w]))) (by rw [put_same]; simp) ((es.nw hn).wr hf) (by simp; omega) (by rw [← e4]; simp)
          clear hN' e4 hb ee hd hw
          walk_at "go"
          exact hN
        | false =>
          rw [hb, if_neg Bool.false_ne_true] at e4
          have hN := hN' acc (some (.int (i : Nat))) (some (.int w.1)) (some (oI w.2)) v7 (put S' n (.lst ((reps.drop (i + 1)).map rP))) (by rw [put_ne hfn]; exact e2) (es.nw hn) (by omega) e4
          clear hN' e4 hb ee hd hw
          walk_at "go"
          exact hN
    · walk_at "go"
      refine hN' acc _ _ _ _ _ e2 es (by omega) ?_
      rw [← e4, falls_cons]
      split
      · rw [List.filter_cons_of_neg (by simpa using z)]
      · rfl
  · subst e1
    rw [enumP_len, List.length_map, List.drop_length] at e4
    have e4 : acc = (falls reps).filter (fun x => decide (first ≤ x.1)) := by rw [← e4]; simp [falls]
    rw [← e4] at h
    rw [enumP_len, List.length_map] at e3
    clear e4
    walk_at "go"
    exact Dr.of h es
abbrev stP (h t : Int) (reps : List Rp) : PV := .tup [.int h, .int t, .tup (((falls reps).filter (fun x => decide (h ≤ x.1))).map rP)]
theorem Pl.st {h t : Int} {reps : List Rp} (hl : reps.length ≤ 200) (ok : okR reps) : Pl 8 (stP h t reps) := by
  refine ⟨by simp, fun x hx => ?_⟩
  simp only [List.mem_cons, List.not_mem_nil, or_false] at hx
  rcases hx with rfl | rfl | rfl
  · exact trivial
  · exact trivial
  · refine ⟨?_, fun x hx => ?_⟩
    · have := falls_len reps
      have := List.length_filter_le (fun x : Rp => decide (h ≤ x.1)) (falls reps)
      rw [List.length_map]; omega
    · obtain ⟨y, hy, rfl⟩ := List.mem_map.mp hx
      have hy := falls_sub reps y (List.mem_filter.mp hy).1
      refine ⟨by simp, fun z hz => ?_⟩
      simp only [List.mem_cons, List.not_mem_nil, or_false] at hz
      rcases hz with rfl | rfl
      · exact trivial
      · exact Pl.oI (ok y hy)
/-! ### leasts, plainly -/
theorem lex_asym : ∀ {x y : List Int}, HT.lexLt x y = true → HT.lexLt y x = false
  | [], [], _ => rfl
  | [], _ :: _, _ => rfl
  | _ :: _, [], h => by cases h
  | a :: x, b :: y, h => by
    rw [HT.lexLt_cons] at h ⊢
    by_cases e : a = b
    · subst e
      rw [if_pos rfl] at h ⊢
      exact lex_asym h
    · rw [if_neg e] at h
      have h := of_decide_eq_true h
      rw [if_neg (by omega)]
      exact decide_eq_false (by omega)
theorem lex_tot : ∀ {x y : List Int}, HT.lexLt x y = false → HT.lexLt y x = false → x = y
  | [], [], _, _ => rfl
  | [], _ :: _, h, _ => by cases h
  | _ :: _, [], _, h => by cases h
  | a :: x, b :: y, h1, h2 => by
    rw [HT.lexLt_cons] at h1 h2
    by_cases e : a = b
    · subst e
      rw [if_pos rfl] at h1 h2
      rw [lex_tot h1 h2]
    · rw [if_neg e] at h1
      rw [if_neg (fun z => e z.symm)] at h2
      have h1 := of_decide_eq_false h1
      have h2 := of_decide_eq_false h2
      omega
theorem below_asym {x y : Option (List Int)} (h : belowO x y = true) : belowO y x = false := by
  cases x with
  | none => cases h
  | some x =>
    cases y with
    | none => rfl
    | some y => exact lex_asym h
theorem below_tot {x y : Option (List Int)} (h1 : belowO x y = false) (h2 : belowO y x = false) : x = y := by
  cases x with
  | none =>
    cases y with
    | none => rfl
    | some y => cases h2
  | some x =>
    cases y with
    | none => cases h1
    | some y => rw [lex_tot h1 h2]
def updL (k : Int) (f : Option (List Int)) (x : Rp) : Option (List Int) := if decide (k ≤ x.1) && belowO x.2 f then x.2 else f
def lstF (k : Int) (f : Option (List Int)) (l : List Rp) : Option (List Int) := l.foldl (updL k) f
def hd2 : List Rp → Option (List Int)
  | [] => none
  | x :: _ => x.2
def ups (l : List Rp) : Prop := l.Pairwise fun x y => x.1 < y.1
theorem hd2_falls (k : Int) (l : List Rp) (h : ups l) : hd2 ((falls l).filter (fun x => decide (k ≤ x.1))) = lstF k none l := by
  obtain ⟨m, hm⟩ : ∃ m, l.length = m := ⟨_, rfl⟩
  induction m generalizing l with
  | zero =>
    have e : l = [] := List.length_eq_zero_iff.mp hm
    subst e; rfl
  | succ m ih =>
    rcases List.eq_nil_or_concat l with e | ⟨u, n, e⟩
    · subst e; simp at hm
    · rw [List.concat_eq_append] at e
      subst e
      have hu : ups u := (List.pairwise_append.mp h).1
      have hn : ∀ x ∈ u, x.1 < n.1 := fun x hx => (List.pairwise_append.mp h).2.2 x hx n (by simp)
      have ih := ih u hu (by simp at hm; omega)
      have ef : lstF k none (u ++ [n]) = updL k (lstF k none u) n := by unfold lstF; rw [List.foldl_append]; rfl
      rw [ef, ← ih]
      by_cases hk : k ≤ n.1
      · rw [show (u ++ [n]) = u ++ [(n.1, n.2)] from rfl, falls_told hk]
        have ha := asc_filter (fun x : Rp => decide (k ≤ x.1)) (falls_asc u)
        generalize (falls u).filter (fun x : Rp => decide (k ≤ x.1)) = F at ha ih ⊢
        unfold updL
        rw [decide_eq_true hk, Bool.true_and]
        cases F with
        | nil =>
          show n.2 = if belowO n.2 none then n.2 else none
          cases n.2 <;> rfl
        | cons x F =>
          have ha : (F.all (fun y => belowO x.2 y.2) && asc F) = true := ha
          rw [Bool.and_eq_true, List.all_eq_true] at ha
          show hd2 (popB n.2 (x :: F) ++ [(n.1, n.2)]) = if belowO n.2 x.2 then n.2 else x.2
          unfold popB
          cases hx : belowO x.2 n.2 with
          | true =>
            rw [List.filter_cons_of_pos (p := fun x : Rp => belowO x.2 n.2) hx, if_neg (by rw [below_asym hx]; exact Bool.false_ne_true)]
            rfl
          | false =>
            rw [List.filter_cons_of_neg (p := fun x : Rp => belowO x.2 n.2) (by rw [hx]; exact Bool.false_ne_true), List.filter_eq_nil_iff.mpr fun y hy z => by
              rw [below_tr (ha.1 y hy) z] at hx; cases hx]
            show n.2 = _
            cases h2 : belowO n.2 x.2 with
            | true => rfl
            | false => exact (below_tot hx h2).symm
      · have e1 : ∀ v : List Rp, (∀ x ∈ v, x ∈ u ++ [n]) → v.filter (fun x => decide (k ≤ x.1)) = [] := fun v hv => List.filter_eq_nil_iff.mpr fun x hx z => by
          have z := of_decide_eq_true z
          rcases List.mem_append.mp (hv x hx) with h1 | h1
          · have := hn x h1; omega
          · rw [List.mem_singleton] at h1; subst h1; exact hk z
        rw [e1 _ (falls_sub _), e1 _ (fun x hx => List.mem_append_left _ (falls_sub _ x hx))]
        unfold updL
        rw [decide_eq_false hk]
        rfl

section
variable {S : Sto} {P : QK PV} {E : QX} {p q : Addr} {hd tl : Int} {st : List Rp}
theorem t_since {k : Int} (hp : S p = some (rowF hd tl q)) (hq : S q = some (.lst (st.map rP))) (hl : st.length < 900) (h1 : hd ≤ k) (h2 : 1 ≤ k) (h3 : k ≤ tl) (hne : st.filter (fun x => decide (k ≤ x.1)) ≠ [])
    (h : P (oI (hd2 (st.filter (fun x => decide (k ≤ x.1))))) S) : sp_Row_since [.ref p, .int k] S P E := by
  unfold sp_Row_since
  walk_at "go"
  rw [decide_eq_true (show (if 1 > hd then 1 else hd) ≤ k by split <;> omega)]
  walk_at "go"
  refine t_steps hp hq hl fun r hr => ?_
  cases e : st.filter (fun x => decide (k ≤ x.1)) with
  | nil => exact absurd e hne
  | cons x u =>
    rw [e] at h
    rw [List.map_cons]
    walk_at "go"
    rw [atI_0]
    walk_at "go"
    exact Dr.of h (Sub.new hr)
end
/-! ### states, judged -/
def numO : PV → Option (Option (List Int))
  | .non => some none
  | .tup xs => match faultN (.tup xs) with
    | none => some (intsOf xs)
    | some _ => none
  | _ => none
theorem numO_bad {xs : List PV} {i : Int} (h : faultN (.tup xs) = some i) : numO (.tup xs) = none := by
  show (match faultN (.tup xs) with | none => some (intsOf xs) | some _ => none) = none
  rw [h]
theorem numO_ok {xs : List PV} (h : faultN (.tup xs) = none) : numO (.tup xs) = some (intsOf xs) := by
  show (match faultN (.tup xs) with | none => some (intsOf xs) | some _ => none) = _
  rw [h]
theorem numO_some {v : PV} {o : Option (List Int)} (h : numO v = some o) : v = oI o := by
  cases v with
  | non => cases h; rfl
  | tup xs =>
    cases hf : faultN (.tup xs) with
    | some i => rw [numO_bad hf] at h; cases h
    | none =>
      rw [numO_ok hf] at h
      obtain ⟨l, hl⟩ := fault_none hf
      injection hl with hl
      subst hl
      rw [intsOf_tI] at h
      cases h; rfl
  | _ => cases h
theorem t_istold {v : PV} {S : Sto} {P : QK PV} {E : QX} (hv : okV S v) (h : P (.bl (numO v).isSome) S) : sp_is_told [v] S P E := by
  unfold sp_is_told
  cases v with
  | non =>
    walk_at "go"
    exact Dr.self h
  | tup xs =>
    walk_at "go"
    refine t_check hv (fun hf => ?_) (fun i hf => ?_)
    · rw [numO_ok hf] at h
      have h : P (.bl true) S := h
      walk_at "go"
      exact Dr.self h
    · rw [numO_bad hf] at h
      have h : P (.bl false) S := h
      refine ⟨true, rfl, fun _ a d ha => ?_, fun z => (nomatch z)⟩
      walk_at "go"
      exact Dr.self h
  | _ =>
    walk_at "go"
    refine t_check hv (fun hf => ?_) (fun i hf => ?_)
    · cases hf
    · refine ⟨true, rfl, fun _ a d ha => ?_, fun z => (nomatch z)⟩
      walk_at "go"
      exact Dr.self h
/-! ### steps, judged -/
theorem badN_cons {x : PV} {xs : List PV} {k : Nat} : badN k (x :: xs) = if isIntP x then badN (k + 1) xs else some k := rfl
/-! ### steps -/
/-- may o follow what stands ahead -/
def goodB (h : Int) : Option Rp → Rp → Bool
  | none, (s, o) => if h = 0 ∧ s = 0 then o.isSome else decide (max h 1 ≤ s)
  | some p, (s, o) => decide (p.1 < s) && belowO p.2 o
def stepR (h t : Int) (pv : Option Rp) (last : Bool) : PV → Option Rp
  | .tup [.int s, n] => match numO n with
    | some o => if decide (0 ≤ s) && goodB h pv (s, o) && (!last || decide (s = t)) then some (s, o) else none
    | none => none
  | _ => none
theorem stepR_some {h t : Int} {pv : Option Rp} {last : Bool} {x : PV} {r : Rp} (e : stepR h t pv last x = some r) : x = rP r := by
  unfold stepR at e
  split at e
  · split at e
    · rename_i s n o ho
      split at e
      · cases e
        rw [numO_some ho]; rfl
      · cases e
    · cases e
  · cases e
/-- a value that may be a step -/
def okP (S : Sto) (x : PV) : Prop := okI S x ∧ ∀ xs, x = .tup xs → xs.length ≤ 100 ∧ ∀ y ∈ xs, okV S y
theorem t_isfrom {x : PV} {k : Int} {S : Sto} {P : QK PV} {E : QX} (hx : okI S x) (h1 : ∀ i, x = .int i → P (.bl (decide (k ≤ i))) S) (h2 : isIntP x = false → P (.bl false) S) : sp_is_from [x, .int k] S P E := by
  unfold sp_is_from
  walk_at "go"
  refine t_isint hx ?_
  cases hi : isIntP x with
  | false =>
    have h2 := h2 hi
    clear h1
    walk_at "go"
    exact Dr.self h2
  | true =>
    cases x with
    | int i =>
      have h1 := h1 i rfl
      clear h2
      walk_at "go"
      exact Dr.self h1
    | _ => cases hi
theorem t_istuple {x : PV} {k : Int} {S : Sto} {P : QK PV} {E : QX} (hx : okI S x) (h1 : ∀ xs, x = .tup xs → P (.bl (decide ((xs.length : Int) = k))) S) (h2 : (∀ xs, x ≠ .tup xs) → P (.bl false) S) : sp_is_tuple [x, .int k] S P E := by
  by_cases hn : ∀ xs, x ≠ .tup xs
  · obtain ⟨kk, hk, hk2⟩ := hx.notup hn
    have h2 := h2 hn
    unfold sp_is_tuple
    clear h1
    walk_at "go"
    exact Dr.self h2
  · cases x with
    | tup xs =>
      have h1 := h1 xs rfl
      unfold sp_is_tuple
      clear h2 hn
      walk_at "go"
      exact Dr.self h1
    | _ => exact absurd (fun _ e => (nomatch e)) hn
theorem t_first {h s : Int} {o : Option (List Int)} {S : Sto} {P : QK PV} {E : QX} (hP : P (.bl (goodB h none (s, o))) S) : sp_may_be_first [.int h, rP (s, o)] S P E := by
  unfold sp_may_be_first
  have hP : P (.bl (if h = 0 ∧ s = 0 then o.isSome else decide (max h 1 ≤ s))) S := hP
  by_cases z : h = 0 ∧ s = 0
  · rw [if_pos z] at hP
    obtain ⟨rfl, rfl⟩ := z
    cases o with
    | none =>
      walk_at "go"
      exact Dr.self hP
    | some l =>
      walk_at "go"
      exact Dr.self hP
  · rw [if_neg z] at hP
    have e : (if 1 > h then (1 : Int) else h) = max h 1 := by split <;> omega
    by_cases z1 : h = 0
    · subst z1
      have z2 : ¬ s = 0 := fun e => z ⟨rfl, e⟩
      walk_at "go"
      exact Dr.self hP
    · walk_at "go"
      exact Dr.self hP
theorem at_mid {rs : List Rp} {x : PV} {rest : List PV} : atI (rs.map rP ++ x :: rest) (rs.length : Int) = some x := by
  refine atI_of (by omega) ?_
  rw [Int.toNat_natCast, List.getElem?_append_right (by simp)]
  simp
theorem at_pre {u : List Rp} {p : Rp} {x : PV} {rest : List PV} : atI ((u ++ [p]).map rP ++ x :: rest) (((u ++ [p]).length : Int) - 1) = some (rP p) := by
  refine atI_of (by simp) ?_
  have e : (((u ++ [p]).length : Int) - 1).toNat = u.length := by simp
  rw [e]
  simp
section
variable {S : Sto} {P : QK PV} {E : QX} {h t : Int} {rs : List Rp} {x : PV} {rest : List PV}
theorem t_isstep (hx : okP S x) (hP : P (.bl (stepR h t rs.getLast? rest.isEmpty x).isSome) S) : sp_is_step [.tup (rs.map rP ++ x :: rest), .int (rs.length : Int), .int h, .int t] S P E := by
  unfold sp_is_step
  have am := @at_mid rs x rest
  walk_at "go"
  refine t_istuple hx.1 (fun xs e => ?_) (fun hn => ?_)
  · subst e
    obtain ⟨hl, hel⟩ := hx.2 xs rfl
    by_cases hl2 : xs.length = 2
    · match xs, hl2 with
      | [a, b], _ =>
      have oa := hel a (by simp)
      have ob := hel b (by simp)
      clear hel hl hx
      walk_at "go"
      refine t_isfrom oa.1 (fun i e => ?_) (fun hi => ?_)
      · subst e
        by_cases hi0 : 0 ≤ i
        · rw [decide_eq_true hi0]
          walk_at "go"
          refine t_istold ob ?_
          cases hn : numO b with
          | none =>
            have e : stepR h t rs.getLast? rest.isEmpty (.tup [.int i, b]) = none := by
              show (match numO b with | some o => _ | none => none) = none
              rw [hn]
            rw [e] at hP
            have hP : P (.bl false) S := hP
            walk_at "go"
            exact Dr.self hP
          | some o =>
            have eb := numO_some hn
            have e : stepR h t rs.getLast? rest.isEmpty (.tup [.int i, b]) = if decide (0 ≤ i) && goodB h rs.getLast? (i, o) && (!rest.isEmpty || decide (i = t)) then some (i, o) else none := by
              show (match numO b with | some o => _ | none => none) = _
              rw [hn]
            rw [e, decide_eq_true hi0, Bool.true_and] at hP
            have hP : P (.bl (goodB h rs.getLast? (i, o) && (!rest.isEmpty || decide (i = t)))) S := by
              cases hg : (goodB h rs.getLast? (i, o) && (!rest.isEmpty || decide (i = t))) <;> (rw [hg] at hP; exact hP)
            subst eb
            clear e hn ob oa hl2 xs
            have fin : ∀ g : Bool, P (.bl (g && (!rest.isEmpty || decide (i = t)))) S → qRet (qAndV (qVar 5) (qOrV (qBin fLt (qVar 1) (qBin fSub (qCal fLen (qaC (qVar 0) qaN)) (qC (.int 1)))) (qBin fEq (qBin fIdx (qVar 4) (qC (.int 0))) (qVar 3)))) { nx := fun _ S' => Dr P .non S', rt := Dr P, ex := fun x _ S' => Dr E x S' } [some (.tup (rs.map rP ++ PV.tup [.int i, oI o] :: rest)), some (.int (rs.length : Int)), some (.int h), some (.int t), some (.tup [.int i, oI o]), some (.bl g)] S := fun g hg => by
              cases g with
              | false =>
                walk_at "go"
                exact Dr.self hg
              | true =>
                rw [Bool.true_and] at hg
                cases rest with
                | nil =>
                  have hlt : ¬ ((rs.length : Int) < (List.length (rs.map rP ++ [PV.tup [.int i, oI o]]) : Int) - 1) := by simp
                  walk_at "go"
                  exact Dr.self hg
                | cons y r =>
                  have hlt : (rs.length : Int) < (List.length (rs.map rP ++ PV.tup [.int i, oI o] :: y :: r) : Int) - 1 := by simp; omega
                  walk_at "go"
                  exact Dr.self hg
            rcases List.eq_nil_or_concat rs with rfl | ⟨u, p, rfl⟩
            · have fin := fin (goodB h none (i, o)) hP
              walk_at "go"
              refine t_first ?_
              exact fin
            · rw [List.concat_eq_append] at *
              rw [List.getLast?_concat] at hP
              have fin := fun g (e : goodB h (some p) (i, o) = g) => fin g (by rw [← e]; exact hP)
              have hne : ¬ (((u ++ [p]).length : Int) = 0) := by simp; omega
              have ap := @at_pre u p (.tup [.int i, oI o]) rest
              walk_at "go"
              by_cases z : p.1 < i
              · rw [decide_eq_true z]
                walk_at "go"
                refine t_below ?_
                exact fin (belowO p.2 o) (by show (decide (p.1 < i) && belowO p.2 o) = _; rw [decide_eq_true z]; rfl)
              · rw [decide_eq_false z]
                exact fin false (by show (decide (p.1 < i) && belowO p.2 o) = _; rw [decide_eq_false z]; rfl)
        · rw [decide_eq_false hi0]
          have e : (stepR h t rs.getLast? rest.isEmpty (.tup [.int i, b])).isSome = false := by
            show (match numO b with | some o => if decide (0 ≤ i) && goodB h rs.getLast? (i, o) && (!rest.isEmpty || decide (i = t)) then some (i, o) else none | none => none).isSome = false
            cases numO b with
            | none => rfl
            | some o => simp only [decide_eq_false hi0, Bool.false_and, Bool.false_eq_true, if_false, Option.isSome_none]
          rw [e] at hP
          walk_at "go"
          exact Dr.self hP
      · have e : (stepR h t rs.getLast? rest.isEmpty (.tup [a, b])).isSome = false := by
          cases a with
          | int i => cases hi
          | _ => rfl
        rw [e] at hP
        walk_at "go"
        exact Dr.self hP
    · have hl3 : ¬ (xs.length : Int) = 2 := by omega
      have e : (stepR h t rs.getLast? rest.isEmpty (.tup xs)).isSome = false := by
        unfold stepR
        split
        · rename_i e; injection e with e; subst e; exact absurd rfl hl2
        · rfl
      rw [e] at hP
      walk_at "go"
      exact Dr.self hP
  · have e : (stepR h t rs.getLast? rest.isEmpty x).isSome = false := by
      unfold stepR
      split
      · exact absurd rfl (hn _)
      · rfl
    rw [e] at hP
    walk_at "go"
    exact Dr.self hP
end

/-! ### row_of -/
def faultS (h t : Int) : Option Rp → Nat → List PV → Option Int
  | _, _, [] => none
  | pv, k, x :: r => match stepR h t pv r.isEmpty x with
    | some p => faultS h t (some p) (k + 1) r
    | none => some (2 + (k : Int))
def faultV : PV → Option Int
  | .tup [.int h, .int t, .tup xs] => if h < 0 then some 0 else if t < h ∨ (0 < t ∧ xs = []) then some 1 else faultS h t none 0 xs
  | .tup [.int h, _, .tup _] => if h < 0 then some 0 else some 1
  | .tup [_, _, .tup _] => some 0
  | _ => some (-1)
/-- a value that may be a state -/
structure okQ (S : Sto) (v : PV) : Prop where
  i : okI S v
  e : ∀ vs, v = .tup vs → vs.length ≤ 100 ∧ ∀ a ∈ vs, okI S a ∧ ∀ xs, a = .tup xs → xs.length ≤ 200 ∧ (∀ x ∈ xs, okP S x) ∧ ∃ ds, DatsS S xs ds ∧ SeqAt.shaped (.tuple ds) = true
theorem put4 {S : Sto} {p c : Addr} {a b l r : Ob} (n : c ≠ p) : put (put (put (put S p a) p b) c l) p r = put (put S c l) p r := by
  funext x
  simp only [put_apply]
  by_cases h1 : x = p
  · rw [if_pos h1, if_pos h1]
  · rw [if_neg h1, if_neg h1, if_neg h1, if_neg h1]
/-- what made_row leaves -/
def Made (S S' : Sto) (p : Addr) (h t : Int) (st : List Rp) : Prop := ∃ q, S p = none ∧ S q = none ∧ p ≠ q ∧ S' p = some (rowF h t q) ∧ S' q = some (.lst (st.map rP)) ∧ Sub S S'
theorem t_made {h t : Int} {st : List Rp} {S : Sto} {P : QK PV} {E : QX} {x : PV} (hx : x = .tup (st.map rP) ∨ ∃ c, x = .ref c ∧ S c = some (.lst (st.map rP))) (hl : st.length ≤ 500) (hP : ∀ p S', Made S S' p h t st → P (.ref p) S') : sp_made_row [.int h, .int t, x] S P E := by
  unfold sp_made_row
  walk_at "go"
  intro p hp
  refine And.intro rfl (t_rinit put_same fun q S1 hq h1 h2 x1 => ⟨rfl, ?_⟩)
  have hqp : q ≠ p := fun e => by rw [e, put_same] at hq; cases hq
  have hq0 : S q = none := by rw [put_ne hqp] at hq; exact hq
  have sub : Sub S S1 := fun a o ha => x1 a o (new_ne ha hp) (by rw [put_ne (new_ne ha hp)]; exact ha)
  clear hq
  have key : ∀ c : Addr, S1 c = none → P (.ref p) (put (put S1 c (.lst (st.map rP))) p (rowF h t c)) := fun c hc => by
    have pc := new_ne h1 hc
    refine hP p _ ⟨c, hp, sub.none hc, pc, put_same, by rw [put_ne pc.symm, put_same], fun a o ha => ?_⟩
    have hap := new_ne ha hp
    rw [put_ne hap, put_ne (new_ne (sub a o ha) hc)]
    exact sub a o ha
  rcases hx with rfl | ⟨c, rfl, hc⟩
  · walk_at "go"
    intro c' hc'
    have hcp' : c' ≠ p := fun e => by rw [if_pos e] at hc'; cases hc'
    have hc1' : S1 c' = none := by rw [if_neg hcp', if_neg hcp'] at hc'; exact hc'
    have hpc' := hcp'.symm
    have key := key c' hc1'
    walk_at "go"
    rw [put4 hcp']
    exact Dr.self key
  · have hc1 := sub _ _ hc
    have hcp := new_ne hc hp
    walk_at "go"
    intro c' hc'
    have hcp' : c' ≠ p := fun e => by rw [if_pos e] at hc'; cases hc'
    have hc1' : S1 c' = none := by rw [if_neg hcp', if_neg hcp'] at hc'; exact hc'
    have hpc' := hcp'.symm
    have key := key c' hc1'
    walk_at "go"
    rw [put4 hcp']
    exact Dr.self key
section
variable {S : Sto} {P : QK PV} {E : QX} {v : PV}
theorem t_rowof (hv : okQ S v) (h1 : ∀ i, faultV v = some i → E ⟨"BadRow", [("at", .int i)]⟩ S)
    (h2 : ∀ h t rs p S', faultV v = none → v = .tup [.int h, .int t, .tup (rs.map rP)] → rs.length ≤ 200 → (∀ r ∈ rs, okP S (rP r)) → Made S S' p h t rs → P (.ref p) S') : sp_row_of [v] S P E := by
  unfold sp_row_of
  by_cases hn : ∀ xs, v ≠ .tup xs
  · have e : faultV v = some (-1) := by
      unfold faultV
      split <;> first | rfl | exact absurd rfl (hn _)
    have h1 := h1 _ e
    clear e h2
    walk_at "go"
    refine t_istuple hv.i (fun xs e => absurd e (hn xs)) (fun _ => ?_)
    walk_at "go"
    exact Dr.self h1
  cases v with
  | tup vs =>
    obtain ⟨hl, hel⟩ := hv.e vs rfl
    clear hn hv
    by_cases hl3 : vs.length = 3
    · match vs, hl3 with
      | [a, b, c], _ =>
      have oa := (hel a (by simp)).1
      have ob := (hel b (by simp)).1
      obtain ⟨oc, oc2⟩ := hel c (by simp)
      clear hel hl hl3
      walk_at "go"
      refine t_istuple (x := .tup [a, b, c]) trivial (fun xs e => ?_) (fun hn => absurd rfl (hn _))
      cases e
      by_cases hc : ∀ xs, c ≠ .tup xs
      · obtain ⟨kk, hk, hk2⟩ := oc.notup hc
        have e : faultV (.tup [a, b, c]) = some (-1) := by
          unfold faultV
          split
          · rename_i e; cases e; exact absurd rfl (hc _)
          · rename_i e; cases e; exact absurd rfl (hc _)
          · rename_i e; cases e; exact absurd rfl (hc _)
          · rfl
        have h1 := h1 _ e
        clear e h2
        walk_at "go"
        exact Dr.self h1
      cases c with
      | tup xs =>
        obtain ⟨xl, xo, _⟩ := oc2 xs rfl
        clear hc oc oc2
        walk_at "go"
        refine t_isfrom oa (fun h e => ?_) (fun hi => ?_)
        · subst e
          by_cases h0 : h < 0
          · have e : faultV (.tup [.int h, b, .tup xs]) = some 0 := by
              cases b <;> exact if_pos h0
            have h1 := h1 _ e
            rw [decide_eq_false (show ¬ 0 ≤ h by omega)]
            clear e h2
            walk_at "go"
            exact Dr.self h1
          rw [decide_eq_true (show 0 ≤ h by omega)]
          walk_at "go"
          refine t_isfrom ob (fun t e => ?_) (fun hi => ?_)
          · subst e
            have e : faultV (.tup [.int h, .int t, .tup xs]) = if t < h ∨ (0 < t ∧ xs = []) then some 1 else faultS h t none 0 xs := if_neg h0
            by_cases h3 : t < h
            · have h1 := h1 1 (by rw [e, if_pos (.inl h3)])
              rw [decide_eq_false (show ¬ h ≤ t by omega)]
              clear e h2
              walk_at "go"
              exact Dr.self h1
            rw [decide_eq_true (show h ≤ t by omega)]
            have loop : faultV (.tup [.int h, .int t, .tup xs]) = faultS h t none 0 xs → forQ kT (qgName 4)
                (qIfS (qNot (qTru (qCall 4 sp_is_step (qaC (qVar 3) (qaC (qVar 4) (qaC (qVar 1) (qaC (qVar 2) qaN))))))) (qRaise "BadRow" "at" (qBin fAdd (qC (.int 2)) (qVar 4))) qNext)
                { nx := fun τ1 S1 => qRet (qCall 3 sp_made_row (qaC (qVar 1) (qaC (qVar 2) (qaC (qVar 3) qaN)))) { nx := fun _ S' => Dr P .non S', rt := Dr P, ex := fun x _ S' => Dr E x S' } τ1 S1, rt := Dr P, ex := fun x _ S' => Dr E x S' } (rangeP 0 (xs.length : Int).toNat) [some (.tup [.int h, .int t, .tup xs]), some (.int h), some (.int t), some (.tup xs), none] S := fun e => by
              rw [e] at h1 h2
              clear e ob oa
              refine forQ_range (fun i τ S' => S' = S ∧ ∃ (v4 : Option PV) (rs : List Rp) (rest : List PV), τ = [some (.tup [.int h, .int t, .tup xs]), some (.int h), some (.int t), some (.tup xs), v4] ∧ xs = rs.map rP ++ rest ∧ rs.length = i ∧ faultS h t none 0 xs = faultS h t rs.getLast? i rest) ⟨rfl, none, [], xs, rfl, rfl, rfl, rfl⟩ (fun i hi τ S' N ⟨e1, v4, rs, rest, e2, e3, e4, e5⟩ hN => ?_) fun τ S' ⟨e1, v4, rs, rest, e2, e3, e4, e5⟩ => ?_
              · subst e1; subst e2
                cases rest with
                | nil => rw [e3] at hi; simp at hi; omega
                | cons x rest =>
                  have ox := xo x (by rw [e3]; simp)
                  have e6 : faultS h t rs.getLast? i (x :: rest) = match stepR h t rs.getLast? rest.isEmpty x with | some p => faultS h t (some p) (i + 1) rest | none => some (2 + (i : Int)) := rfl
                  rw [e6] at e5
                  clear e6
                  subst e4
                  subst e3
                  clear hi
                  cases hs : stepR h t rs.getLast? rest.isEmpty x with
                  | none =>
                    rw [hs] at e5
                    have h1 := h1 _ e5
                    clear hN e5 h2
                    walk_at "go"
                    refine t_isstep ox ?_
                    rw [hs]
                    walk_at "go"
                    exact Dr.self h1
                  | some p =>
                    rw [hs] at e5
                    have hx := stepR_some hs
                    have hN := hN [some (.tup [.int h, .int t, .tup (rs.map rP ++ x :: rest)]), some (.int h), some (.int t), some (.tup (rs.map rP ++ x :: rest)), some (.int (rs.length : Nat))] S' ⟨rfl, _, rs ++ [p], rest, rfl, by rw [hx]; simp, by simp, by rw [List.getLast?_concat]; exact e5⟩ trivial
                    clear e5 h1 h2 hx
                    walk_at "go"
                    refine t_isstep ox ?_
                    rw [hs]
                    walk_at "go"
                    exact hN
              · subst e1; subst e2
                have er : rest = [] := by
                  have := congrArg List.length e3
                  simp at this e4
                  exact List.length_eq_zero_iff.mp (by omega)
                subst er
                rw [List.append_nil] at e3
                subst e3
                have h2 := fun p S'' => h2 h t rs p S'' e5 rfl (by simpa using xl) (fun r hr => xo _ (List.mem_map.mpr ⟨r, hr, rfl⟩))
                clear e5 e4 xo h1
                walk_at "go"
                exact t_made (.inl rfl) (by simp at xl; omega) fun p S'' M => Dr.self (h2 p S'' M)
            rw [e] at loop
            by_cases z : 0 < t
            · cases xs with
              | nil =>
                have h1 := h1 1 (by rw [e, if_pos (.inr ⟨z, rfl⟩)])
                clear e loop h2
                walk_at "go"
                exact Dr.self h1
              | cons x xs =>
                have loop := loop (if_neg (fun w => by rcases w with w | w; exact h3 w; cases w.2))
                have hlen : ¬ (((x :: xs).length : Nat) : Int) = 0 := by simp; omega
                clear e xo h1 h2
                walk_at "go"
                exact loop
            · have loop := loop (if_neg (fun w => by rcases w with w | w; exact h3 w; exact z w.1))
              clear e xo h1 h2
              walk_at "go"
              exact loop
          · have e : faultV (.tup [.int h, b, .tup xs]) = some 1 := by
              cases b with
              | int i => cases hi
              | _ => exact if_neg h0
            have h1 := h1 _ e
            clear e h2
            walk_at "go"
            exact Dr.self h1
        · have e : faultV (.tup [a, b, .tup xs]) = some 0 := by
            cases a with
            | int i => cases hi
            | _ => rfl
          have h1 := h1 _ e
          clear e h2
          walk_at "go"
          exact Dr.self h1
      | _ => exact absurd (fun _ e => (nomatch e)) hc
    · have hl4 : ¬ (vs.length : Int) = 3 := by omega
      have e : faultV (.tup vs) = some (-1) := by
        unfold faultV
        split
        · rename_i e; cases e; exact absurd rfl hl3
        · rename_i e; cases e; exact absurd rfl hl3
        · rename_i e; cases e; exact absurd rfl hl3
        · rfl
      have h1 := h1 _ e
      clear e hel h2
      walk_at "go"
      refine t_istuple (x := .tup vs) trivial (fun xs e => ?_) (fun hn => absurd rfl (hn _))
      cases e
      rw [decide_eq_false hl4]
      walk_at "go"
      exact Dr.self h1
  | _ => exact absurd (fun _ e => (nomatch e)) hn
end
/-! ### rows, drawn -/
theorem Made.from {S0 S S' : Sto} {p : Addr} {h t : Int} {st : List Rp} (M : Made S S' p h t st) (s : Sub S0 S) : Made S0 S' p h t st :=
  let ⟨q, h1, h2, h3, h4, h5, h6⟩ := M
  ⟨q, s.none h1, s.none h2, h3, h4, h5, s.trans h6⟩
theorem t_newrow {S : Sto} {P : Sto → Prop} {p : Addr} (hp : S p = none) (hP : ∀ S', Made S S' p 0 0 [] → P S') : sp_Row_init [.ref p] (put S p (.ins 0 [])) (fun v S2 => v = .non ∧ P S2) X0 := by
  refine t_rinit put_same fun q S1 hq h1 h2 x1 => ⟨rfl, ?_⟩
  have hqp : q ≠ p := fun e => by rw [e, put_same] at hq; cases hq
  have hq0 : S q = none := by rw [put_ne hqp] at hq; exact hq
  exact hP S1 ⟨q, hp, hq0, hqp.symm, h1, h2, fun a o ha => x1 a o (new_ne ha hp) (by rw [put_ne (new_ne ha hp)]; exact ha)⟩
theorem Made.rw {S S' : Sto} {b p r : Addr} {h t : Int} {st reps : List Rp} (M : Made S S' p h t st) (hb : Bx S b) (hr : S r = some (.lst (reps.map rP))) (rb : r ≠ b) (e : st = (falls reps).filter (fun x => decide (h ≤ x.1))) : ∃ q, Rw S' b p q r h t reps := by
  obtain ⟨q, h1, h2, h3, h4, h5, h6⟩ := M
  subst e
  exact ⟨q, hb.sub h6, h4, h5, h6 _ _ hr, (hb.ne h1).symm, (hb.ne h2).symm, rb, (new_ne hr h1).symm, (new_ne hr h2).symm⟩
theorem t_begun {h : Int} {o : Option (List Int)} {S : Sto} {P : QK PV} {E : QX} (hP : ∀ p S', Made S S' p h h (if h = 0 ∧ o = none then [] else [(h, o)]) → P (.ref p) S') : sp_begun_row [.int h, oI o] S P E := by
  unfold sp_begun_row
  have other : ¬ (h = 0 ∧ o = none) → ∀ c, S c = none → sp_made_row [.int h, .int h, .ref c] (put S c (.lst [.tup [.int h, oI o]])) (Dr P) (fun x S' => Dr E x S') := fun z c hc =>
    t_made (st := [(h, o)]) (.inr ⟨c, rfl, put_same⟩) (by simp) fun p S' M => Dr.self (hP p S' (by rw [if_neg z]; exact M.from (Sub.new hc)))
  by_cases z : h = 0
  · subst z
    cases o with
    | none =>
      clear other
      walk_at "go"
      intro p hp
      exact And.intro rfl (t_newrow hp fun S' M => Dr.self (hP p S' (by rw [if_pos ⟨rfl, rfl⟩]; exact M)))
    | some l =>
      have other := other (fun z => by cases z.2)
      clear hP
      walk_at "go"
      intro c hc
      have other := other c hc
      walk_at "go"
      exact other
  · have other := other (fun w => z w.1)
    clear hP
    walk_at "go"
    intro c hc
    have other := other c hc
    walk_at "go"
    exact other
/-! ### plain data, judged -/
mutual
def gdP : PV → Bool
  | .non => true
  | .bl _ => true
  | .int _ => true
  | .str cs => cs.all (· < 1114112)
  | .tup xs => decide (xs.length ≤ 100) && gdsP xs
  | _ => false
def gdsP : List PV → Bool
  | [] => true
  | x :: xs => gdP x && gdsP xs
end
theorem gdsP_mem : ∀ {xs : List PV} {x : PV}, gdsP xs = true → x ∈ xs → gdP x = true
  | y :: ys, x, h, m => by
    rw [gdsP, Bool.and_eq_true] at h
    rcases List.mem_cons.mp m with e | m
    · subst e; exact h.1
    · exact gdsP_mem h.2 m
theorem gdsP_of : ∀ {xs : List PV}, (∀ x ∈ xs, gdP x = true) → gdsP xs = true
  | [], _ => rfl
  | x :: xs, h => by rw [gdsP, Bool.and_eq_true]; exact ⟨h x List.mem_cons_self, gdsP_of fun y hy => h y (List.mem_cons_of_mem _ hy)⟩
mutual
theorem gdP_dat {S : Sto} : ∀ {x : PV}, gdP x = true → DatS S x (dOf x) ∧ PyData.canLay0 (dOf x) = true ∧ PyData.depth (dOf x) ≤ deepP x
  | .non, _ => ⟨.non, rfl, Nat.le_refl _⟩
  | .bl c, _ => ⟨.bl c, rfl, Nat.le_refl _⟩
  | .int i, _ => ⟨.int i, rfl, Nat.le_refl _⟩
  | .str cs, h => ⟨.str cs, by
    have h : cs.all (· < 1114112) = true := by rw [gdP] at h; exact h
    show (⟨cs.toArray⟩ : Str).cps.all (· < 0x110000) = true
    simpa using h, Nat.le_refl _⟩
  | .tup xs, h => by
    rw [gdP, Bool.and_eq_true] at h
    obtain ⟨h1, h2, h3⟩ := gdsP_dat (S := S) h.2
    exact ⟨.tup h1, h2, by show PyData.depthAll (dsOf xs) + 1 ≤ deepsP xs + 1; omega⟩
theorem gdsP_dat {S : Sto} : ∀ {xs : List PV}, gdsP xs = true → DatsS S xs (dsOf xs) ∧ PyData.canLayAll0 (dsOf xs) = true ∧ PyData.depthAll (dsOf xs) ≤ deepsP xs
  | [], _ => ⟨.nil, rfl, Nat.le_refl _⟩
  | x :: xs, h => by
    rw [gdsP, Bool.and_eq_true] at h
    obtain ⟨a1, a2, a3⟩ := gdP_dat (S := S) h.1
    obtain ⟨b1, b2, b3⟩ := gdsP_dat (S := S) h.2
    refine ⟨.cons a1 b1, ?_, ?_⟩
    · show (PyData.canLay0 (dOf x) && PyData.canLayAll0 (dsOf xs)) = true
      rw [a2, b2]; rfl
    · show max (PyData.depth (dOf x)) (PyData.depthAll (dsOf xs)) ≤ max (deepP x) (deepsP xs)
      omega
end
theorem gd_okI {S : Sto} {x : PV} (h : gdP x = true) : okI S x := by
  cases x <;> first | exact trivial | (simp [gdP] at h)
theorem gd_okV {S : Sto} {x : PV} (h : gdP x = true) : okV S x := ⟨gd_okI h, fun xs e => by
  subst e
  rw [gdP, Bool.and_eq_true] at h
  exact ⟨of_decide_eq_true h.1, fun y hy => gd_okI (gdsP_mem h.2 hy)⟩⟩
theorem gd_okP {S : Sto} {x : PV} (h : gdP x = true) : okP S x := ⟨gd_okI h, fun xs e => by
  subst e
  rw [gdP, Bool.and_eq_true] at h
  exact ⟨of_decide_eq_true h.1, fun y hy => gd_okV (gdsP_mem h.2 hy)⟩⟩
structure okE (S : Sto) (x : PV) : Prop where
  p : okP S x
  d : ∃ d, DatS S x d ∧ PyData.canLay0 d = true ∧ PyData.depth d ≤ 8
theorem gd_okE {S : Sto} {x : PV} (h : gdP x = true) (hd : deepP x ≤ 8) : okE S x := ⟨gd_okP h, dOf x, (gdP_dat (S := S) h).1, (gdP_dat (S := S) h).2.1, by have := (gdP_dat (S := S) h).2.2; omega⟩
theorem okEs {S : Sto} : ∀ {xs : List PV}, (∀ x ∈ xs, okE S x) → ∃ ds, DatsS S xs ds ∧ PyData.canLayAll0 ds = true ∧ PyData.depthAll ds ≤ 8
  | [], _ => ⟨[], .nil, rfl, Nat.zero_le _⟩
  | x :: xs, h => by
    obtain ⟨d, a1, a2, a3⟩ := (h x List.mem_cons_self).d
    obtain ⟨ds, b1, b2, b3⟩ := okEs fun y hy => h y (List.mem_cons_of_mem _ hy)
    refine ⟨d :: ds, .cons a1 b1, ?_, ?_⟩
    · show (PyData.canLay0 d && PyData.canLayAll0 ds) = true
      rw [a2, b2]; rfl
    · show max (PyData.depth d) (PyData.depthAll ds) ≤ 8
      omega
/-- a state's three parts -/
theorem okQ3 {S : Sto} {a b : PV} {xs : List PV} (ha : okI S a) (hb : okI S b) (na : ∀ ys, a ≠ .tup ys) (nb : ∀ ys, b ≠ .tup ys) (hl : xs.length ≤ 200) (hx : ∀ x ∈ xs, okE S x) : okQ S (.tup [a, b, .tup xs]) :=
  ⟨trivial, fun vs e => by
    cases e
    refine ⟨by simp, fun c hc => ?_⟩
    simp only [List.mem_cons, List.not_mem_nil, or_false] at hc
    rcases hc with rfl | rfl | rfl
    · exact ⟨ha, fun ys e => absurd e (na ys)⟩
    · exact ⟨hb, fun ys e => absurd e (nb ys)⟩
    · refine ⟨trivial, fun ys e => ?_⟩
      cases e
      obtain ⟨ds, d1, d2, d3⟩ := okEs hx
      refine ⟨hl, fun x hx' => (hx x hx').p, ds, d1, ?_⟩
      unfold SeqAt.shaped
      rw [Bool.and_eq_true]
      exact ⟨d2, decide_eq_true (by show PyData.depthAll ds + 1 ≤ 64; omega)⟩⟩
theorem okQ_flat {S : Sto} {v : PV} (h : okI S v) (n : ∀ vs, v ≠ .tup vs) : okQ S v := ⟨h, fun vs e => absurd e (n vs)⟩
theorem okQ_parts {S : Sto} {vs : List PV} (hl : vs.length ≤ 100) (h : ∀ a ∈ vs, okI S a ∧ ∀ xs, a = .tup xs → xs = []) : okQ S (.tup vs) := ⟨trivial, fun ws e => by
  cases e
  refine ⟨hl, fun a ha => ⟨(h a ha).1, fun xs e => ?_⟩⟩
  have := (h a ha).2 xs e
  subst this
  exact ⟨by simp, fun _ h => (nomatch h), [], .nil, rfl⟩⟩
theorem gd_oI {o : Option (List Int)} (h : ∀ l, o = some l → l.length ≤ 20) : gdP (oI o) = true := by
  cases o with
  | none => rfl
  | some l =>
    show gdP (.tup (l.map PV.int)) = true
    rw [gdP, Bool.and_eq_true]
    refine ⟨decide_eq_true (by have := h l rfl; simp; omega), gdsP_of fun x hx => ?_⟩
    obtain ⟨i, _, rfl⟩ := List.mem_map.mp hx
    rfl
theorem deep_oI3 (o : Option (List Int)) : deepP (oI o) ≤ 1 := by
  cases o with
  | none => decide
  | some l =>
    show deepsP (l.map PV.int) + 1 ≤ 1
    have e : deepsP (l.map PV.int) = 0 := by
      induction l with
      | nil => rfl
      | cons x l ih => show max 0 (deepsP (l.map PV.int)) = 0; rw [ih]; rfl
    omega
theorem gd_two {x y : PV} (hx : gdP x = true) (hy : gdP y = true) : gdP (.tup [x, y]) = true := by
  rw [gdP, Bool.and_eq_true]
  exact ⟨rfl, by rw [gdsP, gdsP, gdsP, hx, hy]; rfl⟩
theorem deep_two2 {x y : PV} {n : Nat} (hx : deepP x ≤ n) (hy : deepP y ≤ n) : deepP (.tup [x, y]) ≤ n + 1 := by
  show max (deepP x) (max (deepP y) 0) + 1 ≤ n + 1
  omega
/-! ### NEW1 -/
/-! numbers that check_number takes -/
def okN (o : Option (List Int)) : Prop := (∀ l, o = some l → l.length ≤ 20) ∧ numO (oI o) = some o
theorem okN_none : okN none := ⟨fun _ e => (nomatch e), rfl⟩
theorem oI_inj {o o' : Option (List Int)} (h : oI o = oI o') : o = o' := by
  cases o with
  | none => cases o' with
    | none => rfl
    | some l => cases h
  | some l => cases o' with
    | none => cases h
    | some m =>
      injection h with h
      have e := congrArg intsOf h
      rw [intsOf_tI, intsOf_tI] at e
      exact e
theorem okN_app (l : List Int) {x u : Int} (x0 : 0 ≤ x) (u0 : 0 ≤ u) (u1 : u ≤ 31) (hl : l.length ≤ 18) : okN (some (x :: (l ++ [u]))) := by
  refine ⟨fun _ e => by cases e; simp; omega, ?_⟩
  show numO (.tup ((x :: (l ++ [u])).map PV.int)) = _
  have hf : faultN (.tup ((x :: (l ++ [u])).map PV.int)) = none := by
    rw [faultN_long (by simp), faultT_ok (badN_of _ _)]
    have e1 : fstI ((x :: (l ++ [u])).map PV.int) = x := rfl
    have e2 : lstI ((x :: (l ++ [u])).map PV.int) = u := by
      unfold lstI
      rw [show (x :: (l ++ [u])).map PV.int = ((x :: l).map PV.int) ++ [PV.int u] by simp, List.getLast?_append]
      rfl
    rw [e1, e2]
    unfold faultR
    rw [if_neg (by omega), if_pos ⟨u0, u1⟩]
  rw [numO_ok hf, intsOf_tI]
theorem t_number {b : Addr} {few : Int} {S : Sto} {P : QK PV} {E : QX} (hb : Bx S b) (h1 : 1 ≤ few) (h2 : few ≤ 1000) (k : ∀ o S', okN o → Ext b S S' → Bx S' b → P (oI o) S') : sp__law_number [.ref b, .int few] S P E := by
  unfold sp__law_number
  walk_at "go"
  refine t_take hb (by decide) (by decide) fun d S1 d0 d1 x1 hb1 => ?_
  walk_at "go"
  refine iteB_dec (fun z => ?_) (fun z => ?_)
  · walk_at "go"
    exact Dr.self (k none S1 okN_none x1 hb1)
  walk_at "go"
  refine iteB_dec (fun z => ?_) (fun z => ?_)
  · walk_at "go"
    refine t_take hb1 (by omega) (by omega) fun i S2 i0 i1 x2 hb2 => ?_
    walk_at "go"
    refine t_take hb2 (by omega) (by omega) fun j S3 j0 j1 x3 hb3 => ?_
    walk_at "go"
    exact Dr.self (k (some [i, j]) S3 (okN_app [] i0 j0 (by omega) (by decide)) (x1.trans (x2.trans x3)) hb3)
  walk_at "go"
  refine t_take hb1 (by decide) (by decide) fun i S2 i0 i1 x2 hb2 => ?_
  walk_at "go"
  intro p hp
  walk_at "go"
  refine t_pickN hb2 hp (by simp) (by simp) fun v S3 hv x3 hb3 => ?_
  obtain ⟨x, rfl, xp⟩ : ∃ x, v = .int x ∧ 0 ≤ x := by
    simp only [List.mem_cons, List.not_mem_nil, or_false] at hv
    rcases hv with h | h | h
    · exact ⟨_, h, by decide⟩
    · exact ⟨_, h, by decide⟩
    · exact ⟨_, h, i0⟩
  clear hv
  walk_at "go"
  intro c hc
  have hcb := hb3.ne hc
  have e0 : [PV.int x] = [x].map PV.int := rfl
  rw [e0]
  walk_at "go"
  have x13 := x1.trans (x2.trans x3)
  have hcS := x13.none hcb.symm hc
  refine t_take (hb3.put hcb) (by decide) (by decide) fun m S4 m0 m1 x4 hb4 => ?_
  have hc4 := x4.at hcb.symm (put_same (S := S3) (a := c) (o := .lst ([x].map PV.int)))
  have x04 := x13.trans ((Ext.new hc).trans x4)
  clear e0 hc x4 x13 x1 x2 x3 hb3 hp hb2 hb1
  walk_at "go"
  refine forQ_range (fun i τ S' => ∃ (l : List Int) (v4 : Option PV), τ = [some (.ref b), some (.int few), some (.int d), some (.ref c), v4] ∧ l.length = i ∧ S' c = some (.lst ((x :: l).map PV.int)) ∧ Ext b S S' ∧ Bx S' b) ⟨[], none, rfl, rfl, hc4, x04, hb4⟩ (fun i hi τ S5 N ⟨l, v4, e, hl, hc5, x5, hb5⟩ hN => ?_) fun τ S5 ⟨l, v4, e, hl, hc5, x5, hb5⟩ => ?_
  · subst e
    have fin : ∀ (y : Int) v4 S', S' c = some (.lst ((x :: l).map PV.int)) → Ext b S S' → Bx S' b → N [some (.ref b), some (.int few), some (.int d), some (.ref c), v4] (put S' c (.lst ((x :: l).map PV.int ++ [.int y]))) := fun y v4 S' h1 h2 h3 => hN _ _ ⟨l ++ [y], v4, rfl, by simp [hl], by rw [put_same]; simp, h2.wr hcS, h3.put hcb⟩ trivial
    have hl2 : (x :: l).length ≤ 20 := by simp; omega
    clear hN hl hc4 x04 hb4
    generalize (x :: l) = l at *
    walk_at "go"
    refine t_take hb5 (by decide) (by decide) fun u S6 _ _ x6 hb6 => ?_
    walk_at "go"
    refine t_take hb6 (by decide) (by decide) fun v S7 _ _ x7 hb7 => ?_
    walk_at "go"
    intro p hp
    walk_at "go"
    refine t_pickN hb7 hp (by simp) (by simp) fun y S8 hv x8 hb8 => ?_
    obtain ⟨y, rfl⟩ : ∃ x, y = .int x := by
      simp only [List.mem_cons, List.not_mem_nil, or_false] at hv
      rcases hv with h | h | h | h | h <;> exact ⟨_, h⟩
    clear hv
    have x58 := x6.trans (x7.trans x8)
    have hc8 := x58.at hcb.symm hc5
    have fin := fin y (some (.int i)) S8 hc8 (x5.trans x58) hb8
    clear x6 x7 x8 x58 hc5
    walk_at "go"
    exact fin
  · subst e
    clear hc4 x04 hb4
    walk_at "go"
    refine t_take hb5 (by decide) (by decide) fun u S6 u0 u1 x6 hb6 => ?_
    have hc6 := x6.at hcb.symm hc5
    clear hc5
    walk_at "go"
    intro a
    refine ⟨le_line (by simp; omega), Dr.self ?_⟩
    have e : List.map PV.int (x :: l) ++ [PV.int u] = (x :: (l ++ [u])).map PV.int := by simp
    rw [e]
    exact k (some (x :: (l ++ [u]))) S6 (okN_app l xp u0 (by omega) (by omega)) (x5.trans x6) hb6
theorem stepR_two {h t : Int} {pv : Option Rp} {last : Bool} {i : Int} {b : PV} {o : Option (List Int)} (hn : numO b = some o) : stepR h t pv last (.tup [.int i, b]) = if decide (0 ≤ i) && goodB h pv (i, o) && (!last || decide (i = t)) then some (i, o) else none := by
  show (match numO b with | some o => _ | none => none) = _
  rw [hn]
/-! valid states -/
structure Vs (h t : Int) (st : List Rp) : Prop where
  h0 : 0 ≤ h
  ht : h ≤ t
  tl : t < 2 ^ 60
  asc : asc st = true
  up : ups st
  nm : ∀ x ∈ st, okN x.2
  fst : ∀ x ∈ st, (h ≤ x.1 ∧ 1 ≤ x.1) ∨ (h = 0 ∧ x.1 = 0 ∧ x.2.isSome = true)
  last : (st = [] ∧ t = 0) ∨ ∃ u n, st = u ++ [(t, n)]
  len : st.length ≤ 60
theorem faultS_ok {h t : Int} : ∀ (l : List Rp) (pv : Option Rp) (k : Nat), (∀ x ∈ l, 0 ≤ x.1 ∧ numO (oI x.2) = some x.2) → (∀ p, pv = some p → ∀ x ∈ l, p.1 < x.1 ∧ belowO p.2 x.2 = true) → (pv = none → ∀ x, l.head? = some x → goodB h none x = true) → asc l = true → ups l → (∀ x, l.getLast? = some x → x.1 = t) → faultS h t pv k (l.map rP) = none
  | [], _, _, _, _, _, _, _, _ => rfl
  | x :: r, pv, k, h1, h2, h3, h4, h5, h6 => by
    obtain ⟨a1, a2⟩ := h1 x List.mem_cons_self
    have h4 : (r.all (fun y => belowO x.2 y.2) && asc r) = true := h4
    rw [Bool.and_eq_true, List.all_eq_true] at h4
    have g : goodB h pv (x.1, x.2) = true := by
      cases pv with
      | none => exact h3 rfl x rfl
      | some p =>
        obtain ⟨b1, b2⟩ := h2 p rfl x List.mem_cons_self
        show (decide (p.1 < x.1) && belowO p.2 x.2) = true
        rw [b2, decide_eq_true b1]; rfl
    have lt : (!(r.map rP).isEmpty || decide (x.1 = t)) = true := by
      cases r with
      | nil => rw [decide_eq_true (h6 x rfl)]; rfl
      | cons => rfl
    have e : stepR h t pv (r.map rP).isEmpty (rP x) = some (x.1, x.2) := by
      show stepR h t pv (r.map rP).isEmpty (.tup [.int x.1, oI x.2]) = _
      rw [stepR_two a2, decide_eq_true a1, g, lt]; rfl
    rw [List.map_cons]
    unfold faultS
    rw [e]
    have hu := List.pairwise_cons.mp h5
    exact faultS_ok r _ _ (fun y hy => h1 y (List.mem_cons_of_mem _ hy)) (fun p hp y hy => by cases hp; exact ⟨hu.1 y hy, h4.1 y hy⟩) (fun z => nomatch z) h4.2 hu.2 (fun y hy => h6 y (by
      cases r with
      | nil => cases hy
      | cons => exact hy))
abbrev stV (h t : Int) (st : List Rp) : PV := .tup [.int h, .int t, .tup (st.map rP)]
theorem Vs.fault {h t : Int} {st : List Rp} (V : Vs h t st) : faultV (stV h t st) = none := by
  have h0 := V.h0
  have ht := V.ht
  show (if h < 0 then some 0 else if t < h ∨ (0 < t ∧ st.map rP = []) then some 1 else faultS h t none 0 (st.map rP)) = none
  rw [if_neg (by omega), if_neg]
  · refine faultS_ok st none 0 (fun x hx => ⟨?_, (V.nm x hx).2⟩) (fun p e => nomatch e) (fun _ x hx => ?_) V.asc V.up (fun x hx => ?_)
    · rcases V.fst x hx with z | z <;> omega
    · show (if h = 0 ∧ x.1 = 0 then x.2.isSome else decide (max h 1 ≤ x.1)) = true
      rcases V.fst x (List.mem_of_mem_head? hx) with z | z
      · rw [if_neg (by omega)]
        exact decide_eq_true (by omega)
      · rw [if_pos ⟨z.1, z.2.1⟩]; exact z.2.2
    · rcases V.last with z | ⟨u, n, z⟩
      · rw [z.1] at hx; cases hx
      · rw [z, List.getLast?_append] at hx
        cases hx; rfl
  · rintro (z | ⟨z1, z2⟩)
    · omega
    · rcases V.last with z | ⟨u, n, z⟩
      · omega
      · rw [z] at z2; simp at z2
theorem Vs.okQ {h t : Int} {st : List Rp} (V : Vs h t st) (S : Sto) : okQ S (stV h t st) :=
  okQ3 trivial trivial (fun _ => nofun) (fun _ => nofun) (by have := V.len; rw [List.length_map]; omega) fun x hx => by
    obtain ⟨r, hr, rfl⟩ := List.mem_map.mp hx
    refine gd_okE (gd_two rfl (gd_oI (V.nm r hr).1)) ?_
    have := deep_two2 (x := .int r.1) (y := oI r.2) (n := 1) (by show 0 ≤ 1; decide) (deep_oI3 r.2)
    exact Nat.le_trans this (by decide)
theorem map_rP {xs ys : List Rp} (h : xs.map rP = ys.map rP) : xs = ys := by
  refine List.map_inj_right (fun a b e => ?_) |>.mp h
  unfold rP at e
  injection e with e
  injection e with e1 e2
  injection e2 with e2 _
  injection e1 with e1
  exact Prod.ext e1 (oI_inj e2)
theorem t_rowV {h t : Int} {st : List Rp} {S : Sto} {P : QK PV} {E : QX} (V : Vs h t st) (k : ∀ p S', Made S S' p h t st → P (.ref p) S') : sp_row_of [stV h t st] S P E :=
  t_rowof (V.okQ S) (fun i e => by rw [V.fault] at e; cases e) fun h' t' rs p S' _ e _ _ M => by
    injection e with e
    injection e with e1 e
    injection e with e2 e
    injection e with e3 _
    injection e1 with e1
    injection e2 with e2
    injection e3 with e3
    have e3 := map_rP e3
    subst e1; subst e2; subst e3
    exact k p S' M
theorem t_copied {p q : Addr} {h t : Int} {st : List Rp} {S : Sto} {P : QK PV} {E : QX} (hp : S p = some (rowF h t q)) (hq : S q = some (.lst (st.map rP))) (hl : st.length ≤ 500) (k : ∀ p S', Made S S' p h t st → P (.ref p) S') : sp_Row_copied [.ref p] S P E := by
  unfold sp_Row_copied
  walk_at "go"
  refine t_made (.inr ⟨q, rfl, hq⟩) hl fun p' S' M => ?_
  walk_at "go"
  exact Dr.self (k p' S' M)
/-! ### NEW2 -/
/-! like, of unlike values too -/
noncomputable def eqC (x y : PV) : Bool := @decide (x = y) (Classical.propDecidable _)
theorem eqC_iff {x y : PV} : eqC x y = true ↔ x = y := @decide_eq_true_iff _ (Classical.propDecidable _)
/-- plain data without bools -/
def Pq : Nat → PV → Prop
  | 0, _ => False
  | _ + 1, .non => True
  | _ + 1, .int _ => True
  | _ + 1, .str _ => True
  | n + 1, .tup xs => xs.length ≤ 900 ∧ ∀ x ∈ xs, Pq n x
  | _ + 1, _ => False
theorem pairs_cons {x y : PV} {xs ys : List PV} : pairsP (x :: xs) (y :: ys) = .tup [x, y] :: pairsP xs ys := rfl
theorem pairs_mem2 : ∀ {xs ys : List PV} {p : PV}, p ∈ pairsP xs ys → ∃ x ∈ xs, ∃ y ∈ ys, p = .tup [x, y]
  | [], ys, p, h => by cases ys <;> cases h
  | x :: xs, [], p, h => by cases h
  | x :: xs, y :: ys, p, h => by
    rw [pairs_cons] at h
    rcases List.mem_cons.mp h with e | h
    · exact ⟨x, List.mem_cons_self, y, List.mem_cons_self, e⟩
    · obtain ⟨a, ha, b, hb, e⟩ := pairs_mem2 h
      exact ⟨a, List.mem_cons_of_mem _ ha, b, List.mem_cons_of_mem _ hb, e⟩
noncomputable def difB : PV → Bool
  | .tup [x, y] => !eqC x y
  | _ => false
theorem pairs_dif : ∀ {xs ys : List PV}, xs.length = ys.length → (((pairsP xs ys).filter difB = []) ↔ xs = ys)
  | [], [], _ => by constructor <;> intro _ <;> rfl
  | [], _ :: _, h => by cases h
  | _ :: _, [], h => by cases h
  | x :: xs, y :: ys, h => by
    have ih := pairs_dif (xs := xs) (ys := ys) (by simpa using h)
    rw [pairs_cons]
    by_cases e : x = y
    · subst e
      rw [List.filter_cons_of_neg (by show ¬ (!eqC x x) = true; rw [eqC_iff.mpr rfl]; decide), ih]
      constructor
      · intro h; rw [h]
      · intro h; injection h
    · rw [List.filter_cons_of_pos (by show (!eqC x y) = true; cases z : eqC x y; rfl; exact absurd (eqC_iff.mp z) e)]
      constructor
      · intro h; cases h
      · intro h; injection h with h _; exact absurd h e
theorem t_like2F : ∀ (f : Nat) {x y : PV} {S : Sto} {P : QK PV} {E : QX}, Pq f x → Pq f y → P (.bl (eqC x y)) S → spN 4 r__law_like f [x, y] S P E
  | 0, _, _, _, _, _, h, _, _ => h.elim
  | f + 1, x, .non, S, P, E, hx, _, h => by
    rw [spN_succ]
    cases x with
    | non =>
      rw [eqC_iff.mpr rfl] at h
      walk_at "go"
      exact Dr.self h
    | int i =>
      rw [show eqC (.int i) .non = false by cases z : eqC (.int i) .non; rfl; cases eqC_iff.mp z] at h
      walk_at "go"
      exact Dr.self h
    | str i =>
      rw [show eqC (.str i) .non = false by cases z : eqC (.str i) .non; rfl; cases eqC_iff.mp z] at h
      walk_at "go"
      exact Dr.self h
    | tup i =>
      rw [show eqC (.tup i) .non = false by cases z : eqC (.tup i) .non; rfl; cases eqC_iff.mp z] at h
      clear hx
      walk_at "go"
      exact Dr.self h
    | _ => exact hx.elim
  | f + 1, x, .int j, S, P, E, hx, _, h => by
    rw [spN_succ]
    cases x with
    | non =>
      rw [show eqC .non (.int j) = false by cases z : eqC .non (.int j); rfl; cases eqC_iff.mp z] at h
      walk_at "go"
      exact Dr.self h
    | int i =>
      have e : eqC (.int i) (.int j) = decide (i = j) := by
        by_cases z : i = j
        · subst z; rw [eqC_iff.mpr rfl, decide_eq_true rfl]
        · rw [decide_eq_false z]; cases w : eqC (.int i) (.int j); rfl; exact absurd (by have := eqC_iff.mp w; injection this) z
      rw [e] at h
      walk_at "go"
      exact Dr.self h
    | str i =>
      rw [show eqC (.str i) (.int j) = false by cases z : eqC (.str i) (.int j); rfl; cases eqC_iff.mp z] at h
      walk_at "go"
      exact Dr.self h
    | tup i =>
      rw [show eqC (.tup i) (.int j) = false by cases z : eqC (.tup i) (.int j); rfl; cases eqC_iff.mp z] at h
      clear hx
      walk_at "go"
      exact Dr.self h
    | _ => exact hx.elim
  | f + 1, x, .str j, S, P, E, hx, _, h => by
    rw [spN_succ]
    cases x with
    | non =>
      rw [show eqC .non (.str j) = false by cases z : eqC .non (.str j); rfl; cases eqC_iff.mp z] at h
      walk_at "go"
      exact Dr.self h
    | int i =>
      rw [show eqC (.int i) (.str j) = false by cases z : eqC (.int i) (.str j); rfl; cases eqC_iff.mp z] at h
      walk_at "go"
      exact Dr.self h
    | str i =>
      have e : eqC (.str i) (.str j) = decide (i = j) := by
        by_cases z : i = j
        · subst z; rw [eqC_iff.mpr rfl, decide_eq_true rfl]
        · rw [decide_eq_false z]; cases w : eqC (.str i) (.str j); rfl; exact absurd (by have := eqC_iff.mp w; injection this) z
      rw [e] at h
      walk_at "go"
      exact Dr.self h
    | tup i =>
      rw [show eqC (.tup i) (.str j) = false by cases z : eqC (.tup i) (.str j); rfl; cases eqC_iff.mp z] at h
      clear hx
      walk_at "go"
      exact Dr.self h
    | _ => exact hx.elim
  | f + 1, x, .tup ys, S, P, E, hx, hy, h => by
    rw [spN_succ]
    obtain ⟨hl, hd⟩ : ys.length ≤ 900 ∧ ∀ x ∈ ys, Pq f x := hy
    cases x with
    | non =>
      rw [show eqC .non (.tup ys) = false by cases z : eqC .non (.tup ys); rfl; cases eqC_iff.mp z] at h
      clear hd
      walk_at "go"
      exact Dr.self h
    | int i =>
      rw [show eqC (.int i) (.tup ys) = false by cases z : eqC (.int i) (.tup ys); rfl; cases eqC_iff.mp z] at h
      clear hd
      walk_at "go"
      exact Dr.self h
    | str i =>
      rw [show eqC (.str i) (.tup ys) = false by cases z : eqC (.str i) (.tup ys); rfl; cases eqC_iff.mp z] at h
      clear hd
      walk_at "go"
      exact Dr.self h
    | tup xs =>
      obtain ⟨hl2, hd2⟩ : xs.length ≤ 900 ∧ ∀ x ∈ xs, Pq f x := hx
      by_cases e : xs.length = ys.length
      · have el : ((xs.length : Nat) : Int) = ((ys.length : Nat) : Int) := by rw [e]
        walk_at "go"
        refine lcQ_pure difB (fun _ => .int 1) (le_line (by unfold pairsP; simp; omega)) ⟨trivial, trivial⟩ (fun p N M hp hN hM => ?_) ?_
        · obtain ⟨x, hx, y, hy, rfl⟩ := pairs_mem2 hp
          have hx := hd2 x hx
          have hy := hd y hy
          have hN : (!eqC x y) = true → N (.int 1) S := hN
          have hM : (!eqC x y) = false → M S := hM
          refine ⟨_, rfl, ?_⟩
          clear hd hd2 hp e el h
          walk_at "go"
          refine t_like2F f hx hy ?_
          cases z : eqC x y with
          | true =>
            rw [z] at hM
            have hM := hM rfl
            clear hN
            walk_at "go"
          | false =>
            rw [z] at hN
            have hN := hN rfl
            clear hM
            walk_at "go"
        · have e3 : List.map (fun _ => PV.int 1) ((pairsP xs ys).filter difB) = (((pairsP xs ys).filter difB).map fun _ => (1 : Int)).map PV.int := by rw [List.map_map]; rfl
          have e4 : (((pairsP xs ys).filter difB).map fun _ => (1 : Int)).isEmpty = eqC (.tup xs) (.tup ys) := by
            have key := pairs_dif e
            cases z : (pairsP xs ys).filter difB with
            | nil => rw [eqC_iff.mpr (by rw [key.mp z])]; rfl
            | cons a r =>
              cases w : eqC (.tup xs) (.tup ys) with
              | false => rfl
              | true =>
                have w := eqC_iff.mp w
                injection w with w
                rw [key.mpr w] at z; cases z
          rw [e3]
          rw [← e4] at h
          intro a
          walk_at "go"
          intro b
          exact And.intro ⟨rfl, rfl⟩ (nil_ints (Q := fun c => Dr P (.bl c) S) (Dr.self h))
      · have e2 : eqC (.tup xs) (.tup ys) = false := by
          cases z : eqC (.tup xs) (.tup ys)
          · rfl
          · have := eqC_iff.mp z
            injection this with this
            exact absurd (by rw [this]) e
        rw [e2] at h
        have el : decide (((xs.length : Nat) : Int) = ((ys.length : Nat) : Int)) = false := decide_eq_false (by omega)
        clear hd hd2 e2
        walk_at "go"
        exact Dr.self h
    | _ => exact hx.elim
theorem t_like2 {x y : PV} {S : Sto} {P : QK PV} {E : QX} (hx : Pq 8 x) (hy : Pq 8 y) (h : P (.bl (eqC x y)) S) : sp__law_like [x, y] S P E := by
  unfold sp__law_like
  exact t_like2F 8 hx hy h
theorem t_likeL {a d : Addr} {xs : List PV} {S : Sto} {P : QK PV} {E : QX} (ha : S a = some (.lst xs)) (hd : S d = some (.lst xs)) (hl : xs.length ≤ 900) (hx : ∀ x ∈ xs, Pl 7 x) (h : P (.bl true) S) : sp__law_like [.ref a, .ref d] S P E := by
  unfold sp__law_like
  rw [show (8 : Nat) = 7 + 1 from rfl, spN_succ]
  have kd : kindOf (.ref d) S = some "list" := by unfold kindOf; simp only [hd]
  have ka : kindOf (.ref a) S = some "list" := by unfold kindOf; simp only [ha]
  have k1 : isKind "list" "int" = false := by decide
  have k2 : isKind "list" "str" = false := by decide
  have k3 : isKind "list" "tuple" = false := by decide
  have k4 : isKind "list" "list" = true := by decide
  have k5 : isKinds "list" ["tuple", "list"] = true := by decide
  walk_at "go"
  refine lcQ_pure (fun _ => false) id (le_line (by rw [pairs_len]; omega)) ⟨by unfold SH.keep; simp only [ha], by unfold SH.keep; simp only [hd]⟩ (fun p N M hp _ hM => ?_) ?_
  · obtain ⟨y, hy, rfl⟩ := pairs_mem hp
    refine ⟨_, rfl, ?_⟩
    have hM := hM rfl
    have hy := hx y hy
    clear hx hp h
    walk_at "go"
    refine t_likeF 7 hy ?_
    walk_at "go"
  · rw [List.filter_eq_nil_iff.mpr fun _ _ => Bool.false_ne_true]
    intro u
    walk_at "go"
    intro b
    refine ⟨⟨rfl, rfl⟩, [], [], .nil, .nil, rfl, rfl, ?_⟩
    exact Dr.self h
/-! ### NEW3 -/

section
variable {S : Sto} {P : QK PV} {E : QX} {p q : Addr} {hd tl : Int} {st : List Rp}
theorem t_least (hp : S p = some (rowF hd tl q)) (hq : S q = some (.lst (st.map rP))) (h : P (oI (hd2 st)) S) : sp_Row_least [.ref p] S P E := by
  unfold sp_Row_least
  cases st with
  | nil =>
    walk_at "go"
    exact Dr.self h
  | cons x st =>
    rw [List.map_cons] at hq
    walk_at "go"
    show iteB (decide _) _ _
    refine iteB_dec (fun _ => ?_) (fun z => absurd (show (0 : Int) < _ by simp) z)
    walk_at "go"
    rw [atI_0]
    walk_at "go"
    exact Dr.self h
theorem t_newest {x : Rp} (hp : S p = some (rowF hd tl q)) (hq : S q = some (.lst ((st ++ [x]).map rP))) (h : P (oI x.2) S) : sp_Row_newest [.ref p] S P E := by
  unfold sp_Row_newest
  rw [List.map_append] at hq
  walk_at "go"
  show iteB (decide _) _ _
  refine iteB_dec (fun _ => ?_) (fun z => absurd (show (0 : Int) < _ by simp) z)
  walk_at "go"
  rw [show [x].map rP = [rP x] from rfl, atI_last]
  walk_at "go"
  exact Dr.self h
theorem t_sinceX {k : Int} (hp : S p = some (rowF hd tl q)) (hs : ¬ (hd ≤ k ∧ 1 ≤ k ∧ k ≤ tl)) (h : E ⟨"Refused", [("value", .int k)]⟩ S) : sp_Row_since [.ref p, .int k] S P E := by
  unfold sp_Row_since
  walk_at "go"
  by_cases z : (if 1 > hd then 1 else hd) ≤ k
  · rw [decide_eq_true z]
    have z1 : hd ≤ k ∧ 1 ≤ k := by split at z <;> omega
    walk_at "go"
    refine iteB_ndec (fun z2 => ?_) (fun z2 => absurd ⟨z1.1, z1.2, z2⟩ hs)
    walk_at "go"
    exact Dr.self h
  · rw [decide_eq_false z]
    walk_at "go"
    exact Dr.self h
end
theorem t_lleast {reps : List Rp} {r : Addr} {k : Int} {S : Sto} {P : QK PV} {E : QX} (hr : S r = some (.lst (reps.map rP))) (h : P (oI (lstF k none reps)) S) : sp__law_least [.ref r, .int k] S P E := by
  unfold sp__law_least
  walk_at "go"
  refine forQ_at (fun rest τ S' => ∃ (l : List Rp) (f : Option (List Int)) (v3 v4 : Option PV), rest = l.map rP ∧ τ = [some (.ref r), some (.int k), some (oI f), v3, v4] ∧ S' = S ∧ lstF k f l = lstF k none reps) ⟨reps, none, none, none, rfl, rfl, rfl, rfl⟩ (fun x rest τ S' N ⟨l, f, v3, v4, e1, e2, e3, e4⟩ hN => ?_) fun τ S' ⟨l, f, v3, v4, e1, e2, e3, e4⟩ => ?_
  · subst e2; subst e3
    cases l with
    | nil => cases e1
    | cons y l =>
      injection e1 with e1 e5
      subst e1; subst e5
      obtain ⟨ys, yn⟩ := y
      have hN' : ∀ f', updL k f (ys, yn) = f' → N [some (.ref r), some (.int k), some (oI f'), some (.int ys), some (oI yn)] S' := fun f' e => hN [some (.ref r), some (.int k), some (oI f'), some (.int ys), some (oI yn)] S' ⟨l, f', _, _, rfl, rfl, rfl, by rw [← e4, ← e]; rfl⟩ hr
      clear hN e4 h hr
      unfold updL at hN'
      by_cases z : k ≤ ys
      · have hN' := fun f' => hN' f'
        simp only [decide_eq_true z, Bool.true_and] at hN'
        cases yn with
        | none =>
          have hN' := hN' f rfl
          walk_at "go"
          exact hN'
        | some y =>
          cases f with
          | none =>
            have hN' := hN' (some y) rfl
            walk_at "go"
            exact hN'
          | some f =>
            have hN' := hN' _ rfl
            walk_at "go"
            refine ⟨y, f, intsOf_tI y, intsOf_tI f, ?_⟩
            have hN' : N [some (.ref r), some (.int k), some (oI (if HT.lexLt y f then some y else some f)), some (.int ys), some (oI (some y))] S' := hN'
            cases hb : HT.lexLt y f with
            | true =>
              rw [hb, if_pos rfl] at hN'
              walk_at "go"
              exact hN'
            | false =>
              rw [hb, if_neg Bool.false_ne_true] at hN'
              walk_at "go"
              exact hN'
      · have hN' := hN' f (by rw [decide_eq_false z]; rfl)
        walk_at "go"
        exact hN'
  · subst e2; subst e3
    cases l with
    | cons y l => cases e1
    | nil =>
      walk_at "go"
      refine Dr.self ?_
      rw [show f = lstF k none reps from e4]
      exact h

theorem t_newest0 {S : Sto} {P : QK PV} {E : QX} {p q : Addr} {hd tl : Int} (hp : S p = some (rowF hd tl q)) (hq : S q = some (.lst [])) (h : P .non S) : sp_Row_newest [.ref p] S P E := by
  unfold sp_Row_newest
  walk_at "go"
  exact Dr.self h
/-! rows in the store -/
structure R1 (S : Sto) (p q : Addr) (h t : Int) (st : List Rp) : Prop where
  p : S p = some (rowF h t q)
  q : S q = some (.lst (st.map rP))
inductive Dd
  | told (v : Int) (n : Option (List Int))
  | acked (k : Int)
def dP : Dd → PV
  | .told v n => .tup [.str [116, 111, 108, 100], .int v, oI n]
  | .acked k => .tup [.str [97, 99, 107, 101, 100], .int k, .non]
def due (h t : Int) : Dd → Bool
  | .told v _ => decide (t < v)
  | .acked k => decide (h < k) && decide (k ≤ t)
def nh (h : Int) : Dd → Int
  | .told _ _ => h
  | .acked k => k
def nt (t : Int) : Dd → Int
  | .told v _ => v
  | .acked _ => t
def nst (st : List Rp) : Dd → List Rp
  | .told v n => popB n st ++ [(v, n)]
  | .acked k => st.filter fun x => decide (k ≤ x.1)
theorem t_due {h t : Int} {d : Dd} {S : Sto} {P : QK PV} {E : QX} (k : P (.bl (due h t d)) S) : sp__law_due [dP d, .int h, .int t] S P E := by
  unfold sp__law_due
  cases d with
  | told v n =>
    unfold dP
    walk_at "go"
    exact Dr.self k
  | acked v =>
    unfold dP
    have k : P (.bl (decide (h < v) && decide (v ≤ t))) S := k
    cases z : decide (h < v) with
    | true =>
      rw [z, Bool.true_and] at k
      walk_at "go"
      exact Dr.self k
    | false =>
      rw [z, Bool.false_and] at k
      walk_at "go"
      exact Dr.self k
/-- all but the row's own -/
def Ext2 (p q : Addr) (S S' : Sto) : Prop := ∀ a o, a ≠ p → a ≠ q → S a = some o → S' a = some o
theorem t_takein {p q : Addr} {h t : Int} {st : List Rp} {d : Dd} {S : Sto} {P : QK PV} {E : QX} (R : R1 S p q h t st) (ha : asc st = true) (hl : st.length < 900)
    (k1 : due h t d = true → ∀ q' S', R1 S' p q' (nh h d) (nt t d) (nst st d) → (q' = q ∨ S q' = none) → Ext2 p q S S' → P (.bl true) S') (k2 : due h t d = false → P (.bl false) S) : sp__law_take_in [.ref p, dP d] S P E := by
  have hp := R.p
  have hq := R.q
  have hpq : p ≠ q := fun e => by rw [e, hq] at hp; cases hp
  unfold sp__law_take_in
  cases d with
  | told v n =>
    unfold dP
    by_cases z : t < v
    · have k1 := k1 (decide_eq_true z)
      clear k2
      walk_at "go"
      refine t_told hp hq z hl ha ?_
      walk_at "go"
      refine Dr.self (k1 q _ ⟨put_same, by rw [put_ne hpq.symm, put_same]; rfl⟩ (.inl rfl) fun a o n1 n2 e => ?_)
      rw [put_ne n1, put_ne n2]; exact e
    · have k2 := k2 (decide_eq_false z)
      clear k1
      walk_at "go"
      refine t_toldX hp (by omega) ?_
      refine ⟨true, rfl, fun _ a d ha => ?_, fun z => (nomatch z)⟩
      walk_at "go"
      refine t_hotlike ?_
      walk_at "go"
      exact Dr.self k2
  | acked v =>
    unfold dP
    by_cases z : h < v ∧ v ≤ t
    · have k1 := k1 (by show (decide (h < v) && decide (v ≤ t)) = true; rw [decide_eq_true z.1, decide_eq_true z.2]; rfl)
      clear k2
      walk_at "go"
      refine t_acked hp hq hl z.1 z.2 fun r hr => ?_
      have pr := new_ne hp hr
      walk_at "go"
      refine Dr.self (k1 r _ ⟨put_same, by rw [put_ne pr.symm, put_same]; rfl⟩ (.inr hr) fun a o n1 n2 e => ?_)
      rw [put_ne n1, put_ne (new_ne e hr)]; exact e
    · have k2 := k2 (by
        show (decide (h < v) && decide (v ≤ t)) = false
        by_cases z1 : h < v
        · rw [decide_eq_false (fun z2 => z ⟨z1, z2⟩), Bool.and_false]
        · rw [decide_eq_false z1]; rfl)
      clear k1
      walk_at "go"
      refine t_ackedX hp z ?_
      refine ⟨true, rfl, fun _ a d ha => ?_, fun z => (nomatch z)⟩
      walk_at "go"
      refine t_hotlike ?_
      walk_at "go"
      exact Dr.self k2
/-! answers -/
def lst2 (l : List Rp) : Option (List Int) := match l.getLast? with
  | some x => x.2
  | none => none
def sinP (h t : Int) (st : List Rp) (k : Int) : PV := if h ≤ k ∧ 1 ≤ k ∧ k ≤ t then .tup [.str [105, 115], oI (hd2 (st.filter fun x => decide (k ≤ x.1)))] else .str [114, 101, 102, 117, 115, 101, 100]
theorem t_sinceL {p q : Addr} {h t k : Int} {st : List Rp} {S : Sto} {P : QK PV} {E : QX} (R : R1 S p q h t st) (V : Vs h t st) (hP : P (sinP h t st k) S) : sp__law_since [.ref p, .int k] S P E := by
  unfold sp__law_since
  have hl := V.len
  have hp := R.p
  unfold sinP at hP
  by_cases z : h ≤ k ∧ 1 ≤ k ∧ k ≤ t
  · rw [if_pos z] at hP
    walk_at "go"
    refine t_since R.p R.q (by omega) z.1 z.2.1 z.2.2 (fun e => ?_) ?_
    · rcases V.last with ⟨_, w⟩ | ⟨u, n, w⟩
      · omega
      · rw [w, List.filter_append, List.filter_cons_of_pos (by simpa using z.2.2)] at e
        simp at e
    · walk_at "go"
      exact Dr.self hP
  · rw [if_neg z] at hP
    walk_at "go"
    refine t_sinceX R.p z ?_
    refine ⟨true, rfl, fun _ a d ha => ?_, fun z => (nomatch z)⟩
    walk_at "go"
    exact Dr.self hP
theorem t_newestR {p q : Addr} {h t : Int} {st : List Rp} {S : Sto} {P : QK PV} {E : QX} (R : R1 S p q h t st) (hP : P (oI (lst2 st)) S) : sp_Row_newest [.ref p] S P E := by
  rcases List.eq_nil_or_concat st with rfl | ⟨v, x, rfl⟩
  · exact t_newest0 R.p R.q hP
  · have hq := R.q
    rw [List.concat_eq_append] at hP hq
    refine t_newest R.p hq ?_
    have e : lst2 (v ++ [x]) = x.2 := by unfold lst2; rw [List.getLast?_append]; rfl
    rw [e] at hP; exact hP
def ansP (h t : Int) (st : List Rp) (ks : List Int) : List PV := [stV h t st, oI (hd2 st), oI (lst2 st)] ++ ks.map (sinP h t st)
theorem t_answersL {p q c : Addr} {h t : Int} {st : List Rp} {ks : List Int} {S : Sto} {P : QK PV} {E : QX} (R : R1 S p q h t st) (V : Vs h t st) (hc : S c = some (.lst (ks.map PV.int))) (hk : ks.length ≤ 100) (hP : ∀ a, S a = none → P (.ref a) (put S a (.lst (ansP h t st ks)))) : sp__law_answers [.ref p, .ref c] S P E := by
  unfold sp__law_answers
  have hp := R.p
  walk_at "go"
  refine t_rstate R.p R.q ?_
  walk_at "go"
  refine t_least R.p R.q ?_
  walk_at "go"
  refine t_newestR R ?_
  walk_at "go"
  intro u
  walk_at "go"
  refine lcQ_enc (enc := PV.int) (fun _ => true) (sinP h t st) (le_line (by omega)) hc (fun k N M _ h1 _ => ?_) ?_
  · refine ⟨_, rfl, ?_⟩
    have h1 := h1 rfl
    clear hP
    walk_at "go"
    refine t_sinceL R V ?_
    exact h1
  · rw [List.filter_eq_self.mpr fun _ _ => rfl]
    walk_at "go"
    intro w
    refine And.intro (le_line (by simp; omega)) fun a ha => ?_
    exact Dr.self (hP a ha)
/-! ### NEW4 -/
def wsP (h t : Int) (reps : List Rp) (k : Int) : PV := if k < 1 ∨ k < h ∨ t < k then .str [114, 101, 102, 117, 115, 101, 100] else .tup [.str [105, 115], oI (lstF k none reps)]
def whoP (h t : Int) (reps : List Rp) (ks : List Int) : List PV := [stP h t reps, oI (lstF h none reps), oI (lst2 reps)] ++ ks.map (wsP h t reps)
theorem dats_nil {S : Sto} {xs : List PV} {ds : List PyData} (h : DatsS S xs ds) : ds.isEmpty = xs.isEmpty := by cases h <;> rfl
theorem okE_row {S : Sto} {r : Rp} (h : ∀ l, r.2 = some l → l.length ≤ 20) : okE S (rP r) := by
  refine gd_okE (gd_two rfl (gd_oI h)) ?_
  have := deep_two2 (x := .int r.1) (y := oI r.2) (n := 1) (by show 0 ≤ 1; decide) (deep_oI3 r.2)
  exact Nat.le_trans this (by decide)
theorem nil_rows {reps : List Rp} {S : Sto} {Q : Bool → Prop} (ok : okR reps) (h : Q reps.isEmpty) : ∃ ds es, DatsS S (reps.map rP) ds ∧ DatsS S [] es ∧ SeqAt.shaped (.list ds) = true ∧ SeqAt.shaped (.list es) = true ∧ Q (PyData.eqvAll ds es) := by
  obtain ⟨ds, dd, d1, d2⟩ := okEs (S := S) (xs := reps.map rP) fun x hx => by
    obtain ⟨r, hr, rfl⟩ := List.mem_map.mp hx
    exact okE_row (ok r hr)
  refine ⟨ds, [], dd, .nil, ?_, by decide, ?_⟩
  · unfold SeqAt.shaped
    rw [Bool.and_eq_true]
    exact ⟨d1, decide_eq_true (by show PyData.depthAll ds + 1 ≤ 64; omega)⟩
  · have e : PyData.eqvAll ds [] = ds.isEmpty := by cases ds <;> rfl
    rw [e, dats_nil dd]
    cases reps <;> exact h
theorem t_whole {r c : Addr} {h t : Int} {reps : List Rp} {ks : List Int} {S : Sto} {P : QK PV} {E : QX} (hr : S r = some (.lst (reps.map rP))) (hc : S c = some (.lst (ks.map PV.int))) (hl : reps.length ≤ 200) (ok : okR reps) (hk : ks.length ≤ 100)
    (hP : ∀ d S', S d = none → S' d = some (.lst (whoP h t reps ks)) → Sub S S' → P (.ref d) S') : sp__law_whole [.ref r, .int h, .int t, .ref c] S P E := by
  unfold sp__law_whole
  walk_at "go"
  refine t_state hr hl ?_
  walk_at "go"
  refine t_lleast hr ?_
  walk_at "go"
  intro u
  walk_at "go"
  refine And.intro ⟨rfl, rfl⟩ ?_
  obtain ⟨ds, es, h1, h2, h3, h4, h5⟩ := nil_rows (S := S) (Q := fun b => b = reps.isEmpty) ok rfl
  refine ⟨ds, es, h1, h2, h3, h4, ?_⟩
  clear h1 h2 h3 h4
  have lp : ∀ a, S a = none → qSeq (qFor (qiV (qVar 3)) (qgName 5)
      (qDrop (qMl fApp (qVar 4) (qaC (qIf (qOr (qTst (qBin fLt (qVar 5) (qC (.int 1)))) (qOr (qTst (qBin fLt (qVar 5) (qVar 1))) (qTst (qBin fGtA (qVar 5) (qVar 2))))) (qC (.str [114, 101, 102, 117, 115, 101, 100])) (qTup (qaC (qC (.str [105, 115])) (qaC (qCall 2 sp__law_least (qaC (qVar 0) (qaC (qVar 5) qaN))) qaN)))) qaN))))
      (qRet (qVar 4)) { nx := fun x S' => Dr P PV.non S', rt := Dr P, ex := fun x x_1 S' => Dr E x S' } ((st0 6 [.ref r, .int h, .int t, .ref c]).set 4 (some (.ref a))) (put S a (.lst [stP h t reps, oI (lstF h none reps), oI (lst2 reps)])) := fun a ha => by
    have ra := new_ne hr ha
    have ca := new_ne hc ha
    walk_at "go"
    refine forQ_ix (fun i τ S' => (∃ v5, τ = [some (.ref r), some (.int h), some (.int t), some (.ref c), some (.ref a), v5]) ∧ S' = put S a (.lst ([stP h t reps, oI (lstF h none reps), oI (lst2 reps)] ++ (ks.take i).map (wsP h t reps))))
      ⟨⟨_, rfl⟩, rfl⟩ (fun i x hx τ S' N hh hN => ?_) fun τ S' hh => ?_
    · obtain ⟨⟨v5, e1⟩, e2⟩ := hh
      subst e1
      rw [List.getElem?_map] at hx
      obtain ⟨k, hk1, rfl⟩ := Option.map_eq_some_iff.mp hx
      have tr : ks.take (i + 1) = ks.take i ++ [k] := by rw [List.take_add_one, hk1]; rfl
      have hN := hN [some (.ref r), some (.int h), some (.int t), some (.ref c), some (.ref a), some (.int k)] (put S' a (.lst ([stP h t reps, oI (lstF h none reps), oI (lst2 reps)] ++ (ks.take i).map (wsP h t reps) ++ [wsP h t reps k]))) ⟨⟨_, rfl⟩, by rw [e2, put_put, tr, List.map_append, List.append_assoc]; rfl⟩
      have hra : S' r = some (.lst (reps.map rP)) := by rw [e2, put_ne ra]; exact hr
      have hca : S' c = some (.lst (ks.map PV.int)) := by rw [e2, put_ne ca]; exact hc
      have haa : S' a = some (.lst ([stP h t reps, oI (lstF h none reps), oI (lst2 reps)] ++ (ks.take i).map (wsP h t reps))) := by rw [e2, put_same]
      have hz : ([stP h t reps, oI (lstF h none reps), oI (lst2 reps)] ++ (ks.take i).map (wsP h t reps)).length < sizeLine := by
        refine lt_line ?_
        rw [List.length_append, List.length_map, List.length_take]
        simp
        omega
      generalize ([stP h t reps, oI (lstF h none reps), oI (lst2 reps)] ++ (ks.take i).map (wsP h t reps)) = Z at *
      clear e2 hP tr hx h5
      unfold wsP at hN
      by_cases z1 : k < 1
      · rw [if_pos (.inl z1)] at hN
        walk_at "go"
        exact hN ((put_ne ca).trans hca)
      by_cases z2 : k < h
      · rw [if_pos (.inr (.inl z2))] at hN
        walk_at "go"
        exact hN ((put_ne ca).trans hca)
      by_cases z3 : t < k
      · rw [if_pos (.inr (.inr z3))] at hN
        walk_at "go"
        exact hN ((put_ne ca).trans hca)
      rw [if_neg (by omega)] at hN
      walk_at "go"
      refine t_lleast hra ?_
      walk_at "go"
      exact hN ((put_ne ca).trans hca)
    · obtain ⟨⟨v5, e1⟩, e2⟩ := hh
      subst e1
      rw [List.length_map, List.take_length] at e2
      subst e2
      walk_at "go"
      exact Dr.self (hP a _ ha (by rw [put_same]; rfl) (Sub.new ha))
  rcases List.eq_nil_or_concat reps with rfl | ⟨v, x, rfl⟩
  · have h6 : PyData.eqvAll ds es = true := h5
    clear h5 hr ok
    walk_at "go"
    exact lp
  · have h6 : PyData.eqvAll ds es = false := by rw [h5]; simp
    rw [List.concat_eq_append, List.map_append] at hr
    have el : lst2 (v.concat x) = x.2 := by rw [List.concat_eq_append]; unfold lst2; rw [List.getLast?_append]; rfl
    rw [el] at lp
    clear h5 el hl ok hP
    walk_at "go"
    rw [show [x].map rP = [rP x] from rfl, atI_last]
    walk_at "go"
    exact lp
/-! ### NEW5 -/
/-! reports that a law keeps, and the rows beside them -/
abbrev F (h : Int) (reps : List Rp) : List Rp := (falls reps).filter fun x => decide (h ≤ x.1)
structure Gd (h t : Int) (reps : List Rp) : Prop where
  h0 : 0 ≤ h
  ht : h ≤ t
  tl : t ≤ 10 ^ 12 - 1
  ok : ∀ x ∈ reps, okN x.2
  up : ups reps
  le : ∀ x ∈ reps, 0 ≤ x.1 ∧ x.1 ≤ t
  zr : ∀ x ∈ reps, x.1 = 0 → x.2.isSome = true
  last : (reps = [] ∧ t = 0) ∨ ∃ u n, reps = u ++ [(t, n)]
def nreps (reps : List Rp) : Dd → List Rp
  | .told v n => reps ++ [(v, n)]
  | .acked _ => reps
def okDd : Dd → Prop
  | .told v n => v ≤ 10 ^ 12 - 1 ∧ okN n
  | .acked _ => True
theorem Gd.okR {h t : Int} {reps : List Rp} (G : Gd h t reps) : okR reps := fun x hx => (G.ok x hx).1
theorem Gd.step {h t : Int} {reps : List Rp} {d : Dd} (G : Gd h t reps) (hd : due h t d = true) (ok : okDd d) : Gd (nh h d) (nt t d) (nreps reps d) := by
  have h0 := G.h0
  have ht := G.ht
  have tl := G.tl
  cases d with
  | told v n =>
    have hd : t < v := of_decide_eq_true hd
    obtain ⟨o1, o2⟩ := ok
    refine ⟨h0, by show h ≤ v; omega, o1, fun x hx => ?_, ?_, fun x hx => ?_, fun x hx hz => ?_, .inr ⟨reps, n, rfl⟩⟩
    · rcases List.mem_append.mp hx with hx | hx
      · exact G.ok x hx
      · rw [List.mem_singleton] at hx; subst hx; exact o2
    · refine List.pairwise_append.mpr ⟨G.up, List.pairwise_singleton _ _, fun x hx y hy => ?_⟩
      rw [List.mem_singleton] at hy; subst hy
      have := (G.le x hx).2
      show x.1 < v
      omega
    · show 0 ≤ x.1 ∧ x.1 ≤ v
      rcases List.mem_append.mp hx with hx | hx
      · have := G.le x hx; omega
      · rw [List.mem_singleton] at hx; subst hx; exact ⟨by show 0 ≤ v; omega, Int.le_refl _⟩
    · rcases List.mem_append.mp hx with hx | hx
      · exact G.zr x hx hz
      · rw [List.mem_singleton] at hx; subst hx
        have hz : v = 0 := hz
        omega
  | acked k =>
    have hd : (decide (h < k) && decide (k ≤ t)) = true := hd
    rw [Bool.and_eq_true] at hd
    have d1 := of_decide_eq_true hd.1
    have d2 := of_decide_eq_true hd.2
    exact ⟨by show 0 ≤ k; omega, d2, tl, G.ok, G.up, G.le, G.zr, G.last⟩
theorem F_F {h k : Int} {reps : List Rp} (hk : h ≤ k) : (F h reps).filter (fun x => decide (k ≤ x.1)) = F k reps := by
  unfold F
  rw [List.filter_filter]
  refine List.filter_congr fun x _ => ?_
  by_cases z : k ≤ x.1
  · rw [decide_eq_true z, decide_eq_true (show h ≤ x.1 by omega)]; rfl
  · rw [decide_eq_false z]; rfl
theorem Gd.nst {h t : Int} {reps : List Rp} {d : Dd} (G : Gd h t reps) (hd : due h t d = true) : nst (F h reps) d = F (nh h d) (nreps reps d) := by
  have ht := G.ht
  cases d with
  | told v n =>
    have hd : t < v := of_decide_eq_true hd
    exact (falls_told (show h ≤ v by omega)).symm
  | acked k =>
    have hd : (decide (h < k) && decide (k ≤ t)) = true := hd
    rw [Bool.and_eq_true] at hd
    have d1 := of_decide_eq_true hd.1
    exact F_F (by omega)
theorem falls_sl : ∀ l : List Rp, (falls l).Sublist l
  | [] => List.Sublist.refl _
  | x :: r => by
    rw [falls_cons]
    split
    · exact (falls_sl r).cons₂ x
    · exact (falls_sl r).cons x
theorem F_last {h t : Int} {reps : List Rp} (G : Gd h t reps) : (F h reps = [] ∧ reps = [] ∧ t = 0) ∨ ∃ u v n, F h reps = u ++ [(t, n)] ∧ reps = v ++ [(t, n)] := by
  have ht := G.ht
  rcases G.last with ⟨z, z2⟩ | ⟨u, n, z⟩
  · exact .inl ⟨by rw [z]; rfl, z, z2⟩
  · refine .inr ⟨(falls u).filter (fun x => belowO x.2 n) |>.filter (fun x => decide (h ≤ x.1)), u, n, ?_, z⟩
    unfold F
    rw [z, falls_app, List.filter_append, List.filter_cons_of_pos (by simpa using ht)]
    rfl
theorem Gd.vs {h t : Int} {reps : List Rp} (G : Gd h t reps) (hl : reps.length ≤ 60) : Vs h t (F h reps) := by
  have h0 := G.h0
  have ht := G.ht
  have tl := G.tl
  have sl : (F h reps).Sublist reps := List.filter_sublist.trans (falls_sl reps)
  refine ⟨h0, ht, by omega, asc_filter _ (falls_asc reps), G.up.sublist sl, fun x hx => G.ok x (sl.subset hx), fun x hx => ?_, ?_, Nat.le_trans sl.length_le hl⟩
  · have := G.le x (sl.subset hx)
    have hx2 := of_decide_eq_true (List.mem_filter.mp hx).2
    by_cases z : 1 ≤ x.1
    · exact .inl ⟨hx2, z⟩
    · have z2 : x.1 = 0 := by omega
      exact .inr ⟨by omega, z2, G.zr x (sl.subset hx) z2⟩
  · rcases F_last G with ⟨z, _, z2⟩ | ⟨u, v, n, z, _⟩
    · exact .inl ⟨z, z2⟩
    · exact .inr ⟨u, n, z⟩
theorem ans_who {h t : Int} {reps : List Rp} {ks : List Int} (G : Gd h t reps) : ansP h t (F h reps) ks = whoP h t reps ks := by
  unfold ansP whoP
  have e1 : hd2 (F h reps) = lstF h none reps := hd2_falls h reps G.up
  have e2 : lst2 (F h reps) = lst2 reps := by
    rcases F_last G with ⟨z, z1, z2⟩ | ⟨u, v, n, z, z1⟩
    · rw [z, z1]
    · rw [z, z1]; unfold lst2; rw [List.getLast?_append, List.getLast?_append]; rfl
  have e3 : sinP h t (F h reps) = wsP h t reps := by
    funext k
    unfold sinP wsP
    by_cases z : h ≤ k ∧ 1 ≤ k ∧ k ≤ t
    · rw [if_pos z, if_neg (by omega), F_F z.1, hd2_falls k reps G.up]
    · rw [if_neg z, if_pos (by omega)]
  rw [e1, e2, e3]
theorem t_deed {b : Addr} {h t few : Int} {S : Sto} {P : QK PV} {E : QX} (hb : Bx S b) (h0 : 0 ≤ h) (ht : h ≤ t) (tl : t ≤ 10 ^ 12 - 1) (f1 : 1 ≤ few) (f2 : few ≤ 1000) (k : ∀ d S', okDd d → Ext b S S' → Bx S' b → P (dP d) S') : sp__law_deed [.ref b, .int h, .int t, .int few] S P E := by
  unfold sp__law_deed
  walk_at "go"
  refine t_take hb (by decide) (by decide) fun d S1 d0 d1 x1 hb1 => ?_
  walk_at "go"
  refine iteB_dec (fun z => ?_) (fun z => ?_)
  · walk_at "go"
    refine t_take hb1 (by omega) (by omega) fun i S2 i0 i1 x2 hb2 => ?_
    walk_at "go"
    exact Dr.self (k (.acked (h + i)) S2 trivial (x1.trans x2) hb2)
  walk_at "go"
  refine t_take hb1 (by decide) (by decide) fun i S2 i0 i1 x2 hb2 => ?_
  walk_at "go"
  intro p hp
  walk_at "go"
  refine t_pickN hb2 hp (by simp) (by simp) fun v S3 hv x3 hb3 => ?_
  obtain ⟨x, rfl⟩ : ∃ x, v = .int x := by
    simp only [List.mem_cons, List.not_mem_nil, or_false] at hv
    rcases hv with h | h | h | h | h | h | h | h <;> exact ⟨_, h⟩
  clear hv hp
  walk_at "go"
  refine t_number hb3 f1 f2 fun o S4 ho x4 hb4 => ?_
  walk_at "go"
  refine Dr.self (k (.told _ o) S4 ⟨?_, ho⟩ (((x1.trans x2).trans x3).trans x4) hb4)
  show (if t + x < 10 ^ 12 - 1 then t + x else 10 ^ 12 - 1) ≤ 10 ^ 12 - 1
  split <;> omega
/-- the row (p, q) and its reports r, drawn from b -/
structure Dn (S0 S : Sto) (b p q r : Addr) (h t : Int) (reps : List Rp) : Prop where
  bx : Bx S b
  row : R1 S p q h t (F h reps)
  rl : S r = some (.lst (reps.map rP))
  fp : S0 p = none
  fq : S0 q = none
  fr : S0 r = none
  pr : p ≠ r
  qr : q ≠ r
  gd : Gd h t reps
  ext : Ext b S0 S
theorem Dn.ok {S0 S S' : Sto} {b p q r : Addr} {h t : Int} {reps : List Rp} (D : Dn S0 S b p q r h t reps) (hb0 : Bx S0 b) (x : Ext b S S') (hb : Bx S' b) : Dn S0 S' b p q r h t reps :=
  ⟨hb, ⟨x.at (hb0.ne D.fp).symm D.row.p, x.at (hb0.ne D.fq).symm D.row.q⟩, x.at (hb0.ne D.fr).symm D.rl, D.fp, D.fq, D.fr, D.pr, D.qr, D.gd, D.ext.trans x⟩
theorem Dn.take {S0 S S' : Sto} {b p q q' r : Addr} {h t : Int} {reps : List Rp} {d : Dd} (D : Dn S0 S b p q r h t reps) (hb0 : Bx S0 b) (hd : due h t d = true) (ok : okDd d) (R : R1 S' p q' (nh h d) (nt t d) (nst (F h reps) d)) (hq : q' = q ∨ S q' = none) (x : Ext2 p q S S') :
    S' r = some (.lst (reps.map rP)) ∧ Dn S0 (put S' r (.lst ((nreps reps d).map rP))) b p q' r (nh h d) (nt t d) (nreps reps d) := by
  have pb : p ≠ b := (hb0.ne D.fp).symm
  have qb : q ≠ b := (hb0.ne D.fq).symm
  have rb : r ≠ b := (hb0.ne D.fr).symm
  have q'b : q' ≠ b := by
    rcases hq with e | e
    · rw [e]; exact qb
    · exact (D.bx.ne e).symm
  have q'r : q' ≠ r := by
    rcases hq with e | e
    · rw [e]; exact D.qr
    · exact (new_ne D.rl e).symm
  have fq' : S0 q' = none := by
    rcases hq with e | e
    · rw [e]; exact D.fq
    · exact D.ext.none q'b e
  have hr := x r _ D.pr.symm D.qr.symm D.rl
  refine ⟨hr, ?_, ⟨(put_ne D.pr).trans R.p, ?_⟩, put_same, D.fp, fq', D.fr, D.pr, q'r, D.gd.step hd ok, fun a o n e => ?_⟩
  · obtain ⟨u, v, e, k⟩ := D.bx
    exact ⟨u, v, (put_ne rb.symm).trans (x b _ pb.symm qb.symm e), k⟩
  · rw [← D.gd.nst hd]
    exact (put_ne q'r).trans R.q
  · rw [put_ne (new_ne e D.fr)]
    exact x a o (new_ne e D.fp) (new_ne e D.fq) (D.ext a o n e)
theorem Gd.nil : Gd 0 0 [] := ⟨by decide, by decide, by decide, fun _ h => (nomatch h), List.Pairwise.nil, fun _ h => (nomatch h), fun _ h => (nomatch h), .inl ⟨rfl, rfl⟩⟩
theorem t_drawn {b : Addr} {few : Int} {S : Sto} {P : QK PV} {E : QX} (hb : Bx S b) (f1 : 1 ≤ few) (f2 : few ≤ 1000) (hP : ∀ p q r h t reps S', Dn S S' b p q r h t reps → reps.length ≤ 21 → P (.tup [.ref p, .ref r, .int h, .int t]) S') : sp__law_drawn [.ref b, .int few] S P E := by
  unfold sp__law_drawn
  refine seq_join (fun τ S1 => ∃ (p q r : Addr), τ = [some (.ref b), some (.int few), some (.ref p), some (.ref r), some (.int 0), some (.int 0), none, none, none] ∧ Dn S S1 b p q r 0 0 []) (fun N5 h5 => ?_) (fun τ S1 ⟨p, q, r, e, D⟩ => ?_)
  · have h5 := fun p q r S1 h1 => h5 _ S1 ⟨p, q, r, rfl, h1⟩
    clear hP
    walk_at "go"
    intro p hp
    refine And.intro rfl (t_newrow hp fun S1 M => ?_)
    obtain ⟨q, h1, h2, h3, h4, h5', h6⟩ := M
    have hb1 := hb.sub h6
    walk_at "go"
    intro r hr
    have hbr := hb1.ne hr
    have h5 := h5 p q r (put S1 r (.lst [])) ⟨hb1.put hbr, ⟨by rw [put_ne (new_ne h4 hr)]; exact h4, by rw [put_ne (new_ne h5' hr)]; exact h5'⟩, put_same, h1, h2, h6.none hr, new_ne h4 hr, new_ne h5' hr, Gd.nil, (h6.nw hr).ext⟩
    clear h1 h2 h4 h5' h6 hb1 hr
    walk_at "go"
    exact h5
  subst e
  refine seq_join (fun τ S1 => ∃ (p q r : Addr) (h : Int) (reps : List Rp) (v6 : Option PV), τ = [some (.ref b), some (.int few), some (.ref p), some (.ref r), some (.int h), some (.int h), v6, none, none] ∧ Dn S S1 b p q r h h reps ∧ reps.length ≤ 1) (fun N5 h5 => ?_) (fun τ S1 ⟨p, q, r, h, reps, v6, e, D, hl⟩ => ?_)
  · have h5 := fun p q r h reps v6 S1 h1 h2 => h5 _ S1 ⟨p, q, r, h, reps, v6, rfl, h1, h2⟩
    clear hP
    walk_at "go"
    refine t_take D.bx (by decide) (by decide) fun k S2 k0 k1 x1 hb1 => ?_
    have D1 := D.ok hb x1 hb1
    clear D x1 hb1
    walk_at "go"
    refine iteB_dec (fun z => ?_) (fun z => ?_)
    · clear z
      walk_at "go"
      intro a ha
      walk_at "go"
      refine t_pickN D1.bx ha (by simp) (by simp) fun v S3 hv x2 hb2 => ?_
      obtain ⟨h, rfl, z1, z2⟩ : ∃ m, v = .int m ∧ 0 ≤ m ∧ m ≤ 10 ^ 12 - 1 := by
        simp only [List.mem_cons, List.not_mem_nil, or_false] at hv
        rcases hv with h | h | h | h | h <;> exact ⟨_, h, by decide, by decide⟩
      have D2 := D1.ok hb x2 hb2
      clear hv D1 x2 hb2 ha
      walk_at "go"
      refine t_number D2.bx f1 f2 fun o S4 ho x3 hb3 => ?_
      have D3 := D2.ok hb x3 hb3
      clear D2 x3 hb3
      walk_at "go"
      refine t_begun fun p' S5 M => ?_
      obtain ⟨q', h1, h2, h3, h4, h6, h7⟩ := M
      have hb4 := D3.bx.sub h7
      have x4 := D3.ext.trans h7.ext
      have pb : p' ≠ b := (D3.bx.ne h1).symm
      have qb : q' ≠ b := (D3.bx.ne h2).symm
      have p0 := D3.ext.none pb h1
      have q0 := D3.ext.none qb h2
      have other : ¬ (h = 0 ∧ o = none) → ∀ c, S5 c = none → N5 [some (.ref b), some (.int few), some (.ref p'), some (.ref c), some (.int h), some (.int h), some (oI o), none, none] (put S5 c (.lst [.tup [.int h, oI o]])) := fun z c hc => by
        rw [if_neg z] at h6
        have cb : c ≠ b := (hb4.ne hc).symm
        refine h5 p' q' c h [(h, o)] _ _ ⟨hb4.put cb.symm, ⟨by rw [put_ne (new_ne h4 hc)]; exact h4, ?_⟩, put_same, p0, q0, x4.none cb hc, new_ne h4 hc, new_ne h6 hc, ⟨z1, Int.le_refl _, z2, fun x hx => ?_, List.pairwise_singleton _ _, fun x hx => ?_, fun x hx hz => ?_, .inr ⟨[], o, rfl⟩⟩, x4.trans (Ext.new hc)⟩ (by simp)
        · rw [put_ne (new_ne h6 hc), h6]
          have e : F h [(h, o)] = [(h, o)] := by unfold F; simp [falls]
          rw [e]
        · rw [List.mem_singleton] at hx; subst hx; exact ho
        · rw [List.mem_singleton] at hx; subst hx; exact ⟨z1, Int.le_refl _⟩
        · rw [List.mem_singleton] at hx; subst hx
          cases o with
          | none => exact absurd ⟨hz, rfl⟩ z
          | some l => rfl
      by_cases z : h = 0
      · cases o with
        | none =>
          subst z
          rw [if_pos ⟨rfl, rfl⟩] at h6
          have h5 := h5 p' q' r 0 [] (some (oI none)) S5 ⟨hb4, ⟨h4, h6⟩, h7 _ _ D3.rl, p0, q0, D3.fr, (new_ne D3.rl h1).symm, (new_ne D3.rl h2).symm, Gd.nil, x4⟩ (by decide)
          clear other
          walk_at "go"
          exact h5
        | some l =>
          have other := other (fun z => by cases z.2)
          subst z
          clear h5
          walk_at "go"
          intro c hc
          have other := other c hc
          walk_at "go"
          exact other
      · have other := other (fun w => z w.1)
        have zp : 0 < h := by omega
        clear h5
        walk_at "go"
        intro c hc
        have other := other c hc
        walk_at "go"
        exact other
    · exact h5 p q r 0 [] none S2 D1 (by decide)
  subst e
  walk_at "go"
  intro a ha
  walk_at "go"
  refine t_pickN D.bx ha (by simp) (by simp) fun v S2 hv x2 hb2 => ?_
  obtain ⟨m, rfl, m2⟩ : ∃ m : Nat, v = .int m ∧ m ≤ 20 := by
    simp only [List.mem_cons, List.not_mem_nil, or_false] at hv
    rcases hv with h | h | h | h | h
    · exact ⟨0, h, by decide⟩
    · exact ⟨2, h, by decide⟩
    · exact ⟨4, h, by decide⟩
    · exact ⟨10, h, by decide⟩
    · exact ⟨20, h, by decide⟩
  have D2 := D.ok hb x2 hb2
  clear hv D x2 hb2 ha
  walk_at "go"
  refine forQ_range (fun i τ S' => ∃ (q : Addr) (h t : Int) (reps : List Rp) (v6 v7 v8 : Option PV), τ = [some (.ref b), some (.int few), some (.ref p), some (.ref r), some (.int h), some (.int t), v6, v7, v8] ∧ Dn S S' b p q r h t reps ∧ reps.length ≤ 1 + i)
    ⟨q, h, h, reps, v6, none, none, rfl, D2, by omega⟩ (fun i hi τ S3 N hh hN => ?_) fun τ S3 hh => ?_
  · obtain ⟨q, h, t, reps, v6, v7, v8, e, D, hl⟩ := hh
    subst e
    have hi : i < 20 := by simp at hi; omega
    have hN := fun q h t reps v8 S' h1 h2 => hN _ S' ⟨q, h, t, reps, v6, some (.int (i : Nat)), v8, rfl, h1, h2⟩ trivial
    clear hP D2
    have G := D.gd
    have h0 := G.h0
    have ht := G.ht
    have tl := G.tl
    walk_at "go"
    refine t_deed D.bx h0 ht tl f1 f2 fun d S4 okd x4 hb4 => ?_
    have D4 := D.ok hb x4 hb4
    clear D x4 hb4
    have ha : asc (F h reps) = true := asc_filter _ (falls_asc reps)
    have hz : (F h reps).length < 900 := by
      have := List.length_filter_le (fun x : Rp => decide (h ≤ x.1)) (falls reps)
      have := falls_len reps
      show ((falls reps).filter _).length < 900
      omega
    walk_at "go"
    refine t_takein D4.row ha hz (fun hd q' S5 R5 hq x5 => ?_) (fun hd => ?_)
    · obtain ⟨hr5, D5⟩ := D4.take hb hd okd R5 hq x5
      clear R5 hq x5 D4
      walk_at "go"
      refine t_due ?_
      rw [hd]
      walk_at "go"
      cases d with
      | told v n =>
        have hN := hN q' _ _ _ (some (dP (.told v n))) _ D5 (by show (reps ++ [(v, n)]).length ≤ _; simp; omega)
        have hd : t < v := of_decide_eq_true hd
        unfold dP at hN ⊢
        have hr6 : reps.length < 900 := by omega
        rw [show (nreps reps (.told v n)).map rP = reps.map rP ++ [.tup [.int v, oI n]] by show (reps ++ [(v, n)]).map rP = _; rw [List.map_append]; rfl] at hN
        clear D5
        walk_at "go"
        exact hN
      | acked k =>
        have hN := hN q' _ _ _ (some (dP (.acked k))) _ D5 (by show reps.length ≤ _; omega)
        rw [show put S5 r (.lst ((nreps reps (.acked k)).map rP)) = S5 from put_self hr5] at hN
        have hd : (decide (h < k) && decide (k ≤ t)) = true := hd
        rw [Bool.and_eq_true] at hd
        obtain ⟨d1, d2⟩ := hd
        unfold dP at hN ⊢
        walk_at "go"
        exact hN
    · walk_at "go"
      refine t_due ?_
      rw [hd]
      walk_at "go"
      cases d with
      | told v n =>
        have hN := hN q h t reps (some (dP (.told v n))) _ D4 (by omega)
        have hd : ¬ t < v := of_decide_eq_false hd
        unfold dP at hN ⊢
        walk_at "go"
        exact hN
      | acked k =>
        have hN := hN q h t reps (some (dP (.acked k))) _ D4 (by omega)
        have hd : (decide (h < k) && decide (k ≤ t)) = false := hd
        unfold dP at hN ⊢
        cases z : decide (h < k) with
        | true =>
          rw [z, Bool.true_and] at hd
          walk_at "go"
          exact hN
        | false =>
          clear hd
          walk_at "go"
          exact hN
  · obtain ⟨q, h, t, reps, v6, v7, v8, e, D, hl⟩ := hh
    subst e
    walk_at "go"
    exact Dr.self (hP p q r h t reps S3 D (by simp at hl; omega))
/-! ### NEW6 -/
/-! equality of plain data -/
mutual
theorem eqv_iff : ∀ {f : Nat} {x y : PV}, Pq f x → Pq f y → (PyData.eqv (dOf x) (dOf y) = true ↔ x = y)
  | 0, _, _, h, _ => h.elim
  | f + 1, .non, y, _, hy => by
    cases y with
    | non => exact ⟨fun _ => rfl, fun _ => rfl⟩
    | int _ => exact ⟨nofun, nofun⟩
    | str _ => exact ⟨nofun, nofun⟩
    | tup _ => exact ⟨nofun, nofun⟩
    | _ => exact hy.elim
  | f + 1, .int i, y, _, hy => by
    cases y with
    | non => exact ⟨nofun, nofun⟩
    | int j =>
      show (i == j) = true ↔ _
      rw [beq_iff_eq]
      exact ⟨fun h => by rw [h], fun h => by injection h⟩
    | str _ => exact ⟨nofun, nofun⟩
    | tup _ => exact ⟨nofun, nofun⟩
    | _ => exact hy.elim
  | f + 1, .str c, y, _, hy => by
    cases y with
    | non => exact ⟨nofun, nofun⟩
    | int j => exact ⟨nofun, nofun⟩
    | str d =>
      show ((⟨c.toArray⟩ : Str) == ⟨d.toArray⟩) = true ↔ _
      rw [beq_iff_eq]
      exact ⟨fun h => by injection h with h; have h := congrArg Array.toList h; simp at h; rw [h], fun h => by injection h with h; rw [h]⟩
    | tup _ => exact ⟨nofun, nofun⟩
    | _ => exact hy.elim
  | f + 1, .tup xs, y, hx, hy => by
    cases y with
    | non => exact ⟨nofun, nofun⟩
    | int j => exact ⟨nofun, nofun⟩
    | str d => exact ⟨nofun, nofun⟩
    | tup ys =>
      obtain ⟨_, h1⟩ : xs.length ≤ 900 ∧ ∀ x ∈ xs, Pq f x := hx
      obtain ⟨_, h2⟩ : ys.length ≤ 900 ∧ ∀ x ∈ ys, Pq f x := hy
      show PyData.eqvAll (dsOf xs) (dsOf ys) = true ↔ _
      rw [eqvs_iff h1 h2]
      exact ⟨fun h => by rw [h], fun h => by injection h⟩
    | _ => exact hy.elim
theorem eqvs_iff : ∀ {f : Nat} {xs ys : List PV}, (∀ x ∈ xs, Pq f x) → (∀ x ∈ ys, Pq f x) → (PyData.eqvAll (dsOf xs) (dsOf ys) = true ↔ xs = ys)
  | f, [], [], _, _ => ⟨fun _ => rfl, fun _ => rfl⟩
  | f, [], _ :: _, _, _ => ⟨nofun, nofun⟩
  | f, _ :: _, [], _, _ => ⟨nofun, nofun⟩
  | f, x :: xs, y :: ys, h1, h2 => by
    show (PyData.eqv (dOf x) (dOf y) && PyData.eqvAll (dsOf xs) (dsOf ys)) = true ↔ _
    rw [Bool.and_eq_true, eqv_iff (h1 x List.mem_cons_self) (h2 y List.mem_cons_self), eqvs_iff (fun x hx => h1 x (List.mem_cons_of_mem _ hx)) (fun x hx => h2 x (List.mem_cons_of_mem _ hx))]
    exact ⟨fun h => by rw [h.1, h.2], fun h => by injection h with a b; exact ⟨a, b⟩⟩
end
theorem Pq.oI {o : Option (List Int)} {n : Nat} (h : ∀ l, o = some l → l.length ≤ 20) : Pq (n + 2) (oI o) := by
  cases o with
  | none => exact trivial
  | some l =>
    refine ⟨by have := h l rfl; simp; omega, fun x hx => ?_⟩
    obtain ⟨i, _, rfl⟩ := List.mem_map.mp hx
    exact trivial
theorem Pq.rP {r : Rp} {n : Nat} (h : ∀ l, r.2 = some l → l.length ≤ 20) : Pq (n + 3) (rP r) := by
  refine ⟨by simp, fun x hx => ?_⟩
  simp only [List.mem_cons, List.not_mem_nil, or_false] at hx
  rcases hx with rfl | rfl
  · exact trivial
  · exact Pq.oI h
theorem Vs.pq {h t : Int} {st : List Rp} (V : Vs h t st) : Pq 8 (stV h t st) := by
  refine ⟨by simp, fun x hx => ?_⟩
  simp only [List.mem_cons, List.not_mem_nil, or_false] at hx
  rcases hx with rfl | rfl | rfl
  · exact trivial
  · exact trivial
  · refine ⟨by have := V.len; simp; omega, fun x hx => ?_⟩
    obtain ⟨r, hr, rfl⟩ := List.mem_map.mp hx
    exact Pq.rP (V.nm r hr).1
theorem Vs.dat {h t : Int} {st : List Rp} (V : Vs h t st) (S : Sto) : DatS S (stV h t st) (dOf (stV h t st)) ∧ SeqAt.shaped (dOf (stV h t st)) = true := by
  have g : gdP (stV h t st) = true := by
    have g3 : gdP (.tup (st.map rP)) = true := by
      rw [gdP, Bool.and_eq_true]
      refine ⟨decide_eq_true (by have := V.len; rw [List.length_map]; omega), gdsP_of fun x hx => ?_⟩
      obtain ⟨r, hr, rfl⟩ := List.mem_map.mp hx
      exact gd_two rfl (gd_oI (V.nm r hr).1)
    rw [gdP, Bool.and_eq_true]
    exact ⟨rfl, gdsP_of fun x hx => by
      simp only [List.mem_cons, List.not_mem_nil, or_false] at hx
      rcases hx with rfl | rfl | rfl
      · rfl
      · rfl
      · exact g3⟩
  have dp : deepP (stV h t st) ≤ 8 := by
    have d3 : deepsP (st.map rP) ≤ 2 := by
      have : ∀ l : List Rp, deepsP (l.map rP) ≤ 2 := fun l => by
        induction l with
        | nil => exact Nat.zero_le _
        | cons x l ih =>
          have := deep_two2 (x := .int x.1) (y := oI x.2) (n := 1) (by show 0 ≤ 1; decide) (deep_oI3 x.2)
          show max (deepP (rP x)) (deepsP (l.map rP)) ≤ 2
          exact Nat.max_le.mpr ⟨this, ih⟩
      exact this st
    show max 0 (max 0 (max (deepsP (st.map rP) + 1) 0)) + 1 ≤ 8
    omega
  obtain ⟨h1, h2, h3⟩ := gdP_dat (S := S) g
  refine ⟨h1, ?_⟩
  unfold SeqAt.shaped
  rw [Bool.and_eq_true]
  exact ⟨h2, decide_eq_true (by omega)⟩
/-! near -/
theorem asc_pw : ∀ {l : List Rp}, asc l = true ↔ l.Pairwise fun x y => belowO x.2 y.2 = true
  | [] => ⟨fun _ => List.Pairwise.nil, fun _ => rfl⟩
  | x :: r => by
    show (r.all (fun y => belowO x.2 y.2) && asc r) = true ↔ _
    rw [Bool.and_eq_true, List.all_eq_true, asc_pw (l := r), List.pairwise_cons]
theorem asc_sl {l m : List Rp} (h : asc m = true) (s : l.Sublist m) : asc l = true := asc_pw.mpr ((asc_pw.mp h).sublist s)
def Good (v : PV) : Prop := ∃ h t st, v = stV h t st ∧ Vs h t st
theorem Vs.ge {h t : Int} {st : List Rp} (V : Vs h t st) : ∀ x ∈ st, 0 ≤ x.1 ∧ x.1 ≤ t := fun x hx => by
  have h0 := V.h0
  refine ⟨by rcases V.fst x hx with z | z <;> omega, ?_⟩
  rcases V.last with ⟨e, _⟩ | ⟨u, n, e⟩
  · rw [e] at hx; cases hx
  · rw [e] at hx
    rcases List.mem_append.mp hx with hx | hx
    · have hu := V.up
      rw [e] at hu
      have := (List.pairwise_append.mp hu).2.2 x hx (t, n) (by simp)
      have : x.1 < t := this
      omega
    · rw [List.mem_singleton] at hx; subst hx; exact Int.le_refl _
theorem Vs.erase {h t : Int} {st : List Rp} (V : Vs h t st) {i : Nat} (hi : i + 1 < st.length) : Vs h t (st.eraseIdx i) := by
  have sl : (st.eraseIdx i).Sublist st := List.eraseIdx_sublist _ _
  refine ⟨V.h0, V.ht, V.tl, asc_sl V.asc sl, V.up.sublist sl, fun x hx => V.nm x (sl.subset hx), fun x hx => V.fst x (sl.subset hx), ?_, Nat.le_trans sl.length_le V.len⟩
  rcases V.last with ⟨e, _⟩ | ⟨u, n, e⟩
  · rw [e] at hi; simp at hi
  · refine .inr ⟨u.eraseIdx i, n, ?_⟩
    rw [e] at hi ⊢
    rw [List.eraseIdx_append_of_lt_length (by simp at hi; exact hi)]
theorem Vs.later {h t : Int} {u : List Rp} {n : Option (List Int)} (V : Vs h t (u ++ [(t, n)])) (tl : t ≤ 10 ^ 12) (t0 : 0 < t) : Vs h (t + 1) (u ++ [(t + 1, n)]) := by
  have h0 := V.h0
  have ht := V.ht
  have a := asc_pw.mp V.asc
  refine ⟨h0, by omega, by omega, ?_, ?_, fun x hx => ?_, fun x hx => ?_, .inr ⟨u, n, rfl⟩, by have := V.len; simp at this ⊢; omega⟩
  · refine asc_pw.mpr (List.pairwise_append.mpr ⟨(List.pairwise_append.mp a).1, List.pairwise_singleton _ _, fun x hx y hy => ?_⟩)
    rw [List.mem_singleton] at hy; subst hy
    exact (List.pairwise_append.mp a).2.2 x hx (t, n) (by simp)
  · refine List.pairwise_append.mpr ⟨(List.pairwise_append.mp V.up).1, List.pairwise_singleton _ _, fun x hx y hy => ?_⟩
    rw [List.mem_singleton] at hy; subst hy
    have : x.1 < t := (List.pairwise_append.mp V.up).2.2 x hx (t, n) (by simp)
    show x.1 < t + 1
    omega
  · rcases List.mem_append.mp hx with hx | hx
    · exact V.nm x (List.mem_append_left _ hx)
    · rw [List.mem_singleton] at hx; subst hx; exact V.nm (t, n) (by simp)
  · rcases List.mem_append.mp hx with hx | hx
    · exact V.fst x (List.mem_append_left _ hx)
    · rw [List.mem_singleton] at hx; subst hx
      exact .inl ⟨by show h ≤ t + 1; omega, by show 1 ≤ t + 1; omega⟩
theorem below_non {x y : Option (List Int)} (h : belowO x y = true) : belowO x none = true := by
  cases x with
  | none => cases y <;> cases h
  | some l => rfl
theorem Vs.none {h t : Int} {u : List Rp} {n : Option (List Int)} (V : Vs h t (u ++ [(t, n)])) (t0 : 0 < t) : Vs h t (u ++ [(t, none)]) := by
  have h0 := V.h0
  have ht := V.ht
  have a := asc_pw.mp V.asc
  refine ⟨h0, ht, V.tl, ?_, ?_, fun x hx => ?_, fun x hx => ?_, .inr ⟨u, Option.none, rfl⟩, by have := V.len; simp at this ⊢; omega⟩
  · refine asc_pw.mpr (List.pairwise_append.mpr ⟨(List.pairwise_append.mp a).1, List.pairwise_singleton _ _, fun x hx y hy => ?_⟩)
    rw [List.mem_singleton] at hy; subst hy
    exact below_non ((List.pairwise_append.mp a).2.2 x hx (t, n) (by simp))
  · refine List.pairwise_append.mpr ⟨(List.pairwise_append.mp V.up).1, List.pairwise_singleton _ _, fun x hx y hy => ?_⟩
    rw [List.mem_singleton] at hy; subst hy
    exact (List.pairwise_append.mp V.up).2.2 x hx (t, n) (by simp)
  · rcases List.mem_append.mp hx with hx | hx
    · exact V.nm x (List.mem_append_left _ hx)
    · rw [List.mem_singleton] at hx; subst hx; exact okN_none
  · rcases List.mem_append.mp hx with hx | hx
    · exact V.fst x (List.mem_append_left _ hx)
    · rw [List.mem_singleton] at hx; subst hx
      exact .inl ⟨ht, by show 1 ≤ t; omega⟩
theorem Vs.head {h t : Int} {x : Rp} {r : List Rp} (V : Vs h t (x :: r)) (hx : h < x.1) (ht : h < t) : Vs (h + 1) t (x :: r) := by
  have h0 := V.h0
  refine ⟨by omega, by omega, V.tl, V.asc, V.up, V.nm, fun y hy => .inl ?_, V.last, V.len⟩
  rcases List.mem_cons.mp hy with e | hy
  · subst e; omega
  · have := (List.pairwise_cons.mp V.up).1 y hy; omega
/-! ### NEW7 -/
theorem erase_cut {st : List Rp} {i : Nat} (hi : i + 1 ≤ st.length) : cut (st.map rP) none (some (i : Int)) ++ cut (st.map rP) (some ((i : Int) + 1)) none = (st.eraseIdx i).map rP := by
  rw [cut_to (by omega), cut_from (by omega), show ((i : Int) + 1).toNat = i + 1 by omega, Int.toNat_natCast, List.eraseIdx_eq_take_drop_succ, List.map_append, List.map_take, List.map_drop]
theorem cut_init {xs : List PV} {x : PV} : cut (xs ++ [x]) none (some (-1)) = xs := by
  unfold cut HT.sIx
  simp
  rw [show (-1 + ((xs.length : Int) + 1)).toNat = xs.length by omega]
  simp
def ers (h t : Int) (st : List Rp) : PV → PV
  | .int i => stV h t (st.eraseIdx i.toNat)
  | _ => .non
theorem t_near {b : Addr} {h t : Int} {st : List Rp} {S : Sto} {P : QK PV} {E : QX} (hb : Bx S b) (V : Vs h t st) (tl : t ≤ 10 ^ 12) (k : ∀ v S', Good v → Ext b S S' → Bx S' b → P v S') : sp__law_near [.ref b, stV h t st] S P E := by
  unfold sp__law_near
  have hl := V.len
  have fin : ∀ (f : Addr) (L : List PV) (S1 : Sto), S1 f = some (.lst L) → f ≠ b → Bx S1 b → Ext b S S1 → L ≠ [] → L.length ≤ 100 → (∀ x ∈ L, Good x) → ∀ v6 : Option PV,
      qRet (qCall 2 sp__law_pick (qaC (qVar 0) (qaC (qIf (qAnd (qTst (qBin fGtA (qCal fLen (qaC (qVar 5) qaN)) (qC (.int 1)))) (qTst (qBin fGtA (qCall 2 sp__law_take (qaC (qVar 0) (qaC (qC (.int 4)) qaN))) (qC (.int 0))))) (qSl (qVar 5) (qoS (qC (.int 1))) qoN) (qVar 5)) qaN)))
        { nx := fun _ S' => Dr P .non S', rt := Dr P, ex := fun x _ S' => Dr E x S' } [some (.ref b), some (stV h t st), some (.int h), some (.int t), some (.tup (st.map rP)), some (.ref f), v6] S1 := fun f L S1 hf fb hb1 x1 hL hL2 hg v6 => by
    have whole : ∀ S2, S2 f = some (.lst L) → Bx S2 b → Ext b S S2 → sp__law_pick [.ref b, .ref f] S2 (Dr P) (fun x S' => Dr E x S') := fun S2 h2 hb2 x2 =>
      t_pick hb2 h2 fb (List.length_pos_iff.mpr hL) (Nat.lt_of_le_of_lt hL2 (by decide)) fun v S3 hv x3 hb3 => Dr.self (k v S3 (hg v hv) (x2.trans x3) hb3)
    have L0 : 0 < L.length := List.length_pos_iff.mpr hL
    walk_at "go"
    cases zl : decide ((1 : Int) < (L.length : Int)) with
    | false =>
      walk_at "go"
      exact whole _ hf hb1 x1
    | true =>
      have zl := of_decide_eq_true zl
      walk_at "go"
      refine t_take hb1 (by decide) (by decide) fun d S2 _ _ x2 hb2 => ?_
      have hf2 := x2.at fb hf
      have x2 := x1.trans x2
      walk_at "go"
      refine iteB_dec (fun z => ?_) (fun z => ?_)
      · clear whole
        walk_at "go"
        rw [cut_from (by decide)]
        intro n hn
        walk_at "go"
        refine t_pickN hb2 hn ?_ ?_ fun v S3 hv x3 hb3 => Dr.self (k v S3 (hg v (List.mem_of_mem_drop hv)) (x2.trans x3) hb3)
        · rw [List.length_drop]; show 0 < L.length - 1; omega
        · rw [List.length_drop]; exact Nat.lt_of_le_of_lt (show L.length - 1 ≤ 100 by omega) (by decide)
      · walk_at "go"
        exact whole _ hf2 hb2 x2
  refine seq_join (fun τ S' => S' = S ∧ τ = [some (.ref b), some (stV h t st), some (.int h), some (.int t), some (.tup (st.map rP)), none, none]) (fun N5 h5 => ?_) (fun τ S1 ⟨e1, e2⟩ => ?_)
  · have h5 := h5 _ _ ⟨rfl, rfl⟩
    clear k fin
    unfold stV
    walk_at "go"
    exact h5
  subst e1; subst e2
  refine seq_join (fun τ S' => ∃ f L v6, τ = [some (.ref b), some (stV h t st), some (.int h), some (.int t), some (.tup (st.map rP)), some (.ref f), v6] ∧ S' f = some (.lst L) ∧ f ≠ b ∧ Bx S' b ∧ Ext b S1 S' ∧ L ≠ [] ∧ L.length ≤ 90 ∧ (∀ x ∈ L, Good x) ∧ S1 f = Option.none) (fun N5 h5 => ?_) (fun τ S2 ⟨f, L, v6, e1, hf, fb, hb2, x2, hL, hL2, hg, f0⟩ => ?_)
  · have h5 := fun f L v6 S' a1 a2 a3 a4 a5 a6 a7 a8 => h5 _ S' ⟨f, L, v6, rfl, a1, a2, a3, a4, a5, a6, a7, a8⟩
    clear k fin
    unfold stV at h5 ⊢
    walk_at "go"
    intro u
    walk_at "go"
    have e1 : (((st.map rP).length : Int) - 1).toNat = st.length - 1 := by rw [List.length_map]; omega
    refine And.intro (by rw [List.length_map]; omega) (lcQ_map (ers h t st) (rangeP_len (by omega)) trivial (fun p N hm hN => ?_) ?_)
    · obtain ⟨j, hj, e⟩ := List.mem_iff_getElem.mp hm
      obtain ⟨g1, g2⟩ := rangeP_at (List.getElem?_eq_some_iff.mpr ⟨hj, e⟩)
      subst g1
      rw [e1] at g2
      have ec : cut (st.map rP) none (some (j : Int)) ++ cut (st.map rP) (some ((j : Int) + 1)) none = (st.eraseIdx j).map rP := erase_cut (by omega)
      have hN : N (stV h t (st.eraseIdx j)) S1 := hN
      refine ⟨_, rfl, ?_⟩
      clear h5 hm hj e e1
      unfold stV at hN
      have el := congrArg List.length ec
      rw [List.length_append, List.length_map] at el
      have el2 := List.length_eraseIdx_le st j
      walk_at "go"
    · intro w
      have hgood : ∀ x ∈ [stV h t st] ++ (rangeP 0 (st.length - 1)).map (ers h t st), Good x := fun x hx => by
        rcases List.mem_append.mp hx with hx | hx
        · rw [List.mem_singleton] at hx; subst hx; exact ⟨h, t, st, rfl, V⟩
        · obtain ⟨p, hp, rfl⟩ := List.mem_map.mp hx
          obtain ⟨j, hj, e⟩ := List.mem_iff_getElem.mp hp
          obtain ⟨g1, g2⟩ := rangeP_at (List.getElem?_eq_some_iff.mpr ⟨hj, e⟩)
          subst g1
          exact ⟨h, t, _, rfl, V.erase (by show j + 1 < st.length; omega)⟩
      have hlen : ([stV h t st] ++ (rangeP 0 (st.length - 1)).map (ers h t st)).length ≤ 70 := by
        rw [List.length_append, List.length_map, rangeP_length]; simp; omega
      rw [e1]
      refine And.intro (le_line (by rw [List.length_append] at hlen; exact Nat.le_trans hlen (by decide))) fun f hf => ?_
      have fb : f ≠ b := (hb.ne hf).symm
      have h5 := h5 f ([stV h t st] ++ (rangeP 0 (st.length - 1)).map (ers h t st)) none _ put_same fb (hb.put fb.symm) (Ext.new hf) (by simp) (by omega) hgood hf
      walk_at "go"
      exact h5
  subst e1
  refine seq_join (fun τ S' => ∃ L v6, τ = [some (.ref b), some (stV h t st), some (.int h), some (.int t), some (.tup (st.map rP)), some (.ref f), v6] ∧ S' f = some (.lst L) ∧ Bx S' b ∧ Ext b S1 S' ∧ L ≠ [] ∧ L.length ≤ 100 ∧ ∀ x ∈ L, Good x) (fun N5 h5 => ?_) (fun τ S3 ⟨L, v6, e1, hf, hb3, x3, hL, hL2, hg⟩ => ?_)
  · have h5 := fun L S' a1 a2 a3 a4 a5 a6 => h5 _ S' ⟨L, v6, rfl, a1, a2, a3, a4, a5, a6⟩
    clear k fin
    by_cases t0 : 0 < t
    · rcases V.last with ⟨_, z⟩ | ⟨u, n, z⟩
      · omega
      have lu : u.length ≤ 59 := by rw [z] at hl; simp at hl; omega
      have g1 : Good (stV h (t + 1) (u ++ [(t + 1, n)])) := ⟨_, _, _, rfl, (z ▸ V).later tl t0⟩
      have g2 : Good (stV h t (u ++ [(t, none)])) := ⟨_, _, _, rfl, (z ▸ V).none t0⟩
      have c1 : cut (st.map rP) none (some (-1)) = u.map rP := by rw [z, List.map_append]; exact cut_init
      have c2 : atI (st.map rP) (-1) = some (rP (t, n)) := by rw [z, List.map_append]; exact atI_last
      have fb' := fb.symm
      obtain ⟨x0, r0, hx⟩ : ∃ x r, st = x :: r := by
        cases st with
        | nil => simp at z
        | cons x r => exact ⟨x, r, rfl⟩
      have c3 : atI (st.map rP) 0 = some (rP x0) := by rw [hx]; exact atI_0
      have e1 : u.map rP ++ [PV.tup [.int (t + 1), oI n]] = (u ++ [(t + 1, n)]).map rP := by rw [List.map_append]; rfl
      have e2 : u.map rP ++ [PV.tup [.int t, .non]] = (u ++ [(t, none)]).map rP := by rw [List.map_append]; rfl
      have x4 : ∀ o, Ext b S1 (put S2 f o) := fun o => x2.wr f0
      have g3 : h < x0.1 → h < t → Good (stV (h + 1) t st) := fun a b => ⟨_, _, _, rfl, by rw [hx] at V ⊢; exact V.head a b⟩
      clear z hx
      have h5 := fun L2 a4 a5 a6 => h5 L2 (put S2 f (.lst L2)) put_same (hb2.put fb') (x4 _) a4 a5 a6
      have mem : ∀ {A : List PV} {y : PV}, (∀ x ∈ A, Good x) → Good y → ∀ x ∈ A ++ [y], Good x := fun h1 h2 x hx => by
        rcases List.mem_append.mp hx with hx | hx
        · exact h1 x hx
        · rw [List.mem_singleton] at hx; subst hx; exact h2
      have g12 := mem (mem hg g1) g2
      have l12 : (L ++ [stV h (t + 1) (u ++ [(t + 1, n)])] ++ [stV h t (u ++ [(t, none)])]).length ≤ 92 := by simp; omega
      have n12 : L ++ [stV h (t + 1) (u ++ [(t + 1, n)])] ++ [stV h t (u ++ [(t, none)])] ≠ [] := by simp
      walk_at "go"
      rw [put_put]
      unfold stV at l12 n12 g12
      generalize hL12 : (L ++ [PV.tup [.int h, .int (t + 1), .tup ((u ++ [(t + 1, n)]).map rP)]] ++ [PV.tup [.int h, .int t, .tup ((u ++ [(t, none)]).map rP)]]) = L12 at l12 n12 g12 ⊢
      cases z : decide (h < x0.1) with
      | false =>
        have h5 := h5 L12 n12 (by omega) g12
        walk_at "go"
      | true =>
        have z := of_decide_eq_true z
        have h50 := h5 L12 n12 (by omega) g12
        have h51 : ∀ z2 : h < t, _ := fun z2 => h5 (L12 ++ [stV (h + 1) t st]) (by simp) (by simp; omega) (mem g12 (g3 z z2))
        clear h5 g3 hL12
        walk_at "go"
        refine iteB_dec (fun z2 => ?_) (fun z2 => ?_)
        · have h51 := h51 z2
          unfold stV at h51 h50 ⊢
          clear h50
          walk_at "go"
          rw [put_put]
          exact h51
        · walk_at "go"
    · walk_at "go"
      exact h5 L S2 hf hb2 x2 hL (by omega) hg
  subst e1
  exact fin f L S3 hf fb hb3 x3 hL hL2 hg v6
/-! ### NEW8 -/
/-! unlike states are told apart -/
theorem told_apart {h t : Int} : ∀ {l m : List Rp}, l ≠ [] → m ≠ [] → ups l → ups m → asc l = true → asc m = true → (∀ x ∈ l, 0 ≤ x.1 ∧ x.1 ≤ t) → (∀ x ∈ m, 0 ≤ x.1 ∧ x.1 ≤ t) →
    (∃ u n, l = u ++ [(t, n)]) → (∃ u n, m = u ++ [(t, n)]) → hd2 l = hd2 m →
    (∀ k, 0 < k → (k ∈ l.map Prod.fst ∨ k ∈ m.map Prod.fst) → hd2 (l.filter fun x => decide (k ≤ x.1)) = hd2 (m.filter fun x => decide (k ≤ x.1))) → l = m := by
  intro l
  induction l with
  | nil => intro m h1; exact absurd rfl h1
  | cons x r ih =>
    intro m _ hm u1 u2 a1 a2 g1 g2 la lb hh hk
    cases m with
    | nil => exact absurd rfl hm
    | cons y s =>
      have e2 : x.2 = y.2 := hh
      have u1 := List.pairwise_cons.mp u1
      have u2 := List.pairwise_cons.mp u2
      have a1 := List.pairwise_cons.mp (asc_pw.mp a1)
      have a2 := List.pairwise_cons.mp (asc_pw.mp a2)
      have last : ∀ {x : Rp} {r : List Rp}, (∃ u n, x :: r = u ++ [(t, n)]) → (r = [] ∧ x.1 = t) ∨ ∃ u n, r = u ++ [(t, n)] := fun {x r} ⟨u, n, e⟩ => by
        cases u with
        | nil => injection e with e1 e2; exact .inl ⟨e2, by rw [e1]⟩
        | cons z u => injection e with e1 e2; exact .inr ⟨u, n, e2⟩
      have same : ∀ {x y : Rp} {r s : List Rp}, x.2 = y.2 → x.1 < y.1 → (∀ z ∈ r, belowO x.2 z.2 = true) → (∀ z ∈ s, y.1 < z.1) → 0 ≤ x.1 → y.1 ≤ t → ((r = [] ∧ x.1 = t) ∨ ∃ u n, r = u ++ [(t, n)]) →
          hd2 ((x :: r).filter fun z => decide (y.1 ≤ z.1)) = hd2 ((y :: s).filter fun z => decide (y.1 ≤ z.1)) → False := fun {x y r s} e lt ab us x0 yt lr hq => by
        rw [List.filter_cons_of_neg (by simp; omega), List.filter_cons_of_pos (by simp)] at hq
        rcases lr with ⟨_, w⟩ | ⟨u, n, w⟩
        · omega
        · cases z : r.filter fun z => decide (y.1 ≤ z.1) with
          | nil =>
            rw [w, List.filter_append, List.filter_cons_of_pos (by simpa using yt)] at z
            simp at z
          | cons p q =>
            have hp : p ∈ r := (List.mem_filter.mp (by rw [z]; exact List.mem_cons_self)).1
            rw [z] at hq
            have hq : p.2 = y.2 := hq
            have := ab p hp
            rw [hq, ← e] at this
            have z2 := below_asym this
            rw [this] at z2; cases z2
      have gx := g1 x List.mem_cons_self
      have gy := g2 y List.mem_cons_self
      have la := last la
      have lb := last lb
      have e1 : x.1 = y.1 := by
        rcases Int.lt_trichotomy x.1 y.1 with w | w | w
        · exact (same e2 w a1.1 u2.1 gx.1 gy.2 la (hk y.1 (by omega) (.inr (by simp)))).elim
        · exact w
        · exact (same e2.symm w a2.1 u1.1 gy.1 gx.2 lb (hk x.1 (by omega) (.inl (by simp))).symm).elim
      have exy : x = y := Prod.ext e1 e2
      subst exy
      congr 1
      by_cases er : r = []
      · subst er
        rcases la with ⟨_, w⟩ | ⟨u, n, w⟩
        · cases s with
          | nil => rfl
          | cons z s =>
            have := u2.1 z List.mem_cons_self
            have := (g2 z (by simp)).2
            omega
        · simp at w
      by_cases es : s = []
      · subst es
        rcases lb with ⟨_, w⟩ | ⟨u, n, w⟩
        · cases r with
          | nil => rfl
          | cons z r =>
            have := u1.1 z List.mem_cons_self
            have := (g1 z (by simp)).2
            omega
        · simp at w
      have la : ∃ u n, r = u ++ [(t, n)] := by rcases la with ⟨w, _⟩ | w; exact absurd w er; exact w
      have lb : ∃ u n, s = u ++ [(t, n)] := by rcases lb with ⟨w, _⟩ | w; exact absurd w es; exact w
      have drop : ∀ k, x.1 < k → ∀ l : List Rp, (x :: l).filter (fun z => decide (k ≤ z.1)) = l.filter fun z => decide (k ≤ z.1) := fun k hk l => List.filter_cons_of_neg (by simp; omega)
      have tail : ∀ k, 0 < k → (k ∈ r.map Prod.fst ∨ k ∈ s.map Prod.fst) → hd2 (r.filter fun z => decide (k ≤ z.1)) = hd2 (s.filter fun z => decide (k ≤ z.1)) := fun k k0 km => by
        have lt : x.1 < k := by
          rcases km with km | km
          · obtain ⟨z, hz, rfl⟩ := List.mem_map.mp km; exact u1.1 z hz
          · obtain ⟨z, hz, rfl⟩ := List.mem_map.mp km; exact u2.1 z hz
        have := hk k k0 (by rcases km with km | km; exact .inl (List.mem_cons_of_mem _ km); exact .inr (List.mem_cons_of_mem _ km))
        rw [drop k lt, drop k lt] at this
        exact this
      have all : ∀ k (l : List Rp), (∀ z ∈ l, k ≤ z.1) → l.filter (fun z => decide (k ≤ z.1)) = l := fun k l h => List.filter_eq_self.mpr fun z hz => decide_eq_true (h z hz)
      have hd : hd2 r = hd2 s := by
        cases r with
        | nil => exact absurd rfl er
        | cons p r =>
          cases s with
          | nil => exact absurd rfl es
          | cons q s =>
            have p1 := List.pairwise_cons.mp u1.2
            have q1 := List.pairwise_cons.mp u2.2
            have px := u1.1 p List.mem_cons_self
            have qx := u2.1 q List.mem_cons_self
            have pa : ∀ z ∈ p :: r, p.1 ≤ z.1 := fun z hz => by
              rcases List.mem_cons.mp hz with e | hz
              · rw [e]; exact Int.le_refl _
              · have := p1.1 z hz; omega
            have qa : ∀ z ∈ q :: s, q.1 ≤ z.1 := fun z hz => by
              rcases List.mem_cons.mp hz with e | hz
              · rw [e]; exact Int.le_refl _
              · have := q1.1 z hz; omega
            rcases Int.le_total p.1 q.1 with w | w
            · have := tail p.1 (by omega) (.inl (by simp))
              rw [all p.1 _ pa, all p.1 _ fun z hz => by have := qa z hz; omega] at this
              exact this
            · have := tail q.1 (by omega) (.inr (by simp))
              rw [all q.1 _ fun z hz => by have := pa z hz; omega, all q.1 _ qa] at this
              exact this
      exact ih er es u1.2 u2.2 (asc_pw.mpr a1.2) (asc_pw.mpr a2.2) (fun z hz => g1 z (List.mem_cons_of_mem _ hz)) (fun z hz => g2 z (List.mem_cons_of_mem _ hz)) la lb hd tail
theorem Vs.apart {h t : Int} {l m : List Rp} (V : Vs h t l) (W : Vs h t m) (hh : hd2 l = hd2 m) (hk : ∀ k, 0 < k → (k ∈ l.map Prod.fst ∨ k ∈ m.map Prod.fst) → sinP h t l k = sinP h t m k) : l = m := by
  have empty : ∀ {l m : List Rp}, Vs h t l → Vs h t m → l = [] → hd2 l = hd2 m → l = m := fun {l m} V W e hh => by
    subst e
    rcases W.last with ⟨w, _⟩ | ⟨u, n, w⟩
    · exact w.symm
    · rcases V.last with ⟨_, z⟩ | ⟨u', n', z⟩
      · cases m with
        | nil => rfl
        | cons x r =>
          have hx := W.ge x List.mem_cons_self
          rcases W.fst x List.mem_cons_self with y | y
          · omega
          · have hh : Option.none = x.2 := hh
            rw [← hh] at y
            cases y.2.2
      · simp at z
  by_cases e : l = []
  · exact empty V W e hh
  by_cases e2 : m = []
  · exact (empty W V e2 hh.symm).symm
  have la : ∃ u n, l = u ++ [(t, n)] := by rcases V.last with ⟨w, _⟩ | w; exact absurd w e; exact w
  have lb : ∃ u n, m = u ++ [(t, n)] := by rcases W.last with ⟨w, _⟩ | w; exact absurd w e2; exact w
  refine told_apart (h := h) e e2 V.up W.up V.asc W.asc V.ge W.ge la lb hh fun k k0 km => ?_
  have := hk k k0 km
  have hc : h ≤ k ∧ 1 ≤ k ∧ k ≤ t := by
    rcases km with km | km
    · obtain ⟨z, hz, rfl⟩ := List.mem_map.mp km
      have := V.ge z hz
      rcases V.fst z hz with w | w <;> omega
    · obtain ⟨z, hz, rfl⟩ := List.mem_map.mp km
      have := W.ge z hz
      rcases W.fst z hz with w | w <;> omega
  unfold sinP at this
  rw [if_pos hc, if_pos hc] at this
  injection this with this
  injection this with _ this
  injection this with this _
  exact oI_inj this
/-! ### NEW9 -/
theorem sort2 (a b : Bool) (h : a ≠ b) : [PV.bl a, .bl b].mergeSort leP = [.bl false, .bl true] := by
  have e := List.map_mergeSort (f := PV.bl) (r := fun x y : Bool => !x || y) (s := leP) (l := [a, b]) (fun x _ y _ => by cases x <;> cases y <;> rfl)
  have e2 : [a, b].mergeSort (fun x y : Bool => !x || y) = [false, true] := by
    have s1 := List.pairwise_mergeSort (le := fun x y : Bool => !x || y) (by decide) (by decide) [a, b]
    refine List.Perm.eq_of_pairwise (le := fun x y : Bool => (!x || y) = true) (fun x y _ _ h1 h2 => by cases x <;> cases y <;> first | rfl | exact absurd h1 (by decide) | exact absurd h2 (by decide)) s1 (by simp) ((List.mergeSort_perm _ _).trans ?_)
    cases a <;> cases b
    · exact absurd rfl h
    · exact List.Perm.refl _
    · exact List.Perm.swap _ _ _
    · exact absurd rfl h
  rw [e2] at e
  exact e.symm
theorem sortC2 (a b : Bool) : sortC [.bl a, .bl b] := by
  refine ⟨fun x hx => ?_, fun d hd d' hd' => ?_, Or.inr (fun d hd => ?_), le_line (by simp)⟩
  · simp only [List.mem_cons, List.not_mem_nil, or_false] at hx
    rcases hx with rfl | rfl <;> exact ⟨rfl, by rw [dOf, PyData.depth]; decide⟩
  · simp only [List.map_cons, List.map_nil, List.mem_cons, List.not_mem_nil, or_false] at hd hd'
    rcases hd with rfl | rfl <;> rcases hd' with rfl | rfl <;> rfl
  · simp only [List.map_cons, List.map_nil, List.mem_cons, List.not_mem_nil, or_false] at hd
    rcases hd with rfl | rfl <;> exact ⟨fun e => (nomatch e), fun _ e => (nomatch e)⟩
/-- two rows beside each other -/
structure R2 (S : Sto) (p q p' q' : Addr) : Prop where
  pp : p ≠ p'
  pq : p ≠ q'
  qp : q ≠ p'
  qq : q ≠ q'
theorem Pq.sin {h t k : Int} {st : List Rp} (V : Vs h t st) : Pq 8 (sinP h t st k) := by
  unfold sinP
  split
  · refine ⟨by simp, fun x hx => ?_⟩
    simp only [List.mem_cons, List.not_mem_nil, or_false] at hx
    rcases hx with rfl | rfl
    · exact trivial
    · refine Pq.oI fun l hl => ?_
      cases e : st.filter fun x => decide (k ≤ x.1) with
      | nil => rw [e] at hl; cases hl
      | cons x r =>
        rw [e] at hl
        exact (V.nm x (List.mem_filter.mp (by rw [e]; exact List.mem_cons_self)).1).1 l hl
  · exact trivial
theorem Pq.hd {h t : Int} {st : List Rp} (V : Vs h t st) : Pq 8 (Mp.oI (hd2 st)) := by
  refine Pq.oI fun l hl => ?_
  cases st with
  | nil => cases hl
  | cons x r => exact (V.nm x List.mem_cons_self).1 l hl
theorem t_takeinE {p q : Addr} {h t : Int} {st : List Rp} {d : Dd} {S : Sto} {P : QK PV} {E : QX} (R : R1 S p q h t st) (ha : asc st = true) (hl : st.length < 900)
    (k : ∀ S', Ext2 p q S S' → P (.bl (due h t d)) S') : sp__law_take_in [.ref p, dP d] S P E :=
  t_takein R ha hl (fun hd _ S' _ _ x => by have := k S' x; rw [hd] at this; exact this) fun hd => by have := k S (fun _ _ _ _ h => h); rw [hd] at this; exact this
theorem bools_eq {S : Sto} {P : Bool → Prop} (h : P true) : ∃ ds es, DatsS S [.bl false, .bl true] ds ∧ DatsS S [.bl false, .bl true] es ∧ SeqAt.shaped (.list ds) = true ∧ SeqAt.shaped (.list es) = true ∧ P (PyData.eqvAll ds es) :=
  ⟨[.bool false, .bool true], [.bool false, .bool true], .cons (.bl _) (.cons (.bl _) .nil), .cons (.bl _) (.cons (.bl _) .nil), by decide, by decide, h⟩
theorem t_apart {p q p' q' : Addr} {h t h' t' : Int} {l m : List Rp} {S : Sto} {P : QK PV} {E : QX} (R : R1 S p q h t l) (R' : R1 S p' q' h' t' m) (V : Vs h t l) (W : Vs h' t' m) (n : stV h t l ≠ stV h' t' m) (d1 : p' ≠ p) (d2 : p' ≠ q) (d3 : q' ≠ p) (d4 : q' ≠ q)
    (k : ∀ S', (∀ a o, a ≠ p → a ≠ q → a ≠ p' → a ≠ q' → S a = some o → S' a = some o) → P (.bl true) S') : sp__law_apart [.ref p, .ref p', stV h t l, stV h' t' m] S P E := by
  unfold sp__law_apart
  have hl := V.len
  have hm := W.len
  unfold stV
  by_cases et : t = t'
  · subst et
    by_cases eh : h = h'
    · subst eh
      have nlm : l ≠ m := fun e => n (by rw [e])
      have k := k S fun _ _ _ _ _ _ h => h
      have hp := R.p
      have hp' := R'.p
      clear n
      walk_at "go"
      rw [← List.map_append]
      refine lcQ_enc (enc := rP) (fun _ => true) (fun r => .int r.1) (le_line (by simp; omega)) trivial (fun r N M _ h1 _ => ?_) ?_
      · have h1 := h1 rfl
        refine ⟨_, rfl, ?_⟩
        unfold rP
        clear k
        walk_at "go"
      rw [List.filter_eq_self.mpr fun _ _ => rfl]
      refine forQ_ix (fun i τ S' => (∃ v4 v5 v6 v7, τ = [some (.ref p), some (.ref p'), some (.tup [.int h, .int t, .tup (l.map rP)]), some (.tup [.int h, .int t, .tup (m.map rP)]), v4, v5, v6, v7]) ∧ S' = S ∧ ∀ r ∈ (l ++ m).take i, 0 < r.1 → sinP h t l r.1 = sinP h t m r.1)
        ⟨⟨_, _, _, _, rfl⟩, rfl, fun _ h => (nomatch h)⟩ (fun i x hx τ S' N hh hN => ?_) fun τ S' hh => ?_
      · obtain ⟨⟨v4, v5, v6, v7, e1⟩, e2, e3⟩ := hh
        subst e1; subst e2
        rw [List.getElem?_map] at hx
        obtain ⟨r, hr, rfl⟩ := Option.map_eq_some_iff.mp hx
        have tr : (l ++ m).take (i + 1) = (l ++ m).take i ++ [r] := by rw [List.take_add_one, hr]; rfl
        have hN : (0 < r.1 → sinP h t l r.1 = sinP h t m r.1) → ∀ v6, N [some (.ref p), some (.ref p'), some (.tup [.int h, .int t, .tup (l.map rP)]), some (.tup [.int h, .int t, .tup (m.map rP)]), v4, v5, v6, v7] S' := fun hq v6 => hN _ _ ⟨⟨_, _, _, _, rfl⟩, rfl, fun y hy => by
          rw [tr] at hy
          rcases List.mem_append.mp hy with hy | hy
          · exact e3 y hy
          · rw [List.mem_singleton] at hy; subst hy; exact hq⟩ trivial
        clear hx hr tr e3
        generalize r.1 = kk at hN ⊢
        by_cases k0 : 0 < kk
        · walk_at "go"
          refine t_sinceL R V ?_
          walk_at "go"
          refine t_sinceL R' W ?_
          walk_at "go"
          refine t_like2 (Pq.sin V) (Pq.sin W) ?_
          cases z : eqC (sinP h t l kk) (sinP h t m kk) with
          | true =>
            have hN := hN fun _ => eqC_iff.mp z
            walk_at "go"
            exact hN _
          | false =>
            clear hN
            walk_at "go"
            exact Dr.self k
        · have hN := hN fun z => absurd z k0
          walk_at "go"
          exact hN _
      · obtain ⟨⟨v4, v5, v6, v7, e1⟩, e2, e3⟩ := hh
        subst e1; subst e2
        rw [List.length_map, List.take_length] at e3
        have key : hd2 l ≠ hd2 m := fun hd => nlm (V.apart W hd fun k k0 km => by
          rcases km with km | km
          · obtain ⟨r, hr, rfl⟩ := List.mem_map.mp km
            exact e3 r (List.mem_append_left _ hr) k0
          · obtain ⟨r, hr, rfl⟩ := List.mem_map.mp km
            exact e3 r (List.mem_append_right _ hr) k0)
        clear e3
        walk_at "go"
        refine t_least R.p R.q ?_
        walk_at "go"
        refine t_least R'.p R'.q ?_
        walk_at "go"
        refine t_like2 (Pq.hd V) (Pq.hd W) ?_
        have ez : eqC (oI (hd2 l)) (oI (hd2 m)) = false := by
          cases z : eqC (oI (hd2 l)) (oI (hd2 m)) with
          | false => rfl
          | true => exact absurd (oI_inj (eqC_iff.mp z)) key
        rw [ez]
        walk_at "go"
        exact Dr.self k
    · have hv := V.ht
      have hw := W.ht
      walk_at "go"
      refine t_takeinE (d := .acked (if h' > h then h' else h)) R V.asc (by omega) fun S1 x1 => ?_
      have R1' : R1 S1 p' q' h' t m := ⟨x1 _ _ d1 d2 R'.p, x1 _ _ d3 d4 R'.q⟩
      walk_at "go"
      refine t_takeinE (d := .acked (if h' > h then h' else h)) R1' W.asc (by omega) fun S2 x2 => ?_
      have k2 := k S2 fun a o a1 a2 a3 a4 e => x2 a o a3 a4 (x1 a o a1 a2 e)
      have df : due h t (.acked (if h' > h then h' else h)) ≠ due h' t (.acked (if h' > h then h' else h)) := by
        show (decide (h < _) && decide (_ ≤ t)) ≠ (decide (h' < _) && decide (_ ≤ t))
        split
        · rw [decide_eq_true (show h < h' by omega), decide_eq_true hw, decide_eq_false (show ¬ h' < h' by omega)]; decide
        · rw [decide_eq_false (show ¬ h < h by omega), decide_eq_true (show h' < h by omega), decide_eq_true hv]; decide
      generalize due h t (.acked (if h' > h then h' else h)) = c1 at df ⊢
      generalize due h' t (.acked (if h' > h then h' else h)) = c2 at df ⊢
      have hs := sortC2 c1 c2
      have hs2 := sort2 c1 c2 df
      clear x1 x2 k R R' R1' n
      walk_at "go"
      intro u
      refine And.intro ⟨rfl, trivial⟩ fun w => ?_
      walk_at "go"
      intro z
      refine And.intro ⟨rfl, rfl⟩ ?_
      obtain ⟨ds, es, h1, h2, h3, h4, h5⟩ := bools_eq (S := S2) (P := fun b => b = true) rfl
      refine ⟨ds, es, h1, h2, h3, h4, ?_⟩
      rw [h5]
      exact Dr.self k2
  · walk_at "go"
    refine t_takeinE (d := .told ((if t' < t then t' else t) + 1) Option.none) R V.asc (by omega) fun S1 x1 => ?_
    have R1' : R1 S1 p' q' h' t' m := ⟨x1 _ _ d1 d2 R'.p, x1 _ _ d3 d4 R'.q⟩
    walk_at "go"
    refine t_takeinE (d := .told ((if t' < t then t' else t) + 1) Option.none) R1' W.asc (by omega) fun S2 x2 => ?_
    have k2 := k S2 fun a o a1 a2 a3 a4 e => x2 a o a3 a4 (x1 a o a1 a2 e)
    have df : due h t (.told ((if t' < t then t' else t) + 1) Option.none) ≠ due h' t' (.told ((if t' < t then t' else t) + 1) Option.none) := by
      show decide (t < _) ≠ decide (t' < _)
      split
      · rw [decide_eq_false (by omega), decide_eq_true (by omega)]; decide
      · rw [decide_eq_true (by omega), decide_eq_false (by omega)]; decide
    generalize due h t (.told ((if t' < t then t' else t) + 1) Option.none) = c1 at df ⊢
    generalize due h' t' (.told ((if t' < t then t' else t) + 1) Option.none) = c2 at df ⊢
    have hs := sortC2 c1 c2
    have hs2 := sort2 c1 c2 df
    clear x1 x2 k R R' R1' n
    walk_at "go"
    intro u
    refine And.intro ⟨rfl, trivial⟩ fun w => ?_
    walk_at "go"
    intro z
    refine And.intro ⟨rfl, rfl⟩ ?_
    obtain ⟨ds, es, h1, h2, h3, h4, h5⟩ := bools_eq (S := S2) (P := fun b => b = true) rfl
    refine ⟨ds, es, h1, h2, h3, h4, ?_⟩
    rw [h5]
    exact Dr.self k2
/-! ### NEWA -/
/-! rows in step -/
abbrev Cl := Addr × Addr
def Out (L : List Cl) (a : Addr) : Prop := ∀ x ∈ L, a ≠ x.1 ∧ a ≠ x.2
def Ds (x y : Cl) : Prop := x.1 ≠ y.1 ∧ x.1 ≠ y.2 ∧ x.2 ≠ y.1 ∧ x.2 ≠ y.2
def Stp (L : List Cl) (S : Sto) (L' : List Cl) (S' : Sto) : Prop := ∀ a o, Out L a → S a = some o → S' a = some o ∧ Out L' a
theorem Out.app {L M : List Cl} {a : Addr} : Out (L ++ M) a ↔ Out L a ∧ Out M a :=
  ⟨fun h => ⟨fun x hx => h x (List.mem_append_left _ hx), fun x hx => h x (List.mem_append_right _ hx)⟩, fun h x hx => by
    rcases List.mem_append.mp hx with hx | hx
    · exact h.1 x hx
    · exact h.2 x hx⟩
theorem Out.cons {x : Cl} {M : List Cl} {a : Addr} : Out (x :: M) a ↔ (a ≠ x.1 ∧ a ≠ x.2) ∧ Out M a :=
  ⟨fun h => ⟨h x List.mem_cons_self, fun y hy => h y (List.mem_cons_of_mem _ hy)⟩, fun h y hy => by
    rcases List.mem_cons.mp hy with e | hy
    · rw [e]; exact h.1
    · exact h.2 y hy⟩
/-- one row takes a deed, the others stay -/
theorem step_one {S0 S S' : Sto} {L D R : List Cl} {p q q' : Addr} {h t h' t' : Int} {st st' : List Rp} (hD : ∀ x ∈ D, R1 S x.1 x.2 h' t' st') (hR : ∀ x ∈ R, R1 S x.1 x.2 h t st) (ds : (D ++ (p, q) :: R).Pairwise Ds) (sp : Stp L S0 (D ++ (p, q) :: R) S)
    (r' : R1 S' p q' h' t' st') (hq : q' = q ∨ S q' = none) (x : Ext2 p q S S') (hp : R1 S p q h t st) :
    (∀ x ∈ D ++ [(p, q')], R1 S' x.1 x.2 h' t' st') ∧ (∀ x ∈ R, R1 S' x.1 x.2 h t st) ∧ (D ++ [(p, q')] ++ R).Pairwise Ds ∧ Stp L S0 (D ++ [(p, q')] ++ R) S' := by
  have d1 := List.pairwise_append.mp ds
  have d2 := List.pairwise_cons.mp d1.2.1
  have mv : ∀ {y : Cl} {h t : Int} {st : List Rp}, Ds y (p, q) ∨ Ds (p, q) y → R1 S y.1 y.2 h t st → R1 S' y.1 y.2 h t st := fun {y h t st} hd r => by
    rcases hd with ⟨a, b, c, d⟩ | ⟨a, b, c, d⟩
    · exact ⟨x _ _ a b r.p, x _ _ c d r.q⟩
    · exact ⟨x _ _ (fun e => a e.symm) (fun e => c e.symm) r.p, x _ _ (fun e => b e.symm) (fun e => d e.symm) r.q⟩
  have fr : ∀ {a : Addr} {o : Ob}, S a = some o → a ≠ q → a ≠ q' := fun {a o} ha n => by
    rcases hq with e | e
    · rw [e]; exact n
    · exact new_ne ha e
  have nD : ∀ y ∈ D, Ds y (p, q') := fun y hy => by
    obtain ⟨a, b, c, d⟩ := d1.2.2 y hy (p, q) List.mem_cons_self
    exact ⟨a, fr (hD y hy).p b, c, fr (hD y hy).q d⟩
  have nR : ∀ y ∈ R, Ds (p, q') y := fun y hy => by
    obtain ⟨a, b, c, d⟩ := d2.1 y hy
    exact ⟨a, b, fun e => fr (hR y hy).p (fun e => c e.symm) e.symm, fun e => fr (hR y hy).q (fun e => d e.symm) e.symm⟩
  refine ⟨fun y hy => ?_, fun y hy => mv (.inr (d2.1 y hy)) (hR y hy), ?_, fun a o ho ha => ?_⟩
  · rcases List.mem_append.mp hy with hy | hy
    · exact mv (.inl (d1.2.2 y hy _ List.mem_cons_self)) (hD y hy)
    · rw [List.mem_singleton] at hy; subst hy; exact r'
  · rw [List.append_assoc]
    refine List.pairwise_append.mpr ⟨d1.1, List.pairwise_cons.mpr ⟨nR, d2.2⟩, fun y hy z hz => ?_⟩
    rcases List.mem_cons.mp hz with e | hz
    · rw [e]; exact nD y hy
    · exact d1.2.2 y hy z (List.mem_cons_of_mem _ hz)
  · obtain ⟨s1, s2⟩ := sp a o ho ha
    have s2 := Out.app.mp s2
    have s3 := Out.cons.mp s2.2
    refine ⟨x a o s3.1.1 s3.1.2 s1, ?_⟩
    rw [List.append_assoc]
    exact Out.app.mpr ⟨s2.1, Out.cons.mpr ⟨⟨s3.1.1, fr s1 s3.1.2⟩, s3.2⟩⟩
abbrev refs (L : List Cl) : List PV := L.map fun x => .ref x.1
theorem t_all {L : List Cl} {c : Addr} {h t : Int} {st : List Rp} {d : Dd} {S : Sto} {P : QK (List PV)} {v0 v1 v2 v3 v4 v5 v6 v7 v8 v9 v10 v11 v12 v13 v14 v15 v16 v17 v18 : Option PV} (hR : ∀ x ∈ L, R1 S x.1 x.2 h t st) (ds : L.Pairwise Ds) (hc : S c = some (.lst (refs L))) (oc : Out L c) (ha : asc st = true) (hl : st.length < 900) (hL : L.length ≤ 100)
    (k1 : due h t d = true → ∀ L' S', (∀ x ∈ L', R1 S' x.1 x.2 (nh h d) (nt t d) (nst st d)) → L'.Pairwise Ds → L'.map Prod.fst = L.map Prod.fst → Stp L S L' S' → P [] S') (k2 : due h t d = false → P [] S) :
    lcQ (fun S => S c = some (.lst (refs L))) (tg1 18) (qTst (qBin fNe (qCall 2 sp__law_take_in (qaC (qVar 18) (qaC (qVar 19) qaN))) (qVar 20))) (qC (.int 1)) [v0, v1, v2, v3, v4, v5, v6, v7, v8, v9, v10, v11, v12, v13, v14, v15, v16, v17, v18, some (dP d), some (.bl (due h t d))] P (refs L) [] S := by
  cases hd : due h t d with
  | false =>
    have k2 := k2 hd
    refine lcQ_enc (enc := fun x : Cl => PV.ref x.1) (fun _ => false) (fun _ => .int 1) (le_line (by omega)) hc (fun x N M hx _ h2 => ?_) ?_
    · have h2 := h2 rfl
      have R := hR x hx
      refine ⟨_, rfl, ?_⟩
      clear k1 k2 hR hx
      walk_at "go"
      refine t_takein R ha hl (fun z => by rw [hd] at z; cases z) (fun _ => ?_)
      walk_at "go"
    · rw [List.filter_eq_nil_iff.mpr fun _ _ => Bool.false_ne_true]
      exact k2
  | true =>
    have k1 := k1 hd
    refine lcQ_inv (fun i acc S' => acc = [] ∧ i ≤ L.length ∧ ∃ D, D.length = i ∧ D.map Prod.fst = (L.take i).map Prod.fst ∧ (∀ x ∈ D, R1 S' x.1 x.2 (nh h d) (nt t d) (nst st d)) ∧ (∀ x ∈ L.drop i, R1 S' x.1 x.2 h t st) ∧ (D ++ L.drop i).Pairwise Ds ∧ Stp L S (D ++ L.drop i) S') (by rw [List.length_map]; exact le_line (by omega))
      ⟨rfl, Nat.zero_le _, [], rfl, rfl, fun _ h => (nomatch h), hR, ds, fun a o ho ha => ⟨ha, ho⟩⟩ (fun i x acc S' N M hx hh hN hM => ?_) (fun acc S' hh => ?_)
    · obtain ⟨e1, hi, D, hD1, hD2, hD3, hR3, ds3, sp3⟩ := hh
      subst e1
      rw [List.getElem?_map] at hx
      obtain ⟨y, hy, rfl⟩ := Option.map_eq_some_iff.mp hx
      have hlt : i < L.length := (List.getElem?_eq_some_iff.mp hy).1
      have ed : L.drop i = (y.1, y.2) :: L.drop (i + 1) := by
        rw [List.drop_eq_getElem_cons hlt]
        rw [List.getElem?_eq_getElem hlt] at hy
        injection hy with hy
        rw [hy]
      rw [ed] at hR3 ds3 sp3
      have R := hR3 _ List.mem_cons_self
      have hR3 := fun x hx => hR3 x (List.mem_cons_of_mem _ hx)
      have hc' := (sp3 c _ oc hc).1
      have hM : ∀ q' S'', R1 S'' y.1 q' (nh h d) (nt t d) (nst st d) → (q' = y.2 ∨ S' q' = none) → Ext2 y.1 y.2 S' S'' → M S'' := fun q' S'' r1 hq x2 => by
        obtain ⟨a1, a2, a3, a4⟩ := step_one hD3 hR3 ds3 sp3 r1 hq x2 R
        refine hM S'' (a4 c _ oc hc).1 ⟨rfl, hlt, D ++ [(y.1, q')], by rw [List.length_append, hD1]; rfl, ?_, a1, a2, a3, a4⟩
        rw [List.map_append, hD2, List.take_add_one, hy, List.map_append]; rfl
      refine ⟨_, rfl, ?_⟩
      clear k1 k2 hR hx hy hN ed sp3 ds3 hR3 hD1 hD2 hD3 hi
      walk_at "go"
      refine t_takein R ha hl (fun _ q' S'' r1 hq x2 => ?_) (fun z => by rw [hd] at z; cases z)
      have hM := hM q' S'' r1 hq x2
      clear r1 hq x2
      walk_at "go"
    · obtain ⟨e1, hi, D, hD1, hD2, hD3, hR3, ds3, sp3⟩ := hh
      subst e1
      have hz : (refs L).length = L.length := List.length_map _
      rw [hz] at hD1 hD2 ds3 sp3
      rw [List.take_length] at hD2
      rw [List.drop_length, List.append_nil] at ds3 sp3
      exact k1 D S' hD3 ds3 hD2 sp3
theorem pl_oI7 {o : Option (List Int)} {n : Nat} (h : ∀ l, o = some l → l.length ≤ 20) : Pl (n + 2) (oI o) := by
  cases o with
  | none => exact trivial
  | some l =>
    refine ⟨by have := h l rfl; simp; omega, fun x hx => ?_⟩
    obtain ⟨i, _, rfl⟩ := List.mem_map.mp hx
    exact trivial
theorem pl_st7 {h t : Int} {reps : List Rp} (hl : reps.length ≤ 200) (ok : okR reps) : Pl 7 (stP h t reps) := by
  refine ⟨by simp, fun x hx => ?_⟩
  simp only [List.mem_cons, List.not_mem_nil, or_false] at hx
  rcases hx with rfl | rfl | rfl
  · exact trivial
  · exact trivial
  · refine ⟨?_, fun x hx => ?_⟩
    · rw [List.length_map]
      have := List.length_filter_le (fun x : Rp => decide (h ≤ x.1)) (falls reps)
      have := falls_len reps
      omega
    · obtain ⟨r, hr, rfl⟩ := List.mem_map.mp hx
      refine ⟨by simp, fun x hx => ?_⟩
      simp only [List.mem_cons, List.not_mem_nil, or_false] at hx
      rcases hx with rfl | rfl
      · exact trivial
      · exact pl_oI7 (ok r (falls_sub _ r (List.mem_filter.mp hr).1))
theorem Pl.ans {h t : Int} {reps : List Rp} {ks : List Int} (ok : okR reps) (hl : reps.length ≤ 200) : ∀ x ∈ whoP h t reps ks, Pl 7 x := fun x hx => by
  have oi : ∀ k, Pl 7 (Mp.oI (lstF k none reps)) := fun k => by
    have key : ∀ (l : List Rp) (f : Option (List Int)), (∀ x ∈ l, ∀ n, x.2 = some n → n.length ≤ 20) → (∀ n, f = some n → n.length ≤ 20) → ∀ n, lstF k f l = some n → n.length ≤ 20 := fun l => by
      induction l with
      | nil => intro f _ h2 n hn; exact h2 n hn
      | cons x l ih =>
        intro f h1 h2 n hn
        refine ih (updL k f x) (fun y hy => h1 y (List.mem_cons_of_mem _ hy)) (fun m hm => ?_) n hn
        unfold updL at hm
        split at hm
        · exact h1 x List.mem_cons_self m hm
        · exact h2 m hm
    exact pl_oI7 (key reps none ok fun _ e => (nomatch e))
  have oi6 : ∀ k, Pl 6 (Mp.oI (lstF k none reps)) := fun k => by
    have h := oi k
    cases e : lstF k none reps with
    | none => exact trivial
    | some l =>
      rw [e] at h
      obtain ⟨h1, h2⟩ : (l.map PV.int).length ≤ 900 ∧ ∀ x ∈ l.map PV.int, Pl 6 x := h
      refine ⟨h1, fun x hx => ?_⟩
      obtain ⟨i, _, rfl⟩ := List.mem_map.mp hx
      exact trivial
  have ol : Pl 7 (Mp.oI (lst2 reps)) := pl_oI7 fun n hn => by
    unfold lst2 at hn
    split at hn
    · rename_i y hy
      exact ok y (List.mem_of_getLast? hy) n hn
    · cases hn
  unfold whoP at hx
  rcases List.mem_append.mp hx with hx | hx
  · simp only [List.mem_cons, List.not_mem_nil, or_false] at hx
    rcases hx with rfl | rfl | rfl
    · exact pl_st7 hl ok
    · exact oi h
    · exact ol
  · obtain ⟨k, _, rfl⟩ := List.mem_map.mp hx
    unfold wsP
    split
    · exact trivial
    · refine ⟨by simp, fun x hx => ?_⟩
      simp only [List.mem_cons, List.not_mem_nil, or_false] at hx
      rcases hx with rfl | rfl
      · exact trivial
      · exact oi6 k
theorem t_ansall {L : List Cl} {c kc dc : Addr} {h t : Int} {st reps : List Rp} {ks : List Int} {S : Sto} {P : QK (List PV)} {v0 v1 v2 v3 v4 v5 v6 v7 v8 v9 v10 v11 v12 v13 v14 v15 v18 v19 v20 : Option PV} (hR : ∀ x ∈ L, R1 S x.1 x.2 h t (F h reps)) (hc : S c = some (.lst (refs L))) (hk : S kc = some (.lst (ks.map PV.int))) (hd : S dc = some (.lst (whoP h t reps ks))) (G : Gd h t reps) (hl : reps.length ≤ 60) (kl : ks.length ≤ 100) (hL : L.length ≤ 100)
    (k : ∀ S', Sub S S' → P [] S') :
    lcQ (fun S => S c = some (.lst (refs L))) (tg1 18) (qNot (qTru (qCall 2 sp__law_like (qaC (qCall 2 sp__law_answers (qaC (qVar 18) (qaC (qVar 16) qaN))) (qaC (qVar 17) qaN))))) (qC (.int 1)) [v0, v1, v2, v3, v4, v5, v6, v7, v8, v9, v10, v11, v12, v13, v14, v15, some (.ref kc), some (.ref dc), v18, v19, v20] P (refs L) [] S := by
  refine lcQ_inv (fun i acc S' => acc = [] ∧ Sub S S') (by rw [List.length_map]; exact le_line (by omega)) ⟨rfl, Sub.refl⟩ (fun i x acc S' N M hx hh hN hM => ?_) (fun acc S' hh => ?_)
  · obtain ⟨e1, x1⟩ := hh
    subst e1
    rw [List.getElem?_map] at hx
    obtain ⟨y, hy, rfl⟩ := Option.map_eq_some_iff.mp hx
    have R := hR y (List.mem_of_getElem? hy)
    have R : R1 S' y.1 y.2 h t (F h reps) := ⟨x1 _ _ R.p, x1 _ _ R.q⟩
    have hk := x1 _ _ hk
    have hd := x1 _ _ hd
    have hM : ∀ S'', Sub S' S'' → M S'' := fun S'' x2 => hM S'' (x2 _ _ (x1 _ _ hc)) ⟨rfl, x1.trans x2⟩
    clear hN k hR hc hx hy
    refine ⟨_, rfl, ?_⟩
    walk_at "go"
    refine t_answersL R (G.vs hl) hk kl fun a ha => ?_
    have hda := (put_ne (o := .lst (ansP h t (F h reps) ks)) (new_ne hd ha)).trans hd
    have haa : put S' a (.lst (ansP h t (F h reps) ks)) a = some (.lst (whoP h t reps ks)) := put_same.trans (by rw [ans_who G])
    have hM := hM _ (Sub.new ha (o := .lst (ansP h t (F h reps) ks)))
    generalize put S' a (.lst (ansP h t (F h reps) ks)) = S2 at hda haa hM ⊢
    walk_at "go"
    refine t_likeL haa hda ?_ (Pl.ans G.okR (by omega)) ?_
    · unfold whoP
      simp
      omega
    · walk_at "go"
  · obtain ⟨e1, x1⟩ := hh
    subst e1
    exact k S' x1
/-! ### NEWB -/
theorem seq_call2 {sp : PSp} {i : Nat} {qa : QTA} {rest : QTS} {D : PEnds} {τ : PSt} {S : Sto} (h : qa τ S (fun xs S1 => xs.length = 2 ∧ sp xs S1 (fun v S2 => rest D (τ.set i (some v)) S2) (exAt { D with nx := fun τ1 S1 => rest D τ1 S1 } τ)) (exAt { D with nx := fun τ1 S1 => rest D τ1 S1 } τ)) : qSeq (qSet i (qCall 2 sp qa)) rest D τ S := h
/-- two drawn rows beside a box -/
structure Two (S : Sto) (b p q r p' q' r' : Addr) (h t : Int) (reps : List Rp) (h' t' : Int) (reps' : List Rp) : Prop where
  bx : Bx S b
  row : R1 S p q h t (F h reps)
  rl : S r = some (.lst (reps.map rP))
  row' : R1 S p' q' h' t' (F h' reps')
  rl' : S r' = some (.lst (reps'.map rP))
  gd : Gd h t reps
  gd' : Gd h' t' reps'
  bs : p ≠ b ∧ q ≠ b ∧ r ≠ b ∧ p' ≠ b ∧ q' ≠ b ∧ r' ≠ b
  pr : p ≠ r ∧ q ≠ r
  z : reps.length ≤ 21 ∧ reps'.length ≤ 21
theorem Two.ext {S S' : Sto} {b p q r p' q' r' : Addr} {h t : Int} {reps : List Rp} {h' t' : Int} {reps' : List Rp} (T : Two S b p q r p' q' r' h t reps h' t' reps') (x : Ext b S S') (hb : Bx S' b) : Two S' b p q r p' q' r' h t reps h' t' reps' := by
  obtain ⟨b1, b2, b3, b4, b5, b6⟩ := T.bs
  exact ⟨hb, ⟨x.at b1 T.row.p, x.at b2 T.row.q⟩, x.at b3 T.rl, ⟨x.at b4 T.row'.p, x.at b5 T.row'.q⟩, x.at b6 T.rl', T.gd, T.gd', T.bs, T.pr, T.z⟩
theorem Two.sub {S S' : Sto} {b p q r p' q' r' : Addr} {h t : Int} {reps : List Rp} {h' t' : Int} {reps' : List Rp} (T : Two S b p q r p' q' r' h t reps h' t' reps') (x : Sub S S') : Two S' b p q r p' q' r' h t reps h' t' reps' :=
  T.ext x.ext (T.bx.sub x)
structure Own (S : Sto) (L : List Cl) (X : List Addr) (h t : Int) (st : List Rp) : Prop where
  rows : ∀ x ∈ L, R1 S x.1 x.2 h t st
  ds : L.Pairwise Ds
  out : ∀ a ∈ X, Out L a ∧ ∃ o, S a = some o
theorem Own.sub {S S' : Sto} {L : List Cl} {X : List Addr} {h t : Int} {st : List Rp} (O : Own S L X h t st) (x : Sub S S') : Own S' L X h t st :=
  ⟨fun y hy => ⟨x _ _ (O.rows y hy).p, x _ _ (O.rows y hy).q⟩, O.ds, fun a ha => ⟨(O.out a ha).1, let ⟨o, e⟩ := (O.out a ha).2; ⟨o, x _ _ e⟩⟩⟩
theorem Own.made {S S' : Sto} {L : List Cl} {X : List Addr} {h t : Int} {st : List Rp} {p : Addr} (O : Own S L X h t st) (M : Made S S' p h t st) : ∃ q, Own S' (L ++ [(p, q)]) X h t st ∧ R1 S' p q h t st := by
  obtain ⟨q, h1, h2, h3, h4, h5, h6⟩ := M
  have O' := O.sub h6
  refine ⟨q, ⟨fun y hy => ?_, List.pairwise_append.mpr ⟨O.ds, List.pairwise_singleton _ _, fun y hy z hz => ?_⟩, fun a ha => ⟨Out.app.mpr ⟨(O.out a ha).1, fun z hz => ?_⟩, (O'.out a ha).2⟩⟩, ⟨h4, h5⟩⟩
  · rcases List.mem_append.mp hy with hy | hy
    · exact O'.rows y hy
    · rw [List.mem_singleton] at hy; subst hy; exact ⟨h4, h5⟩
  · rw [List.mem_singleton] at hz; subst hz
    have r := O.rows y hy
    exact ⟨new_ne r.p h1, new_ne r.p h2, new_ne r.q h1, new_ne r.q h2⟩
  · rw [List.mem_singleton] at hz; subst hz
    obtain ⟨o, e⟩ := (O.out a ha).2
    exact ⟨new_ne e h1, new_ne e h2⟩
theorem Own.fresh {S : Sto} {L : List Cl} {X : List Addr} {h t : Int} {st : List Rp} {a : Addr} (O : Own S L X h t st) (n : S a = none) : Out L a := fun y hy =>
  ⟨fun e => new_ne (O.rows y hy).p n e.symm, fun e => new_ne (O.rows y hy).q n e.symm⟩
theorem Own.add {S S' : Sto} {L : List Cl} {X : List Addr} {h t : Int} {st : List Rp} {a : Addr} {o : Ob} (O : Own S L X h t st) (n : S a = none) (x : Sub S S') (e : S' a = some o) : Own S' L (a :: X) h t st :=
  ⟨(O.sub x).rows, O.ds, fun c hc => by
    rcases List.mem_cons.mp hc with z | hc
    · rw [z]; exact ⟨O.fresh n, o, e⟩
    · exact (O.sub x).out c hc⟩
theorem Own.keep {S S' : Sto} {L : List Cl} {X : List Addr} {h t h' t' : Int} {st st' : List Rp} {p : Addr} (O : Own S L X h t st) (M : Made S S' p h' t' st') : ∃ q, Own S' L (p :: q :: X) h t st ∧ R1 S' p q h' t' st' ∧ S p = none ∧ S q = none := by
  obtain ⟨q, h1, h2, h3, h4, h5, h6⟩ := M
  refine ⟨q, ⟨(O.sub h6).rows, O.ds, fun c hc => ?_⟩, ⟨h4, h5⟩, h1, h2⟩
  rcases List.mem_cons.mp hc with z | hc
  · rw [z]; exact ⟨O.fresh h1, _, h4⟩
  · rcases List.mem_cons.mp hc with z | hc
    · rw [z]; exact ⟨O.fresh h2, _, h5⟩
    · exact (O.sub h6).out c hc
structure St (S : Sto) (b c r kp kq tp tq : Addr) (L : List Cl) (h0 t0 : Int) (st0 : List Rp) (h t : Int) (reps : List Rp) : Prop where
  bx : Bx S b
  rl : S r = some (.lst (reps.map rP))
  cl : S c = some (.lst (refs L))
  rows : ∀ x ∈ L, R1 S x.1 x.2 h t (F h reps)
  ds : L.Pairwise Ds
  kept : R1 S kp kq h0 t0 st0
  twin : R1 S tp tq h0 t0 st0
  out : Out L b ∧ Out L c ∧ Out L r ∧ Out L kp ∧ Out L kq ∧ Out L tp ∧ Out L tq
  nb : r ≠ b ∧ c ≠ b ∧ kp ≠ b ∧ kq ≠ b ∧ tp ≠ b ∧ tq ≠ b
  nr : c ≠ r ∧ kp ≠ r ∧ kq ≠ r ∧ tp ≠ r ∧ tq ≠ r
  nc : kp ≠ c ∧ kq ≠ c ∧ tp ≠ c ∧ tq ≠ c
  gd : Gd h t reps
theorem St.ext {S S' : Sto} {b c r kp kq tp tq : Addr} {L : List Cl} {h0 t0 : Int} {st0 : List Rp} {h t : Int} {reps : List Rp} (Z : St S b c r kp kq tp tq L h0 t0 st0 h t reps) (x : Ext b S S') (hb : Bx S' b) : St S' b c r kp kq tp tq L h0 t0 st0 h t reps := by
  obtain ⟨n1, n2, n3, n4, n5, n6⟩ := Z.nb
  have ob := Z.out.1
  exact ⟨hb, x.at n1 Z.rl, x.at n2 Z.cl, fun y hy => ⟨x.at (ob y hy).1.symm (Z.rows y hy).p, x.at (ob y hy).2.symm (Z.rows y hy).q⟩, Z.ds, ⟨x.at n3 Z.kept.p, x.at n4 Z.kept.q⟩, ⟨x.at n5 Z.twin.p, x.at n6 Z.twin.q⟩, Z.out, Z.nb, Z.nr, Z.nc, Z.gd⟩
theorem St.sub {S S' : Sto} {b c r kp kq tp tq : Addr} {L : List Cl} {h0 t0 : Int} {st0 : List Rp} {h t : Int} {reps : List Rp} (Z : St S b c r kp kq tp tq L h0 t0 st0 h t reps) (x : Sub S S') : St S' b c r kp kq tp tq L h0 t0 st0 h t reps := Z.ext x.ext (Z.bx.sub x)
theorem St.fresh {S : Sto} {b c r kp kq tp tq : Addr} {L : List Cl} {h0 t0 : Int} {st0 : List Rp} {h t : Int} {reps : List Rp} {a : Addr} (Z : St S b c r kp kq tp tq L h0 t0 st0 h t reps) (n : S a = none) : Out L a := fun y hy =>
  ⟨fun e => new_ne (Z.rows y hy).p n e.symm, fun e => new_ne (Z.rows y hy).q n e.symm⟩
theorem St.box {S S' : Sto} {b c r kp kq tp tq b' : Addr} {L : List Cl} {h0 t0 : Int} {st0 : List Rp} {h t : Int} {reps : List Rp} (Z : St S b c r kp kq tp tq L h0 t0 st0 h t reps) (n : S b' = none) (x : Sub S S') (hb : Bx S' b') : St S' b' c r kp kq tp tq L h0 t0 st0 h t reps := by
  have Z' := Z.sub x
  exact ⟨hb, Z'.rl, Z'.cl, Z'.rows, Z.ds, Z'.kept, Z'.twin, ⟨Z.fresh n, Z.out.2⟩, ⟨new_ne Z.rl n, new_ne Z.cl n, new_ne Z.kept.p n, new_ne Z.kept.q n, new_ne Z.twin.p n, new_ne Z.twin.q n⟩, Z.nr, Z.nc, Z.gd⟩
theorem St.more {S S' : Sto} {b c r kp kq tp tq p : Addr} {L : List Cl} {h0 t0 : Int} {st0 : List Rp} {h t : Int} {reps : List Rp} (Z : St S b c r kp kq tp tq L h0 t0 st0 h t reps) (M : Made S S' p h t (F h reps)) :
    ∃ q, St (put S' c (.lst (refs L ++ [.ref p]))) b c r kp kq tp tq (L ++ [(p, q)]) h0 t0 st0 h t reps := by
  obtain ⟨q, h1, h2, h3, h4, h5, h6⟩ := M
  have Z' := Z.sub h6
  obtain ⟨o1, o2, o3, o4, o5, o6, o7⟩ := Z.out
  obtain ⟨c1, c2, c3, c4⟩ := Z.nc
  have ex : ∀ {a o}, S a = some o → Out L a → Out (L ++ [(p, q)]) a := fun {a o} e h => Out.app.mpr ⟨h, fun y hy => by
    rw [List.mem_singleton] at hy; subst hy; exact ⟨new_ne e h1, new_ne e h2⟩⟩
  have hbx : ∃ o, S b = some o := by obtain ⟨u, v, e, _⟩ := Z.bx; exact ⟨_, e⟩
  obtain ⟨ob, hbx⟩ := hbx
  refine ⟨q, Z'.bx.put Z.nb.2.1.symm, (put_ne Z.nr.1.symm).trans Z'.rl, by rw [put_same]; unfold refs; rw [List.map_append]; rfl, fun y hy => ?_, ?_, ⟨(put_ne c1).trans Z'.kept.p, (put_ne c2).trans Z'.kept.q⟩, ⟨(put_ne c3).trans Z'.twin.p, (put_ne c4).trans Z'.twin.q⟩, ⟨ex hbx o1, ex Z.cl o2, ex Z.rl o3, ex Z.kept.p o4, ex Z.kept.q o5, ex Z.twin.p o6, ex Z.twin.q o7⟩, Z.nb, Z.nr, Z.nc, Z.gd⟩
  · rcases List.mem_append.mp hy with hy | hy
    · exact ⟨(put_ne (o2 y hy).1.symm).trans (Z'.rows y hy).p, (put_ne (o2 y hy).2.symm).trans (Z'.rows y hy).q⟩
    · rw [List.mem_singleton] at hy; subst hy
      exact ⟨(put_ne (new_ne Z.cl h1).symm).trans h4, (put_ne (new_ne Z.cl h2).symm).trans h5⟩
  · refine List.pairwise_append.mpr ⟨Z.ds, List.pairwise_singleton _ _, fun y hy z hz => ?_⟩
    rw [List.mem_singleton] at hz; subst hz
    have r := Z.rows y hy
    exact ⟨new_ne r.p h1, new_ne r.p h2, new_ne r.q h1, new_ne r.q h2⟩
theorem St.deed {S S' : Sto} {b c r kp kq tp tq : Addr} {L L' : List Cl} {h0 t0 : Int} {st0 : List Rp} {h t : Int} {reps : List Rp} {d : Dd} (Z : St S b c r kp kq tp tq L h0 t0 st0 h t reps) (hd : due h t d = true) (ok : okDd d)
    (hR : ∀ x ∈ L', R1 S' x.1 x.2 (nh h d) (nt t d) (nst (F h reps) d)) (ds : L'.Pairwise Ds) (hf : L'.map Prod.fst = L.map Prod.fst) (sp : Stp L S L' S') :
    S' r = some (.lst (reps.map rP)) ∧ St (put S' r (.lst ((nreps reps d).map rP))) b c r kp kq tp tq L' h0 t0 st0 (nh h d) (nt t d) (nreps reps d) := by
  obtain ⟨o1, o2, o3, o4, o5, o6, o7⟩ := Z.out
  obtain ⟨r1, r2, r3, r4, r5⟩ := Z.nr
  obtain ⟨e3, p3⟩ := sp _ _ o3 Z.rl
  obtain ⟨e2, p2⟩ := sp _ _ o2 Z.cl
  obtain ⟨e4, p4⟩ := sp _ _ o4 Z.kept.p
  obtain ⟨e5, p5⟩ := sp _ _ o5 Z.kept.q
  obtain ⟨e6, p6⟩ := sp _ _ o6 Z.twin.p
  obtain ⟨e7, p7⟩ := sp _ _ o7 Z.twin.q
  have er : refs L' = refs L := by
    have e : ∀ M : List Cl, refs M = (M.map Prod.fst).map PV.ref := fun M => by rw [List.map_map]; rfl
    rw [e, e, hf]
  refine ⟨e3, ?_, put_same, (put_ne r1).trans (by rw [er]; exact e2), fun y hy => ?_, ds, ⟨(put_ne r2).trans e4, (put_ne r3).trans e5⟩, ⟨(put_ne r4).trans e6, (put_ne r5).trans e7⟩, ⟨?_, p2, p3, p4, p5, p6, p7⟩, Z.nb, Z.nr, Z.nc, Z.gd.step hd ok⟩
  · obtain ⟨u, v, e, k⟩ := Z.bx
    exact ⟨u, v, (put_ne Z.nb.1.symm).trans (sp _ _ o1 e).1, k⟩
  · rw [← Z.gd.nst hd]
    exact ⟨(put_ne (p3 y hy).1.symm).trans (hR y hy).p, (put_ne (p3 y hy).2.symm).trans (hR y hy).q⟩
  · obtain ⟨u, v, e, k⟩ := Z.bx
    exact (sp _ _ o1 e).2
def Aw (b c r kp kq tp tq : Addr) (L : List Cl) (a : Addr) : Prop := Out L a ∧ b ≠ a ∧ c ≠ a ∧ r ≠ a ∧ kp ≠ a ∧ kq ≠ a ∧ tp ≠ a ∧ tq ≠ a
theorem St.aw {S : Sto} {b c r kp kq tp tq a : Addr} {L : List Cl} {h0 t0 : Int} {st0 : List Rp} {h t : Int} {reps : List Rp} (Z : St S b c r kp kq tp tq L h0 t0 st0 h t reps) (n : S a = none) : Aw b c r kp kq tp tq L a :=
  ⟨Z.fresh n, Z.bx.ne n, new_ne Z.cl n, new_ne Z.rl n, new_ne Z.kept.p n, new_ne Z.kept.q n, new_ne Z.twin.p n, new_ne Z.twin.q n⟩
theorem St.put {S : Sto} {b c r kp kq tp tq a : Addr} {L : List Cl} {h0 t0 : Int} {st0 : List Rp} {h t : Int} {reps : List Rp} {o : Ob} (Z : St S b c r kp kq tp tq L h0 t0 st0 h t reps) (w : Aw b c r kp kq tp tq L a) : St (Mp.put S a o) b c r kp kq tp tq L h0 t0 st0 h t reps := by
  obtain ⟨w0, w1, w2, w3, w4, w5, w6, w7⟩ := w
  exact ⟨Z.bx.put w1, (put_ne w3).trans Z.rl, (put_ne w2).trans Z.cl, fun y hy => ⟨(put_ne (w0 y hy).1.symm).trans (Z.rows y hy).p, (put_ne (w0 y hy).2.symm).trans (Z.rows y hy).q⟩, Z.ds, ⟨(put_ne w4).trans Z.kept.p, (put_ne w5).trans Z.kept.q⟩, ⟨(put_ne w6).trans Z.twin.p, (put_ne w7).trans Z.twin.q⟩, Z.out, Z.nb, Z.nr, Z.nc, Z.gd⟩
/-- the rounds, and what is asked behind them -/
def q_rounds : QTS := (qSeq (qFor (qiR1 (qaC (qCall 2 sp__law_pick (qaC (qVar 1) (qaC (qNew (qLst (qaC (qC (.int 4)) (qaC (qC (.int 8)) (qaC (qC (.int 16)) qaN))))) qaN))) qaN)) (qgName 15)
  (qSeq (qSet 16 (qNew (qLst (qaC (qVar 7) (qaC (qVar 8) (qaC (qBin fAdd (qVar 7) (qCall 2 sp__law_take (qaC (qVar 1) (qaC (qBin fAdd (qBin fSub (qVar 8) (qVar 7)) (qC (.int 1))) qaN)))) (qaC (qBin fAdd (qVar 8) (qC (.int 1))) (qaC (qBin fSub (qVar 7) (qC (.int 1))) qaN))))))))
  (qSeq (qIfS (qTst (qEqL true (qhE (qVar 6)) (qhL (qLst qaN))))
  (qDrop (qMl fApp (qVar 16) (qaC (qBin fAdd (qBin fIdx (qCall 2 sp__law_pick (qaC (qVar 1) (qaC (qVar 6) qaN))) (qC (.int 0))) (qC (.int 1))) qaN)))
  qNext)
  (qSeq (qSet 17 (qCall 4 sp__law_whole (qaC (qVar 6) (qaC (qVar 7) (qaC (qVar 8) (qaC (qVar 16) qaN))))))
  (qSeq (qIfS (qAnd (qTst (qBin fNe (qBin fMod (qVar 15) (qC (.int 3))) (qC (.int 1)))) (qTst (qEqL true (qhL (qLc (qiV (qVar 12)) (tg1 18) (qNot (qTru (qCall 2 sp__law_like (qaC (qCall 2 sp__law_answers (qaC (qVar 18) (qaC (qVar 16) qaN))) (qaC (qVar 17) qaN))))) (qC (.int 1)))) (qhL (qLst qaN)))))
  (qRet (qC (.bl false)))
  qNext)
  (qSeq (qSet 19 (qCall 4 sp__law_deed (qaC (qVar 1) (qaC (qVar 7) (qaC (qVar 8) (qaC (qVar 2) qaN))))))
  (qSeq (qSet 20 (qCall 3 sp__law_due (qaC (qVar 19) (qaC (qVar 7) (qaC (qVar 8) qaN)))))
  (qSeq (qIfS (qTst (qEqL true (qhL (qLc (qiV (qVar 12)) (tg1 18) (qTst (qBin fNe (qCall 2 sp__law_take_in (qaC (qVar 18) (qaC (qVar 19) qaN))) (qVar 20))) (qC (.int 1)))) (qhL (qLst qaN))))
  (qRet (qC (.bl false)))
  qNext)
  (qIfS (qAnd (qTru (qVar 20)) (qTst (qBin fEq (qBin fIdx (qVar 19) (qC (.int 0))) (qC (.str [116, 111, 108, 100])))))
  (qSeq (qSet 8 (qBin fIdx (qVar 19) (qC (.int 1))))
  (qDrop (qMl fApp (qVar 6) (qaC (qTup (qaC (qVar 8) (qaC (qBin fIdx (qVar 19) (qC (.int 2))) qaN))) qaN))))
  (qIfS (qTru (qVar 20))
  (qSet 7 (qBin fIdx (qVar 19) (qC (.int 1))))
  qNext))))))))))
  (qRet (qAndV (qCall 2 sp__law_like (qaC (qMeth 0 1 sp_Row_state (qVar 13) qaN) (qaC (qVar 9) qaN))) (qAndV (qCall 2 sp__law_like (qaC (qMeth 0 1 sp_Row_state (qVar 14) qaN) (qaC (qVar 9) qaN))) (qCall 2 sp__law_like (qaC (qMeth 0 1 sp_Row_state (qBin fIdx (qVar 12) (qC (.int 0))) qaN) (qaC (qCall 3 sp__law_state (qaC (qVar 6) (qaC (qVar 7) (qaC (qVar 8) qaN)))) qaN)))))))
theorem t_rounds {ns : List Int} {S : Sto} {b c r kp kq tp tq : Addr} {L : List Cl} {h0 t0 : Int} {st0 : List Rp} {h t few : Int} {reps : List Rp} {v3 v4 v5 v10 v11 v15 v16 v17 v18 v19 v20 : Option PV} {D : PEnds} (Z : St S b c r kp kq tp tq L h0 t0 st0 h t reps) (V : Vs h0 t0 st0) (L0 : L ≠ []) (L5 : L.length ≤ 5) (zr : reps.length ≤ 21) (f1 : 1 ≤ few) (f2 : few ≤ 1000)
    (hD : ∀ S, D.rt (.bl true) S) : q_rounds D [some (.lsv (ns.map PV.int)), some (.ref b), some (.int few), v3, v4, v5, some (.ref r), some (.int h), some (.int t), some (stV h0 t0 st0), v10, v11, some (.ref c), some (.ref kp), some (.ref tp), v15, v16, v17, v18, v19, v20] S := by
  unfold q_rounds
  walk_at "go"
  intro a ha
  walk_at "go"
  refine t_pickN Z.bx ha (by simp) (by simp) fun v S2 hv x2 hb2 => ?_
  obtain ⟨m, rfl, m2⟩ : ∃ m : Nat, v = .int m ∧ m ≤ 16 := by
    simp only [List.mem_cons, List.not_mem_nil, or_false] at hv
    rcases hv with h | h | h
    · exact ⟨4, h, by decide⟩
    · exact ⟨8, h, by decide⟩
    · exact ⟨16, h, by decide⟩
  have Z2 := Z.ext x2 hb2
  clear hv Z x2 hb2 ha
  walk_at "go"
  refine forQ_range (fun i τ S' => ∃ L h t reps v15 v16 v17 v18 v19 v20, τ = [some (.lsv (ns.map PV.int)), some (.ref b), some (.int few), v3, v4, v5, some (.ref r), some (.int h), some (.int t), some (stV h0 t0 st0), v10, v11, some (.ref c), some (.ref kp), some (.ref tp), v15, v16, v17, v18, v19, v20] ∧ St S' b c r kp kq tp tq L h0 t0 st0 h t reps ∧ L ≠ [] ∧ L.length ≤ 5 ∧ reps.length ≤ 21 + i)
    ⟨L, h, t, reps, v15, v16, v17, v18, v19, v20, rfl, Z2, L0, L5, by omega⟩ (fun i hi τ S3 N hh hN => ?_) fun τ S3 hh => ?_
  · obtain ⟨L, h, t, reps, v15, v16, v17, v18, v19, v20, e, Z, L0, L5, zr⟩ := hh
    subst e
    have hi : i < 16 := by simp at hi; omega
    have hN := fun L h t reps v15 v16 v17 v18 v19 v20 S a b c d => hN _ S ⟨L, h, t, reps, v15, v16, v17, v18, v19, v20, rfl, a, b, c, d⟩ trivial
    clear Z2 hD
    have G := Z.gd
    have h0' := G.h0
    have ht := G.ht
    have tl := G.tl
    have okr := G.okR
    have zr2 : reps.length ≤ 60 := by omega
    show qSeq _ _ _ _ _
    refine seq_join (fun τ S => ∃ (kc : Addr) (ks : List Int), τ = [some (.lsv (ns.map PV.int)), some (.ref b), some (.int few), v3, v4, v5, some (.ref r), some (.int h), some (.int t), some (stV h0 t0 st0), v10, v11, some (.ref c), some (.ref kp), some (.ref tp), some (.int i), some (.ref kc), v17, v18, v19, v20] ∧ St S b c r kp kq tp tq L h0 t0 st0 h t reps ∧ S kc = some (.lst (ks.map PV.int)) ∧ ks.length = 5 ∧ Aw b c r kp kq tp tq L kc) (fun N5 h5 => ?_) (fun τ S4 hh => ?_)
    · have h5 := fun (kc : Addr) (ks : List Int) S a b c d => h5 _ S ⟨kc, ks, rfl, a, b, c, d⟩
      clear hN
      walk_at "go"
      refine t_take Z.bx (by omega) (by omega) fun d S4 _ _ x4 hb4 => ?_
      have Z := Z.ext x4 hb4
      clear x4 hb4
      walk_at "go"
      intro kc hkc
      have h5 := h5 kc [h, t, h + d, t + 1, h - 1] _ (Z.sub (Sub.new hkc)) put_same rfl (Z.aw hkc)
      walk_at "go"
      exact h5
    obtain ⟨kc, ks, e, Z, hk, lk, kw⟩ := hh
    subst e
    refine seq_join (fun τ S => ∃ (ks : List Int), τ = [some (.lsv (ns.map PV.int)), some (.ref b), some (.int few), v3, v4, v5, some (.ref r), some (.int h), some (.int t), some (stV h0 t0 st0), v10, v11, some (.ref c), some (.ref kp), some (.ref tp), some (.int i), some (.ref kc), v17, v18, v19, v20] ∧ St S b c r kp kq tp tq L h0 t0 st0 h t reps ∧ S kc = some (.lst (ks.map PV.int)) ∧ ks.length ≤ 6) (fun N5 h5 => ?_) (fun τ S5 hh => ?_)
    · have h5 := fun (ks : List Int) S a b c => h5 _ S ⟨ks, rfl, a, b, c⟩
      clear hN
      have hrl := Z.rl
      walk_at "go"
      intro u
      walk_at "go"
      refine And.intro ⟨rfl, rfl⟩ ?_
      obtain ⟨ds, es, a1, a2, a3, a4, a5⟩ := nil_rows (S := S4) (Q := fun b => b = reps.isEmpty) okr rfl
      refine ⟨ds, es, a1, a2, a3, a4, ?_⟩
      clear a1 a2 a3 a4
      cases hr : reps.isEmpty with
      | true =>
        have a6 : PyData.eqvAll ds es = true := a5.trans hr
        have h5 := h5 ks S4 Z hk (by omega)
        clear a5 hr
        walk_at "go"
      | false =>
        have a6 : PyData.eqvAll ds es = false := a5.trans hr
        have rne : reps ≠ [] := fun e => by rw [e] at hr; cases hr
        clear a5 hr
        walk_at "go"
        refine t_pick Z.bx Z.rl Z.nb.1 (by rw [List.length_map]; exact List.length_pos_iff.mpr rne) (by rw [List.length_map]; exact Nat.lt_of_le_of_lt zr2 (by decide)) fun v S5 hv x5 hb5 => ?_
        obtain ⟨y, _, rfl⟩ := List.mem_map.mp hv
        have Z := Z.ext x5 hb5
        have hk := x5.at kw.2.1.symm hk
        have e1 : ks.map PV.int ++ [PV.int (y.1 + 1)] = (ks ++ [y.1 + 1]).map PV.int := by rw [List.map_append]; rfl
        have hz : (ks.map PV.int).length < sizeLine := lt_line (by rw [List.length_map]; omega)
        have h5 := h5 (ks ++ [y.1 + 1]) _ (Z.put (o := .lst ((ks ++ [y.1 + 1]).map PV.int)) kw) put_same (by simp; omega)
        rw [← e1] at h5
        clear x5 hb5 hv e1
        unfold rP
        walk_at "go"
    obtain ⟨ks, e, Z, hk, lk⟩ := hh
    subst e
    have hrl := Z.rl
    refine seq_join (fun τ S => ∃ dc, τ = [some (.lsv (ns.map PV.int)), some (.ref b), some (.int few), v3, v4, v5, some (.ref r), some (.int h), some (.int t), some (stV h0 t0 st0), v10, v11, some (.ref c), some (.ref kp), some (.ref tp), some (.int i), some (.ref kc), some (.ref dc), v18, v19, v20] ∧ St S b c r kp kq tp tq L h0 t0 st0 h t reps ∧ S kc = some (.lst (ks.map PV.int)) ∧ S dc = some (.lst (whoP h t reps ks))) (fun N5 h5 => ?_) (fun τ S6 hh => ?_)
    · have h5 := fun dc S a b c => h5 _ S ⟨dc, rfl, a, b, c⟩
      clear hN
      walk_at "go"
      refine t_whole Z.rl hk (by omega) okr (by omega) fun d S6 _ hd x6 => ?_
      exact h5 d S6 (Z.sub x6) (x6 _ _ hk) hd
    obtain ⟨dc, e, Z, hk, hd⟩ := hh
    subst e
    refine seq_join (fun τ S => τ = [some (.lsv (ns.map PV.int)), some (.ref b), some (.int few), v3, v4, v5, some (.ref r), some (.int h), some (.int t), some (stV h0 t0 st0), v10, v11, some (.ref c), some (.ref kp), some (.ref tp), some (.int i), some (.ref kc), some (.ref dc), v18, v19, v20] ∧ St S b c r kp kq tp tq L h0 t0 st0 h t reps) (fun N5 h5 => ?_) (fun τ S7 hh => ?_)
    · have h5 := fun S a => h5 _ S ⟨rfl, a⟩
      clear hN
      have hcl := Z.cl
      have out : Out L c := Z.out.2.1
      by_cases z : ((i : Int) % 3 = 1)
      · have h5 := h5 S6 Z
        walk_at "go"
      · have key := fun (P : QK (List PV)) k => t_ansall (P := P) (v0 := some (.lsv (ns.map PV.int))) (v1 := some (.ref b)) (v2 := some (.int few)) (v3 := v3) (v4 := v4) (v5 := v5) (v6 := some (.ref r)) (v7 := some (.int h)) (v8 := some (.int t)) (v9 := some (stV h0 t0 st0)) (v10 := v10) (v11 := v11) (v12 := some (.ref c)) (v13 := some (.ref kp)) (v14 := some (.ref tp)) (v15 := some (.int i)) (v18 := v18) (v19 := v19) (v20 := v20) (st := []) Z.rows hcl hk hd G zr2 (by omega) (by omega) k
        walk_at "go"
        refine key _ fun S7 x7 => ?_
        have h5 := h5 S7 (Z.sub x7)
        clear key
        intro u
        walk_at "go"
        intro w
        refine ⟨⟨rfl, rfl⟩, [], [], .nil, .nil, rfl, rfl, ?_⟩
        walk_at "go"
    obtain ⟨e, Z⟩ := hh
    subst e
    show qSeq _ _ _ _ _
    walk_at "go"
    refine t_deed Z.bx h0' ht tl f1 f2 fun d S8 okd x8 hb8 => ?_
    have Z := Z.ext x8 hb8
    clear x8 hb8 hk hd hrl
    walk_at "go"
    refine t_due ?_
    have hcl := Z.cl
    have hz : (F h reps).length < 900 := by
      have := List.length_filter_le (fun x : Rp => decide (h ≤ x.1)) (falls reps)
      have := falls_len reps
      show ((falls reps).filter _).length < 900
      omega
    have key := fun (P : QK (List PV)) v18 k1 k2 => t_all (P := P) (v0 := some (.lsv (ns.map PV.int))) (v1 := some (.ref b)) (v2 := some (.int few)) (v3 := v3) (v4 := v4) (v5 := v5) (v6 := some (.ref r)) (v7 := some (.int h)) (v8 := some (.int t)) (v9 := some (stV h0 t0 st0)) (v10 := v10) (v11 := v11) (v12 := some (.ref c)) (v13 := some (.ref kp)) (v14 := some (.ref tp)) (v15 := some (.int i)) (v16 := some (.ref kc)) (v17 := some (.ref dc)) (v18 := v18) (d := d) Z.rows Z.ds hcl Z.out.2.1 (asc_filter _ (falls_asc reps)) hz (by omega) k1 k2
    walk_at "go"
    refine key _ _ (fun hd L' S9 r1 ds2 hf sp => ?_) (fun hd => ?_)
    · obtain ⟨hr9, Z9⟩ := Z.deed hd okd r1 ds2 hf sp
      have lL : L'.length = L.length := by have := congrArg List.length hf; rw [List.length_map, List.length_map] at this; exact this
      have L0' : L' ≠ [] := fun e => by rw [e] at lL; exact L0 (List.eq_nil_of_length_eq_zero lL.symm)
      clear key r1 ds2 hf sp Z hcl
      intro u
      walk_at "go"
      intro w
      refine ⟨⟨rfl, rfl⟩, [], [], .nil, .nil, rfl, rfl, ?_⟩
      walk_at "go"
      cases d with
      | told v n =>
        have hN := hN L' _ _ _ (some (.int i)) (some (.ref kc)) (some (.ref dc)) v18 (some (dP (.told v n))) (some (.bl true)) _ Z9 L0' (by omega) (by show (reps ++ [(v, n)]).length ≤ _; simp; omega)
        have hr6 : reps.length < 900 := by omega
        rw [show (nreps reps (.told v n)).map rP = reps.map rP ++ [.tup [.int v, oI n]] by show (reps ++ [(v, n)]).map rP = _; rw [List.map_append]; rfl] at hN
        unfold dP at hN ⊢
        clear Z9 hd
        walk_at "go"
        exact hN
      | acked k =>
        have hN := hN L' _ _ _ (some (.int i)) (some (.ref kc)) (some (.ref dc)) v18 (some (dP (.acked k))) (some (.bl true)) _ Z9 L0' (by omega) (by show reps.length ≤ _; omega)
        rw [show put S9 r (.lst ((nreps reps (.acked k)).map rP)) = S9 from put_self hr9] at hN
        unfold dP at hN ⊢
        clear Z9 hd
        walk_at "go"
        exact hN
    · have hN := hN L h t reps (some (.int i)) (some (.ref kc)) (some (.ref dc)) v18 (some (dP d)) (some (.bl false)) S8 Z L0 L5 (by omega)
      intro u
      clear key
      walk_at "go"
      intro w
      refine ⟨⟨rfl, rfl⟩, [], [], .nil, .nil, rfl, rfl, ?_⟩
      walk_at "go"
      exact hN
  · obtain ⟨L, h, t, reps, v15, v16, v17, v18, v19, v20, e, Z, L0, L5, zr⟩ := hh
    subst e
    cases L with
    | nil => exact absurd rfl L0
    | cons x L =>
      have hkp := Z.kept.p
      have htp := Z.twin.p
      have hcl : S3 c = some (.lst (.ref x.1 :: refs L)) := Z.cl
      have R := Z.rows x List.mem_cons_self
      have hxp := R.p
      have okr := Z.gd.okR
      have pv : Pl 8 (stV h0 t0 st0) := by
        refine ⟨by simp, fun y hy => ?_⟩
        simp only [List.mem_cons, List.not_mem_nil, or_false] at hy
        rcases hy with rfl | rfl | rfl
        · exact trivial
        · exact trivial
        · refine ⟨by have := V.len; simp; omega, fun y hy => ?_⟩
          obtain ⟨z, hz, rfl⟩ := List.mem_map.mp hy
          refine ⟨by simp, fun y hy => ?_⟩
          simp only [List.mem_cons, List.not_mem_nil, or_false] at hy
          rcases hy with rfl | rfl
          · exact trivial
          · exact pl_oI7 (V.nm z hz).1
      walk_at "go"
      refine t_rstate Z.kept.p Z.kept.q ?_
      walk_at "go"
      refine t_like rfl pv ?_
      walk_at "go"
      refine t_rstate Z.twin.p Z.twin.q ?_
      walk_at "go"
      refine t_like rfl pv ?_
      walk_at "go"
      rw [atI_0]
      walk_at "go"
      refine t_rstate R.p R.q ?_
      walk_at "go"
      refine t_state Z.rl (by simp at zr; omega) ?_
      walk_at "go"
      refine t_like rfl (Pl.st (by simp at zr; omega) okr) ?_
      exact hD _
/-! ### NEWC -/
theorem law_true : LawTrue sp_law := fun ns hn hz => by
  unfold sp_law
  refine seq_call2 ?_
  walk_at "go"
  refine t_box (by decide) (by decide) fun b S1 hb0 x1 hb => ?_
  clear hb0 x1
  walk_at "go"
  refine t_take hb (by decide) (by decide) fun few S2 f0 f1 x2 hb2 => ?_
  clear hb x2
  walk_at "go"
  refine t_drawn hb2 (by omega) (by omega) fun p q r h t reps S3 D1 z1 => ?_
  walk_at "go"
  refine t_box (by decide) (by decide) fun b2 S4 hb20 x4 hb4 => ?_
  walk_at "go"
  refine t_drawn hb4 (by omega) (by omega) fun p' q' r' h' t' reps' S5 D2 z2 => ?_
  have T : Two S5 b p q r p' q' r' h t reps h' t' reps' := by
    have e1 := D1.row.p
    have e2 := D1.row.q
    have e3 := D1.rl
    have hb3 := D1.bx
    have nb := hb3.ne hb20
    have hb3' := hb3.sub x4
    have m : ∀ {a o}, S3 a = some o → S5 a = some o := fun {a o} e => D2.ext.at (new_ne e hb20) (x4 _ _ e)
    refine ⟨?_, ⟨m e1, m e2⟩, m e3, D2.row, D2.rl, D1.gd, D2.gd, ⟨(hb2.ne D1.fp).symm, (hb2.ne D1.fq).symm, (hb2.ne D1.fr).symm, (hb3'.ne D2.fp).symm, (hb3'.ne D2.fq).symm, (hb3'.ne D2.fr).symm⟩, ⟨D1.pr, D1.qr⟩, ⟨z1, z2⟩⟩
    obtain ⟨u, v, e, k⟩ := hb3
    exact ⟨u, v, m e, k⟩
  clear D1 D2 hb4 x4 hb20 hb2 z1 z2
  walk_at "go"
  refine t_state T.rl (by have := T.z.1; omega) ?_
  walk_at "go"
  refine t_state T.rl' (by have := T.z.2; omega) ?_
  have V : Vs h t (F h reps) := T.gd.vs (by have := T.z.1; omega)
  have V' : Vs h' t' (F h' reps') := T.gd'.vs (by have := T.z.2; omega)
  have tl := T.gd.tl
  have g' : Good (stV h' t' (F h' reps')) := ⟨_, _, _, rfl, V'⟩
  dsimp only [qaN]
  refine seq_join (fun τ S => ∃ o, τ = [some (.lsv (ns.map PV.int)), some (.ref b), some (.int (1 + few)), some (.tup [.ref p, .ref r, .int h, .int t]), some (.tup [.ref p', .ref r', .int h', .int t']), some (.ref p), some (.ref r), some (.int h), some (.int t), some (stV h t (F h reps)), some (stV h' t' (F h' reps')), some o, none, none, none, none, none, none, none, none, none] ∧ Good o ∧ Two S b p q r p' q' r' h t reps h' t' reps') (fun N5 h5 => ?_) (fun τ S ⟨o, e1, gO, T⟩ => ?_)
  · have h5 := fun o S a b => h5 _ S ⟨o, rfl, a, b⟩
    walk_at "go"
    refine t_take T.bx (by decide) (by decide) fun d S6 _ _ x6 hb6 => ?_
    have T := T.ext x6 hb6
    walk_at "go"
    refine iteB_dec (fun z => ?_) (fun z => ?_)
    · walk_at "go"
      refine t_near T.bx V (by omega) fun v S7 gv x7 hb7 => ?_
      exact h5 v S7 gv (T.ext x7 hb7)
    · walk_at "go"
      exact h5 _ _ g' T
  subst e1
  have O0 : Own S [(p, q)] [b, r] h t (F h reps) := by
    obtain ⟨b1, b2, _⟩ := T.bs
    have e1 := T.rl
    obtain ⟨u, v, e2, _⟩ := T.bx
    refine ⟨fun y hy => ?_, List.pairwise_singleton _ _, fun a ha => ?_⟩
    · rw [List.mem_singleton] at hy; subst hy; exact T.row
    · simp only [List.mem_cons, List.not_mem_nil, or_false] at ha
      rcases ha with rfl | rfl
      · exact ⟨fun z hz => by rw [List.mem_singleton] at hz; subst hz; exact ⟨b1.symm, b2.symm⟩, _, e2⟩
      · exact ⟨fun z hz => by rw [List.mem_singleton] at hz; subst hz; exact ⟨T.pr.1.symm, T.pr.2.symm⟩, _, e1⟩
  have lF : (F h reps).length ≤ 60 := V.len
  have rowP : ∀ {S' : Sto} {L X}, Own S' ((p, q) :: L) X h t (F h reps) → R1 S' p q h t (F h reps) := fun O => O.rows (p, q) List.mem_cons_self
  walk_at "go"
  refine t_rowV V fun p1 S6 M => ?_
  have T6 := T.sub M.choose_spec.2.2.2.2.2
  obtain ⟨q1, O1, _⟩ := O0.made M
  clear M T O0
  have hp := (rowP O1).p
  walk_at "go"
  refine t_copied (rowP O1).p (rowP O1).q (by omega) fun p2 S7 M => ?_
  have T7 := T6.sub M.choose_spec.2.2.2.2.2
  obtain ⟨q2, O2, _⟩ := O1.made M
  clear M T6 O1 hp
  have hp := (rowP O2).p
  walk_at "go"
  refine t_copied (rowP O2).p (rowP O2).q (by omega) fun p3 S8 M => ?_
  have T8 := T7.sub M.choose_spec.2.2.2.2.2
  obtain ⟨q3, h1, h2, h3, h4, h5, h6⟩ := M
  have O3 := O2.sub h6
  clear h1 h2 h3 h6 T7 O2 hp
  walk_at "go"
  refine t_rstate h4 h5 ?_
  clear h4 h5
  walk_at "go"
  refine t_rowV V fun p4 S9 M => ?_
  have T9 := T8.sub M.choose_spec.2.2.2.2.2
  obtain ⟨q4, O4, _⟩ := O3.made M
  clear M T8 O3
  walk_at "go"
  intro c hc
  have O5 := O4.add hc (Sub.new hc (o := .lst [.ref p, .ref p1, .ref p2, .ref p4])) put_same
  have T10 := T9.sub (Sub.new hc (o := .lst [.ref p, .ref p1, .ref p2, .ref p4]))
  have cb : c ≠ b := (T9.bx.ne hc).symm
  have cr : c ≠ r := (new_ne T9.rl hc).symm
  have hcl : put S9 c (.lst [.ref p, .ref p1, .ref p2, .ref p4]) c = some (.lst [.ref p, .ref p1, .ref p2, .ref p4]) := put_same
  clear O4 T9 hc
  generalize put S9 c (.lst [.ref p, .ref p1, .ref p2, .ref p4]) = S10 at O5 T10 hcl ⊢
  simp only [List.singleton_append, List.cons_append, List.nil_append] at O5
  have hp := (rowP O5).p
  walk_at "go"
  refine t_copied (rowP O5).p (rowP O5).q (by omega) fun kp S11 M => ?_
  have x := M.choose_spec.2.2.2.2.2
  have T11 := T10.sub x
  obtain ⟨kq, O6, K, n1, n2⟩ := O5.keep M
  have kb : kp ≠ b ∧ kq ≠ b := ⟨(T10.bx.ne n1).symm, (T10.bx.ne n2).symm⟩
  have kr : kp ≠ r ∧ kq ≠ r := ⟨(new_ne T10.rl n1).symm, (new_ne T10.rl n2).symm⟩
  have kc : kp ≠ c ∧ kq ≠ c := ⟨(new_ne hcl n1).symm, (new_ne hcl n2).symm⟩
  have hcl := x _ _ hcl
  clear M x n1 n2 T10 O5 hp
  walk_at "go"
  refine t_rowV V fun tp S12 M => ?_
  have x := M.choose_spec.2.2.2.2.2
  have T12 := T11.sub x
  obtain ⟨tq, O7, W, n1, n2⟩ := O6.keep M
  have tb : tp ≠ b ∧ tq ≠ b := ⟨(T11.bx.ne n1).symm, (T11.bx.ne n2).symm⟩
  have tr : tp ≠ r ∧ tq ≠ r := ⟨(new_ne T11.rl n1).symm, (new_ne T11.rl n2).symm⟩
  have tc : tp ≠ c ∧ tq ≠ c := ⟨(new_ne hcl n1).symm, (new_ne hcl n2).symm⟩
  have hcl := x _ _ hcl
  have K : R1 S12 kp kq h t (F h reps) := ⟨x _ _ K.p, x _ _ K.q⟩
  clear M x n1 n2 T11 O6
  have hp2 := T12.row'.p
  have Z : St S12 b c r kp kq tp tq [(p, q), (p1, q1), (p2, q2), (p4, q4)] h t (F h reps) h t reps := by
    have u := fun a ha => (O7.out a ha).1
    exact ⟨T12.bx, T12.rl, hcl, O7.rows, O7.ds, K, W, ⟨u b (by simp), u c (by simp), u r (by simp), u kp (by simp), u kq (by simp), u tp (by simp), u tq (by simp)⟩, ⟨T12.bs.2.2.1, cb, kb.1, kb.2, tb.1, tb.2⟩, ⟨cr, kr.1, kr.2, tr.1, tr.2⟩, ⟨kc.1, kc.2, tc.1, tc.2⟩, T12.gd⟩
  clear O7 K W kb kr tb tr cb cr hcl kc tc
  walk_at "go"
  refine t_rstate T12.row'.p T12.row'.q ?_
  walk_at "go"
  refine t_like rfl (Pl.st (by have := T12.z.2; omega) T12.gd'.okR) ?_
  have zr := T12.z.1
  clear hp2 T12
  obtain ⟨h2, t2, st2, rfl, V2⟩ := gO
  obtain ⟨dA, sA⟩ := V.dat S12
  obtain ⟨dB, sB⟩ := V2.dat S12
  have eqv : PyData.eqv (dOf (stV h t (F h reps))) (dOf (stV h2 t2 st2)) = eqC (stV h t (F h reps)) (stV h2 t2 st2) := by
    have := eqv_iff V.pq V2.pq
    have e := @eqC_iff (stV h t (F h reps)) (stV h2 t2 st2)
    cases z : PyData.eqv (dOf (stV h t (F h reps))) (dOf (stV h2 t2 st2)) with
    | true => exact (e.mpr (this.mp z)).symm
    | false =>
      cases w : eqC (stV h t (F h reps)) (stV h2 t2 st2) with
      | false => rfl
      | true => rw [this.mpr (e.mp w)] at z; cases z
  clear sA sB dA dB
  dsimp only [truP, Bool.not_true, iteB, qNext]
  refine seq_join (fun τ S => τ = [some (.lsv (ns.map PV.int)), some (.ref b), some (.int (1 + few)), some (.tup [.ref p, .ref r, .int h, .int t]), some (.tup [.ref p', .ref r', .int h', .int t']), some (.ref p), some (.ref r), some (.int h), some (.int t), some (stV h t (F h reps)), some (stV h' t' (F h' reps')), some (stV h2 t2 st2), some (.ref c), some (.ref kp), some (.ref tp), none, none, none, none, none, none] ∧ St S b c r kp kq tp tq [(p, q), (p1, q1), (p2, q2), (p4, q4)] h t (F h reps) h t reps) (fun N5 h5 => ?_) (fun τ S13 ⟨e1, Z⟩ => ?_)
  · have h5 := fun S a => h5 _ S ⟨rfl, a⟩
    obtain ⟨dA, sA⟩ := V.dat S12
    obtain ⟨dB, sB⟩ := V2.dat S12
    have nq : eqC (stV h t (F h reps)) (stV h2 t2 st2) = false → stV h t (F h reps) ≠ stV h2 t2 st2 := fun z e => by rw [eqC_iff.mpr e] at z; cases z
    walk_at "go"
    refine ⟨_, _, dA, dB, sA, sB, ?_⟩
    rw [eqv]
    clear dA dB sA sB
    cases z : eqC (stV h t (F h reps)) (stV h2 t2 st2) with
    | true =>
      have h5 := h5 S12 Z
      clear nq
      walk_at "go"
      exact h5
    | false =>
      have nq := nq z
      walk_at "go"
      refine t_rowV V fun p7 S13 M => ?_
      obtain ⟨q7, a1, a2, a3, a4, a5, a6⟩ := M
      walk_at "go"
      refine t_rowV V2 fun p8 S14 M => ?_
      obtain ⟨q8, b1, b2, b3, b4, b5, b6⟩ := M
      walk_at "go"
      refine t_apart ⟨b6 _ _ a4, b6 _ _ a5⟩ ⟨b4, b5⟩ V V2 nq (new_ne a4 b1).symm (new_ne a5 b1).symm (new_ne a4 b2).symm (new_ne a5 b2).symm fun S15 x => ?_
      have sub : Sub S12 S15 := fun a o e => x a o (new_ne e a1) (new_ne e a2) (new_ne (a6 _ _ e) b1) (new_ne (a6 _ _ e) b2) (b6 _ _ (a6 _ _ e))
      have h5 := h5 S15 (Z.sub sub)
      clear sub x a1 a2 a3 a4 a5 a6 b1 b2 b3 b4 b5 b6
      walk_at "go"
      exact h5
  subst e1
  refine seq_join (fun τ S => ∃ L, τ = [some (.lsv (ns.map PV.int)), some (.ref b), some (.int (1 + few)), some (.tup [.ref p, .ref r, .int h, .int t]), some (.tup [.ref p', .ref r', .int h', .int t']), some (.ref p), some (.ref r), some (.int h), some (.int t), some (stV h t (F h reps)), some (stV h' t' (F h' reps')), some (stV h2 t2 st2), some (.ref c), some (.ref kp), some (.ref tp), none, none, none, none, none, none] ∧ St S b c r kp kq tp tq L h t (F h reps) h t reps ∧ L ≠ [] ∧ L.length ≤ 5) (fun N5 h5 => ?_) (fun τ S14 ⟨L, e1, Z, L0, L5⟩ => ?_)
  · have h5 := fun L S a b c => h5 _ S ⟨L, rfl, a, b, c⟩
    obtain ⟨dA, sA⟩ := V.dat S13
    obtain ⟨dB, sB⟩ := V2.dat S13
    walk_at "go"
    refine ⟨_, _, dA, dB, sA, sB, ?_⟩
    rw [eqv]
    clear dA dB sA sB
    cases z : eqC (stV h t (F h reps)) (stV h2 t2 st2) with
    | true =>
      have ez := eqC_iff.mp z
      rw [← ez] at h5 ⊢
      have hcl0 := Z.cl
      clear eqv z ez
      walk_at "go"
      refine t_rowV V fun p9 S15 M => ?_
      have Z2 := Z.sub M.choose_spec.2.2.2.2.2
      have hcl := Z2.cl
      obtain ⟨q9, Z3⟩ := Z.more M
      have h5 := h5 _ _ Z3 (by simp) (by simp)
      clear Z3 M Z
      walk_at "go"
    | false =>
      have h5 := h5 _ S13 Z (by simp) (by simp)
      walk_at "go"
  subst e1
  show qSeq _ _ _ _ _
  refine seq_call2 ?_
  walk_at "go"
  refine t_box (by decide) (by decide) fun b3 S15 hb0 x15 hb => ?_
  have Z := Z.box hb0 x15 hb
  clear hb0 x15 hb
  exact t_rounds Z V L0 L5 zr (by omega) (by omega) fun _ => Dr.self rfl
end Mp

open PySem PySem.W PyProof.Rows in
set_option maxRecDepth 100000 in
set_option maxHeartbeats 0 in
theorem PySem.Challenge.cw_maypoint_k14_whole_rows_go_on_alike_holds : PySem.Challenge.rw_maypoint_k14_whole_rows_go_on_alike.Holds := by
  w_on; o_law; k_head; (case hw => w_witness2)
  k_fill
  refine Mp.walk_law (sp := Mp.sp_law) (l := PySem.Challenge.rw_maypoint_k14_whole_rows_go_on_alike) (lv := 10) rfl rfl (by decide) (fun w h Y => PySem.W.kIn_of Y) ?F Mp.law_true
  case F =>
    intro w mg fa h KX G hmg
    refine' Mp.all_mk KX G hmg ?a0 ?l0 ?c0 ?k0 ?a1 ?l1 ?c1 ?k1 ?a2 ?l2 ?c2 ?k2 ?aC_Row ?pg_Row ?hd_Row ?po_Row ?sa_Row ?nf_Row_head ?nf_Row_tail ?nf_Row_steps ?a3 ?i3 ?mk_Row ?kc_Row ?l3 ?c3 ?k3 ?a4 ?l4 ?c4 ?k4 ?a5 ?l5 ?c5 ?k5 ?a6 ?l6 ?c6 ?k6 ?a7 ?l7 ?c7 ?k7 ?a8 ?l8 ?c8 ?k8 ?a9 ?l9 ?c9 ?k9 ?a10 ?l10 ?c10 ?k10 ?a11 ?l11 ?c11 ?k11 ?a12 ?l12 ?c12 ?k12 ?a13 ?l13 ?c13 ?k13 ?a14 ?l14 ?c14 ?k14 ?a15 ?l15 ?c15 ?k15 ?a16 ?l16 ?c16 ?k16 ?a17 ?l17 ?c17 ?k17 ?a18 ?l18 ?c18 ?k18 ?a19 ?l19 ?c19 ?k19 ?a20 ?l20 ?c20 ?k20 ?a21 ?i21 ?l21 ?c21 ?k21 ?a22 ?i22 ?l22 ?c22 ?k22 ?a23 ?i23 ?l23 ?c23 ?k23 ?a24 ?l24 ?c24 ?k24 ?a25 ?l25 ?c25 ?k25 ?a26 ?i26 ?l26 ?c26 ?k26 ?a27 ?i27 ?l27 ?c27 ?k27 ?a28 ?l28 ?c28 ?k28 ?a29 ?i29 ?l29 ?c29 ?k29 ?a30 ?i30 ?l30 ?c30 ?k30 ?a31 ?l31 ?c31 ?k31 ?a32 ?l32 ?c32 ?k32 ?a33 ?l33 ?c33 ?k33 ?a34 ?l34 ?c34 ?k34 ?a35 ?l35 ?c35 ?k35 ?a36 ?l36 ?c36 ?k36 ?a37 ?l37 ?c37 ?k37 ?a38 ?i38 ?l38 ?c38 ?k38 ?a39 ?l39 ?c39 ?k39 ?z_abs ?z_bool ?z_enumerate ?z_int ?z_isinstance ?z_len ?z_list ?z_max ?z_min ?z_range ?z_sorted ?z_str ?z_tuple ?z_zip ?g_MOST_NAME ?z_super ?z_top ?gx_BadNumber ?gx_BadRow ?gx_Refused ?xL_BadNumber ?iC_BadNumber ?hb_BadNumber ?li_BadNumber ?hl_BadNumber ?ci_BadNumber ?l2_BadNumber ?l3_BadNumber ?l4_BadNumber ?l5_BadNumber ?xL_BadRow ?iC_BadRow ?hb_BadRow ?li_BadRow ?hl_BadRow ?ci_BadRow ?l2_BadRow ?l3_BadRow ?l4_BadRow ?l5_BadRow ?xL_Refused ?iC_Refused ?hb_Refused ?li_Refused ?hl_Refused ?ci_Refused ?l2_Refused ?l3_Refused ?l4_Refused ?l5_Refused ?xt_BadNumber_Refused ?xt_BadNumber_BadRow ?xt_BadNumber_BadNumber ?xt_Refused_Refused ?xt_Refused_BadRow ?xt_Refused_BadNumber ?xf_value_Refused ?xfb_Refused
    (case a0 => k_is)
    (case l0 => k_is)
    (case c0 => k_is)
    (case k0 => k_is)
    (case a1 => k_is)
    (case l1 => k_is)
    (case c1 => k_is)
    (case k1 => k_is)
    (case a2 => k_is)
    (case l2 => k_is)
    (case c2 => k_is)
    (case k2 => k_is)
    (case aC_Row => k_is)
    (case pg_Row => k_is)
    (case hd_Row => k_is)
    (case po_Row => k_is)
    (case sa_Row => k_is)
    (case nf_Row_head => k_is)
    (case nf_Row_tail => k_is)
    (case nf_Row_steps => k_is)
    (case a3 => k_is)
    (case i3 => k_is)
    (case mk_Row => k_is)
    (case kc_Row => k_is)
    (case l3 => k_is)
    (case c3 => k_is)
    (case k3 => k_is)
    (case a4 => k_is)
    (case l4 => k_is)
    (case c4 => k_is)
    (case k4 => k_is)
    (case a5 => k_is)
    (case l5 => k_is)
    (case c5 => k_is)
    (case k5 => k_is)
    (case a6 => k_is)
    (case l6 => k_is)
    (case c6 => k_is)
    (case k6 => k_is)
    (case a7 => k_is)
    (case l7 => k_is)
    (case c7 => k_is)
    (case k7 => k_is)
    (case a8 => k_is)
    (case l8 => k_is)
    (case c8 => k_is)
    (case k8 => k_is)
    (case a9 => k_is)
    (case l9 => k_is)
    (case c9 => k_is)
    (case k9 => k_is)
    (case a10 => k_is)
    (case l10 => k_is)
    (case c10 => k_is)
    (case k10 => k_is)
    (case a11 => k_is)
    (case l11 => k_is)
    (case c11 => k_is)
    (case k11 => k_is)
    (case a12 => k_is)
    (case l12 => k_is)
    (case c12 => k_is)
    (case k12 => k_is)
    (case a13 => k_is)
    (case l13 => k_is)
    (case c13 => k_is)
    (case k13 => k_is)
    (case a14 => k_is)
    (case l14 => k_is)
    (case c14 => k_is)
    (case k14 => k_is)
    (case a15 => k_is)
    (case l15 => k_is)
    (case c15 => k_is)
    (case k15 => k_is)
    (case a16 => k_is)
    (case l16 => k_is)
    (case c16 => k_is)
    (case k16 => k_is)
    (case a17 => k_is)
    (case l17 => k_is)
    (case c17 => k_is)
    (case k17 => k_is)
    (case a18 => k_is)
    (case l18 => k_is)
    (case c18 => k_is)
    (case k18 => k_is)
    (case a19 => k_is)
    (case l19 => k_is)
    (case c19 => k_is)
    (case k19 => k_is)
    (case a20 => k_is)
    (case l20 => k_is)
    (case c20 => k_is)
    (case k20 => k_is)
    (case a21 => k_is)
    (case i21 => k_is)
    (case l21 => k_is)
    (case c21 => k_is)
    (case k21 => k_is)
    (case a22 => k_is)
    (case i22 => k_is)
    (case l22 => k_is)
    (case c22 => k_is)
    (case k22 => k_is)
    (case a23 => k_is)
    (case i23 => k_is)
    (case l23 => k_is)
    (case c23 => k_is)
    (case k23 => k_is)
    (case a24 => k_is)
    (case l24 => k_is)
    (case c24 => k_is)
    (case k24 => k_is)
    (case a25 => k_is)
    (case l25 => k_is)
    (case c25 => k_is)
    (case k25 => k_is)
    (case a26 => k_is)
    (case i26 => k_is)
    (case l26 => k_is)
    (case c26 => k_is)
    (case k26 => k_is)
    (case a27 => k_is)
    (case i27 => k_is)
    (case l27 => k_is)
    (case c27 => k_is)
    (case k27 => k_is)
    (case a28 => k_is)
    (case l28 => k_is)
    (case c28 => k_is)
    (case k28 => k_is)
    (case a29 => k_is)
    (case i29 => k_is)
    (case l29 => k_is)
    (case c29 => k_is)
    (case k29 => k_is)
    (case a30 => k_is)
    (case i30 => k_is)
    (case l30 => k_is)
    (case c30 => k_is)
    (case k30 => k_is)
    (case a31 => k_is)
    (case l31 => k_is)
    (case c31 => k_is)
    (case k31 => k_is)
    (case a32 => k_is)
    (case l32 => k_is)
    (case c32 => k_is)
    (case k32 => k_is)
    (case a33 => k_is)
    (case l33 => k_is)
    (case c33 => k_is)
    (case k33 => k_is)
    (case a34 => k_is)
    (case l34 => k_is)
    (case c34 => k_is)
    (case k34 => k_is)
    (case a35 => k_is)
    (case l35 => k_is)
    (case c35 => k_is)
    (case k35 => k_is)
    (case a36 => k_is)
    (case l36 => k_is)
    (case c36 => k_is)
    (case k36 => k_is)
    (case a37 => k_is)
    (case l37 => k_is)
    (case c37 => k_is)
    (case k37 => k_is)
    (case a38 => k_is)
    (case i38 => k_is)
    (case l38 => k_is)
    (case c38 => k_is)
    (case k38 => k_is)
    (case a39 => k_is)
    (case l39 => k_is)
    (case c39 => k_is)
    (case k39 => k_is)
    (case z_abs => k_is)
    (case z_bool => k_is)
    (case z_enumerate => k_is)
    (case z_int => k_is)
    (case z_isinstance => k_is)
    (case z_len => k_is)
    (case z_list => k_is)
    (case z_max => k_is)
    (case z_min => k_is)
    (case z_range => k_is)
    (case z_sorted => k_is)
    (case z_str => k_is)
    (case z_tuple => k_is)
    (case z_zip => k_is)
    (case g_MOST_NAME => k_is)
    (case z_super => k_is)
    (case z_top => decide +kernel)
    (case gx_BadNumber => k_is)
    (case gx_BadRow => k_is)
    (case gx_Refused => k_is)
    (case xL_BadNumber => k_is)
    (case iC_BadNumber => k_is)
    (case hb_BadNumber => kernel_rfl)
    (case li_BadNumber => k_is)
    (case hl_BadNumber => rfl)
    (case ci_BadNumber => k_is)
    (case l2_BadNumber => k_is)
    (case l3_BadNumber => rfl)
    (case l4_BadNumber => decide +kernel)
    (case l5_BadNumber => k_is)
    (case xL_BadRow => k_is)
    (case iC_BadRow => k_is)
    (case hb_BadRow => kernel_rfl)
    (case li_BadRow => k_is)
    (case hl_BadRow => rfl)
    (case ci_BadRow => k_is)
    (case l2_BadRow => k_is)
    (case l3_BadRow => rfl)
    (case l4_BadRow => decide +kernel)
    (case l5_BadRow => k_is)
    (case xL_Refused => k_is)
    (case iC_Refused => k_is)
    (case hb_Refused => kernel_rfl)
    (case li_Refused => k_is)
    (case hl_Refused => rfl)
    (case ci_Refused => k_is)
    (case l2_Refused => k_is)
    (case l3_Refused => rfl)
    (case l4_Refused => decide +kernel)
    (case l5_Refused => k_is)
    (case xt_BadNumber_Refused => kernel_rfl)
    (case xt_BadNumber_BadRow => kernel_rfl)
    (case xt_BadNumber_BadNumber => kernel_rfl)
    (case xt_Refused_Refused => kernel_rfl)
    (case xt_Refused_BadRow => kernel_rfl)
    (case xt_Refused_BadNumber => kernel_rfl)
    (case xf_value_Refused => k_is)
    (case xfb_Refused => kernel_rfl)
#print axioms PySem.Challenge.cw_maypoint_k14_whole_rows_go_on_alike_holds

