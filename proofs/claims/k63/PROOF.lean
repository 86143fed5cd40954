import PyProof.Rows.All
import Wide.All
import OpenK.AllK
import Wide.FinOn
import HandS.ForMost
import HandS.Walk
import HandS.Exc
import HandS.TryOnly
import HandS.ExcOwn
import HandS.WordsExc
import HandS.Lambda
import HandS.TupAny
import HandS.Wide
import HandS.IsInst
import HandS.DeepEq
import HandS.Style
import HandS.EndBits
import HandS.ExcCtx
import HandS.TryMany
import HandS.Zip
import HandS.Rev
import HandS.Deep
import HandS.More
import HandS.SetFor
import PyProof.StrBlock2
import KE.SortData
import HandS.Comp
import PyProof.Rows.StrMul
import KE.KExcSuper
import HandS.ExcInit
import HandS.ExcIs
import HandS.ExcField
import KE.KExcIs
import KE.KNestM
import KE.GoesMore
import HandS.Strs
import HandS.TupSets
import KE.DataFind
import HandS.Conv
import HandS.HotCalls
import HandS.TupLe
import HandS.Small
import HandS.TupLen
import HandS.DictTup
import HandS.MakeKwOnly
import HandS.Iter
import HandS.DictComp
import KE.KSortTupAny
import PySem.Challenge.RW_maypoint_k63_what_tables_answer
set_option Elab.async false
set_option linter.all false
set_option maxRecDepth 100000
namespace Mp
open PySem L2

/-! ### values as trees, the store -/
inductive PV where
  | non
  | bl (b : Bool)
  | int (i : Int)
  | str (s : List Nat)
  | tup (xs : List PV)
  | ref (a : Addr)
  | ty (n : String)
  | lsv (xs : List PV)
  | exv (a : Addr) (C : Str) (d : Option Addr) (ns : List Str) (ps : List PV)
  | lam (f c : Addr) (q : Str) (vs : List V) (ps : List PV)
  | ktp (xs : List PV)
/-- the names of fields and of classes, by numbers -/
def fldN : List Str := (["head", "tail", "steps", "name", "rows_by_near", "lives", "limits", "octets", "here", "goes_by", "book_by_name", "letters", "seen", "standing", "adds", "aims", "homes", "kept", "bare", "costs", "members", "queues", "sure", "tale", "keeper", "read", "run", "firsts", "journal", "kept_events", "known", "seen_by_all", "parts", "events", "own", "sheet"] : List String).map Str.ofString
def fld (i : Nat) : Str := fldN.getD i "?"
def clsN : List Str := (["Row", "Book", "Reading", "Table", "World", "Node", "Field", "Journal", "Keeper", "Desk", "Net", "Tale", "Words"] : List String).map Str.ofString
def cls (i : Nat) : Str := clsN.getD i "?"
inductive Ob where
  | lst (xs : List PV)
  | ins (C : Nat) (fs : List (Nat × PV))
  | dic (t : Bool) (kvs : List (PV × PV))
  | fdi (t : Bool) (kvs : List (PV × PV))
abbrev Sto := Addr → Option Ob
def put (S : Sto) (a : Addr) (o : Ob) : Sto := fun b => if b = a then some o else S b
theorem put_same {S : Sto} {a : Addr} {o : Ob} : put S a o a = some o := by unfold put; rw [if_pos rfl]
theorem put_ne {S : Sto} {a b : Addr} {o : Ob} (h : b ≠ a) : put S a o b = S b := by unfold put; rw [if_neg h]
abbrev PSt := List (Option PV)
structure PX where
  C : Str
  fs : List (Str × PV)

def kP : Key → PV
  | .inl i => .int i
  | .inr z => .str z.cps.toList

/-- a list that stands still: locked, or of the written part -/
def SqF (K : PySem.W.Frag) (H : Hp) (a : Addr) (xs : List V) : Prop := (∃ o, H a = some (.frz o (.lst xs))) ∨ SqL K (fun _ => none) a xs
theorem SqF.sq {K : PySem.W.Frag} {H : Hp} {a : Addr} {xs : List V} (h : SqF K H a xs) : SqL K H a xs := by
  rcases h with ⟨o, h⟩ | (h | ⟨o, h⟩) | h
  · exact .inl (.inr ⟨o, h⟩)
  · cases h
  · cases h
  · exact .inr h
mutual
def Rl (K : PySem.W.Frag) (H : Hp) (v : V) : PV → Prop
  | .non => v = .non
  | .bl b => v = .bl b
  | .int i => v = .int i
  | .str cs => v = .str ⟨cs.toArray⟩
  | .tup ps => ∃ a vs, v = .ref a ∧ H a = some (.tup vs) ∧ Rls K H vs ps
  | .ktp ps => ∃ a vs, v = .ref a ∧ SqT K H a vs ∧ Rls K H vs ps
  | .ref a => v = .ref a
  | .ty n => v = .ty n
  | .lsv ps => ∃ a vs, v = .ref a ∧ SqF K H a vs ∧ Rls K H vs ps
  | .exv a _ d ns ps => v = .ref a ∧ ((d = none ∧ ns = [] ∧ ps = []) ∨ ∃ dd gs, d = some dd ∧ H dd = some (.xd gs) ∧ gs.map Prod.fst = ns ∧ Rls K H (gs.map Prod.snd) ps)
  | .lam f c q vs ps => v = .ref f ∧ H c = some (LamX.CodeO c q) ∧ Rls K H vs ps
def Rls (K : PySem.W.Frag) (H : Hp) (vs : List V) : List PV → Prop
  | [] => vs = []
  | p :: ps => ∃ v r, vs = v :: r ∧ Rl K H v p ∧ Rls K H r ps
end

/-- what a dict holds: keys of one kind -/
def DRel (K : PySem.W.Frag) (H : Hp) (t : Bool) (u : HO) (kvs : List (PV × PV)) : Prop := match t with
  | false => ∃ ks : List (Key × V), u = .dK ks ∧ ks.map (fun x => kP x.1) = kvs.map Prod.fst ∧ Rls K H (ks.map Prod.snd) (kvs.map Prod.snd)
  | true => ∃ ks : List (List Key × V), u = .dT ks ∧ ks.map (fun x => PV.tup (x.1.map kP)) = kvs.map Prod.fst ∧ Rls K H (ks.map Prod.snd) (kvs.map Prod.snd)
def ObR (K : PySem.W.Frag) (H : Hp) (a : Addr) : Ob → Prop
  | .lst ps => ∃ vs, H a = some (.lst vs) ∧ Rls K H vs ps
  | .ins C fs => ∃ c dx gs, H a = some (.ins c dx gs) ∧ PySem.W.nsIn K mainGlobals (cls C) = some (some (.ref c)) ∧ gs.map Prod.fst = fs.map (fun x => fld x.1) ∧ (∀ x ∈ fs, x.1 < 36) ∧ Rls K H (gs.map Prod.snd) (fs.map Prod.snd)
  | .dic t kvs => ∃ u, H a = some u ∧ DRel K H t u kvs
  | .fdi t kvs => ∃ od u, H a = some (.frz od u) ∧ DRel K H t u kvs

/-- what the store may speak of -/
def Chg : HO → Prop
  | .lst _ => True
  | .dK _ => True
  | .dT _ => True
  | .ins _ _ _ => True
  | _ => False

structure Rep (K : PySem.W.Frag) (T : List (Addr × Str)) (S : Sto) (H : Hp) : Prop where
  ob : ∀ a o, S a = some o → ObR K H a o
  tb : LamX.Tabs T H

/-- the frame: what the store does not speak of stays -/
def Fz (S : Sto) (a : Addr) : Prop := S a = none ∨ ∃ t kvs, S a = some (.fdi t kvs)
def Fr (S : Sto) (H : Hp) (S' : Sto) (H' : Hp) : Prop := ∀ a o, H a = some o → (∀ ps, o ≠ .tbl ps) → Fz S a → H' a = some o ∧ Fz S' a ∧ (S a = none → S' a = none)
/-- what is never locked -/
def Nf : Ob → Prop
  | .fdi _ _ => False
  | _ => True

section
variable {K : PySem.W.Frag} {T : List (Addr × Str)} {S S' S1 S2 : Sto} {H H' H1 H2 : Hp} {a : Addr} {o : HO}

theorem DRel.chg {t : Bool} {u : HO} {kvs : List (PV × PV)} (h : DRel K H t u kvs) : Chg u := by
  cases t with
  | false => obtain ⟨ks, e, _⟩ := h; rw [e]; trivial
  | true => obtain ⟨ks, e, _⟩ := h; rw [e]; trivial
theorem ObR.chg {ob : Ob} (h : ObR K H a ob) (nf : Nf ob) : ∃ o, H a = some o ∧ Chg o := by
  cases ob with
  | lst ps => obtain ⟨vs, e, _⟩ := h; exact ⟨_, e, trivial⟩
  | ins C fs => obtain ⟨_, _, _, e, _⟩ := h; exact ⟨_, e, trivial⟩
  | dic t kvs => obtain ⟨u, e, d⟩ := h; exact ⟨u, e, d.chg⟩
  | fdi t kvs => exact nf.elim
theorem Rep.no (r : Rep K T S H) (e : H a = some o) (n : ¬ Chg o) : Fz S a := by
  cases q : S a with
  | none => exact .inl q
  | some ob =>
    by_cases nf : Nf ob
    · obtain ⟨o', e', c⟩ := (r.ob a ob q).chg nf
      rw [e] at e'; cases e'
      exact absurd c n
    · cases ob with
      | fdi t kvs => exact .inr ⟨t, kvs, q⟩
      | _ => exact absurd trivial nf
theorem Rep.free (r : Rep K T S H) (e : H a = none) : S a = none := by
  cases q : S a with
  | none => rfl
  | some ob =>
    by_cases nf : Nf ob
    · obtain ⟨o', e', c⟩ := (r.ob a ob q).chg nf
      rw [e] at e'; cases e'
    · cases ob with
      | fdi t kvs =>
        obtain ⟨od, u, e', _⟩ := r.ob a _ q
        rw [e] at e'; cases e'
      | _ => exact absurd trivial nf
theorem Fr.refl : Fr S H S H := fun _ _ e _ n => ⟨e, n, id⟩
theorem Fr.trans (x : Fr S H S1 H1) (y : Fr S1 H1 S2 H2) : Fr S H S2 H2 := fun a o e t n =>
  let ⟨e1, n1, z1⟩ := x a o e t n
  let ⟨e2, n2, z2⟩ := y a o e1 t n1
  ⟨e2, n2, fun q => z2 (z1 q)⟩
theorem Fr.keep (x : Fr S H S' H') (e : H a = some o) (t : ∀ ps, o ≠ .tbl ps) (n : S a = none) : H' a = some o ∧ S' a = none := ⟨(x a o e t (.inl n)).1, (x a o e t (.inl n)).2.2 n⟩
theorem Fr.tup (x : Fr S H S' H') (r : Rep K T S H) {xs : List V} (e : H a = some (.tup xs)) : H' a = some (.tup xs) :=
  (x a _ e (fun _ q => nomatch q) (r.no e fun z => z)).1
theorem Fr.frz (x : Fr S H S' H') (r : Rep K T S H) {ob : Obj} {u : HO} (e : H a = some (.frz ob u)) : H' a = some (.frz ob u) :=
  (x a _ e (fun _ q => nomatch q) (r.no e fun z => z)).1
theorem Fr.xd (x : Fr S H S' H') (r : Rep K T S H) {gs : List (Str × V)} (e : H a = some (.xd gs)) : H' a = some (.xd gs) :=
  (x a _ e (fun _ q => nomatch q) (r.no e fun z => z)).1
theorem Fr.cod (x : Fr S H S' H') (r : Rep K T S H) {q : Str} (e : H a = some (LamX.CodeO a q)) : H' a = some (LamX.CodeO a q) :=
  (x a _ e (fun ps z => LamX.codeO_ne ps z) (r.no e fun z => by unfold LamX.CodeO at z; exact z)).1
/-- tuples, what is locked and what exceptions carry stay -/
def SqO : HO → Prop
  | .tup _ => True
  | .lst _ => True
  | _ => False
def Le (H H' : Hp) : Prop := (∀ a xs, H a = some (.tup xs) → H' a = some (.tup xs)) ∧ (∀ a ob u, H a = some (.frz ob u) → SqO u → H' a = some (.frz ob u)) ∧ (∀ a gs, H a = some (.xd gs) → H' a = some (.xd gs)) ∧ ∀ a q, H a = some (LamX.CodeO a q) → H' a = some (LamX.CodeO a q)
theorem Fr.le (x : Fr S H S' H') (r : Rep K T S H) : Le H H' := ⟨fun _ _ e => x.tup r e, fun _ _ _ e _ => x.frz r e, fun _ _ e => x.xd r e, fun _ _ e => x.cod r e⟩
theorem Le.refl : Le H H := ⟨fun _ _ e => e, fun _ _ _ e _ => e, fun _ _ e => e, fun _ _ e => e⟩
theorem Le.sq (x : Le H H') {vs : List V} (h : SqT K H a vs) : SqT K H' a vs := by
  rcases h with (h | ⟨ob, h⟩) | h
  · exact .inl (.inl (x.1 _ _ h))
  · exact .inl (.inr ⟨ob, x.2.1 _ _ _ h trivial⟩)
  · exact .inr h
theorem Le.sqf (x : Le H H') {vs : List V} (h : SqF K H a vs) : SqF K H' a vs := by
  rcases h with ⟨ob, h⟩ | h
  · exact .inl ⟨ob, x.2.1 _ _ _ h trivial⟩
  · exact .inr h
mutual
theorem Rl.mono (x : Le H H') : ∀ (p : PV) (v : V), Rl K H v p → Rl K H' v p
  | .non, _, h => h
  | .bl _, _, h => h
  | .int _, _, h => h
  | .str _, _, h => h
  | .ref _, _, h => h
  | .ty _, _, h => h
  | .tup ps, _, ⟨a, vs, e, q, r⟩ => ⟨a, vs, e, x.1 _ _ q, Rls.mono x ps vs r⟩
  | .ktp ps, _, ⟨a, vs, e, q, r⟩ => ⟨a, vs, e, x.sq q, Rls.mono x ps vs r⟩
  | .lsv ps, _, ⟨a, vs, e, q, r⟩ => ⟨a, vs, e, x.sqf q, Rls.mono x ps vs r⟩
  | .exv a _ _ _ ps, _, ⟨e, h⟩ => ⟨e, h.imp id fun ⟨dd, gs, e1, e2, e3, r⟩ => ⟨dd, gs, e1, x.2.2.1 _ _ e2, e3, Rls.mono x ps _ r⟩⟩
  | .lam f c q vs ps, _, ⟨e, h, r⟩ => ⟨e, x.2.2.2 _ _ h, Rls.mono x ps vs r⟩
theorem Rls.mono (x : Le H H') : ∀ (ps : List PV) (vs : List V), Rls K H vs ps → Rls K H' vs ps
  | [], _, h => h
  | p :: ps, _, ⟨v, r, e, h1, h2⟩ => ⟨v, r, e, Rl.mono x p v h1, Rls.mono x ps r h2⟩
end
theorem Rls.length : ∀ {ps : List PV} {vs : List V}, Rls K H vs ps → vs.length = ps.length
  | [], _, h => by
    have e : _ = [] := h
    rw [e]; rfl
  | _ :: ps, _, ⟨v, r, e, _, h2⟩ => by rw [e, List.length_cons, List.length_cons, Rls.length h2]
theorem Rls.get : ∀ {ps : List PV} {vs : List V} {i : Nat} {p : PV}, Rls K H vs ps → ps[i]? = some p → ∃ v, vs[i]? = some v ∧ Rl K H v p
  | [], _, _, _, _, e => by simp at e
  | q :: ps, _, 0, p, ⟨v, r, e, h1, _⟩, g => by
    simp at g; subst g; subst e
    exact ⟨v, rfl, h1⟩
  | q :: ps, _, i + 1, p, ⟨v, r, e, _, h2⟩, g => by
    subst e
    obtain ⟨w, h3, h4⟩ := Rls.get (i := i) h2 (by simpa using g)
    exact ⟨w, by simpa using h3, h4⟩
theorem Rls.set : ∀ {ps : List PV} {vs : List V} {i : Nat} {p : PV} {v : V}, Rls K H vs ps → Rl K H v p → Rls K H (vs.set i v) (ps.set i p)
  | [], _, _, _, _, e, _ => by
    have e : _ = [] := e
    subst e; exact rfl
  | q :: ps, _, 0, p, w, ⟨v, r, e, _, h2⟩, hw => by
    subst e
    exact ⟨w, r, rfl, hw, h2⟩
  | q :: ps, _, i + 1, p, w, ⟨v, r, e, h1, h2⟩, hw => by
    subst e
    exact ⟨v, r.set i w, rfl, h1, Rls.set h2 hw⟩
theorem Rls.append : ∀ {ps qs : List PV} {vs ws : List V}, Rls K H vs ps → Rls K H ws qs → Rls K H (vs ++ ws) (ps ++ qs)
  | [], _, _, _, e, h => by
    have e : _ = [] := e
    subst e; exact h
  | p :: ps, qs, _, ws, ⟨v, r, e, h1, h2⟩, h => by
    subst e
    exact ⟨v, r ++ ws, rfl, h1, Rls.append h2 h⟩
theorem Rls.take : ∀ {ps : List PV} {vs : List V} (n : Nat), Rls K H vs ps → Rls K H (vs.take n) (ps.take n)
  | _, _, 0, _ => rfl
  | [], _, n + 1, e => by
    have e : _ = [] := e
    subst e; exact rfl
  | p :: ps, _, n + 1, ⟨v, r, e, h1, h2⟩ => by
    subst e
    exact ⟨v, r.take n, rfl, h1, Rls.take n h2⟩
theorem Rls.drop : ∀ {ps : List PV} {vs : List V} (n : Nat), Rls K H vs ps → Rls K H (vs.drop n) (ps.drop n)
  | _, _, 0, h => h
  | [], _, n + 1, e => by
    have e : _ = [] := e
    subst e; exact rfl
  | p :: ps, _, n + 1, ⟨v, r, e, h1, h2⟩ => by
    subst e
    exact Rls.drop n h2
theorem Rls.one {v : V} {p : PV} (h : Rl K H v p) : Rls K H [v] [p] := ⟨v, [], rfl, h, rfl⟩
theorem Rls.cons {v : V} {p : PV} {vs : List V} {ps : List PV} (h : Rl K H v p) (g : Rls K H vs ps) : Rls K H (v :: vs) (p :: ps) := ⟨v, vs, rfl, h, g⟩
theorem Rls.nil : Rls K H [] [] := rfl

/-! ### the store turns -/
theorem DRel.mono {t : Bool} {u : HO} {kvs : List (PV × PV)} (x : Le H H') (h : DRel K H t u kvs) : DRel K H' t u kvs := by
  cases t with
  | false => obtain ⟨ks, q, m, r⟩ := h; exact ⟨ks, q, m, Rls.mono x _ _ r⟩
  | true => obtain ⟨ks, q, m, r⟩ := h; exact ⟨ks, q, m, Rls.mono x _ _ r⟩
theorem ObR.mono {ob : Ob} (x : Le H H') (e : H' a = H a) (h : ObR K H a ob) : ObR K H' a ob := by
  cases ob with
  | lst ps => obtain ⟨vs, q, r⟩ := h; exact ⟨vs, e.trans q, Rls.mono x _ _ r⟩
  | ins C fs => obtain ⟨c, dx, gs, q, n, m, b, r⟩ := h; exact ⟨c, dx, gs, e.trans q, n, m, b, Rls.mono x _ _ r⟩
  | dic t kvs => obtain ⟨u, q, d⟩ := h; exact ⟨u, e.trans q, d.mono x⟩
  | fdi t kvs => obtain ⟨od, u, q, d⟩ := h; exact ⟨od, u, e.trans q, d.mono x⟩
theorem le_new (e : H a = none) : Le H (upd H a o) := ⟨fun b _ q => by rw [upd_ne (ne_of_none q e)]; exact q, fun b _ _ q _ => by rw [upd_ne (ne_of_none q e)]; exact q, fun b _ q => by rw [upd_ne (ne_of_none q e)]; exact q, fun b _ q => by rw [upd_ne (ne_of_none q e)]; exact q⟩
theorem le_chg {o0 : HO} (e : H a = some o0) (c : Chg o0) : Le H (upd H a o) :=
  ⟨fun b _ q => by rw [upd_ne (ne_of q e fun z => by rw [← z] at c; exact c)]; exact q, fun b _ _ q _ => by rw [upd_ne (ne_of q e fun z => by rw [← z] at c; exact c)]; exact q, fun b _ q => by rw [upd_ne (ne_of q e fun z => by rw [← z] at c; exact c)]; exact q, fun b _ q => by rw [upd_ne (ne_of q e fun z => by rw [← z] at c; unfold LamX.CodeO at c; exact c)]; exact q⟩
theorem tabs_new (t : LamX.Tabs T H) (e : H a = none) : LamX.Tabs T (upd H a o) := t.ext fun b u q => by rw [upd_ne (ne_of_none q e)]; exact q
theorem tabs_chg {o0 : HO} (t : LamX.Tabs T H) (e : H a = some o0) (c : Chg o0) : LamX.Tabs T (upd H a o) := fun p hp => by
  obtain ⟨ps, h1, h2, h3⟩ := t p hp
  have n1 : p.1 ≠ a := ne_of h1 e fun z => by rw [← z] at c; exact c
  refine ⟨ps, by rw [upd_ne n1]; exact h1, h2, fun pos cv hc => ?_⟩
  obtain ⟨cc, e1, e2⟩ := h3 pos cv hc
  have n2 : cc ≠ a := ne_of e2 e fun z => by
    rw [← z] at c
    unfold LamX.CodeO at c
    exact c
  exact ⟨cc, e1, by rw [upd_ne n2]; exact e2⟩
/-- a new object that the store speaks of -/
theorem Rep.new {ob : Ob} (r : Rep K T S H) (e : H a = none) (h : ObR K (upd H a o) a ob) : Rep K T (put S a ob) (upd H a o) := by
  refine ⟨fun b u q => ?_, tabs_new r.tb e⟩
  by_cases hb : b = a
  · subst hb; rw [put_same] at q; cases q; exact h
  · rw [put_ne hb] at q
    exact (r.ob b u q).mono (le_new e) (upd_ne hb)
/-- a new object that it does not speak of -/
theorem Rep.hid (r : Rep K T S H) (e : H a = none) : Rep K T S (upd H a o) := by
  refine ⟨fun b u q => ?_, tabs_new r.tb e⟩
  have hb : b ≠ a := fun z => by
    subst z
    rw [r.free e] at q
    cases q
  exact (r.ob b u q).mono (le_new e) (upd_ne hb)
/-- an object that it speaks of is written -/
theorem Rep.wr {ob ob0 : Ob} (r : Rep K T S H) (e : S a = some ob0) (h : Le H (upd H a o) → ObR K (upd H a o) a ob) (nf : Nf ob0 := by exact trivial) : Rep K T (put S a ob) (upd H a o) := by
  obtain ⟨o0, e0, c⟩ := (r.ob a ob0 e).chg nf
  have le : Le H (upd H a o) := le_chg e0 c
  refine ⟨fun b u q => ?_, tabs_chg r.tb e0 c⟩
  by_cases hb : b = a
  · subst hb; rw [put_same] at q; cases q; exact h le
  · rw [put_ne hb] at q
    exact (r.ob b u q).mono le (upd_ne hb)
/-- a hidden object is written -/
theorem Rep.hidwr {o0 : HO} (r : Rep K T S H) (n : S a = none) (e : H a = some o0) (c : Chg o0) : Rep K T S (upd H a o) := by
  have le : Le H (upd H a o) := le_chg e c
  refine ⟨fun b u q => ?_, tabs_chg r.tb e c⟩
  have hb : b ≠ a := fun z => by rw [z, n] at q; cases q
  exact (r.ob b u q).mono le (upd_ne hb)
theorem Fr.new {ob : Ob} (e : H a = none) : Fr S H (put S a ob) (upd H a o) := fun b u q _ n => by
  have hb : b ≠ a := ne_of_none q e
  refine ⟨by rw [upd_ne hb]; exact q, ?_, fun z => by rw [put_ne hb]; exact z⟩
  unfold Fz
  rw [put_ne hb]; exact n
theorem Fr.hid (e : H a = none) : Fr S H S (upd H a o) := fun b u q _ n => ⟨by rw [upd_ne (ne_of_none q e)]; exact q, n, id⟩
theorem Fr.wr {ob ob0 : Ob} (e : S a = some ob0) (nf : Nf ob0 := by exact trivial) : Fr S H (put S a ob) (upd H a o) := fun b u q _ n => by
  have hb : b ≠ a := fun z => by
    rw [z] at n
    rcases n with n | ⟨t, kvs, n⟩
    · rw [e] at n; cases n
    · rw [e] at n; cases n; exact nf
  refine ⟨by rw [upd_ne hb]; exact q, ?_, fun z => by rw [put_ne hb]; exact z⟩
  unfold Fz
  rw [put_ne hb]; exact n
/-- less is said -/
def Sub (S' S : Sto) : Prop := ∀ a o, S' a = some o → S a = some o
theorem Sub.refl : Sub S S := fun _ _ e => e
theorem Sub.trans (x : Sub S S1) (y : Sub S1 S2) : Sub S S2 := fun a o e => y a o (x a o e)
theorem Rep.sub (r : Rep K T S H) (s : Sub S' S) : Rep K T S' H := ⟨fun a o e => r.ob a o (s a o e), r.tb⟩
theorem Sub.no (s : Sub S' S) (e : S a = none) : S' a = none := by
  cases q : S' a with
  | none => rfl
  | some o => rw [s a o q] at e; cases e
theorem Fz.sub (s : Sub S' S) (h : Fz S a) : Fz S' a := by
  cases q : S' a with
  | none => exact .inl q
  | some o =>
    have e := s a o q
    rcases h with h | ⟨t, kvs, h⟩
    · rw [e] at h; cases h
    · rw [e] at h; cases h; exact .inr ⟨t, kvs, q⟩
theorem Fr.sub (x : Fr S H S1 H') (s : Sub S' S1) : Fr S H S' H' := fun a o e t n => let ⟨e1, n1, z1⟩ := x a o e t n; ⟨e1, n1.sub s, fun q => s.no (z1 q)⟩
end
end Mp

set_option Elab.async false
set_option linter.all false
set_option maxRecDepth 100000
namespace Mp
open PySem L2

/-! ### readings over trees -/
def iteB : Bool → Prop → Prop → Prop
  | true, A, _ => A
  | false, _, B => B
theorem iteB_dec {p : Prop} [Decidable p] {A B : Prop} (h1 : p → A) (h2 : ¬ p → B) : iteB (decide p) A B := by
  by_cases h : p
  · rw [decide_eq_true h]; exact h1 h
  · rw [decide_eq_false h]; exact h2 h
theorem iteB_ndec {p : Prop} [Decidable p] {A B : Prop} (h1 : ¬ p → A) (h2 : p → B) : iteB (!decide p) A B := by
  by_cases h : p
  · rw [decide_eq_true h]; exact h2 h
  · rw [decide_eq_false h]; exact h1 h
theorem iteB_of {c : Bool} {A B : Prop} (h1 : c = true → A) (h2 : c = false → B) : iteB c A B := by
  cases c
  · exact h2 rfl
  · exact h1 rfl

abbrev QK (β : Type) := β → Sto → Prop
abbrev QX := PX → Sto → Prop
abbrev Qr (β : Type) := PSt → Sto → QK β → QX → Prop
abbrev QTE := Qr PV
abbrev QTT := Qr Bool
abbrev QTA := Qr (List PV)
structure PEnds where
  nx : PSt → Sto → Prop
  rt : QK PV
  bk : PSt → Sto → Prop := fun _ _ => False
  ct : PSt → Sto → Prop := fun _ _ => False
  ex : PX → PSt → Sto → Prop := fun _ _ _ => False
abbrev QTS := PEnds → PSt → Sto → Prop
abbrev PSp := List PV → Sto → QK PV → QX → Prop

def XR (K : PySem.W.Frag) (H : Hp) (c : Value) (d : Option Addr) (x : PX) : Prop :=
  PySem.W.nsIn K mainGlobals x.C = some (some c) ∧ ((d = none ∧ x.fs = []) ∨ ∃ dd gs, d = some dd ∧ H dd = some (.xd gs) ∧ gs.map Prod.fst = x.fs.map Prod.fst ∧ Rls K H (gs.map Prod.snd) (x.fs.map Prod.snd))
def RS (K : PySem.W.Frag) (H : Hp) (σ : St) (τ : PSt) : Prop := τ.length = σ.length ∧ ∀ (i : Nat) (p : PV), τ[i]? = some (some p) → ∃ v, σ[i]? = some (some v) ∧ Rl K H v p

def upG (K : PySem.W.Frag) (T : List (Addr × Str)) (W : WX) {α β : Type} (RR : Hp → α → β → Prop) (q : Qr β) : St → Hp → (α → Hp → Prop) → Prop := fun σ H Q =>
  ∃ τ S P EP, RS K H σ τ ∧ Rep K T S H ∧ q τ S P EP ∧ (∀ v p H' S', Fr S H S' H' → RR H' v p → Rep K T S' H' → P p S' → Q v H') ∧
    ∀ c d x H' S', Fr S H S' H' → XR K H' c d x → Rep K T S' H' → EP x S' → W c d σ H'
abbrev RB : Hp → Bool → Bool → Prop := fun _ a b => a = b
/-- what is wanted at the ends, over trees and over what stands there -/
structure Con (K : PySem.W.Frag) (T : List (Addr × Str)) (W : WX) (S : Sto) (H : Hp) (PD : PEnds) (D : Ends) : Prop where
  nx : ∀ σ' τ' H' S', Fr S H S' H' → RS K H' σ' τ' → Rep K T S' H' → PD.nx τ' S' → D.nx σ' H'
  rt : ∀ v p H' S', Fr S H S' H' → Rl K H' v p → Rep K T S' H' → PD.rt p S' → D.rt v H'
  bk : ∀ σ' τ' H' S', Fr S H S' H' → RS K H' σ' τ' → Rep K T S' H' → PD.bk τ' S' → D.bk σ' H'
  ct : ∀ σ' τ' H' S', Fr S H S' H' → RS K H' σ' τ' → Rep K T S' H' → PD.ct τ' S' → D.ct σ' H'
  ex : ∀ c d x σ' τ' H' S', Fr S H S' H' → RS K H' σ' τ' → XR K H' c d x → Rep K T S' H' → PD.ex x τ' S' → W c d σ' H'
def upS (K : PySem.W.Frag) (T : List (Addr × Str)) (W : WX) (q : QTS) : TS := fun D σ H =>
  ∃ τ S PD, RS K H σ τ ∧ Rep K T S H ∧ q PD τ S ∧ Con K T W S H PD D
/-- a def's promise -/
def spOf (K : PySem.W.Frag) (T : List (Addr × Str)) (n : Nat) (sp : PSp) : Sp := fun vs H Q E => vs.length = n ∧
  ∃ ps S P EP, Rls K H vs ps ∧ Rep K T S H ∧ sp ps S P EP ∧ (∀ v p H' S', Fr S H S' H' → Rl K H' v p → Rep K T S' H' → P p S' → Q v H') ∧
    ∀ c d x H' S', Fr S H S' H' → XR K H' c d x → Rep K T S' H' → EP x S' → E c d H'

def QE (X : Cx) (T : List (Addr × Str)) (W : WX) (e : Expr) (q : QTE) : Prop := PE X e (upG X.K T W (Rl X.K) q)
def QT (X : Cx) (T : List (Addr × Str)) (W : WX) (e : Expr) (q : QTT) : Prop := PT X e (upG X.K T W RB q)
def QW (X : Cx) (T : List (Addr × Str)) (W : WX) (e : Expr) (q : QTT) : Prop := PW X e (upG X.K T W RB q)
def QA (X : Cx) (T : List (Addr × Str)) (W : WX) (es : List Expr) (q : QTA) : Prop := PA X es (upG X.K T W (Rls X.K) q)
def QS (X : Cx) (T : List (Addr × Str)) (W : WX) (st : Stmt) (q : QTS) : Prop := PS X st (upS X.K T W q)
def QSs (X : Cx) (T : List (Addr × Str)) (W : WX) (st : List Stmt) (q : QTS) : Prop := PSs X st (upS X.K T W q)

section
variable {X : Cx} {T : List (Addr × Str)} {W : WX} {e a b : Expr} {es : List Expr} {K : PySem.W.Frag} {S S' S1 : Sto} {H H' H1 : Hp} {σ : St} {τ : PSt}
theorem pe_imp {t t' : TE} (h : PE X e t) (k : ∀ σ H Q, t' σ H Q → t σ H Q) : PE X e t' := ⟨fun pins s σ H Q I w => h.run pins s σ H Q I (k σ H Q w)⟩
theorem pt_imp {t t' : TT} (h : PT X e t) (k : ∀ σ H Q, t' σ H Q → t σ H Q) : PT X e t' := ⟨fun pins s σ H Q I w => h.run pins s σ H Q I (k σ H Q w)⟩
theorem pw_imp {t t' : TT} (h : PW X e t) (k : ∀ σ H Q, t' σ H Q → t σ H Q) : PW X e t' := ⟨fun wh pins s σ H Q I w => h.run wh pins s σ H Q I (k σ H Q w)⟩
theorem pa_imp {t t' : TA} (h : PA X es t) (k : ∀ σ H Q, t' σ H Q → t σ H Q) : PA X es t' := ⟨fun pos pins s σ H Q I w => h.run pos pins s σ H Q I (k σ H Q w)⟩
theorem ps_imp {st : Stmt} {t t' : TS} (h : PS X st t) (k : ∀ D σ H, t' D σ H → t D σ H) : PS X st t' := ⟨fun pins s σ H D I w => h.run pins s σ H D I (k D σ H w)⟩
theorem pss_imp {st : List Stmt} {t t' : TS} (h : PSs X st t) (k : ∀ D σ H, t' D σ H → t D σ H) : PSs X st t' := ⟨fun pins s σ H D I w => h.run pins s σ H D I (k D σ H w)⟩

theorem RS.mono (r : RS K H σ τ) (x : Le H H') : RS K H' σ τ := ⟨r.1, fun i p e => let ⟨v, h1, h2⟩ := r.2 i p e; ⟨v, h1, Rl.mono x _ _ h2⟩⟩
theorem RS.set {i : Nat} {v : V} {p : PV} (r : RS K H σ τ) (h : Rl K H v p) : RS K H (σ.set i (some v)) (τ.set i (some p)) := by
  refine ⟨by simp [r.1], fun j q e => ?_⟩
  by_cases hj : i = j
  · subst hj
    rw [List.getElem?_set] at e
    rw [if_pos rfl] at e
    split at e
    · rename_i hi
      cases e
      exact ⟨v, by rw [List.getElem?_set_self (by rw [← r.1]; exact hi)], h⟩
    · cases e
  · rw [List.getElem?_set_ne hj] at e
    obtain ⟨w, h1, h2⟩ := r.2 j q e
    exact ⟨w, by rw [List.getElem?_set_ne hj]; exact h1, h2⟩
theorem RS.unset {i : Nat} (r : RS K H σ τ) : RS K H (σ.set i none) (τ.set i none) := by
  refine ⟨by simp [r.1], fun j q e => ?_⟩
  by_cases hj : i = j
  · subst hj
    rw [List.getElem?_set] at e
    rw [if_pos rfl] at e
    split at e <;> cases e
  · rw [List.getElem?_set_ne hj] at e
    obtain ⟨w, h1, h2⟩ := r.2 j q e
    exact ⟨w, by rw [List.getElem?_set_ne hj]; exact h1, h2⟩

section
variable {α β α' β' : Type} {RR : Hp → α → β → Prop} {RR' : Hp → α' → β' → Prop}
theorem up_mono {q : Qr β} {Q Q' : α → Hp → Prop} (h : upG K T W RR q σ H Q) (k : ∀ v H', Q v H' → Q' v H') : upG K T W RR q σ H Q' := by
  obtain ⟨τ, S, P, EP, h1, h2, h3, h4, h5⟩ := h
  exact ⟨τ, S, P, EP, h1, h2, h3, fun v p H' S' a b c d => k _ _ (h4 v p H' S' a b c d), h5⟩
/-- a part is read, then the rest -/
theorem up_bind {qa : Qr β} {qk : β → Qr β'} {Q : α' → Hp → Prop} (h : upG K T W RR' (fun τ S P EP => qa τ S (fun x S1 => qk x τ S1 P EP) EP) σ H Q) :
    upG K T W RR qa σ H fun v H1 => ∃ p, Le H H1 ∧ RR H1 v p ∧ upG K T W RR' (qk p) σ H1 Q := by
  obtain ⟨τ, S, P, EP, h1, h2, h3, h4, h5⟩ := h
  refine ⟨τ, S, _, EP, h1, h2, h3, fun v p H1 S1 fr rl rep hp => ⟨p, fr.le h2, rl, τ, S1, P, EP, h1.mono (fr.le h2), rep, hp, fun v2 p2 H2 S2 fr2 => h4 v2 p2 H2 S2 (fr.trans fr2), fun c d x H2 S2 fr2 => h5 c d x H2 S2 (fr.trans fr2)⟩, h5⟩
/-- .. with what is known ahead -/
theorem up_then {qa : Qr β} {qk : β → Qr β'} {Q : α' → Hp → Prop} {Q' : α → Hp → Prop} (h : upG K T W RR' (fun τ S P EP => qa τ S (fun x S1 => qk x τ S1 P EP) EP) σ H Q)
    (k : ∀ v p H1, Le H H1 → RR H1 v p → upG K T W RR' (qk p) σ H1 Q → Q' v H1) : upG K T W RR qa σ H Q' :=
  up_mono (up_bind h) fun v H1 ⟨p, l, r, u⟩ => k v p H1 l r u
end

/-! ### names and constants -/
def look : PSt → Nat → Option PV
  | [], _ => none
  | x :: _, 0 => x
  | _ :: r, i + 1 => look r i
theorem look_get : ∀ (τ : PSt) (i : Nat) (p : PV), look τ i = some p → τ[i]? = some (some p)
  | [], _, _, h => nomatch h
  | x :: _, 0, p, h => by
    have h : x = some p := h
    rw [h]; rfl
  | _ :: r, i + 1, p, h => by simpa using look_get r i p h
def qVar (i : Nat) : QTE := fun τ S P _ => match look τ i with
  | some p => P p S
  | none => False
def qC (p : PV) : QTE := fun _ S P _ => P p S
theorem q_var (i : Nat) {x : Str} {pos : Pos} (hN : X.N[i]? = some x := by rfl) (hv : Vis X.env.scope x := by first | exact Or.inl rfl | exact Or.inr (Or.inl rfl) | exact Or.inr (Or.inr rfl)) (hd : (x == ("__debug__" : Str)) = false := by decide)
    (hc : (x == ("__classdict__" : Str)) = false := by decide) : QE X T W (.Name x pos) (qVar i) := by
  refine pe_imp (pe_var hN hv hd hc) fun σ H Q ⟨τ, S, P, EP, h1, h2, h3, h4, _⟩ => ?_
  unfold qVar at h3
  cases q : look τ i with
  | none => rw [q] at h3; exact h3.elim
  | some p =>
    rw [q] at h3
    obtain ⟨v, e, r⟩ := h1.2 i p (look_get τ i p q)
    exact ⟨v, e, h4 v p H S Fr.refl r h2 h3⟩
theorem q_con {v : V} {p : PV} (h : PE X e (tC v)) (r : ∀ H, Rl X.K H v p) : QE X T W e (qC p) :=
  pe_imp h fun σ H Q ⟨τ, S, P, EP, h1, h2, h3, h4, _⟩ => h4 v p H S Fr.refl (r H) h2 h3
theorem q_int {i j pos} : QE X T W (.Constant (.int i) j pos) (qC (.int i)) := q_con pe_int fun _ => rfl
theorem q_bl {c j pos} : QE X T W (.Constant (.bool c) j pos) (qC (.bl c)) := q_con pe_bl fun _ => rfl
theorem q_non {j pos} : QE X T W (.Constant .none j pos) (qC .non) := q_con pe_non fun _ => rfl
theorem q_str {x : Str} {cs : List Nat} {j pos} (h : x = ⟨cs.toArray⟩ := by rfl) : QE X T W (.Constant (.str x) j pos) (qC (.str cs)) := q_con pe_str fun _ => by rw [h]; exact rfl

/-! ### two-place operations -/
abbrev FO2 := PV → PV → Sto → QK PV → Prop
def qBin (f : FO2) (qa qb : QTE) : QTE := fun τ S P EP => qa τ S (fun x S1 => qb τ S1 (fun y S2 => f x y S2 P) EP) EP
def OpQ (K : PySem.W.Frag) (T : List (Addr × Str)) (r : R2) (f : FO2) : Prop := ∀ x y p1 p2 H S (P : QK PV) (Q : VK), Rl K H x p1 → Rl K H y p2 → Rep K T S H → f p1 p2 S P →
  (∀ v p H' S', Fr S H S' H' → Rl K H' v p → Rep K T S' H' → P p S' → Q v H') → r x y H Q
theorem up_bin {r : R2} {f : FO2} {qa qb : QTE} (o : OpQ K T r f) {Q : VK} (h : upG K T W (Rl K) (qBin f qa qb) σ H Q) : tOp r (upG K T W (Rl K) qa) (upG K T W (Rl K) qb) σ H Q := by
  refine up_then (RR := Rl K) h fun x p1 H1 l1 r1 h1 => ?_
  refine up_then (RR := Rl K) (qk := fun y _ S2 P _ => f p1 y S2 P) h1 fun y p2 H2 l2 r2 ⟨τ, S, P, EP, _, h2, h3, h4, _⟩ => ?_
  exact o x y p1 p2 H2 S P Q (Rl.mono l2 _ _ r1) r2 h2 h3 h4
theorem q_bin {op : Operator} {r : R2} {f : FO2} {qa qb : QTE} {pos : Pos} (hr : OpR X (binaryOp op) r) (o : OpQ X.K T r f) (ha : QE X T W a qa) (hb : QE X T W b qb) : QE X T W (.BinOp a op b pos) (qBin f qa qb) :=
  pe_imp (pe_op hr ha hb) fun _ _ _ h => up_bin o h
theorem q_cmp {op : CmpOp} {r : R2} {f : FO2} {qa qb : QTE} {pos : Pos} (hr : OpR X (compareOp op) r) (o : OpQ X.K T r f) (hm : behindInMarks op b = false) (ha : QE X T W a qa) (hb : QE X T W b qb) : QE X T W (.Compare a [op] [b] pos) (qBin f qa qb) :=
  pe_imp (pe_cmpR hr ha hb hm) fun _ _ _ h => up_bin o h
/-- a comparison as a test -/
def qTst (q : QTE) : QTT := fun τ S P EP => q τ S (fun x S1 => match x with
  | .bl c => P c S1
  | _ => False) EP
theorem up_tst {q : QTE} {Q : Bool → Hp → Prop} (h : upG K T W RB (qTst q) σ H Q) : upG K T W (Rl K) q σ H (fun x H1 => ∃ c, x = .bl c ∧ Q c H1) := by
  refine up_then (RR := Rl K) (qk := fun x _ S1 P _ => match x with | .bl c => P c S1 | _ => False) h fun v p H1 l r ⟨τ, S, P, EP, h1, h2, h3, h4, _⟩ => ?_
  cases p with
  | bl c =>
    have e : v = .bl c := r
    exact ⟨c, e, h4 c c H1 S Fr.refl rfl h2 h3⟩
  | _ => exact h3.elim
theorem qt_val {q : QTE} (h : QE X T W e q) (he : ∀ whole, isTrue e X.env whole = (do let v ← whole; standAt e.pos; holding [v] (truthy v)) := by intro _; rfl) : QT X T W e (qTst q) :=
  pt_imp (pt_val h he) fun σ H Q h => up_tst h
theorem qt_cmp {op : CmpOp} {r : R2} {f : FO2} {qa qb : QTE} {pos : Pos} (hr : OpR X (compareOp op) r) (o : OpQ X.K T r f) (hm : behindInMarks op b = false) (ha : QE X T W a qa) (hb : QE X T W b qb) : QT X T W (.Compare a [op] [b] pos) (qTst (qBin f qa qb)) :=
  pt_imp (pt_cmpR hr ha hb hm) fun σ H Q h => up_bin_tst o h
where
  up_bin_tst {σ : St} {H : Hp} {Q : Bool → Hp → Prop} (o : OpQ X.K T r f) (h : upG X.K T W RB (qTst (qBin f qa qb)) σ H Q) : tTest (tOp r (upG X.K T W (Rl X.K) qa) (upG X.K T W (Rl X.K) qb)) σ H Q := up_bin o (up_tst h)

/-! ### and, or, not, tests -/
def qAnd (t u : QTT) : QTT := fun τ S P EP => t τ S (fun c S1 => iteB c (u τ S1 P EP) (P false S1)) EP
def qOr (t u : QTT) : QTT := fun τ S P EP => t τ S (fun c S1 => iteB c (P true S1) (u τ S1 P EP)) EP
def qNot (t : QTT) : QTT := fun τ S P EP => t τ S (fun c S1 => P (!c) S1) EP
theorem up_ite {α β : Type} {RR : Hp → α → β → Prop} {t : QTT} {A B : Qr β} {Q : α → Hp → Prop} (h : upG K T W RR (fun τ S P EP => t τ S (fun c S1 => iteB c (A τ S1 P EP) (B τ S1 P EP)) EP) σ H Q) :
    upG K T W RB t σ H fun c H1 => if c = true then upG K T W RR A σ H1 Q else upG K T W RR B σ H1 Q := by
  refine up_then (RR := RB) (qk := fun c τ S1 P EP => iteB c (A τ S1 P EP) (B τ S1 P EP)) h fun c p H1 l r u => ?_
  have e : c = p := r
  subst e
  cases c with
  | true => exact u
  | false => exact u
theorem up_ret {α β : Type} {RR : Hp → α → β → Prop} {v : α} {p : β} {Q : α → Hp → Prop} (h : upG K T W RR (fun _ S P _ => P p S) σ H Q) (r : RR H v p) : Q v H := by
  obtain ⟨τ, S, P, EP, h1, h2, h3, h4, _⟩ := h
  exact h4 v p H S Fr.refl r h2 h3
variable {qt qu : QTT} {rest : List Expr} {pos : Pos}
theorem qw_and1 (ha : QT X T W a qt) : QW X T W (.BoolOp .And [a] pos) qt := pw_and1 ha
theorem qw_or1 (ha : QT X T W a qt) : QW X T W (.BoolOp .Or [a] pos) qt := pw_or1 ha
theorem qw_and (ha : QT X T W a qt) (hb : QW X T W (.BoolOp .And (b :: rest) pos) qu) : QW X T W (.BoolOp .And (a :: b :: rest) pos) (qAnd qt qu) :=
  pw_imp (pw_and ha hb) fun σ H Q h => up_mono (up_ite (A := qu) (B := fun _ S1 P _ => P false S1) h) fun c H1 z => by
    cases c with
    | true => exact z
    | false => exact up_ret z rfl
theorem qw_or (ha : QT X T W a qt) (hb : QW X T W (.BoolOp .Or (b :: rest) pos) qu) : QW X T W (.BoolOp .Or (a :: b :: rest) pos) (qOr qt qu) :=
  pw_imp (pw_or ha hb) fun σ H Q h => up_mono (up_ite (A := fun _ S1 P _ => P true S1) (B := qu) h) fun c H1 z => by
    cases c with
    | false => exact z
    | true => exact up_ret z rfl
theorem qt_w (h : QW X T W e qt) : QT X T W e qt := PW.pt h
theorem qt_not (h : QT X T W a qt) : QT X T W (.UnaryOp .Not a pos) (qNot qt) :=
  pt_imp (pt_not h) fun σ H Q h => up_then (RR := RB) (qk := fun c _ S1 P _ => P (!c) S1) h fun c p H1 l r u => by
    have e : c = p := r
    subst e
    exact up_ret u rfl
/-- as values, of truth values -/
def qAndV (qa qb : QTE) : QTE := fun τ S P EP => qa τ S (fun x S1 => match x with
  | .bl true => qb τ S1 P EP
  | .bl false => P (.bl false) S1
  | _ => False) EP
def qOrV (qa qb : QTE) : QTE := fun τ S P EP => qa τ S (fun x S1 => match x with
  | .bl true => P (.bl true) S1
  | .bl false => qb τ S1 P EP
  | _ => False) EP
def qNotV (qa : QTE) : QTE := fun τ S P EP => qa τ S (fun x S1 => match x with
  | .bl c => P (.bl (!c)) S1
  | _ => False) EP
theorem qe_one {op} {q : QTE} (h : QE X T W a q) : QE X T W (.BoolOp op [a] pos) q := pe_one h
theorem qe_and {qa qb : QTE} (ha : QE X T W a qa) (hb : QE X T W (.BoolOp .And (b :: rest) pos) qb) : QE X T W (.BoolOp .And (a :: b :: rest) pos) (qAndV qa qb) :=
  pe_imp (pe_and ha hb) fun σ H Q h => up_then (RR := Rl X.K) (qk := fun x τ S1 P EP => match x with | .bl true => qb τ S1 P EP | .bl false => P (.bl false) S1 | _ => False) h fun v p H1 l r u => by
    cases p with
    | bl c =>
      have e : v = .bl c := r
      refine ⟨c, e, ?_⟩
      cases c with
      | true => exact u
      | false => exact up_ret u rfl
    | _ => obtain ⟨_, _, _, _, _, _, z, _⟩ := u; exact z.elim
theorem qe_or {qa qb : QTE} (ha : QE X T W a qa) (hb : QE X T W (.BoolOp .Or (b :: rest) pos) qb) : QE X T W (.BoolOp .Or (a :: b :: rest) pos) (qOrV qa qb) :=
  pe_imp (pe_or ha hb) fun σ H Q h => up_then (RR := Rl X.K) (qk := fun x τ S1 P EP => match x with | .bl true => P (.bl true) S1 | .bl false => qb τ S1 P EP | _ => False) h fun v p H1 l r u => by
    cases p with
    | bl c =>
      have e : v = .bl c := r
      refine ⟨c, e, ?_⟩
      cases c with
      | false => exact u
      | true => exact up_ret u rfl
    | _ => obtain ⟨_, _, _, _, _, _, z, _⟩ := u; exact z.elim
theorem qe_not {qa : QTE} (ha : QE X T W a qa) : QE X T W (.UnaryOp .Not a pos) (qNotV qa) :=
  pe_imp (pe_not ha) fun σ H Q h => up_then (RR := Rl X.K) (RR' := Rl X.K) (qk := fun x _ S1 P _ => match x with | .bl c => P (PV.bl (!c)) S1 | _ => False) h fun v p H1 l r u => by
    cases p with
    | bl c =>
      have e : v = .bl c := r
      exact ⟨c, e, up_ret (RR := Rl X.K) (v := V.bl (!c)) (p := PV.bl (!c)) u rfl⟩
    | _ => obtain ⟨_, _, _, _, _, _, z, _⟩ := u; exact z.elim
def qIf (t : QTT) (qa qb : QTE) : QTE := fun τ S P EP => t τ S (fun c S1 => iteB c (qa τ S1 P EP) (qb τ S1 P EP)) EP
theorem qe_if {c : Expr} {qa qb : QTE} (hc : QT X T W c qt) (ha : QE X T W a qa) (hb : QE X T W b qb) : QE X T W (.IfExp c a b pos) (qIf qt qa qb) :=
  pe_imp (pe_ifExp hc ha hb) fun σ H Q h => up_ite h

/-! ### arguments, displays -/
def qaN : QTA := fun _ S P _ => P [] S
def qaC (q : QTE) (r : QTA) : QTA := fun τ S P EP => q τ S (fun x S1 => r τ S1 (fun xs S2 => P (x :: xs) S2) EP) EP
theorem qa_nil : QA X T W [] qaN := pa_imp pa_nil fun σ H Q h => up_ret (v := ([] : List V)) (p := ([] : List PV)) h rfl
theorem qa_cons {q : QTE} {r : QTA} (ha : QE X T W e q) (hr : QA X T W es r) (hs : starEach (e :: es) X.env = (false, eval e X.env) :: starEach es X.env := by rfl) : QA X T W (e :: es) (qaC q r) :=
  pa_imp (pa_cons ha hr hs) fun σ H Q h => up_then (RR := Rl X.K) (qk := fun x τ S1 P EP => r τ S1 (fun xs S2 => P (x :: xs) S2) EP) h fun v p H1 l rv u =>
    up_then (RR := Rls X.K) (qk := fun xs _ S2 P _ => P (p :: xs) S2) u fun vs ps H2 l2 rvs u2 => up_ret (v := v :: vs) (p := p :: ps) u2 (Rls.cons (Rl.mono l2 _ _ rv) rvs)
def qTup (q : QTA) : QTE := fun τ S P EP => q τ S (fun xs S1 => xs.length ≤ sizeLine ∧ P (.tup xs) S1) EP
theorem q_tup {x1} {q : QTA} (h : QA X T W es q) : QE X T W (.Tuple es x1 pos) (qTup q) :=
  pe_imp (pe_tup h) fun σ H Q h => up_then (RR := Rls X.K) (RR' := Rl X.K) (qk := fun xs _ S1 P _ => xs.length ≤ sizeLine ∧ P (PV.tup xs) S1) h fun vs ps H1 l r ⟨τ, S, P, EP, h1, h2, h3, h4, _⟩ =>
    ⟨by rw [Rls.length r]; exact h3.1, fun p hp => h4 (.ref p) (.tup ps) _ S (Fr.hid hp) ⟨p, vs, rfl, upd_same, Rls.mono (le_new hp) _ _ r⟩ (h2.hid hp) h3.2⟩
/-- not there before, as far as the frame tells -/
def Nu (S : Sto) (H : Hp) (a : Addr) : Prop := ∀ o, H a = some o → (∀ ps, o ≠ .tbl ps) → ¬ Fz S a
theorem Nu.of {p : Addr} (fr : Fr S H S1 H1) (np : H1 p = none) : Nu S H p := fun o e t n => by
  rw [(fr p o e t n).1] at np
  cases np
theorem Nu.back {p : Addr} (fr : Fr S H S1 H1) (n : Nu S1 H1 p) : Nu S H p := fun o e t z =>
  let ⟨e1, n1, _⟩ := fr p o e t z
  n o e1 t n1
theorem Fr.take {p : Addr} {ob : Ob} (fr : Fr S H S1 H1) (n : Nu S H p) : Fr S H (put S1 p ob) H1 := fun b o e t z => by
  obtain ⟨e1, n1, z1⟩ := fr b o e t z
  have hb : b ≠ p := fun q => by
    subst q
    exact n o e t z
  refine ⟨e1, ?_, fun q => by rw [put_ne hb]; exact z1 q⟩
  unfold Fz
  rw [put_ne hb]; exact n1
theorem Rep.take {p : Addr} {ob : Ob} (r : Rep K T S H) (h : ObR K H p ob) : Rep K T (put S p ob) H := ⟨fun b u q => by
  by_cases hb : b = p
  · subst hb; rw [put_same] at q; cases q; exact h
  · rw [put_ne hb] at q; exact r.ob b u q, r.tb⟩
/-- a new list, by its items: what is made is not spoken of -/
def upL (K : PySem.W.Frag) (T : List (Addr × Str)) (W : WX) (q : QTA) : TE := fun σ H Q =>
  ∃ τ S P EP, RS K H σ τ ∧ Rep K T S H ∧ q τ S P EP ∧ (∀ a vs ps H' S', Fr S H S' H' → H' a = some (.lst vs) → S' a = none → Nu S H a → Rls K H' vs ps → Rep K T S' H' → P ps S' → Q (.ref a) H') ∧
    ∀ c d x H' S', Fr S H S' H' → XR K H' c d x → Rep K T S' H' → EP x S' → W c d σ H'
def QL (X : Cx) (T : List (Addr × Str)) (W : WX) (e : Expr) (q : QTA) : Prop := PE X e (upL X.K T W q)
def qLst (q : QTA) : QTA := fun τ S P EP => q τ S (fun xs S1 => xs.length ≤ sizeLine ∧ P xs S1) EP
def qNew (q : QTA) : QTE := fun τ S P EP => q τ S (fun xs S1 => ∀ p, S1 p = none → P (.ref p) (put S1 p (.lst xs))) EP
theorem ql_lst {q : QTA} (h : QA X T W es q) : QL X T W (.List es pos) (qLst q) := by
  refine pe_imp (pe_lst h) fun σ H Q ⟨τ, S, P, EP, h1, h2, h3, h4, h5⟩ => ?_
  refine ⟨τ, S, _, EP, h1, h2, h3, fun vs ps H1 S1 fr rl rep hp => ⟨by rw [Rls.length rl]; exact hp.1, fun p np => ?_⟩, h5⟩
  exact h4 p vs ps _ S1 (fr.trans (Fr.hid np)) upd_same (rep.free np) (Nu.of fr np) (Rls.mono (le_new np) _ _ rl) (rep.hid np) hp.2
theorem q_new {q : QTA} (h : QL X T W e q) : QE X T W e (qNew q) := by
  refine pe_imp h fun σ H Q ⟨τ, S, P, EP, h1, h2, h3, h4, h5⟩ => ?_
  refine ⟨τ, S, _, EP, h1, h2, h3, fun a vs ps H1 S1 fr e n nu rl rep hp => ?_, h5⟩
  exact h4 (.ref a) (.ref a) H1 _ (fr.take nu) rfl (rep.take (ob := .lst ps) ⟨vs, e, rl⟩) (hp a n)
end
end Mp

set_option Elab.async false
set_option linter.all false
set_option maxRecDepth 100000
namespace Mp
open PySem L2

section
variable {X : Cx} {T : List (Addr × Str)} {W : WX} {e a b : Expr} {es : List Expr} {K : PySem.W.Frag} {S S' S1 : Sto} {H H' H1 : Hp} {σ : St} {τ : PSt} {PD : PEnds} {D : Ends} {pos : Pos}
theorem Con.mono (c : Con K T W S H PD D) (fr : Fr S H S1 H1) : Con K T W S1 H1 PD D :=
  ⟨fun _ _ _ _ f => c.nx _ _ _ _ (fr.trans f), fun _ _ _ _ f => c.rt _ _ _ _ (fr.trans f), fun _ _ _ _ f => c.bk _ _ _ _ (fr.trans f), fun _ _ _ _ f => c.ct _ _ _ _ (fr.trans f), fun _ _ _ _ _ _ _ f => c.ex _ _ _ _ _ _ _ (fr.trans f)⟩
/-! ### blocks, small statements -/
def qNext : QTS := fun D τ S => D.nx τ S
def qSeq (t u : QTS) : QTS := fun D τ S => t { D with nx := fun τ1 S1 => u D τ1 S1 } τ S
theorem up_next (h : upS K T W qNext D σ H) : D.nx σ H := by
  obtain ⟨τ, S, PD, h1, h2, h3, c⟩ := h
  exact c.nx σ τ H S Fr.refl h1 h2 h3
theorem qss_nil : QSs X T W [] qNext := pss_imp pss_nil fun D σ H h => up_next h
theorem qss_one {st : Stmt} {t : QTS} (h : QS X T W st t) : QSs X T W [st] t := pss_one h
theorem qss_cons {st : Stmt} {rest : List Stmt} {t u : QTS} (h1 : QS X T W st t) (h2 : QSs X T W rest u) : QSs X T W (st :: rest) (qSeq t u) :=
  pss_imp (pss_cons h1 h2) fun D σ H ⟨τ, S, PD, r, rep, q, c⟩ => ⟨τ, S, _, r, rep, q, ⟨fun σ' τ' H' S' fr rs rp hp => ⟨τ', S', PD, rs, rp, hp, c.mono fr⟩, c.rt, c.bk, c.ct, c.ex⟩⟩
def qBrk : QTS := fun D τ S => D.bk τ S
def qCnt : QTS := fun D τ S => D.ct τ S
theorem qs_pass : QS X T W (.Pass pos) qNext := ps_imp ps_pass fun D σ H h => up_next h
theorem qs_brk : QS X T W (.Break pos) qBrk := ps_imp ps_break fun D σ H ⟨τ, S, PD, h1, h2, h3, c⟩ => c.bk σ τ H S Fr.refl h1 h2 h3
theorem qs_cnt : QS X T W (.Continue pos) qCnt := ps_imp ps_continue fun D σ H ⟨τ, S, PD, h1, h2, h3, c⟩ => c.ct σ τ H S Fr.refl h1 h2 h3
theorem qs_doc {x j pos'} : QS X T W (.Expr (.Constant (.str x) j pos) pos') qNext := ps_imp ps_doc fun D σ H h => up_next h
def exAt (D : PEnds) (τ : PSt) : QX := fun x S => D.ex x τ S
def qDrop (q : QTE) : QTS := fun D τ S => q τ S (fun _ S1 => D.nx τ S1) (exAt D τ)
def qRet (q : QTE) : QTS := fun D τ S => q τ S D.rt (exAt D τ)
def qRetN : QTS := fun D _ S => D.rt .non S
theorem con_up {α β : Type} {RR : Hp → α → β → Prop} {q : Qr β} {P : QK β} {Q : α → Hp → Prop} (r : RS K H σ τ) (rep : Rep K T S H) (c : Con K T W S H PD D) (h : q τ S P (exAt PD τ))
    (k : ∀ v p H' S', Fr S H S' H' → RS K H' σ τ → RR H' v p → Rep K T S' H' → P p S' → Q v H') : upG K T W RR q σ H Q :=
  ⟨τ, S, P, _, r, rep, h, fun v p H' S' fr rl rp hp => k v p H' S' fr (r.mono (fr.le rep)) rl rp hp, fun cc d x H' S' fr xr rp hp => c.ex cc d x σ τ H' S' fr (r.mono (fr.le rep)) xr rp hp⟩
theorem qs_expr {q : QTE} (h : QE X T W e q) (hs : swapsWith e none pos.line X.env = pure false := by rfl) : QS X T W (.Expr e pos) (qDrop q) :=
  ps_imp (ps_expr h hs) fun D σ H ⟨τ, S, PD, r, rep, q, c⟩ => con_up r rep c q fun v p H' S' fr rs rl rp hp => c.nx σ τ H' S' fr rs rp hp
theorem qs_ret {q : QTE} (h : QE X T W e q) : QS X T W (.Return (some e) pos) (qRet q) :=
  ps_imp (ps_ret h) fun D σ H ⟨τ, S, PD, r, rep, q, c⟩ => con_up r rep c q fun v p H' S' fr rs rl rp hp => c.rt v p H' S' fr rl rp hp
theorem qs_retN : QS X T W (.Return none pos) qRetN :=
  ps_imp ps_retN fun D σ H ⟨τ, S, PD, r, rep, q, c⟩ => c.rt .non .non H S Fr.refl rfl rep q
def qIfS (t : QTT) (u v : QTS) : QTS := fun D τ S => t τ S (fun c S1 => iteB c (u D τ S1) (v D τ S1)) (exAt D τ)
theorem qs_if {c : Expr} {x y : List Stmt} {t : QTT} {u v : QTS} (hc : QT X T W c t) (hx : QSs X T W x u) (hy : QSs X T W y v) : QS X T W (.If c x y pos) (qIfS t u v) :=
  ps_imp (ps_if hc hx hy) fun D σ H ⟨τ, S, PD, r, rep, q, c⟩ => con_up (RR := RB) r rep c q fun b p H' S' fr rs rl rp hp => by
    have e : b = p := rl
    subst e
    cases b with
    | true => exact ⟨τ, S', PD, rs, rp, hp, c.mono fr⟩
    | false => exact ⟨τ, S', PD, rs, rp, hp, c.mono fr⟩

/-! ### targets; nothing is raised in them -/
abbrev W0 : WX := fun _ _ _ _ => False
abbrev X0 : QX := fun _ _ => False
abbrev QTG := PV → PSt → Sto → (PSt → Sto → Prop) → Prop
abbrev QTGs := List PV → PSt → Sto → (PSt → Sto → Prop) → Prop
def upGt (K : PySem.W.Frag) (T : List (Addr × Str)) {α β : Type} (RR : Hp → α → β → Prop) (g : β → PSt → Sto → (PSt → Sto → Prop) → Prop) : α → St → Hp → (St → Hp → Prop) → Prop := fun v σ H Q =>
  ∃ p τ S P, RR H v p ∧ RS K H σ τ ∧ Rep K T S H ∧ g p τ S P ∧ ∀ σ' τ' H' S', Fr S H S' H' → RS K H' σ' τ' → Rep K T S' H' → P τ' S' → Q σ' H'
def QG (X : Cx) (T : List (Addr × Str)) (tg : Expr) (g : QTG) : Prop := PG X tg (upGt X.K T (Rl X.K) g)
def QGs (X : Cx) (T : List (Addr × Str)) (tg : List Expr) (g : QTGs) : Prop := PGs X tg (upGt X.K T (Rls X.K) g)
theorem pg_imp {t t' : TG} (h : PG X e t) (k : ∀ v σ H Q, t' v σ H Q → t v σ H Q) : PG X e t' := ⟨fun pins s σ H v u Q I r w => h.run pins s σ H v u Q I r (k v σ H Q w)⟩
theorem pgs_imp {t t' : TGs} (h : PGs X es t) (k : ∀ v σ H Q, t' v σ H Q → t v σ H Q) : PGs X es t' := ⟨fun pins s σ H v u Q I r w => h.run pins s σ H v u Q I r (k v σ H Q w)⟩
def qgName (i : Nat) : QTG := fun p τ S P => P (τ.set i (some p)) S
theorem qg_name {i : Nat} {x : Str} (hN : X.N.Nodup) (hi : X.N[i]? = some x := by rfl) (hx : Loc X.env.scope x := by first | exact Or.inl rfl | exact Or.inr rfl)
    (hf : X.fn x = true ∨ X.env.scope.names.lookup x = some .local := by first | exact .inl rfl | exact .inr rfl | assumption) : QG X T (.Name x pos) (qgName i) :=
  pg_imp (pg_name hN hi hx hf) fun v σ H Q ⟨p, τ, S, P, rl, r, rep, g, k⟩ => k _ _ H S Fr.refl (r.set rl) rep g
def qgN : QTGs := fun ps τ S P => match ps with
  | [] => P τ S
  | _ => False
def qgC (g : QTG) (u : QTGs) : QTGs := fun ps τ S P => match ps with
  | p :: r => g p τ S fun τ' S' => u r τ' S' P
  | _ => False
theorem qgs_nil : QGs X T [] qgN := pgs_imp pgs_nil fun vs σ H Q ⟨ps, τ, S, P, rl, r, rep, g, k⟩ => by
  cases ps with
  | nil => exact ⟨rl, k _ _ H S Fr.refl r rep g⟩
  | cons _ _ => exact g.elim
theorem qgs_cons {g : QTG} {u : QTGs} (h1 : QG X T e g) (h2 : QGs X T es u) (hs : (assignEach (e :: es) X.env).map (·.2) = assign e X.env :: (assignEach es X.env).map (·.2) := by rfl) : QGs X T (e :: es) (qgC g u) :=
  pgs_imp (pgs_cons h1 h2 hs) fun vs σ H Q ⟨ps, τ, S, P, rl, r, rep, g, k⟩ => by
    cases ps with
    | nil => exact g.elim
    | cons p ps =>
      obtain ⟨v, vr, e1, h1, h2⟩ := rl
      refine ⟨v, vr, e1, p, τ, S, _, h1, r, rep, g, fun σ' τ' H' S' fr rs rp hp => ⟨ps, τ', S', P, Rls.mono (fr.le rep) _ _ h2, rs, rp, hp, fun σ2 τ2 H2 S2 f2 => k σ2 τ2 H2 S2 (fr.trans f2)⟩⟩
def qgTup (n : Nat) (g : QTGs) : QTG := fun p τ S P => match p with
  | .tup ps => ps.length = n ∧ g ps τ S P
  | _ => False
theorem qg_tup {k n : Nat} {g : QTGs} (hc : X.calm = true) (h : QGs X T es g) (hn : (assignEach es X.env).length = n := by rfl) (hst : (assignEach es X.env).findIdx? (·.1) = none := by rfl) : QG X T (.Tuple es k pos) (qgTup n g) :=
  pg_imp (pg_tup hc h hn hst) fun v σ H Q ⟨p, τ, S, P, rl, r, rep, g, k⟩ => by
    cases p with
    | tup ps =>
      obtain ⟨a, vs, e1, sq, rs⟩ := rl
      exact ⟨a, vs, e1, SqT.of sq, by rw [Rls.length rs]; exact g.1, ps, τ, S, P, rs, r, rep, g.2, k⟩
    | _ => exact g.elim
/-- o[i] = v, by values -/
abbrev FSet := PV → PV → PV → Sto → (Sto → Prop) → Prop
def SetQ (K : PySem.W.Frag) (T : List (Addr × Str)) (t : TSet) (f : FSet) : Prop := ∀ o i v p1 p2 p3 H S (P : Sto → Prop) (Q : Hp → Prop), Rl K H o p1 → Rl K H i p2 → Rl K H v p3 → Rep K T S H → f p1 p2 p3 S P →
  (∀ H' S', Fr S H S' H' → Rep K T S' H' → P S' → Q H') → t o i v H Q
def qgSub (qo qi : QTE) (f : FSet) : QTG := fun v τ S P => qo τ S (fun o S1 => qi τ S1 (fun i S2 => f o i v S2 (fun S3 => P τ S3)) X0) X0
theorem qg_sub {o i : Expr} {qo qi : QTE} {t : TSet} {f : FSet} (hs : PSet X t) (hf : SetQ X.K T t f) (ho : QE X T W0 o qo) (hi : QE X T W0 i qi)
    (ha : ∀ v, assign (.Subscript o i pos) X.env v = (do
      let ov ← holding [v] (eval o X.env)
      let iv ← holding [v, ov] (eval i X.env)
      standAt pos
      holding [v, ov, iv] (setItem ov iv v)
      release [v, ov, iv] []) := by intro _; rfl) : QG X T (.Subscript o i pos) (qgSub qo qi f) :=
  pg_imp (pg_sub ho hi hs ha) fun v σ H Q ⟨p, τ, S, P, rl, r, rep, g, k⟩ => by
    refine ⟨τ, S, _, X0, r, rep, g, fun x p1 H1 S1 fr1 rl1 rp1 hp1 => ?_, fun _ _ _ _ _ _ _ _ z => z⟩
    refine ⟨τ, S1, _, X0, r.mono (fr1.le rep), rp1, hp1, fun y p2 H2 S2 fr2 rl2 rp2 hp2 => ?_, fun _ _ _ _ _ _ _ _ z => z⟩
    exact hf x y v p1 p2 p H2 S2 _ _ (Rl.mono (fr2.le rp1) _ _ rl1) rl2 (Rl.mono ((fr1.trans fr2).le rep) _ _ rl) rp2 hp2 fun H3 S3 fr3 rp3 hp3 =>
      k σ τ H3 S3 ((fr1.trans fr2).trans fr3) (r.mono (((fr1.trans fr2).trans fr3).le rep)) rp3 hp3
def qAsg (q : QTE) (g : QTG) : QTS := fun D τ S => q τ S (fun x S1 => g x τ S1 D.nx) (exAt D τ)
theorem qs_asg {tg : Expr} {q : QTE} {g : QTG} (he : QE X T W e q) (hg : QG X T tg g) (hs : swapsWithSole [tg] e pos.line X.env = pure false := by rfl) (hw : swappedStores [tg] e X.env = pure none := by rfl)
    (h1 : (assignEach [tg] X.env).map (·.2) = [assign tg X.env] := by rfl) : QS X T W (.Assign [tg] e pos) (qAsg q g) :=
  ps_imp (ps_asg he hg hs hw h1) fun D σ H ⟨τ, S, PD, r, rep, q, c⟩ => con_up r rep c q fun v p H' S' fr rs rl rp hp =>
    ⟨p, τ, S', PD.nx, rl, rs, rp, hp, fun σ2 τ2 H2 S2 f2 => c.nx σ2 τ2 H2 S2 (fr.trans f2)⟩
def qSet (i : Nat) (q : QTE) : QTS := fun D τ S => q τ S (fun x S1 => D.nx (τ.set i (some x)) S1) (exAt D τ)
theorem qs_set {i : Nat} {x : Str} {q : QTE} {pos' : Pos} (hN : X.N.Nodup) (he : QE X T W e q) (hi : X.N[i]? = some x := by rfl) (hx : Loc X.env.scope x := by first | exact Or.inl rfl | exact Or.inr rfl) (hs : swapsWith e (some (.Name x pos')) pos.line X.env = pure false := by rfl)
    (hf : X.fn x = true ∨ X.env.scope.names.lookup x = some .local := by first | exact .inl rfl | exact .inr rfl | assumption) : QS X T W (.Assign [.Name x pos'] e pos) (qSet i q) :=
  ps_imp (ps_set hN hi hx he hs hf) fun D σ H ⟨τ, S, PD, r, rep, q, c⟩ => con_up r rep c q fun v p H' S' fr rs rl rp hp => c.nx _ _ H' S' fr (rs.set rl) rp hp
/-- a, b = x, y -/
def qPar (i j : Nat) (q : QTA) : QTS := fun D τ S => q τ S (fun ps S1 => match ps with
  | [p1, p2] => D.nx ((τ.set i (some p1)).set j (some p2)) S1
  | _ => False) (exAt D τ)
theorem qs_par {i j : Nat} {x y : Str} {q : QTA} {px py pt : Pos} {kt k2 pt2} (hc : X.calm = true) (hN : X.N.Nodup) (ha : QA X T W [a, b] q) (hi : X.N[i]? = some x := by rfl) (hj : X.N[j]? = some y := by rfl) (hij : i ≠ j := by decide)
    (hx : X.env.scope.names.lookup x = some .local := by rfl) (hy : X.env.scope.names.lookup y = some .local := by rfl)
    (hw : swappedStores [.Tuple [.Name x px, .Name y py] kt pt] (.Tuple [a, b] k2 pt2) X.env = pure (some [x, y]) := by rfl)
    (hs : swapsWithSole [.Tuple [.Name x px, .Name y py] kt pt] (.Tuple [a, b] k2 pt2) pos.line X.env = pure false := by rfl) : QS X T W (.Assign [.Tuple [.Name x px, .Name y py] kt pt] (.Tuple [a, b] k2 pt2) pos) (qPar i j q) :=
  ps_imp (ps_par hc hN hi hj hij hx hy ha hw hs) fun D σ H ⟨τ, S, PD, r, rep, q, c⟩ => con_up (RR := Rls X.K) r rep c q fun vs ps H' S' fr rs rl rp hp => by
    match ps, hp with
    | [p1, p2], hp =>
      obtain ⟨v, r1, e1, a1, w, r2, e2, a2, e3⟩ := rl
      subst e1; subst e2
      have e3 : r2 = [] := e3
      subst e3
      exact ⟨v, w, rfl, c.nx _ _ H' S' fr ((rs.set a1).set a2) rp hp⟩

/-! ### what is walked -/
structure Src where
  its : List PV
  keep : Sto → Prop
abbrev QTI := Qr Src
/-- J gives the items, while what is kept stands -/
def WalkP (K : PySem.W.Frag) (T : List (Addr × Str)) (J : It) (s : Src) (S0 : Sto) (H0 : Hp) : Prop := ∀ S H, Fr S0 H0 S H → Rep K T S H → s.keep S →
  J.stop s.its.length H ∧ ∀ i p, s.its[i]? = some p → J.go i H ∧ ∀ x H', J.yld i H x H' → Fr S H S H' ∧ Rep K T S H' ∧ Rl K H' x p
def upI (K : PySem.W.Frag) (T : List (Addr × Str)) (W : WX) (q : QTI) : TI := fun σ H R =>
  ∃ τ S P EP, RS K H σ τ ∧ Rep K T S H ∧ q τ S P EP ∧ (∀ J s H' S', Fr S H S' H' → WalkP K T J s S' H' → s.keep S' → Rep K T S' H' → P s S' → R J H') ∧
    ∀ c d x H' S', Fr S H S' H' → XR K H' c d x → Rep K T S' H' → EP x S' → W c d σ H'
def QI (X : Cx) (T : List (Addr × Str)) (W : WX) (tg iter : Expr) (q : QTI) : Prop := PI X tg iter (upI X.K T W q)
theorem pi_imp {tg : Expr} {t t' : TI} (h : PI X tg e t) (k : ∀ σ H R, t' σ H R → t σ H R) : PI X tg e t' := ⟨fun pins s σ H R I w => h.run pins s σ H R I (k σ H R w)⟩

def forQ (keep : Sto → Prop) (g : QTG) (tb : QTS) (D : PEnds) : List PV → PSt → Sto → Prop
  | [], τ, S => D.nx τ S
  | p :: r, τ, S => g p τ S fun τ1 S1 => tb { D with nx := fun τ' S' => keep S' ∧ forQ keep g tb D r τ' S', ct := fun τ' S' => keep S' ∧ forQ keep g tb D r τ' S', bk := D.nx } τ1 S1
def qFor (qi : QTI) (g : QTG) (tb : QTS) : QTS := fun D τ S => qi τ S (fun s S1 => forQ s.keep g tb D s.its τ S1) (exAt D τ)
theorem qs_for {tg : Expr} {body : List Stmt} {qi : QTI} {g : QTG} {tb : QTS} (hp : PassesOwn (model X.prog X.w) X.A X.env X.xe) (hc : X.calm = true) (hi : QI X T W tg e qi) (hg : QG X T tg g) (hb : QSs X T W body tb)
    (hs : ∀ x, foldedSetIterable e X.env x = pure x := by intro _; rfl) : QS X T W (.For tg e body [] pos) (qFor qi g tb) :=
  ps_imp (ps_for hp hc hi hg hb hs) fun D σ H ⟨τ, S, PD, r, rep, q, c⟩ => by
    refine ⟨τ, S, _, _, r, rep, q, fun J s H1 S1 fr wk kp rp hp => ?_, fun cc d x H' S' fr xr rp hp => c.ex cc d x σ τ H' S' fr (r.mono (fr.le rep)) xr rp hp⟩
    have c1 := c.mono fr
    refine ⟨fun i m σ H => m = s.its.length - i ∧ i ≤ s.its.length ∧ ∃ τ S, Fr S1 H1 S H ∧ RS X.K H σ τ ∧ Rep X.K T S H ∧ s.keep S ∧ forQ s.keep g tb PD (s.its.drop i) τ S,
      ⟨_, rfl, Nat.zero_le _, τ, S1, Fr.refl, r.mono (fr.le rep), rp, kp, hp⟩, ?_⟩
    rintro i m σ2 H2 ⟨rfl, hi, τ2, S2, fr2, rs2, rp2, kp2, h2⟩
    obtain ⟨hstop, hgo⟩ := wk S2 H2 fr2 rp2 kp2
    by_cases hl : i < s.its.length
    · obtain ⟨p, hp⟩ : ∃ p, s.its[i]? = some p := ⟨s.its[i], by simp [hl]⟩
      obtain ⟨go, yl⟩ := hgo i p hp
      have hd : s.its.drop i = p :: s.its.drop (i + 1) := by
        rw [List.drop_eq_getElem_cons hl]
        rw [List.getElem?_eq_getElem hl] at hp
        rw [Option.some.inj hp]
      rw [hd] at h2
      refine .inr ⟨go, fun σ3 H3 => ∃ τ3 S3, Fr S1 H1 S3 H3 ∧ RS X.K H3 σ3 τ3 ∧ Rep X.K T S3 H3 ∧ s.keep S3 ∧ forQ s.keep g tb PD (s.its.drop (i + 1)) τ3 S3, fun σ3 H3 z => ⟨_, by omega, rfl, hl, z⟩, fun x H3 y => ?_⟩
      obtain ⟨fr3, rp3, rl3⟩ := yl x H3 y
      refine ⟨p, τ2, S2, _, rl3, rs2.mono (fr3.le rp2), rp3, h2, fun σ4 τ4 H4 S4 fr4 rs4 rp4 hp4 => ⟨τ4, S4, _, rs4, rp4, hp4, ?_⟩⟩
      have f4 : Fr S1 H1 S4 H4 := (fr2.trans fr3).trans fr4
      exact ⟨fun σ5 τ5 H5 S5 f5 rs5 rp5 h5 => ⟨τ5, S5, f4.trans f5, rs5, rp5, h5.1, h5.2⟩, (c1.mono f4).rt, (c1.mono f4).nx, fun σ5 τ5 H5 S5 f5 rs5 rp5 h5 => ⟨τ5, S5, f4.trans f5, rs5, rp5, h5.1, h5.2⟩, (c1.mono f4).ex⟩
    · have e : i = s.its.length := by omega
      subst e
      rw [List.drop_length] at h2
      exact .inl ⟨hstop, c1.nx σ2 τ2 H2 S2 fr2 rs2 rp2 h2⟩

/-! ### while -/
@[irreducible] def qWhile (t : QTT) (tb : QTS) : QTS := fun D τ S => ∃ M : Nat → PSt → Sto → Prop, (∃ m, M m τ S) ∧ ∀ m τ S, M m τ S →
  t τ S (fun b S1 => iteB b (tb { D with nx := fun τ' S' => ∃ m', m' < m ∧ M m' τ' S', ct := fun τ' S' => ∃ m', m' < m ∧ M m' τ' S', bk := D.nx } τ S1) (D.nx τ S1)) (exAt D τ)
theorem qs_while {c : Expr} {body : List Stmt} {t : QTT} {tb : QTS} (hp : PassesOwn (model X.prog X.w) X.A X.env X.xe) (hc : QT X T W c t) (hb : QSs X T W body tb) : QS X T W (.While c body [] pos) (qWhile t tb) :=
  ps_imp (ps_while hp hc hb) fun D σ H ⟨τ, S, PD, r, rep, hw, c⟩ => by
    unfold qWhile at hw
    obtain ⟨M, ⟨m0, hm0⟩, turn⟩ := hw
    refine ⟨fun m σ' H' => ∃ τ' S', Fr S H S' H' ∧ RS X.K H' σ' τ' ∧ Rep X.K T S' H' ∧ M m τ' S', ⟨m0, τ, S, Fr.refl, r, rep, hm0⟩, ?_⟩
    rintro m σ1 H1 ⟨τ1, S1, fr1, rs1, rp1, h1⟩
    refine con_up (RR := RB) rs1 rp1 (c.mono fr1) (turn m τ1 S1 h1) fun b p H2 S2 fr2 rs2 rl rp2 hp2 => ?_
    have e : b = p := rl
    subst e
    have f2 := fr1.trans fr2
    cases b with
    | true =>
      refine ⟨fun σ3 H3 => ∃ m', m' < m ∧ ∃ τ' S', Fr S H S' H3 ∧ RS X.K H3 σ3 τ' ∧ Rep X.K T S' H3 ∧ M m' τ' S', fun σ3 H3 ⟨m', hm, z⟩ => ⟨m', hm, z⟩, τ1, S2, _, rs2, rp2, hp2, ?_⟩
      exact ⟨fun σ3 τ3 H3 S3 f3 rs3 rp3 ⟨m', hm, z⟩ => ⟨m', hm, τ3, S3, f2.trans f3, rs3, rp3, z⟩, (c.mono f2).rt, (c.mono f2).nx, fun σ3 τ3 H3 S3 f3 rs3 rp3 ⟨m', hm, z⟩ => ⟨m', hm, τ3, S3, f2.trans f3, rs3, rp3, z⟩, (c.mono f2).ex⟩
    | false => exact c.nx σ1 τ1 H2 S2 f2 rs2 rp2 hp2
end
end Mp

set_option Elab.async false
set_option linter.all false
set_option maxRecDepth 100000
namespace Mp
open PySem L2

section
variable {X : Cx} {T : List (Addr × Str)} {W : WX} {e a b : Expr} {es : List Expr} {K : PySem.W.Frag} {S S' S1 : Sto} {H H' H1 : Hp} {σ : St} {τ : PSt} {PD : PEnds} {D : Ends} {pos : Pos}

/-! ### + - * // % ** -/
def fAdd : FO2 := fun x y S P => match x, y with
  | .int i, .int j => P (.int (i + j)) S
  | .str c, .str d => c.length + d.length ≤ sizeLine ∧ P (.str (c ++ d)) S
  | .tup xs, .tup ys => xs.length + ys.length ≤ sizeLine ∧ P (.tup (xs ++ ys)) S
  | .ref p, .ref q => ∃ xs ys, S p = some (.lst xs) ∧ S q = some (.lst ys) ∧ xs.length + ys.length ≤ sizeLine ∧ ∀ n, S n = none → P (.ref n) (put S n (.lst (xs ++ ys)))
  | _, _ => False
def fSub : FO2 := fun x y S P => match x, y with
  | .int i, .int j => P (.int (i - j)) S
  | _, _ => False
def fMul : FO2 := fun x y S P => match x, y with
  | .int i, .int j => CMul i j ∧ P (.int (i * j)) S
  | _, _ => False
def fDiv : FO2 := fun x y S P => match x, y with
  | .int i, .int j => (0 < j ∧ j.natAbs.log2 < 9000) ∧ P (.int (i / j)) S
  | _, _ => False
def fMod : FO2 := fun x y S P => match x, y with
  | .int i, .int j => 0 < j ∧ P (.int (i % j)) S
  | _, _ => False
def fPow : FO2 := fun x y S P => match x, y with
  | .int i, .int j => CPow i j ∧ P (.int (i ^ j.toNat)) S
  | _, _ => False
theorem str_len {cs : List Nat} : (⟨cs.toArray⟩ : Str).length = cs.length := by
  show cs.toArray.size = cs.length
  simp
theorem str_app {c d : List Nat} : ((⟨c.toArray⟩ : Str) ++ ⟨d.toArray⟩) = ⟨(c ++ d).toArray⟩ := by
  show (⟨c.toArray ++ d.toArray⟩ : Str) = ⟨(c ++ d).toArray⟩
  simp
theorem Rl.tupI {v : V} {ps : List PV} (h : Rl K H v (.tup ps)) : ∃ a vs, v = .ref a ∧ SqT K H a vs ∧ Rls K H vs ps := let ⟨a, vs, e, q, r⟩ := h; ⟨a, vs, e, SqT.of q, r⟩
def rAddI : R2 := rI0 fun i j => .int (i + j)
def rAddS : R2 := fun x y H Q => ∃ i j, x = .str i ∧ y = .str j ∧ i.length + j.length ≤ sizeLine ∧ Q (.str (i ++ j)) H
theorem or_add : OpR X (binaryOp .Add) (fun x y H Q => rAddI x y H Q ∨ rAddS x y H Q ∨ rCatA X.K x y H Q ∨ rCat x y H Q) := OpR.or op_add (OpR.or op_add_str (OpR.or op_catA op_cat))
theorem oq_add : OpQ K T (fun x y H Q => rAddI x y H Q ∨ rAddS x y H Q ∨ rCatA K x y H Q ∨ rCat x y H Q) fAdd := by
  intro x y p1 p2 H S P Q r1 r2 rep h k
  cases p1 <;> cases p2 <;> try exact h.elim
  case int.int i j =>
    exact .inl ⟨i, j, r1, r2, k (.int (i + j)) (.int (i + j)) H S Fr.refl rfl rep h⟩
  case str.str c d =>
    refine .inr (.inl ⟨_, _, r1, r2, by rw [str_len, str_len]; exact h.1, ?_⟩)
    rw [str_app]
    exact k (.str ⟨(c ++ d).toArray⟩) (.str (c ++ d)) H S Fr.refl rfl rep h.2
  case tup.tup xs ys =>
    obtain ⟨u, us, e1, s1, t1⟩ := r1
    obtain ⟨w, ws, e2, s2, t2⟩ := r2
    have rl := Rls.append t1 t2
    refine .inr (.inr (.inl ⟨u, w, us, ws, e1, e2, SqT.of s1, SqT.of s2, by rw [Rls.length t1, Rls.length t2]; exact h.1, ?_⟩))
    refine ⟨fun q => ?_, fun q1 q2 => ?_, fun q1 q2 p hp => ?_⟩
    · subst q
      have z : xs = [] := List.eq_nil_of_length_eq_zero (Rls.length t1).symm
      subst z
      exact k (.ref w) (.tup ys) H S Fr.refl ⟨w, ws, rfl, s2, t2⟩ rep h.2
    · subst q2
      have z : ys = [] := List.eq_nil_of_length_eq_zero (Rls.length t2).symm
      subst z
      have h2 : P (.tup (xs ++ [])) S := h.2
      rw [List.append_nil] at h2
      exact k (.ref u) (.tup xs) H S Fr.refl ⟨u, us, rfl, s1, t1⟩ rep h2
    · exact k (.ref p) (.tup (xs ++ ys)) _ S (Fr.hid hp) ⟨p, _, rfl, upd_same, Rls.mono (le_new hp) _ _ rl⟩ (rep.hid hp) h.2
  case ref.ref p q =>
    obtain ⟨xs, ys, s1, s2, hz, h⟩ := h
    obtain ⟨vs, e1, t1⟩ := rep.ob p _ s1
    obtain ⟨ws, e2, t2⟩ := rep.ob q _ s2
    refine .inr (.inr (.inr ⟨p, q, vs, ws, r1, r2, e1, e2, by rw [Rls.length t1, Rls.length t2]; exact hz, fun n hn => ?_⟩))
    exact k (.ref n) (.ref n) _ _ (Fr.new hn) rfl (rep.new (ob := .lst (xs ++ ys)) hn ⟨_, upd_same, Rls.mono (le_new hn) _ _ (Rls.append t1 t2)⟩) (h n (rep.free hn))
theorem q_add {qa qb : QTE} (ha : QE X T W a qa) (hb : QE X T W b qb) : QE X T W (.BinOp a .Add b pos) (qBin fAdd qa qb) := q_bin or_add oq_add ha hb
/-- two ints -/
theorem oq_int {C : Int → Int → Prop} {g : Int → Int → V} {f : FO2} (hf : ∀ p1 p2 S P, f p1 p2 S P → ∃ i j p, p1 = .int i ∧ p2 = .int j ∧ C i j ∧ P p S ∧ ∀ K H, Rl K H (g i j) p) : OpQ K T (rI C g) f := by
  intro x y p1 p2 H S P Q r1 r2 rep h k
  obtain ⟨i, j, p, e1, e2, c, hp, rl⟩ := hf p1 p2 S P h
  subst e1; subst e2
  exact ⟨i, j, r1, r2, c, k _ p H S Fr.refl (rl K H) rep hp⟩
theorem oq_int0 {g : Int → Int → V} {f : FO2} (hf : ∀ p1 p2 S P, f p1 p2 S P → ∃ i j p, p1 = .int i ∧ p2 = .int j ∧ P p S ∧ ∀ K H, Rl K H (g i j) p) : OpQ K T (rI0 g) f := by
  intro x y p1 p2 H S P Q r1 r2 rep h k
  obtain ⟨i, j, p, e1, e2, hp, rl⟩ := hf p1 p2 S P h
  subst e1; subst e2
  exact ⟨i, j, r1, r2, k _ p H S Fr.refl (rl K H) rep hp⟩
theorem q_sub {qa qb : QTE} (ha : QE X T W a qa) (hb : QE X T W b qb) : QE X T W (.BinOp a .Sub b pos) (qBin fSub qa qb) := q_bin op_sub (oq_int0 fun p1 p2 S P h => by
  cases p1 <;> cases p2 <;> first | exact h.elim | exact ⟨_, _, _, rfl, rfl, h, fun _ _ => rfl⟩) ha hb
theorem q_mul {qa qb : QTE} (ha : QE X T W a qa) (hb : QE X T W b qb) : QE X T W (.BinOp a .Mult b pos) (qBin fMul qa qb) := q_bin op_mul (oq_int fun p1 p2 S P h => by
  cases p1 <;> cases p2 <;> first | exact h.elim | exact ⟨_, _, _, rfl, rfl, h.1, h.2, fun _ _ => rfl⟩) ha hb
theorem q_div {qa qb : QTE} (ha : QE X T W a qa) (hb : QE X T W b qb) : QE X T W (.BinOp a .FloorDiv b pos) (qBin fDiv qa qb) := q_bin op_fdivW (oq_int fun p1 p2 S P h => by
  cases p1 <;> cases p2 <;> first | exact h.elim | exact ⟨_, _, _, rfl, rfl, h.1, h.2, fun _ _ => rfl⟩) ha hb
theorem q_mod {qa qb : QTE} (ha : QE X T W a qa) (hb : QE X T W b qb) : QE X T W (.BinOp a .Mod b pos) (qBin fMod qa qb) := q_bin op_mod (oq_int fun p1 p2 S P h => by
  cases p1 <;> cases p2 <;> first | exact h.elim | exact ⟨_, _, _, rfl, rfl, h.1, h.2, fun _ _ => rfl⟩) ha hb
theorem q_pow {qa qb : QTE} (ha : QE X T W a qa) (hb : QE X T W b qb) : QE X T W (.BinOp a .Pow b pos) (qBin fPow qa qb) := q_bin op_pow (oq_int fun p1 p2 S P h => by
  cases p1 <;> cases p2 <;> first | exact h.elim | exact ⟨_, _, _, rfl, rfl, h.1, h.2, fun _ _ => rfl⟩) ha hb
def qNeg (q : QTE) : QTE := fun τ S P EP => q τ S (fun x S1 => match x with
  | .int i => P (.int (-i)) S1
  | _ => False) EP
theorem q_neg {q : QTE} (ha : QE X T W a q) : QE X T W (.UnaryOp .USub a pos) (qNeg q) :=
  pe_imp (pe_un un_neg ha) fun σ H Q h => up_then (RR := Rl X.K) (RR' := Rl X.K) (qk := fun x _ S1 P _ => match x with | .int i => P (PV.int (-i)) S1 | _ => False) h fun v p H1 l r u => by
    cases p with
    | int i =>
      have e : v = .int i := r
      exact ⟨i, e, up_ret (RR := Rl X.K) (v := V.int (-i)) (p := PV.int (-i)) u rfl⟩
    | _ => obtain ⟨_, _, _, _, _, _, z, _⟩ := u; exact z.elim

/-! ### < <= > >= -/
def intsOf : List PV → Option (List Int)
  | [] => some []
  | .int i :: r => (intsOf r).map (i :: ·)
  | _ :: _ => none
theorem intsOf_rl : ∀ {ps : List PV} {ns : List Int} {vs : List V}, intsOf ps = some ns → Rls K H vs ps → vs = ns.map V.int
  | [], ns, vs, e, r => by
    have e1 : some [] = some ns := e
    cases e1
    exact r
  | .int i :: ps, ns, vs, e, ⟨v, w, e2, h1, h2⟩ => by
    have e1 : (intsOf ps).map (i :: ·) = some ns := e
    cases q : intsOf ps with
    | none => rw [q] at e1; cases e1
    | some ms =>
      rw [q] at e1
      cases e1
      have h1 : v = .int i := h1
      rw [e2, h1, intsOf_rl q h2]
      rfl
  | .non :: _, _, _, e, _ => nomatch e
  | .bl _ :: _, _, _, e, _ => nomatch e
  | .str _ :: _, _, _, e, _ => nomatch e
  | .tup _ :: _, _, _, e, _ => nomatch e
  | .ref _ :: _, _, _, e, _ => nomatch e
  | .ty _ :: _, _, _, e, _ => nomatch e
  | .lsv _ :: _, _, _, e, _ => nomatch e
  | .exv _ _ _ _ _ :: _, _, _, e, _ => nomatch e
  | .lam _ _ _ _ _ :: _, _, _, e, _ => nomatch e
  | .ktp _ :: _, _, _, e, _ => nomatch e
theorem intsOf_map : ∀ ns : List Int, intsOf (ns.map PV.int) = some ns
  | [] => rfl
  | n :: ns => by
    show (intsOf (ns.map PV.int)).map (n :: ·) = some (n :: ns)
    rw [intsOf_map ns]; rfl
def fLt : FO2 := fun x y S P => match x, y with
  | .int i, .int j => P (.bl (decide (i < j))) S
  | .str c, .str d => P (.bl (decide (c < d))) S
  | .tup xs, .tup ys => ∃ ns ms, intsOf xs = some ns ∧ intsOf ys = some ms ∧ P (.bl (HT.lexLt ns ms)) S
  | _, _ => False
def fLe : FO2 := fun x y S P => match x, y with
  | .int i, .int j => P (.bl (decide (i ≤ j))) S
  | _, _ => False
def fGt : FO2 := fun x y S P => match x, y with
  | .int i, .int j => P (.bl (decide (j < i))) S
  | _, _ => False
def fGe : FO2 := fun x y S P => match x, y with
  | .int i, .int j => P (.bl (decide (j ≤ i))) S
  | _, _ => False
def rLtI : R2 := rI0 fun i j => .bl (decide (i < j))
def rLtS : R2 := fun x y H Q => ∃ i j, x = .str i ∧ y = .str j ∧ Q (.bl (decide (i.cps.toList < j.cps.toList))) H
theorem or_lt (hu : X.A.units < cLine) : OpR X (compareOp .Lt) (fun x y H Q => rLtI x y H Q ∨ rLtS x y H Q ∨ rLtT X.K x y H Q) := OpR.or op_lt (OpR.or op_lt_str (op_ltT hu))
theorem oq_lt : OpQ K T (fun x y H Q => rLtI x y H Q ∨ rLtS x y H Q ∨ rLtT K x y H Q) fLt := by
  intro x y p1 p2 H S P Q r1 r2 rep h k
  cases p1 <;> cases p2 <;> try exact h.elim
  case int.int i j => exact .inl ⟨i, j, r1, r2, k (.bl _) (.bl _) H S Fr.refl rfl rep h⟩
  case str.str c d => exact .inr (.inl ⟨_, _, r1, r2, k (.bl _) (.bl _) H S Fr.refl rfl rep h⟩)
  case tup.tup xs ys =>
    obtain ⟨ns, ms, i1, i2, h⟩ := h
    obtain ⟨u, us, e1, s1, t1⟩ := r1
    obtain ⟨w, ws, e2, s2, t2⟩ := r2
    rw [intsOf_rl i1 t1] at s1
    rw [intsOf_rl i2 t2] at s2
    exact .inr (.inr ⟨u, w, ns, ms, e1, e2, SqT.of s1, SqT.of s2, k (.bl _) (.bl _) H S Fr.refl rfl rep h⟩)
theorem q_lt {qa qb : QTE} (hu : X.A.units < cLine) (ha : QE X T W a qa) (hb : QE X T W b qb) : QE X T W (.Compare a [.Lt] [b] pos) (qBin fLt qa qb) := q_cmp (or_lt hu) oq_lt (nomark _) ha hb
theorem qt_lt {qa qb : QTE} (hu : X.A.units < cLine) (ha : QE X T W a qa) (hb : QE X T W b qb) : QT X T W (.Compare a [.Lt] [b] pos) (qTst (qBin fLt qa qb)) := qt_cmp (or_lt hu) oq_lt (nomark _) ha hb
theorem oq_le : OpQ K T (rI0 fun i j => .bl (decide (i ≤ j))) fLe := oq_int0 fun p1 p2 S P h => by
  cases p1 <;> cases p2 <;> first | exact h.elim | exact ⟨_, _, _, rfl, rfl, h, fun _ _ => rfl⟩
theorem oq_gt : OpQ K T (rI0 fun i j => .bl (decide (j < i))) fGt := oq_int0 fun p1 p2 S P h => by
  cases p1 <;> cases p2 <;> first | exact h.elim | exact ⟨_, _, _, rfl, rfl, h, fun _ _ => rfl⟩
theorem oq_ge : OpQ K T (rI0 fun i j => .bl (decide (j ≤ i))) fGe := oq_int0 fun p1 p2 S P h => by
  cases p1 <;> cases p2 <;> first | exact h.elim | exact ⟨_, _, _, rfl, rfl, h, fun _ _ => rfl⟩
theorem q_le {qa qb : QTE} (ha : QE X T W a qa) (hb : QE X T W b qb) : QE X T W (.Compare a [.LtE] [b] pos) (qBin fLe qa qb) := q_cmp op_le oq_le (nomark _) ha hb
theorem qt_le {qa qb : QTE} (ha : QE X T W a qa) (hb : QE X T W b qb) : QT X T W (.Compare a [.LtE] [b] pos) (qTst (qBin fLe qa qb)) := qt_cmp op_le oq_le (nomark _) ha hb
theorem q_gt {qa qb : QTE} (ha : QE X T W a qa) (hb : QE X T W b qb) : QE X T W (.Compare a [.Gt] [b] pos) (qBin fGt qa qb) := q_cmp op_gt oq_gt (nomark _) ha hb
theorem qt_gt {qa qb : QTE} (ha : QE X T W a qa) (hb : QE X T W b qb) : QT X T W (.Compare a [.Gt] [b] pos) (qTst (qBin fGt qa qb)) := qt_cmp op_gt oq_gt (nomark _) ha hb
theorem q_ge {qa qb : QTE} (ha : QE X T W a qa) (hb : QE X T W b qb) : QE X T W (.Compare a [.GtE] [b] pos) (qBin fGe qa qb) := q_cmp op_ge oq_ge (nomark _) ha hb
theorem qt_ge {qa qb : QTE} (ha : QE X T W a qa) (hb : QE X T W b qb) : QT X T W (.Compare a [.GtE] [b] pos) (qTst (qBin fGe qa qb)) := qt_cmp op_ge oq_ge (nomark _) ha hb

/-! ### == and != -/
mutual
inductive DatS (S : Sto) : PV → PyData → Prop
  | non : DatS S .non .none
  | bl (c : Bool) : DatS S (.bl c) (.bool c)
  | int (i : Int) : DatS S (.int i) (.int i)
  | str (cs : List Nat) : DatS S (.str cs) (.str ⟨cs.toArray⟩)
  | tup {ps : List PV} {ds : List PyData} (h : DatsS S ps ds) : DatS S (.tup ps) (.tuple ds)
  | lst {p : Addr} {ps : List PV} {ds : List PyData} (e : S p = some (.lst ps)) (h : DatsS S ps ds) : DatS S (.ref p) (.list ds)
inductive DatsS (S : Sto) : List PV → List PyData → Prop
  | nil : DatsS S [] []
  | cons {p : PV} {ps : List PV} {d : PyData} {ds : List PyData} (h : DatS S p d) (t : DatsS S ps ds) : DatsS S (p :: ps) (d :: ds)
end
mutual
theorem dat_dp (rep : Rep K T S H) : ∀ {d : PyData} {p : PV} {v : V}, DatS S p d → Rl K H v p → Dp K H v d
  | .none, _, _, .non, r => by
    have r : _ = V.non := r
    rw [r]; exact .non
  | .bool c, _, _, .bl _, r => by
    have r : _ = V.bl c := r
    rw [r]; exact .bl c
  | .int i, _, _, .int _, r => by
    have r : _ = V.int i := r
    rw [r]; exact .int i
  | .str ⟨_⟩, _, _, .str cs, r => by
    have r : _ = V.str ⟨cs.toArray⟩ := r
    rw [r]; exact .str _
  | .tuple ds, _, _, .tup h, ⟨q, vs, e, s, t⟩ => by
    rw [e]
    exact .tup (SqT.of s) (dats_dp rep h t)
  | .list ds, _, _, .lst (p := q) e h, r => by
    have r : _ = V.ref q := r
    obtain ⟨vs, e1, t⟩ := rep.ob q _ e
    rw [r]
    exact .lst (SqL.of e1) (dats_dp rep h t)
theorem dats_dp (rep : Rep K T S H) : ∀ {ds : List PyData} {ps : List PV} {vs : List V}, DatsS S ps ds → Rls K H vs ps → DpAll K H vs ds
  | [], _, _, .nil, r => by
    have r : _ = [] := r
    rw [r]; exact .nil
  | d :: ds, _, _, .cons h t, ⟨v, w, e, h1, h2⟩ => by
    rw [e]
    exact .cons (dat_dp rep h h1) (dats_dp rep t h2)
end
def fEqG (n : Bool) : FO2 := fun x y S P => ∃ d e, DatS S x d ∧ DatS S y e ∧ SeqAt.shaped d = true ∧ SeqAt.shaped e = true ∧ P (.bl (if n then !PyData.eqv d e else PyData.eqv d e)) S
def fEq : FO2 := fun x y S P => match x, y with
  | .int i, .int j => P (.bl (decide (i = j))) S
  | .str c, .str d => P (.bl (decide (c = d))) S
  | .bl c, .bl d => P (.bl (decide (c = d))) S
  | x, y => fEqG false x y S P
def fNe : FO2 := fun x y S P => match x, y with
  | .int i, .int j => P (.bl (!decide (i = j))) S
  | .str c, .str d => P (.bl (!decide (c = d))) S
  | .bl c, .bl d => P (.bl (!decide (c = d))) S
  | x, y => fEqG true x y S P
theorem oq_eqG : OpQ K T (rEqD K) (fEqG false) := fun x y p1 p2 H S P Q r1 r2 rep ⟨d, e, d1, d2, s1, s2, h⟩ k =>
  ⟨d, e, dat_dp rep d1 r1, dat_dp rep d2 r2, s1, s2, k (.bl _) (.bl _) H S Fr.refl rfl rep h⟩
theorem oq_neG : OpQ K T (rNeD K) (fEqG true) := fun x y p1 p2 H S P Q r1 r2 rep ⟨d, e, d1, d2, s1, s2, h⟩ k =>
  ⟨d, e, dat_dp rep d1 r1, dat_dp rep d2 r2, s1, s2, k (.bl _) (.bl _) H S Fr.refl rfl rep h⟩
theorem dec_arr {c d : List Nat} : decide ((V.str ⟨c.toArray⟩) = V.str ⟨d.toArray⟩) = decide (c = d) := by
  rw [decide_eq_decide]
  constructor
  · intro h
    injection h with h
    injection h with h
    have h2 := congrArg Array.toList h
    simpa using h2
  · intro h; rw [h]
theorem dec_i {i j : Int} : decide ((V.int i) = V.int j) = decide (i = j) := by
  rw [decide_eq_decide]
  exact ⟨fun h => by injection h, fun h => by rw [h]⟩
theorem dec_b {i j : Bool} : decide ((V.bl i) = V.bl j) = decide (i = j) := by
  rw [decide_eq_decide]
  exact ⟨fun h => by injection h, fun h => by rw [h]⟩
theorem or_eq (hu : X.A.units + 64 < cLine) : OpR X (compareOp .Eq) (fun x y H Q => rEq x y H Q ∨ rEqD X.K x y H Q) := OpR.or op_eq (op_eqD hu)
theorem or_ne (hu : X.A.units + 64 < cLine) : OpR X (compareOp .NotEq) (fun x y H Q => rNe x y H Q ∨ rNeD X.K x y H Q) := OpR.or op_ne (op_neD hu)
theorem oq_eq : OpQ K T (fun x y H Q => rEq x y H Q ∨ rEqD K x y H Q) fEq := by
  intro x y p1 p2 H S P Q r1 r2 rep h k
  by_cases q : ∃ i j, p1 = .int i ∧ p2 = .int j
  · obtain ⟨i, j, e1, e2⟩ := q
    subst e1; subst e2
    have e1 : x = .int i := r1
    have e2 : y = .int j := r2
    subst e1; subst e2
    exact .inl ⟨rfl, by rw [dec_i]; exact k (.bl _) (.bl _) H S Fr.refl rfl rep h⟩
  · by_cases q2 : ∃ i j, p1 = .str i ∧ p2 = .str j
    · obtain ⟨i, j, e1, e2⟩ := q2
      subst e1; subst e2
      have e1 : x = .str ⟨i.toArray⟩ := r1
      have e2 : y = .str ⟨j.toArray⟩ := r2
      subst e1; subst e2
      exact .inl ⟨rfl, by rw [dec_arr]; exact k (.bl _) (.bl _) H S Fr.refl rfl rep h⟩
    · by_cases q3 : ∃ i j, p1 = .bl i ∧ p2 = .bl j
      · obtain ⟨i, j, e1, e2⟩ := q3
        subst e1; subst e2
        have e1 : x = .bl i := r1
        have e2 : y = .bl j := r2
        subst e1; subst e2
        exact .inl ⟨rfl, by rw [dec_b]; exact k (.bl _) (.bl _) H S Fr.refl rfl rep h⟩
      · refine .inr (oq_eqG x y p1 p2 H S P Q r1 r2 rep ?_ k)
        cases p1 <;> cases p2 <;> first | exact h | exact (q ⟨_, _, rfl, rfl⟩).elim | exact (q2 ⟨_, _, rfl, rfl⟩).elim | exact (q3 ⟨_, _, rfl, rfl⟩).elim
theorem oq_ne : OpQ K T (fun x y H Q => rNe x y H Q ∨ rNeD K x y H Q) fNe := by
  intro x y p1 p2 H S P Q r1 r2 rep h k
  by_cases q : ∃ i j, p1 = .int i ∧ p2 = .int j
  · obtain ⟨i, j, e1, e2⟩ := q
    subst e1; subst e2
    have e1 : x = .int i := r1
    have e2 : y = .int j := r2
    subst e1; subst e2
    exact .inl ⟨rfl, by rw [dec_i]; exact k (.bl _) (.bl _) H S Fr.refl rfl rep h⟩
  · by_cases q2 : ∃ i j, p1 = .str i ∧ p2 = .str j
    · obtain ⟨i, j, e1, e2⟩ := q2
      subst e1; subst e2
      have e1 : x = .str ⟨i.toArray⟩ := r1
      have e2 : y = .str ⟨j.toArray⟩ := r2
      subst e1; subst e2
      exact .inl ⟨rfl, by rw [dec_arr]; exact k (.bl _) (.bl _) H S Fr.refl rfl rep h⟩
    · by_cases q3 : ∃ i j, p1 = .bl i ∧ p2 = .bl j
      · obtain ⟨i, j, e1, e2⟩ := q3
        subst e1; subst e2
        have e1 : x = .bl i := r1
        have e2 : y = .bl j := r2
        subst e1; subst e2
        exact .inl ⟨rfl, by rw [dec_b]; exact k (.bl _) (.bl _) H S Fr.refl rfl rep h⟩
      · refine .inr (oq_neG x y p1 p2 H S P Q r1 r2 rep ?_ k)
        cases p1 <;> cases p2 <;> first | exact h | exact (q ⟨_, _, rfl, rfl⟩).elim | exact (q2 ⟨_, _, rfl, rfl⟩).elim | exact (q3 ⟨_, _, rfl, rfl⟩).elim
theorem q_eq {qa qb : QTE} (hu : X.A.units + 64 < cLine) (ha : QE X T W a qa) (hb : QE X T W b qb) : QE X T W (.Compare a [.Eq] [b] pos) (qBin fEq qa qb) := q_cmp (or_eq hu) oq_eq (nomark _) ha hb
theorem qt_eq {qa qb : QTE} (hu : X.A.units + 64 < cLine) (ha : QE X T W a qa) (hb : QE X T W b qb) : QT X T W (.Compare a [.Eq] [b] pos) (qTst (qBin fEq qa qb)) := qt_cmp (or_eq hu) oq_eq (nomark _) ha hb
theorem q_ne {qa qb : QTE} (hu : X.A.units + 64 < cLine) (ha : QE X T W a qa) (hb : QE X T W b qb) : QE X T W (.Compare a [.NotEq] [b] pos) (qBin fNe qa qb) := q_cmp (or_ne hu) oq_ne (nomark _) ha hb
theorem qt_ne {qa qb : QTE} (hu : X.A.units + 64 < cLine) (ha : QE X T W a qa) (hb : QE X T W b qb) : QT X T W (.Compare a [.NotEq] [b] pos) (qTst (qBin fNe qa qb)) := qt_cmp (or_ne hu) oq_ne (nomark _) ha hb

/-! ### is None -/
def fIsN (n : Bool) : PV → Bool
  | .non => !n
  | _ => n
theorem rl_non {v : V} {p : PV} (r : Rl K H v p) : decide (v = .non) = fIsN false p := by
  cases p <;> first
    | (have r : v = _ := r
       rw [r]; rfl)
    | (obtain ⟨a, vs, e, _⟩ := r
       rw [e]; rfl)
    | (rw [r.1]; rfl)
    | skip
def qIsN (n : Bool) (q : QTE) : QTE := fun τ S P EP => q τ S (fun x S1 => P (.bl (fIsN n x)) S1) EP
theorem fIsN_not (p : PV) : (!fIsN false p) = fIsN true p := by cases p <;> rfl
theorem q_isN {j pos'} {q : QTE} (ha : QE X T W a q) : QE X T W (.Compare a [.Is] [.Constant .none j pos'] pos) (qIsN false q) :=
  pe_imp (pe_cmp (pc_isN ha)) fun σ H Q h => up_then (RR := Rl X.K) (RR' := Rl X.K) (qk := fun x _ S1 P _ => P (PV.bl (fIsN false x)) S1) h fun v p H1 l r u => by
    rw [rl_non r]
    exact up_ret (RR := Rl X.K) (v := V.bl _) (p := PV.bl _) u rfl
theorem q_notN {j pos'} {q : QTE} (ha : QE X T W a q) : QE X T W (.Compare a [.IsNot] [.Constant .none j pos'] pos) (qIsN true q) :=
  pe_imp (pe_cmp (pc_notN ha)) fun σ H Q h => up_then (RR := Rl X.K) (RR' := Rl X.K) (qk := fun x _ S1 P _ => P (PV.bl (fIsN true x)) S1) h fun v p H1 l r u => by
    rw [rl_non r, fIsN_not]
    exact up_ret (RR := Rl X.K) (v := V.bl _) (p := PV.bl _) u rfl
theorem qt_isN {j pos'} {q : QTE} (ha : QE X T W a q) : QT X T W (.Compare a [.Is] [.Constant .none j pos'] pos) (qTst (qIsN false q)) :=
  pt_imp (pt_cmp (pc_isN ha)) fun σ H Q h => up_mono (up_bind (RR := Rl X.K) (RR' := RB) (qk := fun x _ S1 P _ => P (fIsN false x) S1) h) fun v H1 ⟨p, l, r, u⟩ => ⟨_, rfl, by
    rw [rl_non r]
    exact up_ret u rfl⟩
theorem qt_notN {j pos'} {q : QTE} (ha : QE X T W a q) : QT X T W (.Compare a [.IsNot] [.Constant .none j pos'] pos) (qTst (qIsN true q)) :=
  pt_imp (pt_cmp (pc_notN ha)) fun σ H Q h => up_mono (up_bind (RR := Rl X.K) (RR' := RB) (qk := fun x _ S1 P _ => P (fIsN true x) S1) h) fun v H1 ⟨p, l, r, u⟩ => ⟨_, rfl, by
    rw [rl_non r, fIsN_not]
    exact up_ret u rfl⟩
end
end Mp

set_option Elab.async false
set_option linter.all false
set_option maxRecDepth 100000
namespace Mp
open PySem L2

section
variable {X : Cx} {T : List (Addr × Str)} {W : WX} {e a b : Expr} {es : List Expr} {K : PySem.W.Frag} {S S' S1 : Sto} {H H' H1 : Hp} {σ : St} {τ : PSt} {PD : PEnds} {D : Ends} {pos : Pos}

/-! ### subscripts -/
theorem Rls.at {ps : List PV} {vs : List V} {i : Int} {p : PV} (r : Rls K H vs ps) (h : atI ps i = some p) : ∃ v, atI vs i = some v ∧ Rl K H v p := by
  unfold atI at h ⊢
  rw [Rls.length r]
  cases q : ixN ps.length i with
  | none => rw [q] at h; cases h
  | some j =>
    rw [q] at h
    exact r.get h
def fIdx : FO2 := fun x y S P => match x, y with
  | .tup ps, .int i => match atI ps i with
    | some p => P p S
    | none => False
  | .str cs, .int i => match atI cs i with
    | some c => cs.length ≤ sizeLine ∧ P (.str [c]) S
    | none => False
  | .lsv ps, .int i => match atI ps i with
    | some p => P p S
    | none => False
  | .ktp ps, .int i => match atI ps i with
    | some p => P p S
    | none => False
  | .ref q, .int i => match S q with
    | some (.lst ps) => match atI ps i with
      | some p => P p S
      | none => False
    | _ => False
  | _, _ => False
theorem oq_idx : OpQ K T (rIx K) fIdx := by
  intro x y p1 p2 H S P Q r1 r2 rep h k
  cases p2 with
  | int i =>
    cases p1 with
    | tup ps =>
      obtain ⟨u, us, e1, s1, t1⟩ := r1
      unfold fIdx at h
      simp only at h
      cases q : atI ps i with
      | none => rw [q] at h; exact h.elim
      | some p =>
        rw [q] at h
        obtain ⟨v, h1, h2⟩ := t1.at q
        exact .inr (.inl ⟨u, us, i, v, e1, r2, SqT.of s1, h1, k v p H S Fr.refl h2 rep h⟩)
    | ktp ps =>
      obtain ⟨u, us, e1, s1, t1⟩ := r1
      unfold fIdx at h
      simp only at h
      cases q : atI ps i with
      | none => rw [q] at h; exact h.elim
      | some p =>
        rw [q] at h
        obtain ⟨v, h1, h2⟩ := t1.at q
        exact .inr (.inl ⟨u, us, i, v, e1, r2, s1, h1, k v p H S Fr.refl h2 rep h⟩)
    | lsv ps =>
      obtain ⟨u, us, e1, s1, t1⟩ := r1
      unfold fIdx at h
      simp only at h
      cases q : atI ps i with
      | none => rw [q] at h; exact h.elim
      | some p =>
        rw [q] at h
        obtain ⟨v, h1, h2⟩ := t1.at q
        exact .inl ⟨u, us, i, v, e1, r2, s1.sq, h1, k v p H S Fr.refl h2 rep h⟩
    | str cs =>
      unfold fIdx at h
      simp only at h
      cases q : atI cs i with
      | none => rw [q] at h; exact h.elim
      | some c =>
        rw [q] at h
        exact .inr (.inr ⟨_, i, c, r1, r2, by rw [str_len]; exact h.1, q, k (.str ⟨#[c]⟩) (.str [c]) H S Fr.refl rfl rep h.2⟩)
    | ref q =>
      unfold fIdx at h
      simp only at h
      cases z : S q with
      | none => rw [z] at h; exact h.elim
      | some ob =>
        rw [z] at h
        cases ob with
        | lst ps =>
          simp only at h
          cases z2 : atI ps i with
          | none => rw [z2] at h; exact h.elim
          | some p =>
            rw [z2] at h
            obtain ⟨vs, e1, t1⟩ := rep.ob q _ z
            obtain ⟨v, h1, h2⟩ := t1.at z2
            exact .inl ⟨q, vs, i, v, r1, r2, SqL.of e1, h1, k v p H S Fr.refl h2 rep h⟩
        | _ => exact h.elim
    | _ => exact h.elim
  | _ => cases p1 <;> exact h.elim
theorem q_idx {qa qb : QTE} (ha : QE X T W a qa) (hb : QE X T W b qb) (hs : PlainIx b := by exact fun _ _ => rfl) : QE X T W (.Subscript a b pos) (qBin fIdx qa qb) :=
  pe_imp (pe_ix ix_seq ha hb hs) fun _ _ _ h => up_bin oq_idx h
def fSet : FSet := fun o i v S P => match o, i with
  | .ref q, .int k => match S q with
    | some (.lst ps) => match ixN ps.length k with
      | some j => P (put S q (.lst (ps.set j v)))
      | none => False
    | _ => False
  | _, _ => False
theorem sq_list : SetQ K T rSetL fSet := by
  intro o i v p1 p2 p3 H S P Q r1 r2 r3 rep h k
  cases p1 with
  | ref q =>
    cases p2 with
    | int n =>
      unfold fSet at h
      simp only at h
      cases z : S q with
      | none => rw [z] at h; exact h.elim
      | some ob =>
        rw [z] at h
        cases ob with
        | lst ps =>
          simp only at h
          cases z2 : ixN ps.length n with
          | none => rw [z2] at h; exact h.elim
          | some j =>
            rw [z2] at h
            obtain ⟨vs, e1, t1⟩ := rep.ob q _ z
            refine ⟨q, vs, n, j, r1, r2, e1, by rw [Rls.length t1]; exact z2, k _ _ (Fr.wr z) (rep.wr (ob := .lst (ps.set j p3)) z fun le => ⟨_, upd_same, Rls.mono le _ _ (t1.set r3)⟩) h⟩
        | _ => exact h.elim
    | _ => exact h.elim
  | _ => exact h.elim
theorem qg_idx {o i : Expr} {qo qi : QTE} (ho : QE X T W0 o qo) (hi : QE X T W0 i qi)
    (ha : ∀ v, assign (.Subscript o i pos) X.env v = (do let ov ← holding [v] (eval o X.env); let iv ← holding [v, ov] (eval i X.env); standAt pos; holding [v, ov, iv] (setItem ov iv v); release [v, ov, iv] []) := by intro _; rfl) :
    QG X T (.Subscript o i pos) (qgSub qo qi fSet) := qg_sub set_list sq_list ho hi ha

/-! ### slices -/
def cut {α : Type} (xs : List α) (lo hi : Option Int) : List α := (xs.drop (HT.sIx xs.length 0 lo)).take (HT.sIx xs.length xs.length hi - HT.sIx xs.length 0 lo)
abbrev QTO := Qr (Option Int)
abbrev ROI : Hp → Option Int → Option Int → Prop := fun _ a b => a = b
def QO (X : Cx) (T : List (Addr × Str)) (W : WX) (e : Option Expr) (q : QTO) : Prop := PO X e (upG X.K T W ROI q)
def qoN : QTO := fun _ S P _ => P none S
def qoS (q : QTE) : QTO := fun τ S P EP => q τ S (fun x S1 => match x with
  | .int i => P (some i) S1
  | _ => False) EP
theorem po_imp {oe : Option Expr} {t t' : TO} (h : PO X oe t) (k : ∀ σ H Q, t' σ H Q → t σ H Q) : PO X oe t' := ⟨fun pins s σ H Q I w => h.run pins s σ H Q I (k σ H Q w)⟩
theorem qo_none : QO X T W none qoN := po_imp po_none fun σ H Q h => up_ret (RR := ROI) (v := none) (p := none) h rfl
theorem qo_some {q : QTE} (h : QE X T W e q) : QO X T W (some e) (qoS q) := po_imp (po_some h) fun σ H Q h =>
  up_then (RR := Rl X.K) (RR' := ROI) (qk := fun x _ S1 P _ => match x with | .int i => P (some i) S1 | _ => False) h fun v p H1 l r u => by
    cases p with
    | int i =>
      have e : v = .int i := r
      exact ⟨i, e, up_ret (RR := ROI) (v := some i) (p := some i) u rfl⟩
    | _ => obtain ⟨_, _, _, _, _, _, z, _⟩ := u; exact z.elim
def fSl : PV → Option Int → Option Int → Sto → QK PV → Prop := fun x lo hi S P => match x with
  | .str cs => cs.length ≤ sizeLine ∧ P (.str (cut cs lo hi)) S
  | .tup ps => P (.tup (cut ps lo hi)) S
  | .ref q => match S q with
    | some (.lst ps) => ∀ n, S n = none → P (.ref n) (put S n (.lst (cut ps lo hi)))
    | _ => False
  | _ => False
def qSl (q : QTE) (ql qh : QTO) : QTE := fun τ S P EP => q τ S (fun x S1 => ql τ S1 (fun l S2 => qh τ S2 (fun h S3 => fSl x l h S3 P) EP) EP) EP
theorem Rls.cut {ps : List PV} {vs : List V} (r : Rls K H vs ps) (lo hi : Option Int) : Rls K H (cutV vs lo hi) (cut ps lo hi) := by
  unfold cutV Mp.cut
  rw [Rls.length r]
  exact (r.drop _).take _
theorem sIx_all {α : Type} {xs : List α} {lo hi : Option Int} (h : HT.sIx xs.length 0 lo = 0 ∧ HT.sIx xs.length xs.length hi = xs.length) : cut xs lo hi = xs := by
  unfold cut
  rw [h.1, h.2]
  simp
theorem q_slice {q : QTE} {lo hi : Option Expr} {ql qh : QTO} {p2 : Pos} (he : QE X T W e q) (hl : QO X T W lo ql) (hh : QO X T W hi qh) : QE X T W (.Subscript e (.Slice lo hi none p2) pos) (qSl q ql qh) :=
  pe_imp (pe_slice (SlR.or sl_str (SlR.or sl_tupA sl_list)) he hl hh) fun σ H Q h =>
    up_then (RR := Rl X.K) (RR' := Rl X.K) (qk := fun x τ S1 P EP => ql τ S1 (fun l S2 => qh τ S2 (fun h S3 => fSl x l h S3 P) EP) EP) h fun x p H1 l1 r1 u1 =>
    up_then (RR := ROI) (RR' := Rl X.K) (qk := fun l τ S2 P EP => qh τ S2 (fun h S3 => fSl p l h S3 P) EP) u1 fun l l' H2 l2 r2 u2 =>
    up_then (RR := ROI) (RR' := Rl X.K) (qk := fun h _ S3 P _ => fSl p l' h S3 P) u2 fun h h' H3 l3 r3 ⟨τ, S, P, EP, _, rep, hf, k, _⟩ => by
      have el : l = l' := r2
      have eh : h = h' := r3
      subst el; subst eh
      have r1 : Rl X.K H3 x p := Rl.mono l3 _ _ (Rl.mono l2 _ _ r1)
      cases p with
      | str cs =>
        refine .inl ⟨_, r1, by rw [str_len]; exact hf.1, ?_⟩
        exact k (.str (cutS ⟨cs.toArray⟩ l h)) (.str (cut cs l h)) H3 S Fr.refl (by
          show V.str (cutS ⟨cs.toArray⟩ l h) = V.str ⟨(cut cs l h).toArray⟩
          unfold cutS cut
          rw [str_len]) rep hf.2
      | tup ps =>
        obtain ⟨u, us, e1, s1, t1⟩ := r1
        refine .inr (.inl ⟨u, us, e1, SqT.of s1, fun w => ?_, fun _ n hn => ?_⟩)
        · rw [Rls.length t1] at w
          have hf : P (.tup (cut ps l h)) S := hf
          rw [sIx_all w] at hf
          exact k (.ref u) (.tup ps) H3 S Fr.refl ⟨u, us, rfl, s1, t1⟩ rep hf
        · exact k (.ref n) (.tup (cut ps l h)) _ S (Fr.hid hn) ⟨n, _, rfl, upd_same, Rls.mono (le_new hn) _ _ (t1.cut l h)⟩ (rep.hid hn) hf
      | ref q =>
        unfold fSl at hf
        simp only at hf
        cases z : S q with
        | none => rw [z] at hf; exact hf.elim
        | some ob =>
          rw [z] at hf
          cases ob with
          | lst ps =>
            obtain ⟨vs, e1, t1⟩ := rep.ob q _ z
            refine .inr (.inr ⟨q, vs, r1, SqL.of e1, fun n hn => ?_⟩)
            exact k (.ref n) (.ref n) _ _ (Fr.new hn) rfl (rep.new (ob := .lst (cut ps l h)) hn ⟨_, upd_same, Rls.mono (le_new hn) _ _ (t1.cut l h)⟩) (hf n (rep.free hn))
          | _ => exact hf.elim
      | _ => exact hf.elim

/-! ### a list operand: new and hidden, or one of the store -/
inductive LH where
  | hid (a : Addr) (xs : List PV)
  | sto (a : Addr)
def LH.its (S : Sto) : LH → Option (List PV)
  | .hid _ xs => some xs
  | .sto a => match S a with
    | some (.lst xs) => some xs
    | _ => none
abbrev QTV := Qr LH
def RLH (K : PySem.W.Frag) (S : Sto) (H : Hp) (v : V) : LH → Prop
  | .hid a xs => v = .ref a ∧ ∃ vs, H a = some (.lst vs) ∧ S a = none ∧ Rls K H vs xs
  | .sto a => v = .ref a
def upV (K : PySem.W.Frag) (T : List (Addr × Str)) (W : WX) (q : QTV) : TE := fun σ H Q =>
  ∃ τ S P EP, RS K H σ τ ∧ Rep K T S H ∧ q τ S P EP ∧ (∀ v p H' S', Fr S H S' H' → RLH K S' H' v p → Rep K T S' H' → P p S' → Q v H') ∧
    ∀ c d x H' S', Fr S H S' H' → XR K H' c d x → Rep K T S' H' → EP x S' → W c d σ H'
def QV (X : Cx) (T : List (Addr × Str)) (W : WX) (e : Expr) (q : QTV) : Prop := PE X e (upV X.K T W q)
def qvL (q : QTA) : QTV := fun τ S P EP => q τ S (fun xs S1 => ∀ a, P (.hid a xs) S1) EP
def qvE (q : QTE) : QTV := fun τ S P EP => q τ S (fun x S1 => match x with
  | .ref a => P (.sto a) S1
  | _ => False) EP
theorem qv_l {q : QTA} (h : QL X T W e q) : QV X T W e (qvL q) := pe_imp h fun σ H Q ⟨τ, S, P, EP, h1, h2, h3, h4, h5⟩ =>
  ⟨τ, S, _, EP, h1, h2, h3, fun a vs ps H' S' fr e n _ rl rep hp => h4 _ (.hid a ps) H' S' fr ⟨rfl, vs, e, n, rl⟩ rep (hp a), h5⟩
theorem qv_e {q : QTE} (h : QE X T W e q) : QV X T W e (qvE q) := pe_imp h fun σ H Q ⟨τ, S, P, EP, h1, h2, h3, h4, h5⟩ =>
  ⟨τ, S, _, EP, h1, h2, h3, fun v p H' S' fr rl rep hp => by
    cases p with
    | ref a => exact h4 v (.sto a) H' S' fr rl rep hp
    | _ => exact hp.elim, h5⟩
theorem RLH.at {v : V} {l : LH} {xs : List PV} (r : RLH K S H v l) (rep : Rep K T S H) (h : l.its S = some xs) : ∃ a vs, v = .ref a ∧ H a = some (.lst vs) ∧ Rls K H vs xs := by
  cases l with
  | hid a ys =>
    have h : some ys = some xs := h
    cases h
    obtain ⟨e, vs, e1, _, rl⟩ := r
    exact ⟨a, vs, e, e1, rl⟩
  | sto a =>
    unfold LH.its at h
    simp only at h
    cases z : S a with
    | none => rw [z] at h; cases h
    | some ob =>
      rw [z] at h
      cases ob with
      | lst ys =>
        cases h
        obtain ⟨vs, e1, rl⟩ := rep.ob a _ z
        exact ⟨a, vs, r, e1, rl⟩
      | _ => cases h
theorem RLH.fr {v : V} {l : LH} (r : RLH K S H v l) (rep : Rep K T S H) (f : Fr S H S' H') : RLH K S' H' v l := by
  cases l with
  | hid a ys =>
    obtain ⟨e, vs, e1, n, rl⟩ := r
    obtain ⟨e2, _, n2⟩ := f a _ e1 (fun _ q => nomatch q) (.inl n)
    exact ⟨e, vs, e2, n2 n, Rls.mono (f.le rep) _ _ rl⟩
  | sto a => exact r
/-- xs + ys -/
def qCat (qa qb : QTV) : QTA := fun τ S P EP => qa τ S (fun x S1 => qb τ S1 (fun y S2 => match x.its S2, y.its S2 with
  | some xs, some ys => xs.length + ys.length ≤ sizeLine ∧ P (xs ++ ys) S2
  | _, _ => False) EP) EP
theorem ql_cat {qa qb : QTV} (ha : QV X T W a qa) (hb : QV X T W b qb) : QL X T W (.BinOp a .Add b pos) (qCat qa qb) :=
  pe_imp (pe_op op_cat ha hb) fun σ H Q ⟨τ, S, P, EP, h1, h2, h3, h4, h5⟩ => by
    refine ⟨τ, S, _, EP, h1, h2, h3, fun x p H1 S1 fr1 r1 rep1 hp1 => ?_, h5⟩
    refine ⟨τ, S1, _, EP, h1.mono (fr1.le h2), rep1, hp1, fun y p2 H2 S2 fr2 r2 rep2 hp2 => ?_, fun c d x H' S' fr => h5 c d x H' S' (fr1.trans fr)⟩
    have r1 := r1.fr rep1 fr2
    cases z1 : p.its S2 with
    | none => simp only [z1] at hp2
    | some xs =>
      cases z2 : p2.its S2 with
      | none => simp only [z1, z2] at hp2
      | some ys =>
        simp only [z1, z2] at hp2
        obtain ⟨u, us, e1, g1, t1⟩ := r1.at rep2 z1
        obtain ⟨w, ws, e2, g2, t2⟩ := r2.at rep2 z2
        refine ⟨u, w, us, ws, e1, e2, g1, g2, by rw [Rls.length t1, Rls.length t2]; exact hp2.1, fun n hn => ?_⟩
        have f := fr1.trans fr2
        exact h4 n _ _ _ S2 (f.trans (Fr.hid hn)) upd_same (rep2.free hn) (Nu.of f hn) (Rls.mono (le_new hn) _ _ (Rls.append t1 t2)) (rep2.hid hn) hp2.2

/-! ### built-ins by values -/
abbrev FCal := List PV → Sto → QK PV → Prop
def CalQ (K : PySem.W.Frag) (T : List (Addr × Str)) (r : List V → Hp → VK → Prop) (f : FCal) : Prop := ∀ vs ps H S (P : QK PV) (Q : VK), Rls K H vs ps → Rep K T S H → f ps S P →
  (∀ v p H' S', Fr S H S' H' → Rl K H' v p → Rep K T S' H' → P p S' → Q v H') → r vs H Q
def qCal (f : FCal) (q : QTA) : QTE := fun τ S P EP => q τ S (fun xs S1 => f xs S1 P) EP
theorem up_cal {r : List V → Hp → VK → Prop} {f : FCal} {q : QTA} (o : CalQ K T r f) {Q : VK} (h : upG K T W (Rl K) (qCal f q) σ H Q) : tCB r (upG K T W (Rls K) q) σ H Q :=
  up_then (RR := Rls K) (RR' := Rl K) (qk := fun xs _ S1 P _ => f xs S1 P) h fun vs ps H1 l rl ⟨τ, S, P, EP, _, rep, hf, k, _⟩ => o vs ps H1 S P Q rl rep hf k
variable {x : Str} {p : Pos} {id Ty : String} {r : List V → Hp → VK → Prop} {f : FCal} {q : QTA}
theorem q_callB (hc : CallR X (.builtin id) r) (o : CalQ X.K T r f) (hg : Gl X x) (hm : X.mg x = none) (hv : bootBuiltins x = some (.builtin id)) (ha : QA X T W (e :: es) q) (hn : x ≠ "__name__" := by decide) (hdb : (x == ("__debug__" : Str)) = false := by decide)
    (he : starEach (e :: es) X.env = (false, eval e X.env) :: starEach es X.env := by rfl) (hpl : (backTo pos (starEach es X.env)).any (·.1) = false := by rfl) : QE X T W (.Call (.Name x p) (e :: es) [] pos) (qCal f q) :=
  pe_imp (pe_callB hc hg hm hv ha hn hdb he hpl) fun σ H Q h => up_cal o h
theorem q_callTy (hc : CallR X (.type Ty) r) (o : CalQ X.K T r f) (hg : Gl X x) (hm : X.mg x = none) (hv : bootBuiltins x = some (.type Ty)) (ha : QA X T W (e :: es) q) (hn : x ≠ "__name__" := by decide) (hdb : (x == ("__debug__" : Str)) = false := by decide)
    (he : starEach (e :: es) X.env = (false, eval e X.env) :: starEach es X.env := by rfl) (hpl : (backTo pos (starEach es X.env)).any (·.1) = false := by rfl) : QE X T W (.Call (.Name x p) (e :: es) [] pos) (qCal f q) :=
  pe_imp (pe_callTy hc hg hm hv ha hn hdb he hpl) fun σ H Q h => up_cal o h
/-- one int in -/
theorem cq_i {r : List V → Hp → VK → Prop} {f : FCal} {g : Int → Int} (hr : ∀ i H (Q : VK), Q (.int (g i)) H → r [.int i] H Q) (hf : ∀ ps S P, f ps S P → ∃ i, ps = [.int i] ∧ P (.int (g i)) S) : CalQ K T r f := fun vs ps H S P Q rl rep h k => by
  obtain ⟨i, e, hp⟩ := hf ps S P h
  subst e
  obtain ⟨v, w, e1, h1, h2⟩ := rl
  have h1 : v = .int i := h1
  have h2 : w = [] := h2
  subst e1; subst h1; subst h2
  exact hr i H Q (k (.int (g i)) (.int (g i)) H S Fr.refl rfl rep hp)
def fAbs : FCal := fun ps S P => match ps with
  | [.int i] => P (.int (if i < 0 then -i else i)) S
  | _ => False
def fInt : FCal := fun ps S P => match ps with
  | [.int i] => P (.int i) S
  | _ => False
theorem one_i {ps : List PV} {g : Int → Int} {S : Sto} {P : QK PV} (h : match ps with | [.int i] => P (.int (g i)) S | _ => False) : ∃ i, ps = [.int i] ∧ P (.int (g i)) S := by
  match ps, h with
  | [.int i], h => exact ⟨i, rfl, h⟩
theorem cq_abs : CalQ K T (fun xs H Q => ∃ i, xs = [.int i] ∧ Q (.int (if i < 0 then -i else i)) H) fAbs := cq_i (g := fun i => if i < 0 then -i else i) (fun i H Q h => ⟨i, rfl, h⟩) fun ps S P h => one_i h
theorem cq_int : CalQ K T (fun xs H Q => (∃ i, xs = [.int i] ∧ Q (.int i) H) ∨ ∃ k, xs = [.bl k] ∧ Q (.int (if k then 1 else 0)) H) fInt := cq_i (g := fun i => i) (fun i H Q h => .inl ⟨i, rfl, h⟩) fun ps S P h => one_i (g := fun i => i) h
theorem two_i {ps : List PV} {g : Int → Int → PV} {S : Sto} {P : QK PV} (h : match ps with | [.int i, .int j] => P (g i j) S | _ => False) : ∃ i j, ps = [.int i, .int j] ∧ P (g i j) S := by
  match ps, h with
  | [.int i, .int j], h => exact ⟨i, j, rfl, h⟩
theorem rls_ii {vs : List V} {i j : Int} (rl : Rls K H vs [.int i, .int j]) : vs = [.int i, .int j] := by
  obtain ⟨v, w, e1, h1, v2, w2, e2, h2, h3⟩ := rl
  have h1 : v = .int i := h1
  have h2 : v2 = .int j := h2
  have h3 : w2 = [] := h3
  subst h1; subst h2; subst h3; subst e2
  exact e1
def fMax2 : FCal := fun ps S P => match ps with
  | [.int i, .int j] => P (.int (if j > i then j else i)) S
  | _ => False
def fMin2 : FCal := fun ps S P => match ps with
  | [.int i, .int j] => P (.int (if j < i then j else i)) S
  | _ => False
theorem cq_max2 : CalQ K T (fun xs H Q => ∃ i j, xs = [.int i, .int j] ∧ Q (.int (if j > i then j else i)) H) fMax2 := fun vs ps H S P Q rl rep h k => by
  obtain ⟨i, j, e, hp⟩ := two_i (g := fun i j => .int (if j > i then j else i)) h
  subst e
  exact ⟨i, j, rls_ii rl, k (.int _) (.int _) H S Fr.refl rfl rep hp⟩
theorem cq_min2 : CalQ K T (fun xs H Q => ∃ i j, xs = [.int i, .int j] ∧ Q (.int (if j < i then j else i)) H) fMin2 := fun vs ps H S P Q rl rep h k => by
  obtain ⟨i, j, e, hp⟩ := two_i (g := fun i j => .int (if j < i then j else i)) h
  subst e
  exact ⟨i, j, rls_ii rl, k (.int _) (.int _) H S Fr.refl rfl rep hp⟩
def fLen : FCal := fun ps S P => match ps with
  | [.tup xs] => P (.int xs.length) S
  | [.ktp xs] => P (.int xs.length) S
  | [.lsv xs] => P (.int xs.length) S
  | [.str cs] => cs.length ≤ sizeLine ∧ P (.int cs.length) S
  | [.ref q] => match S q with
    | some (.lst xs) => P (.int xs.length) S
    | _ => False
  | _ => False
theorem cq_len : CalQ K T (fun xs H Q => ∃ x n, xs = [x] ∧ LenV K x H n ∧ Q (.int n) H) fLen := fun vs ps H S P Q rl rep h k => by
  match ps, h with
  | [.tup xs], h =>
    obtain ⟨v, w, e1, ⟨a, us, e2, s1, t1⟩, h2⟩ := rl
    have h2 : w = [] := h2
    subst e1; subst e2; subst h2
    exact ⟨_, xs.length, rfl, .inr ⟨us, SqT.of s1, (Rls.length t1).symm⟩, k (.int _) (.int _) H S Fr.refl rfl rep h⟩
  | [.ktp xs], h =>
    obtain ⟨v, w, e1, ⟨a, us, e2, s1, t1⟩, h2⟩ := rl
    have h2 : w = [] := h2
    subst e1; subst e2; subst h2
    exact ⟨_, xs.length, rfl, .inr ⟨us, s1, (Rls.length t1).symm⟩, k (.int _) (.int _) H S Fr.refl rfl rep h⟩
  | [.lsv xs], h =>
    obtain ⟨v, w, e1, ⟨a, us, e2, s1, t1⟩, h2⟩ := rl
    have h2 : w = [] := h2
    subst e1; subst e2; subst h2
    exact ⟨_, xs.length, rfl, .inl ⟨us, s1.sq, (Rls.length t1).symm⟩, k (.int _) (.int _) H S Fr.refl rfl rep h⟩
  | [.str cs], h =>
    obtain ⟨v, w, e1, h1, h2⟩ := rl
    have h1 : v = .str ⟨cs.toArray⟩ := h1
    have h2 : w = [] := h2
    subst e1; subst h1; subst h2
    exact ⟨_, cs.length, rfl, ⟨by rw [str_len]; exact h.1, str_len.symm⟩, k (.int _) (.int _) H S Fr.refl rfl rep h.2⟩
  | [.ref q], h =>
    unfold fLen at h
    simp only at h
    obtain ⟨v, w, e1, h1, h2⟩ := rl
    have h1 : v = .ref q := h1
    have h2 : w = [] := h2
    subst e1; subst h1; subst h2
    cases z : S q with
    | none => rw [z] at h; exact h.elim
    | some ob =>
      rw [z] at h
      cases ob with
      | lst xs =>
        obtain ⟨us, e1, t1⟩ := rep.ob q _ z
        exact ⟨_, xs.length, rfl, .inl ⟨us, SqL.of e1, (Rls.length t1).symm⟩, k (.int _) (.int _) H S Fr.refl rfl rep h⟩
      | _ => exact h.elim
/-- tuple(x), list(x) by values -/
def seqOf (x : PV) (S : Sto) : Option (List PV) := match x with
  | .tup xs => some xs
  | .lsv xs => some xs
  | .ktp xs => some xs
  | .ref q => match S q with
    | some (.lst xs) => some xs
    | _ => none
  | _ => none
theorem seq_of {v : V} {x : PV} {xs : List PV} (rl : Rl K H v x) (rep : Rep K T S H) (h : seqOf x S = some xs) : ∃ a vs, v = .ref a ∧ (SqL K H a vs ∨ SqT K H a vs) ∧ Rls K H vs xs := by
  cases x with
  | tup ys =>
    have h : some ys = some xs := h
    cases h
    obtain ⟨a, us, e2, s1, t1⟩ := rl
    exact ⟨a, us, e2, .inr (SqT.of s1), t1⟩
  | ktp ys =>
    have h : some ys = some xs := h
    cases h
    obtain ⟨a, us, e2, s1, t1⟩ := rl
    exact ⟨a, us, e2, .inr s1, t1⟩
  | lsv ys =>
    have h : some ys = some xs := h
    cases h
    obtain ⟨a, us, e2, s1, t1⟩ := rl
    exact ⟨a, us, e2, .inl s1.sq, t1⟩
  | ref q =>
    unfold seqOf at h
    simp only at h
    cases z : S q with
    | none => rw [z] at h; cases h
    | some ob =>
      rw [z] at h
      cases ob with
      | lst ys =>
        cases h
        obtain ⟨us, e1, t1⟩ := rep.ob q _ z
        exact ⟨q, us, rl, .inl (SqL.of e1), t1⟩
      | _ => cases h
  | _ => cases h
def fTup : FCal := fun ps S P => match ps with
  | [.tup xs] => P (.tup xs) S
  | [.ktp xs] => P (.ktp xs) S
  | [.ref q] => match S q with
    | some (.lst xs) => P (.tup xs) S
    | _ => False
  | [.lsv xs] => P (.tup xs) S
  | _ => False
theorem cq_tup : CalQ K T (fun xs H Q => ∃ p ys, xs = [.ref p] ∧ ((SqL K H p ys ∧ ∀ l, H l = none → Q (.ref l) (upd H l (.tup ys))) ∨ (SqT K H p ys ∧ Q (.ref p) H))) fTup := fun vs ps H S P Q rl rep h k => by
  match ps, h with
  | [.tup xs], h =>
    obtain ⟨v, w, e1, h1, h2⟩ := rl
    have h2 : w = [] := h2
    subst e1; subst h2
    obtain ⟨a, us, e1, s, t⟩ := h1
    subst e1
    exact ⟨a, us, rfl, .inr ⟨SqT.of s, k (.ref a) (.tup xs) H S Fr.refl ⟨a, us, rfl, s, t⟩ rep h⟩⟩
  | [.ktp xs], h =>
    obtain ⟨v, w, e1, h1, h2⟩ := rl
    have h2 : w = [] := h2
    subst e1; subst h2
    obtain ⟨a, us, e1, s, t⟩ := h1
    subst e1
    exact ⟨a, us, rfl, .inr ⟨s, k (.ref a) (.ktp xs) H S Fr.refl ⟨a, us, rfl, s, t⟩ rep h⟩⟩
  | [.lsv xs], h =>
    obtain ⟨v, w, e1, h1, h2⟩ := rl
    have h2 : w = [] := h2
    subst e1; subst h2
    obtain ⟨a, us, e1, s, t⟩ := h1
    subst e1
    exact ⟨a, us, rfl, .inl ⟨s.sq, fun n hn => k (.ref n) (.tup xs) _ S (Fr.hid hn) ⟨n, us, rfl, upd_same, Rls.mono (le_new hn) _ _ t⟩ (rep.hid hn) h⟩⟩
  | [.ref q], h =>
    unfold fTup at h
    simp only at h
    obtain ⟨v, w, e1, h1, h2⟩ := rl
    have h2 : w = [] := h2
    subst e1; subst h2
    have h1 : v = .ref q := h1
    subst h1
    cases z : S q with
    | none => rw [z] at h; exact h.elim
    | some ob =>
      rw [z] at h
      cases ob with
      | lst xs =>
        obtain ⟨us, e1, t⟩ := rep.ob q _ z
        exact ⟨q, us, rfl, .inl ⟨SqL.of e1, fun n hn => k (.ref n) (.tup xs) _ S (Fr.hid hn) ⟨n, us, rfl, upd_same, Rls.mono (le_new hn) _ _ t⟩ (rep.hid hn) h⟩⟩
      | _ => exact h.elim
/-- tuple(a new list) -/
def qTupL (q : QTA) : QTE := fun τ S P EP => q τ S (fun xs S1 => P (.tup xs) S1) EP
theorem q_tupL (hg : Gl X "tuple") (hm : X.mg "tuple" = none) (ha : QL X T W e q) (he : starEach [e] X.env = [(false, eval e X.env)] := by rfl) : QE X T W (.Call (.Name "tuple" p) [e] [] pos) (qTupL q) :=
  pe_imp (pe_callTy call_tuple_of hg hm (by decide +kernel) (pa_cons ha pa_nil he) (he := he)) fun σ H Q ⟨τ, S, P, EP, h1, h2, h3, h4, h5⟩ =>
    ⟨τ, S, _, EP, h1, h2, h3, fun a vs ps H1 S1 fr g n nu rl rep hp => ⟨a, vs, rfl, .inl ⟨SqL.of g, fun n hn =>
      h4 (.ref n) (.tup ps) _ S1 (fr.trans (Fr.hid hn)) ⟨n, vs, rfl, upd_same, Rls.mono (le_new hn) _ _ rl⟩ (rep.hid hn) hp⟩⟩, h5⟩
/-- list(x) -/
def qListV (q : QTE) : QTA := fun τ S P EP => q τ S (fun x S1 => match seqOf x S1 with
  | some xs => P xs S1
  | none => False) EP
theorem ql_list {q : QTE} (hg : Gl X "list") (hm : X.mg "list" = none) (ha : QE X T W e q) (he : starEach [e] X.env = [(false, eval e X.env)] := by rfl) : QL X T W (.Call (.Name "list" p) [e] [] pos) (qListV q) :=
  pe_imp (pe_callTy call_list_of hg hm (by decide +kernel) (pa_cons ha pa_nil he) (he := he)) fun σ H Q ⟨τ, S, P, EP, h1, h2, h3, h4, h5⟩ =>
    ⟨τ, S, _, EP, h1, h2, h3, fun v x H1 S1 fr rl rep hp => by
      cases z : seqOf x S1 with
      | none => rw [z] at hp; exact hp.elim
      | some xs =>
        rw [z] at hp
        obtain ⟨a, us, e1, s, t⟩ := seq_of rl rep z
        subst e1
        exact ⟨a, us, rfl, s, fun n hn => h4 n us xs _ S1 (fr.trans (Fr.hid hn)) upd_same (rep.free hn) (Nu.of fr hn) (Rls.mono (le_new hn) _ _ t) (rep.hid hn) hp⟩, h5⟩
/-- isinstance(x, T), T built in -/
def kindOf (x : PV) (S : Sto) : Option String := match x with
  | .non => some "NoneType"
  | .bl _ => some "bool"
  | .int _ => some "int"
  | .str _ => some "str"
  | .tup _ => some "tuple"
  | .ref q => match S q with
    | some (.lst _) => some "list"
    | some (.dic _ _) => some "dict"
    | _ => none
  | .lsv _ => some "list"
  | .exv _ _ _ _ _ => none
  | .lam _ _ _ _ _ => none
  | .ktp _ => some "tuple"
  | .ty _ => none
def isKind (k t : String) : Bool := k == t || (k == "bool" && t == "int")
def fIsi : FCal := fun ps S P => match ps with
  | [x, .ty t] => match kindOf x S with
    | some k => P (.bl (isKind k t)) S
    | none => False
  | _ => False
theorem kind_ty {v : V} {x : PV} {k : String} (rl : Rl K H v x) (rep : Rep K T S H) (h : kindOf x S = some k) : TyX K H v (.type k) := by
  cases x with
  | non =>
    have e : v = .non := rl
    cases h; subst e
    exact .base .non
  | bl c =>
    have e : v = .bl c := rl
    cases h; subst e
    exact .base (.bl c)
  | int i =>
    have e : v = .int i := rl
    cases h; subst e
    exact .base (.int i)
  | str cs =>
    have e : v = .str ⟨cs.toArray⟩ := rl
    cases h; subst e
    exact .base (.str _)
  | tup xs =>
    obtain ⟨a, us, e2, s1, t1⟩ := rl
    cases h; subst e2
    exact .base (.tup s1)
  | ktp xs =>
    obtain ⟨a, us, e2, s1, t1⟩ := rl
    cases h; subst e2
    rcases s1 with (s1 | ⟨ob, s1⟩) | ⟨o, its, n, hk, hc, _⟩
    · exact .base (.tup s1)
    · exact .fTuple s1
    · exact .kTuple hk hc
  | lsv xs =>
    obtain ⟨a, us, e2, s1, t1⟩ := rl
    cases h; subst e2
    rcases s1 with ⟨ob, s1⟩ | (s1 | ⟨ob, s1⟩) | ⟨o, its, n, hk, hc, _⟩
    · exact .base (.frz s1)
    · cases s1
    · cases s1
    · exact .kList hk hc
  | ref q =>
    have e : v = .ref q := rl
    subst e
    unfold kindOf at h
    simp only at h
    cases z : S q with
    | none => rw [z] at h; cases h
    | some ob =>
      rw [z] at h
      cases ob with
      | lst ys =>
        cases h
        obtain ⟨us, e1, t1⟩ := rep.ob q _ z
        exact .base (.lst e1)
      | dic t kvs =>
        cases h
        obtain ⟨u, e1, d⟩ := rep.ob q _ z
        cases t with
        | false =>
          obtain ⟨ks, rfl, _⟩ := d
          exact .base (.dK e1)
        | true =>
          obtain ⟨ks, rfl, _⟩ := d
          exact .base (.dT e1)
      | fdi t kvs => cases h
      | ins C fs => cases h
  | ty n => cases h
  | exv a C d ns ps => cases h
  | lam f c q vs ps => cases h
theorem kit_all : ∀ k ∈ ["NoneType", "bool", "int", "str", "tuple", "list", "dict"], ∀ t ∈ ["bool", "int", "str", "tuple", "list", "dict"], kitB k t = some (isKind k t) := by decide +kernel
theorem kind_in {x : PV} {k : String} (h : kindOf x S = some k) : k ∈ ["NoneType", "bool", "int", "str", "tuple", "list", "dict"] := by
  cases x with
  | ref q =>
    unfold kindOf at h
    simp only at h
    cases z : S q with
    | none => rw [z] at h; cases h
    | some ob =>
      rw [z] at h
      cases ob <;> cases h <;> simp
  | ty n => cases h
  | exv a C d ns ps => cases h
  | lam f c q vs ps => cases h
  | _ => cases h; simp
theorem cq_isi (t : String) (ht : t ∈ ["bool", "int", "str", "tuple", "list", "dict"]) : CalQ K T (rIsi K) (fun ps S P => match ps with | [x, .ty t'] => t' = t ∧ fIsi [x, .ty t] S P | _ => False) := fun vs ps H S P Q rl rep h k => by
  match ps, h with
  | [x, .ty t'], ⟨et, h⟩ =>
    subst et
    obtain ⟨v, w, e1, h1, v2, w2, e2, h2, h3⟩ := rl
    have h2 : v2 = .ty t' := h2
    have h3 : w2 = [] := h3
    subst h2; subst h3; subst e2; subst e1
    unfold fIsi at h
    simp only at h
    cases z : kindOf x S with
    | none => rw [z] at h; exact h.elim
    | some kd =>
      rw [z] at h
      exact ⟨v, .ty t', .type kd, .type t', isKind kd t', rfl, .ty t', kind_ty h1 rep z, kit_ty (kit_all kd (kind_in z) t' ht), k (.bl _) (.bl _) H S Fr.refl rfl rep h⟩
theorem q_ty {x : Str} {Ty : String} (hg : Gl X x) (hm : X.mg x = none) (hv : bootBuiltins x = some (.type Ty)) (hn : x ≠ "__name__" := by decide) (hdb : (x == ("__debug__" : Str)) = false := by decide) : QE X T W (.Name x pos) (qC (.ty Ty)) :=
  q_con (pe_bltn (v := .ty Ty) hg hm hv rfl hn hdb) fun _ => rfl
/-- isinstance(x, T) -/
def qIsi (t : String) (q : QTE) : QTE := fun τ S P EP => q τ S (fun x S1 => match kindOf x S1 with
  | some k => P (.bl (isKind k t)) S1
  | none => False) EP
theorem q_isi {x2 : Str} {Ty : String} {q : QTE} {p2 : Pos} (hg : Gl X "isinstance") (hm : X.mg "isinstance" = none) (hg2 : Gl X x2) (hm2 : X.mg x2 = none) (hv2 : bootBuiltins x2 = some (.type Ty)) (ht : Ty ∈ ["bool", "int", "str", "tuple", "list", "dict"]) (ha : QE X T W e q)
    (hn : x2 ≠ "__name__" := by decide) (hdb : (x2 == ("__debug__" : Str)) = false := by decide) (he : starEach [e, .Name x2 p2] X.env = (false, eval e X.env) :: starEach [.Name x2 p2] X.env := by rfl) : QE X T W (.Call (.Name "isinstance" p) [e, .Name x2 p2] [] pos) (qIsi Ty q) :=
  pe_imp (pe_callB call_isi hg hm (by decide +kernel) (pa_cons ha (pa_cons (q_ty (T := T) (W := W) hg2 hm2 hv2 hn hdb) pa_nil) he) (he := he)) fun σ H Q h =>
    up_then (RR := Rl X.K) (RR' := Rl X.K) (qk := fun x _ S1 P _ => match kindOf x S1 with | some k => P (PV.bl (isKind k Ty)) S1 | none => False) h fun v x H1 l rl ⟨τ, S, P, EP, rs, rep, hf, k, _⟩ => by
      refine ⟨τ, S, fun y S2 => y = .ty Ty ∧ S2 = S, fun _ _ => False, rs, rep, ⟨rfl, rfl⟩, fun v2 y H2 S2 fr r2 rep2 ⟨ey, eS⟩ => ?_, fun _ _ _ _ _ _ _ _ z => z.elim⟩
      subst eS; subst ey
      have e2 : v2 = .ty Ty := r2
      subst e2
      cases z : kindOf x S2 with
      | none => rw [z] at hf; exact hf.elim
      | some kd =>
        rw [z] at hf
        exact ⟨v, .ty Ty, .type kd, .type Ty, isKind kd Ty, rfl, .ty Ty, kind_ty (Rl.mono (fr.le rep) _ _ rl) rep2 z, kit_ty (kit_all kd (kind_in z) Ty ht), k (.bl _) (.bl _) H2 S2 fr rfl rep2 hf⟩
end
end Mp

set_option Elab.async false
set_option linter.all false
set_option maxRecDepth 100000
namespace Mp
open PySem L2

section
variable {X : Cx} {T : List (Addr × Str)} {W : WX} {e a b tg : Expr} {es : List Expr} {K : PySem.W.Frag} {S S' S0 S1 : Sto} {H H' H0 H1 : Hp} {σ : St} {τ : PSt} {PD : PEnds} {D : Ends} {pos p : Pos} {q : QTA}

/-! ### what a for walks -/
abbrev kT : Sto → Prop := fun _ => True
@[irreducible] def rangeP (lo : Int) (n : Nat) : List PV := (List.range n).map fun i => PV.int (lo + (i : Nat))
theorem rangeP_length {lo : Int} {n : Nat} : (rangeP lo n).length = n := by simp [rangeP]
theorem walkP_range {lo : Int} {n : Nat} : WalkP K T (Itr lo n) ⟨rangeP lo n, kT⟩ S0 H0 := fun S H fr rep _ => by
  refine ⟨by show n ≤ (rangeP lo n).length; rw [rangeP_length]; exact Nat.le_refl _, fun i p h => ?_⟩
  have hi : i < n := by
    have := (List.getElem?_eq_some_iff.mp h).1
    rwa [rangeP_length] at this
  refine ⟨hi, fun x H' y => ?_⟩
  obtain ⟨e, ex⟩ := y
  subst e; subst ex
  refine ⟨Fr.refl, rep, ?_⟩
  have h2 : p = .int (lo + (i : Nat)) := by
    have h : (rangeP lo n)[i]? = some p := h
    simp [rangeP, hi] at h
    exact h.symm
  subst h2
  exact rfl
theorem walkP_sto {c : Addr} {ps : List PV} (_ : True) : WalkP K T (Itl K c) ⟨ps, fun S => S c = some (.lst ps)⟩ S0 H0 := fun S H fr rep kp => by
  obtain ⟨vs, e, t⟩ := rep.ob c _ kp
  have sq : SqL K H c vs := SqL.of e
  refine ⟨⟨vs, sq, by rw [Rls.length t]; exact Nat.le_refl _⟩, fun i p h => ?_⟩
  obtain ⟨v, h1, h2⟩ := t.get h
  refine ⟨⟨vs, v, sq, h1⟩, fun x H' y => ?_⟩
  obtain ⟨e, ex⟩ := y
  subst e
  have := ex vs sq
  rw [h1] at this
  cases this
  exact ⟨Fr.refl, rep, h2⟩
/-- a list that stands still or is hidden, at every later heap -/
theorem walkP_still {c : Addr} {ps : List PV} (hs : ∀ S H, Fr S0 H0 S H → Rep K T S H → ∃ vs, SqL K H c vs ∧ Rls K H vs ps) : WalkP K T (Itl K c) ⟨ps, kT⟩ S0 H0 := fun S H fr rep _ => by
  obtain ⟨vs, sq, t⟩ := hs S H fr rep
  refine ⟨⟨vs, sq, by rw [Rls.length t]; exact Nat.le_refl _⟩, fun i p h => ?_⟩
  obtain ⟨v, h1, h2⟩ := t.get h
  refine ⟨⟨vs, v, sq, h1⟩, fun x H' y => ?_⟩
  obtain ⟨e, ex⟩ := y
  subst e
  have := ex vs sq
  rw [h1] at this
  cases this
  exact ⟨Fr.refl, rep, h2⟩
theorem walkP_tup {c : Addr} {ps : List PV} {vs : List V} (sq : SqT K H0 c vs) (t : Rls K H0 vs ps) (rep0 : Rep K T S0 H0) : WalkP K T (Itt K c) ⟨ps, kT⟩ S0 H0 := fun S H fr rep _ => by
  have sq := (fr.le rep0).sq sq
  have t := Rls.mono (fr.le rep0) _ _ t
  refine ⟨⟨vs, sq, by rw [Rls.length t]; exact Nat.le_refl _⟩, fun i p h => ?_⟩
  obtain ⟨v, h1, h2⟩ := t.get h
  refine ⟨⟨vs, v, sq, h1⟩, fun x H' y => ?_⟩
  obtain ⟨e, ex⟩ := y
  subst e
  have := ex vs sq
  rw [h1] at this
  cases this
  exact ⟨Fr.refl, rep, h2⟩
theorem hid_still {c : Addr} {ps : List PV} {vs : List V} (g : H0 c = some (.lst vs)) (n : S0 c = none) (t : Rls K H0 vs ps) (rep0 : Rep K T S0 H0) : ∀ S H, Fr S0 H0 S H → Rep K T S H → ∃ vs, SqL K H c vs ∧ Rls K H vs ps :=
  fun S H fr _ => ⟨vs, SqL.of (fr c _ g (fun _ z => nomatch z) (.inl n)).1, Rls.mono (fr.le rep0) _ _ t⟩
def qiR1 (q : QTA) : QTI := fun τ S P EP => q τ S (fun xs S1 => match xs with
  | [.int j] => (-(2 ^ 62) ≤ j ∧ j < 2 ^ 62) ∧ P ⟨rangeP 0 j.toNat, kT⟩ S1
  | _ => False) EP
def qiR2 (q : QTA) : QTI := fun τ S P EP => q τ S (fun xs S1 => match xs with
  | [.int i, .int j] => (-(2 ^ 62) ≤ i ∧ i < 2 ^ 62 ∧ -(2 ^ 62) ≤ j ∧ j < 2 ^ 62) ∧ P ⟨rangeP i (j - i).toNat, kT⟩ S1
  | _ => False) EP
theorem rls_i {vs : List V} {i : Int} (rl : Rls K H vs [.int i]) : vs = [.int i] := by
  obtain ⟨v, w, e1, h1, h2⟩ := rl
  have h1 : v = .int i := h1
  have h2 : w = [] := h2
  subst h1; subst h2
  exact e1
theorem qi_r1 (hg : Gl X "range") (hm : X.mg "range" = none) (ha : QA X T W [a] q) (hs : starEach [a] X.env = [(false, eval a X.env)] := by rfl) : QI X T W tg (.Call (.Name "range" p) [a] [] pos) (qiR1 q) :=
  pi_imp (pi_range1 hg hm ha hs) fun σ H R ⟨τ, S, P, EP, h1, h2, h3, h4, h5⟩ => ⟨τ, S, _, EP, h1, h2, h3, fun vs ps H' S' fr rl rep hp => by
    match ps, hp with
    | [.int j], ⟨hb, hp⟩ => exact ⟨j, rls_i rl, hb.1, hb.2, h4 _ ⟨rangeP 0 j.toNat, kT⟩ H' S' fr walkP_range trivial rep hp⟩, h5⟩
theorem qi_r2 (hg : Gl X "range") (hm : X.mg "range" = none) (ha : QA X T W [a, b] q) (hs : starEach [a, b] X.env = [(false, eval a X.env), (false, eval b X.env)] := by rfl) (hs2 : starEach [b] X.env = [(false, eval b X.env)] := by rfl) :
    QI X T W tg (.Call (.Name "range" p) [a, b] [] pos) (qiR2 q) :=
  pi_imp (pi_range2 hg hm ha hs hs2) fun σ H R ⟨τ, S, P, EP, h1, h2, h3, h4, h5⟩ => ⟨τ, S, _, EP, h1, h2, h3, fun vs ps H' S' fr rl rep hp => by
    match ps, hp with
    | [.int i, .int j], ⟨hb, hp⟩ => exact ⟨i, j, rls_ii rl, hb, h4 _ ⟨rangeP i (j - i).toNat, kT⟩ H' S' fr walkP_range trivial rep hp⟩, h5⟩
/-- a new list -/
def qiL (q : QTA) : QTI := fun τ S P EP => q τ S (fun xs S1 => P ⟨xs, kT⟩ S1) EP
theorem qi_l (h : QL X T W e q) : QI X T W tg e (qiL q) :=
  pi_imp (pi_list h) fun σ H R ⟨τ, S, P, EP, h1, h2, h3, h4, h5⟩ => ⟨τ, S, _, EP, h1, h2, h3, fun c vs ps H' S' fr g n nu rl rep hp =>
    ⟨c, rfl, ⟨vs, SqL.of g⟩, h4 _ ⟨ps, kT⟩ H' S' fr (walkP_still (hid_still g n rl rep)) trivial rep hp⟩, h5⟩
/-- a value: a tuple, a list, a text -/
def strP (cs : List Nat) : List PV := cs.map fun c => PV.str [c]
def qiV (q : QTE) : QTI := fun τ S P EP => q τ S (fun x S1 => match x with
  | .tup xs => P ⟨xs, kT⟩ S1
  | .ktp xs => P ⟨xs, kT⟩ S1
  | .lsv xs => P ⟨xs, kT⟩ S1
  | .str cs => P ⟨strP cs, kT⟩ S1
  | .ref c => match S1 c with
    | some (.lst xs) => P ⟨xs, fun S => S c = some (.lst xs)⟩ S1
    | _ => False
  | _ => False) EP
theorem iter_l {pins : List (Addr × Obj)} {s : Shared} {c : Addr} {xs : List V} {R : It → Hp → Prop} {E : Value → Shared → Prop} (I : Inv X pins σ H s) (hq : SqL X.K H c xs) (hR : R (Itl X.K c) H) :
    wpAny (model X.prog X.w) X.A (pyIter (.ref c)) (PIE X pins σ tg R) E s := by
  obtain ⟨its, rv, pl, hz⟩ := I.list hq
  refine wpAny_pyIter_list pl.isList ⟨s.heap.objs.size, [s.heap.objs.size], _, _, H, rfl, I.kept (t' := s.toks) fun b o e => Heap.get?_push_of_some _ e, turn_list c _, ⟨_, Heap.get?_push_size _ rfl, rfl, rfl⟩, fun b hb => ?_, hR⟩
  obtain rfl : b = s.heap.objs.size := by simpa using hb
  exact I.fpOk (Nat.le_refl _) (I.hok.fresh (Nat.le_refl _))
theorem iter_t {pins : List (Addr × Obj)} {s : Shared} {c : Addr} {xs : List V} {R : It → Hp → Prop} {E : Value → Shared → Prop} (I : Inv X pins σ H s) (hq : SqT X.K H c xs) (hR : R (Itt X.K c) H) :
    wpAny (model X.prog X.w) X.A (pyIter (.ref c)) (PIE X pins σ tg R) E s := by
  obtain ⟨its, rv, pl, hz⟩ := I.tuple hq
  refine wpAny_pyIter_tuple pl ⟨s.heap.objs.size, [s.heap.objs.size], _, _, H, rfl, I.kept (t' := s.toks) fun b o e => Heap.get?_push_of_some _ e, turn_tuple c _, ⟨_, Heap.get?_push_size _ rfl, rfl, rfl⟩, fun b hb => ?_, hR⟩
  obtain rfl : b = s.heap.objs.size := by simpa using hb
  exact I.fpOk (Nat.le_refl _) (I.hok.fresh (Nat.le_refl _))
theorem iter_s {pins : List (Addr × Obj)} {s : Shared} {x : Str} {t : Tok} {R : It → Hp → Prop} {E : Value → Shared → Prop} (I : Inv X pins σ H s) (hR : R (Its x) H) :
    wpAny (model X.prog X.w) X.A (pyIter (.str x t)) (PIE X pins σ tg R) E s := by
  cases ha : x.cps.all (· < 128)
  · exact wpAny_pyIter_wide ha (pi_one (tk := s.toks) I _ (turn_str _ x t "str_iterator" (.inr rfl)) ⟨_, Heap.get?_push_size _ rfl, rfl, rfl⟩ hR)
  · exact wpAny_pyIter_ascii ha (pi_one (tk := s.toks) I _ (turn_str _ x t "str_ascii_iterator" (.inl rfl)) ⟨_, Heap.get?_push_size _ rfl, rfl, rfl⟩ hR)
theorem walkP_str {cs : List Nat} : WalkP K T (Its ⟨cs.toArray⟩) ⟨strP cs, kT⟩ S0 H0 := fun S H fr rep _ => by
  refine ⟨?_, fun i p h => ?_⟩
  · show cs.toArray.size ≤ (strP cs).length
    rw [strP, List.length_map, List.size_toArray]
    exact Nat.le_refl _
  · have h : (strP cs)[i]? = some p := h
    unfold strP at h
    rw [List.getElem?_map] at h
    cases z : cs[i]? with
    | none => rw [z] at h; cases h
    | some c =>
      rw [z] at h
      cases h
      have hl := (List.getElem?_eq_some_iff.mp z).1
      refine ⟨by show i < cs.toArray.size; rw [List.size_toArray]; exact hl, fun x H' ⟨eH, c', hc, ex⟩ => ?_⟩
      subst eH; subst ex
      have hc : cs.toArray[i]? = some c' := hc
      rw [List.getElem?_toArray, z] at hc
      cases hc
      exact ⟨Fr.refl, rep, rfl⟩
theorem qi_v {q : QTE} (h : QE X T W e q) : QI X T W tg e (qiV q) := by
  refine ⟨fun pins s σ H R I ⟨τ, S, P, EP, h1, h2, h3, h4, h5⟩ => ?_⟩
  refine thn (h.run pins s σ H (fun v H1 => ∃ x S1, Fr S H S1 H1 ∧ Rl X.K H1 v x ∧ Rep X.K T S1 H1 ∧ (match x with
    | .tup xs => P ⟨xs, kT⟩ S1
    | .ktp xs => P ⟨xs, kT⟩ S1
    | .lsv xs => P ⟨xs, kT⟩ S1
    | .str cs => P ⟨strP cs, kT⟩ S1
    | .ref c => match S1 c with
      | some (.lst xs) => P ⟨xs, fun S => S c = some (.lst xs)⟩ S1
      | _ => False
    | _ => False)) I ⟨τ, S, _, EP, h1, h2, h3, fun v x H1 S1 fr rl rep hp => ⟨x, S1, fr, rl, rep, hp⟩, h5⟩) fun u s1 ⟨v, H1, I1, r1, x, S1, fr, rl, rep, hp⟩ => ?_
  cases x with
  | tup xs =>
    obtain ⟨c, vs, e1, sq, t⟩ := rl
    subst e1
    cases r1
    exact iter_t I1 (SqT.of sq) (h4 _ ⟨xs, kT⟩ H1 S1 fr (walkP_tup (SqT.of sq) t rep) trivial rep hp)
  | ktp xs =>
    obtain ⟨c, vs, e1, sq, t⟩ := rl
    subst e1
    cases r1
    exact iter_t I1 sq (h4 _ ⟨xs, kT⟩ H1 S1 fr (walkP_tup sq t rep) trivial rep hp)
  | lsv xs =>
    obtain ⟨c, vs, e1, sq, t⟩ := rl
    subst e1
    cases r1
    exact iter_l I1 sq.sq (h4 _ ⟨xs, kT⟩ H1 S1 fr (walkP_still fun S2 H2 f2 _ => ⟨vs, ((f2.le rep).sqf sq).sq, Rls.mono (f2.le rep) _ _ t⟩) trivial rep hp)
  | str cs =>
    have e1 : v = .str ⟨cs.toArray⟩ := rl
    subst e1
    obtain ⟨t, rfl⟩ := r1
    exact iter_s I1 (h4 _ ⟨strP cs, kT⟩ H1 S1 fr walkP_str trivial rep hp)
  | ref c =>
    have e1 : v = .ref c := rl
    subst e1
    cases r1
    simp only at hp
    cases z : S1 c with
    | none => rw [z] at hp; exact hp.elim
    | some ob =>
      rw [z] at hp
      cases ob with
      | lst xs =>
        obtain ⟨vs, e2, t⟩ := rep.ob c _ z
        exact iter_l I1 (SqL.of e2) (h4 _ ⟨xs, fun S => S c = some (.lst xs)⟩ H1 S1 fr (walkP_sto trivial) z rep hp)
      | _ => exact hp.elim
  | _ => exact hp.elim
/-- reversed(a list) -/
theorem walkP_rev {c : Addr} {ps : List PV} {n : Nat} (hn : n = ps.length) {keep : Sto → Prop} (hs : ∀ S H, Fr S0 H0 S H → Rep K T S H → keep S → ∃ vs, SqL K H c vs ∧ Rls K H vs ps) : WalkP K T (Itv K c n) ⟨ps.reverse, keep⟩ S0 H0 := fun S H fr rep kp => by
  obtain ⟨vs, sq, t⟩ := hs S H fr rep kp
  have el : vs.length = ps.length := Rls.length t
  rw [hn, ← el]
  have w := walk_rev (K := K) (a := c) (xs := vs)
  refine ⟨?_, fun i p h => ?_⟩
  · show (Itv K c vs.length).stop ps.reverse.length H
    rw [List.length_reverse, ← el]
    exact w.stops H sq
  · have hi : i < ps.length := by
      have := (List.getElem?_eq_some_iff.mp h).1
      rwa [List.length_reverse] at this
    have h2 : ps[ps.length - 1 - i]? = some p := by
      have h : ps.reverse[i]? = some p := h
      rwa [List.getElem?_reverse hi] at h
    obtain ⟨v, h3, h4⟩ := t.get h2
    refine ⟨w.goes i H (by omega) sq, fun x H' y => ?_⟩
    obtain ⟨e, ex⟩ := w.yields i H x H' (by omega) sq y
    subst e
    rw [el, h3] at ex
    cases ex
    exact ⟨Fr.refl, rep, h4⟩
def qiRev (q : QTE) : QTI := fun τ S P EP => q τ S (fun x S1 => match x with
  | .lsv xs => P ⟨xs.reverse, kT⟩ S1
  | .ref c => match S1 c with
    | some (.lst xs) => P ⟨xs.reverse, fun S => S c = some (.lst xs)⟩ S1
    | _ => False
  | _ => False) EP
theorem qi_rev {q : QTE} (hg : Gl X "reversed") (hm : X.mg "reversed" = none) (ha : QE X T W e q) (hs : starEach [e] X.env = [(false, eval e X.env)] := by rfl) : QI X T W tg (.Call (.Name "reversed" p) [e] [] pos) (qiRev q) :=
  pi_imp (pi_reversed hg hm (pa_cons ha pa_nil hs) hs) fun σ H R ⟨τ, S, P, EP, h1, h2, h3, h4, h5⟩ => ⟨τ, S, _, EP, h1, h2, h3, fun v x H1 S1 fr rl rep hp => by
    cases x with
    | lsv xs =>
      obtain ⟨c, vs, e1, sq, t⟩ := rl
      subst e1
      exact ⟨c, vs, rfl, sq.sq, h4 _ ⟨xs.reverse, kT⟩ H1 S1 fr (walkP_rev (Rls.length t) fun S2 H2 f2 _ _ => ⟨vs, ((f2.le rep).sqf sq).sq, Rls.mono (f2.le rep) _ _ t⟩) trivial rep hp⟩
    | ref c =>
      have e1 : v = .ref c := rl
      subst e1
      simp only at hp
      cases z : S1 c with
      | none => rw [z] at hp; exact hp.elim
      | some ob =>
        rw [z] at hp
        cases ob with
        | lst xs =>
          obtain ⟨vs, e2, t⟩ := rep.ob c _ z
          exact ⟨c, vs, rfl, SqL.of e2, h4 _ ⟨xs.reverse, fun S => S c = some (.lst xs)⟩ H1 S1 fr (walkP_rev (Rls.length t) fun S2 H2 f2 r2 kp => (let ⟨vs, e, t⟩ := r2.ob c _ kp; ⟨vs, SqL.of e, t⟩)) z rep hp⟩
        | _ => exact hp.elim
    | _ => exact hp.elim, h5⟩

/-! ### methods of lists -/
abbrev FMt := Addr → List PV → Sto → QK PV → Prop
def MtQ (K : PySem.W.Frag) (T : List (Addr × Str)) (r : V → List V → Hp → VK → Prop) (f : FMt) : Prop := ∀ vs ps c H S (P : QK PV) (Q : VK), Rls K H vs ps → Rep K T S H → f c ps S P →
  (∀ v p H' S', Fr S H S' H' → Rl K H' v p → Rep K T S' H' → P p S' → Q v H') → r (.ref c) vs H Q
def qMl (f : FMt) (qo : QTE) (qa : QTA) : QTE := fun τ S P EP => qo τ S (fun o S1 => match o with
  | .ref c => match S1 c with
    | some (.lst _) => qa τ S1 (fun xs S2 => f c xs S2 P) EP
    | _ => False
  | _ => False) EP
theorem up_ml {r : V → List V → Hp → VK → Prop} {f : FMt} {qo : QTE} {qa : QTA} (o : MtQ K T r f) {Q : VK} (h : upG K T W (Rl K) (qMl f qo qa) σ H Q) : tBM K "list" r (upG K T W (Rl K) qo) (upG K T W (Rls K) qa) σ H Q :=
  up_then (RR := Rl K) (RR' := Rl K) (qk := fun o τ S1 P EP => match o with | .ref c => (match S1 c with | some (.lst _) => qa τ S1 (fun xs S2 => f c xs S2 P) EP | _ => False) | _ => False) h fun v x H1 l rl ⟨τ, S, P, EP, rs, rep, hf, k, kx⟩ => by
    cases x with
    | ref c =>
      have e1 : v = .ref c := rl
      subst e1
      simp only at hf
      cases z : S c with
      | none => rw [z] at hf; exact hf.elim
      | some ob =>
        rw [z] at hf
        cases ob with
        | lst xs =>
          obtain ⟨vs, e2, t⟩ := rep.ob c _ z
          refine ⟨.inl ⟨rfl, vs, SqL.of e2⟩, τ, S, _, EP, rs, rep, hf, fun us ps H2 S2 fr rl2 rep2 hp => ?_, kx⟩
          exact o us ps c H2 S2 P Q rl2 rep2 hp fun w p H3 S3 f3 => k w p H3 S3 (fr.trans f3)
        | _ => exact hf.elim
    | _ => exact hf.elim
theorem q_ml {name : Str} {id : String} {r : V → List V → Hp → VK → Prop} {f : FMt} {qo : QTE} {o e : Expr} {apos cpos : Pos} (slot : Slot "list" name id) (hty : typeOf (.builtin id) = pure (.type "method_descriptor")) (hm : MtR X id r) (hf : MtQ X.K T r f) (ho : QE X T W o qo) (ha : QA X T W (e :: es) q)
    (hbase : attributeBase o name X.env (eval o X.env) = eval o X.env := by rfl)
    (hfew : ((backTo cpos (starEach (e :: es) X.env)).all (fun x => !x.1) && (backToKw cpos (keywordEach [] X.env)).all (fun x => x.1.isSome) && decide ((e :: es).length + ([] : List Keyword).length + (if ([] : List Keyword).isEmpty then 0 else 1) < 30)) = true := by rfl)
    (hline : (apos.endLine == cpos.line) = true := by rfl) (hs : starEach (e :: es) X.env = (false, eval e X.env) :: starEach es X.env := by rfl) (hplain : (backTo cpos (starEach es X.env)).any (·.1) = false := by rfl) :
    QE X T W (.Call (.Attribute o name apos) (e :: es) [] cpos) (qMl f qo q) :=
  pe_imp (pe_bm PySem.F.plainAttrs_list slot hty hm ho ha hbase hfew hline hs hplain) fun σ H Q h => up_ml hf h
def fApp : FMt := fun c ps S P => match ps with
  | [x] => match S c with
    | some (.lst xs) => xs.length < sizeLine ∧ P .non (put S c (.lst (xs ++ [x])))
    | _ => False
  | _ => False
theorem mq_app : MtQ K T rAppend fApp := fun vs ps c H S P Q rl rep h k => by
  match ps, h with
  | [x], h =>
    unfold fApp at h
    simp only at h
    obtain ⟨v, w, e1, h1, h2⟩ := rl
    have h2 : w = [] := h2
    subst h2; subst e1
    cases z : S c with
    | none => rw [z] at h; exact h.elim
    | some ob =>
      rw [z] at h
      cases ob with
      | lst xs =>
        obtain ⟨us, e2, t⟩ := rep.ob c _ z
        refine ⟨c, us, v, rfl, rfl, e2, by rw [Rls.length t]; exact h.1, k .non .non _ _ (Fr.wr z) rfl (rep.wr (ob := .lst (xs ++ [x])) z fun le => ⟨_, upd_same, Rls.mono le _ _ (Rls.append t (Rls.one h1))⟩) h.2⟩
      | _ => exact h.elim
theorem q_append {qo : QTE} {o e : Expr} {apos cpos : Pos} (ho : QE X T W o qo) (ha : QA X T W (e :: es) q)
    (hbase : attributeBase o "append" X.env (eval o X.env) = eval o X.env := by rfl)
    (hfew : ((backTo cpos (starEach (e :: es) X.env)).all (fun x => !x.1) && (backToKw cpos (keywordEach [] X.env)).all (fun x => x.1.isSome) && decide ((e :: es).length + ([] : List Keyword).length + (if ([] : List Keyword).isEmpty then 0 else 1) < 30)) = true := by rfl)
    (hline : (apos.endLine == cpos.line) = true := by rfl) (hs : starEach (e :: es) X.env = (false, eval e X.env) :: starEach es X.env := by rfl) (hplain : (backTo cpos (starEach es X.env)).any (·.1) = false := by rfl) :
    QE X T W (.Call (.Attribute o "append" apos) (e :: es) [] cpos) (qMl fApp qo q) :=
  q_ml PySem.F.slot_list_append PySem.F.type_list_append mt_append mq_app ho ha hbase hfew hline hs hplain

/-! ### name op= e -/
def qAug (i : Nat) (f : FO2) (q : QTE) : QTS := fun D τ S => match look τ i with
  | some x => q τ S (fun y S1 => f x y S1 (fun z S2 => D.nx (τ.set i (some z)) S2)) (exAt D τ)
  | none => False
theorem qs_aug {i : Nat} {x : Str} {op : Operator} {r : R2} {f : FO2} {q : QTE} {pos' : Pos} (hr : OpR X (inplaceOp op) r) (o : OpQ X.K T r f) (hN : X.N.Nodup) (he : QE X T W e q) (hi : X.N[i]? = some x := by rfl) (hx : Loc X.env.scope x := by first | exact Or.inl rfl | exact Or.inr rfl)
    (hf : X.fn x = true ∨ X.env.scope.names.lookup x = some .local := by first | exact .inl rfl | exact .inr rfl | assumption) : QS X T W (.AugAssign (.Name x pos') op e pos) (qAug i f q) :=
  ps_imp (ps_aug hN hi hx he hr hf) fun D σ H ⟨τ, S, PD, rs, rep, h, c⟩ => by
    unfold qAug at h
    cases z : look τ i with
    | none => rw [z] at h; exact h.elim
    | some y =>
      rw [z] at h
      obtain ⟨v, e1, rl⟩ := rs.2 i y (look_get τ i y z)
      refine ⟨v, e1, con_up rs rep c h fun w y2 H1 S1 fr rs1 rl2 rep1 hp => ?_⟩
      exact o v w y y2 H1 S1 _ _ (Rl.mono (fr.le rep) _ _ rl) rl2 rep1 hp fun u p H2 S2 f2 rl3 rep2 hp2 => c.nx _ _ H2 S2 (fr.trans f2) ((rs1.mono (f2.le rep1)).set rl3) rep2 hp2
def fAddA : FO2 := fun x y S P => match x, y with
  | .int i, .int j => P (.int (i + j)) S
  | .str c, .str d => c.length + d.length ≤ sizeLine ∧ P (.str (c ++ d)) S
  | _, _ => False
theorem qs_augAdd {i : Nat} {x : Str} {q : QTE} {pos' : Pos} (hN : X.N.Nodup) (he : QE X T W e q) (hi : X.N[i]? = some x := by rfl) (hx : Loc X.env.scope x := by first | exact Or.inl rfl | exact Or.inr rfl)
    (hf : X.fn x = true ∨ X.env.scope.names.lookup x = some .local := by first | exact .inl rfl | exact .inr rfl | assumption) : QS X T W (.AugAssign (.Name x pos') .Add e pos) (qAug i fAddA q) :=
  qs_aug (r := fun x y H Q => rAddI x y H Q ∨ rAddS x y H Q) (OpR.or iop_add iop_add_str) (fun x y p1 p2 H S P Q r1 r2 rep h k => by
    cases p1 <;> cases p2 <;> try exact h.elim
    case int.int i j => exact .inl ⟨i, j, r1, r2, k (.int (i + j)) (.int (i + j)) H S Fr.refl rfl rep h⟩
    case str.str c d =>
      refine .inr ⟨_, _, r1, r2, by rw [str_len, str_len]; exact h.1, ?_⟩
      rw [str_app]
      exact k (.str ⟨(c ++ d).toArray⟩) (.str (c ++ d)) H S Fr.refl rfl rep h.2
    ) hN he hi hx hf
theorem qs_augSub {i : Nat} {x : Str} {q : QTE} {pos' : Pos} (hN : X.N.Nodup) (he : QE X T W e q) (hi : X.N[i]? = some x := by rfl) (hx : Loc X.env.scope x := by first | exact Or.inl rfl | exact Or.inr rfl)
    (hf : X.fn x = true ∨ X.env.scope.names.lookup x = some .local := by first | exact .inl rfl | exact .inr rfl | assumption) : QS X T W (.AugAssign (.Name x pos') .Sub e pos) (qAug i fSub q) :=
  qs_aug iop_sub (oq_int0 fun p1 p2 S P h => by
    cases p1 <;> cases p2 <;> first | exact h.elim | exact ⟨_, _, _, rfl, rfl, h, fun _ _ => rfl⟩) hN he hi hx hf
end
end Mp

set_option Elab.async false
set_option linter.all false
set_option maxRecDepth 100000
namespace Mp
open PySem PySem.Spec PyProof.Rows L2

/-! ### defs -/
/-- what is wanted, some of the store forgotten -/
@[irreducible] def Dr {α : Type} (P : α → Sto → Prop) : α → Sto → Prop := fun v S => ∃ S', Sub S' S ∧ P v S'
theorem Dr.of {α : Type} {P : α → Sto → Prop} {v : α} {S S' : Sto} (h : P v S') (s : Sub S' S) : Dr P v S := by unfold Dr; exact ⟨S', s, h⟩
theorem Dr.self {α : Type} {P : α → Sto → Prop} {v : α} {S : Sto} (h : P v S) : Dr P v S := by unfold Dr; exact ⟨S, Sub.refl, h⟩
theorem Dr.get {α : Type} {P : α → Sto → Prop} {v : α} {S : Sto} (h : Dr P v S) : ∃ S', Sub S' S ∧ P v S' := by unfold Dr at h; exact h
def st0 (m : Nat) (args : List PV) : PSt := args.map some ++ List.replicate (m - args.length) none
/-- the promise by the body's reading; m: how many names -/
def spDef (m : Nat) (r : QTS) : PSp := fun args S P E => r { nx := fun _ S' => Dr P .non S', rt := Dr P, ex := fun x _ S' => Dr E x S' } (st0 m args) S
theorem tk0 {X : Cx} : L2N.Takes X W0 := fun _ _ ⟨_, _, _, _, _, _, _, _, _, _, _, _, _, _, _, _, z⟩ => z.elim
abbrev WD (E : XK) : WX := fun c d _ H => E c d H
/-- a def of the module that keeps a promise -/
structure Fn (P : Program) (w : World) (K : PySem.W.Frag) (mg : Str → Option Value) (base : Heap) (T : List (Addr × Str)) (k : Nat) (x : Str) (st : Stmt) (n : Nat) (sp : PSp) : Prop where
  ex : ∃ (f : Addr) (fd : FuncData) (ps : List Str), mg x = some (.ref f) ∧ Fun K x x st f fd ∧ Binds K fd ps [] ∧ ps.length = n ∧ ps = (defArgs st).args.map (·.arg) ∧ FnOk P w K mg base (L2N.CX P w) k f fd ps (spOf K T n sp)
theorem rs_start {K : PySem.W.Frag} {H : Hp} {N : List Str} {vs : List V} {ps : List PV} {m : Nat} (r : Rls K H vs ps) (hm : N.length = m) : RS K H (L2.start N vs) (st0 m ps) := by
  have el := Rls.length r
  subst hm
  refine ⟨by simp [L2.start, st0, el], fun i p e => ?_⟩
  unfold st0 at e
  unfold L2.start
  by_cases hi : i < ps.length
  · rw [List.getElem?_append_left (by simpa using hi), List.getElem?_map] at e
    cases z : ps[i]? with
    | none => rw [z] at e; cases e
    | some q =>
      rw [z] at e
      cases e
      obtain ⟨v, h1, h2⟩ := r.get z
      exact ⟨v, by rw [List.getElem?_append_left (by rw [List.length_map, el]; exact hi), List.getElem?_map, h1]; rfl, h2⟩
  · rw [List.getElem?_append_right (by simpa using hi), List.getElem?_replicate] at e
    split at e <;> cases e
theorem fnok_mk {P : Program} {w : World} {K : PySem.W.Frag} {mg : Str → Option Value} {base : Heap} {T : List (Addr × Str)} {k m n : Nat} {x0 x : Str} {st : Stmt} {r : QTS} {f : Addr} {fd : FuncData} {N ps : List Str}
    (F : Fun K x0 x st f fd) (hn : ps.length = n) (hN : N.length = m) (S : FnScope N ps (defScope st))
    (body : ∀ (cdv : Value) (A : Around) (outer : List Env) (s : Shared) (H : Hp) (E : XK), Room k (A.deeper (envOfC x (defScope st) s.heap.objs.size f cdv)) →
      L2N.Takes (cxOf (L2N.CX P w) P w K mg base N x (defScope st) f cdv A outer s H E) (WD E) →
      PassesOwn (model P w) (cxOf (L2N.CX P w) P w K mg base N x (defScope st) f cdv A outer s H E).A (cxOf (L2N.CX P w) P w K mg base N x (defScope st) f cdv A outer s H E).env (cxOf (L2N.CX P w) P w K mg base N x (defScope st) f cdv A outer s H E).xe →
      (A.deeper (envOfC x (defScope st) s.heap.objs.size f cdv)).units + 64 < cLine → N.Nodup →
      QSs (cxOf (L2N.CX P w) P w K mg base N x (defScope st) f cdv A outer s H E) T (WD E) (defBody st) r) : FnOk P w K mg base (L2N.CX P w) (k + 1) f fd ps (spOf K T n (spDef m r)) := by
  obtain ⟨oc, od, kV, doc, pm, an, cdv, ct, osl, rfl, lk, hcd⟩ := F.ex
  refine fn_of lk hcd S (fun vs H Q E h => by rw [hn]; exact h.1) fun A outer s H vs Q E hr h => ?_
  obtain ⟨hl, qs, S0, PQ, EP, rl, rep, hsp, k1, k2⟩ := h
  refine ⟨_, body cdv A outer s H E hr (L2N.takes_of rfl rfl rfl rfl) (passes_of rfl) hr.units S.nd, ?_⟩
  refine ⟨st0 m qs, S0, _, rs_start rl hN, rep, hsp, ⟨fun σ' τ' H' S' fr rs rp z => ?_, fun v p H' S' fr rl rp z => ?_, fun _ _ _ _ _ _ _ z => z.elim, fun _ _ _ _ _ _ _ z => z.elim, fun c d x σ' τ' H' S' fr rs xr rp z => ?_⟩⟩
  · obtain ⟨S2, su, hp⟩ := Dr.get z
    exact k1 .non .non H' S2 (fr.sub su) rfl (rp.sub su) hp
  · obtain ⟨S2, su, hp⟩ := Dr.get z
    exact k1 v p H' S2 (fr.sub su) rl (rp.sub su) hp
  · obtain ⟨S2, su, hp⟩ := Dr.get z
    exact k2 c d x H' S2 (fr.sub su) xr (rp.sub su) hp
theorem fn_mk {P : Program} {w : World} {K : PySem.W.Frag} {mg : Str → Option Value} {base : Heap} {T : List (Addr × Str)} {k n : Nat} {x : Str} {st : Stmt} {sp : PSp} {f : Addr} {fd : FuncData} {ps : List Str}
    (hm : mg x = some (.ref f)) (F : Fun K x x st f fd) (hb : Binds K fd ps []) (hn : ps.length = n) (hp : ps = (defArgs st).args.map (·.arg)) (ok : FnOk P w K mg base (L2N.CX P w) k f fd ps (spOf K T n sp)) : Fn P w K mg base T k x st n sp := ⟨f, fd, ps, hm, F, hb, hn, hp, ok⟩

section
variable {X : Cx} {T : List (Addr × Str)} {W : WX} {e a b tg : Expr} {es : List Expr} {K : PySem.W.Frag} {S S' S0 S1 : Sto} {H H' H0 H1 : Hp} {σ : L2.St} {τ : PSt} {PD : PEnds} {D : Ends} {pos p : Pos} {q : QTA}
variable {k n : Nat} {x : Str} {st : Stmt} {sp : PSp}
theorem Fn.mono {P : Program} {w : World} {K : PySem.W.Frag} {mg : Str → Option Value} {base : Heap} {j : Nat} (F : Fn P w K mg base T j x st n sp) (h : j ≤ k) : Fn P w K mg base T k x st n sp :=
  let ⟨f, fd, ps, h1, h2, h3, h4, h5, h6⟩ := F.ex
  ⟨f, fd, ps, h1, h2, h3, h4, h5, h6.mono h⟩
/-- a weaker promise -/
theorem Fn.imp {P : Program} {w : World} {K : PySem.W.Frag} {mg : Str → Option Value} {base : Heap} {sp' : PSp} (F : Fn P w K mg base T k x st n sp) (h : ∀ args S Q E, sp' args S Q E → sp args S Q E) : Fn P w K mg base T k x st n sp' :=
  let ⟨f, fd, ps, h1, h2, h3, h4, h5, h6⟩ := F.ex
  ⟨f, fd, ps, h1, h2, h3, h4, h5, h6.imp fun vs H Q E ⟨z, as, S, P, EP, rl, rep, q, k1, k2⟩ => ⟨z, as, S, P, EP, rl, rep, h _ _ _ _ q, k1, k2⟩⟩
def qCall (n : Nat) (sp : PSp) (q : QTA) : QTE := fun τ S P EP => q τ S (fun xs S1 => xs.length = n ∧ sp xs S1 P EP) EP
theorem up_call {Q : VK} (h : upG K T W (Rl K) (qCall n sp q) σ H Q) : upG K T W (Rls K) q σ H fun vs H1 => spOf K T n sp vs H1 Q (WE W σ) :=
  up_then (RR := Rls K) (RR' := Rl K) (qk := fun xs _ S1 P EP => xs.length = n ∧ sp xs S1 P EP) h fun vs ps H1 l rl ⟨τ, S, P, EP, rs, rep, ⟨hl, hs⟩, k1, k2⟩ =>
    ⟨by rw [Rls.length rl]; exact hl, ps, S, P, EP, rl, rep, hs, k1, k2⟩
theorem q_call (F : Fn X.prog X.w X.K X.mg X.base T k x st n sp) (hr : Room k X.A) (tk : L2N.Takes X W) (hg : Gl X x) (ha : QA X T W (e :: es) q) (hdb : (x == ("__debug__" : Str)) = false := by decide)
    (he : starEach (e :: es) X.env = (false, eval e X.env) :: starEach es X.env := by rfl) (hpl : (backTo pos (starEach es X.env)).any (·.1) = false := by rfl) : QE X T W (.Call (.Name x p) (e :: es) [] pos) (qCall n sp q) := by
  obtain ⟨f, fd, ps, h1, h2, h3, h4, h5, h6⟩ := F.ex
  exact pe_imp (pe_callS h6 hr hg h1 h2.kp h3 (fun σ => L2N.passAt tk σ) ha hdb he hpl) fun σ H Q h => up_call h
/-- f() -/
def qCall0 (sp : PSp) : QTE := fun τ S P EP => sp [] S P EP
theorem q_call0 (F : Fn X.prog X.w X.K X.mg X.base T k x st 0 sp) (hr : Room k X.A) (tk : L2N.Takes X W) (hg : Gl X x) (hdb : (x == ("__debug__" : Str)) = false := by decide) : QE X T W (.Call (.Name x p) [] [] pos) (qCall0 sp) := by
  obtain ⟨f, fd, ps, h1, h2, h3, h4, h5, h6⟩ := F.ex
  refine ⟨fun pins s σ H Q I ⟨τ, S, P, EP, rs, rep, hs, k1, k2⟩ => ?_⟩
  refine wpAny_Call_Name_kw (ld_glob I hg h1 ?_ hdb)
  refine PySem.W.callWith_K0 I.kIn h2.kp ?_
  exact run_fnS (E := WE W) h6 hr h3 (L2N.passAt tk σ) I .nil ⟨rfl, [], S, P, EP, rfl, rep, hs, k1, k2⟩

/-- how keywords bind: m positional ones, j keywords, the parameters' order by places -/
def kwG {α : Type} (m j : Nat) (ix : List Nat) (us ws : List α) : List α := if us.length = m ∧ ws.length = j then ix.filterMap fun i => (us ++ ws)[i]? else []
theorem Rls.kw {m j : Nat} {ix : List Nat} {us ws : List V} {ps qs : List PV} (r1 : Rls K H us ps) (r2 : Rls K H ws qs) : Rls K H (kwG m j ix us ws) (kwG m j ix ps qs) := by
  unfold kwG
  rw [Rls.length r1, Rls.length r2]
  split
  · have r := Rls.append r1 r2
    induction ix with
    | nil => exact rfl
    | cons i ix ih =>
      cases z : (ps ++ qs)[i]? with
      | none =>
        have z2 : (us ++ ws)[i]? = none := by
          rw [List.getElem?_eq_none_iff] at z ⊢
          rw [Rls.length r]; exact z
        simp only [List.filterMap_cons, z, z2]
        exact ih
      | some p =>
        obtain ⟨v, h1, h2⟩ := r.get z
        simp only [List.filterMap_cons, z, h1]
        exact Rls.cons h2 ih
  · exact rfl
theorem vals_kw {m j : Nat} {ix : List Nat} {vs zs : List V} {us ws : List Value} (r1 : Vals vs us) (r2 : Vals zs ws) : Vals (kwG m j ix vs zs) (kwG m j ix us ws) := by
  unfold kwG
  rw [r1.length, r2.length]
  split
  · have r := r1.append r2
    induction ix with
    | nil => exact .nil
    | cons i ix ih =>
      cases z : (vs ++ zs)[i]? with
      | none =>
        have z2 := r.none_of z
        simp only [List.filterMap_cons, z, z2]
        exact ih
      | some p =>
        obtain ⟨u, h1, h2⟩ := r.get z
        simp only [List.filterMap_cons, z, h1]
        exact .cons h2 ih
  · exact .nil
theorem kb_mk {fd : FuncData} {ps ks : List Str} {m j : Nat} {ix : List Nat} (h0 : 0 < ps.length) (h : ∀ us ws : List Value, us.length = m → ws.length = j → bindArgs fd ⟨us, ks.zip ws⟩ = pure (ps.zip (kwG m j ix us ws))) : KBinds K fd ps ks (kwG m j ix) (kwG m j ix) := by
  refine ⟨fun s us ws _ hl => ?_, fun r1 r2 => vals_kw r1 r2⟩
  by_cases hc : us.length = m ∧ ws.length = j
  · exact .of_eq (h us ws hc.1 hc.2)
  · unfold kwG at hl
    rw [if_neg hc] at hl
    have hl : 0 = ps.length := hl
    omega
def qCallK (n m j : Nat) (ix : List Nat) (sp : PSp) (q qk : QTA) : QTE := fun τ S P EP => q τ S (fun xs S1 => qk τ S1 (fun ys S2 => (kwG m j ix xs ys).length = n ∧ sp (kwG m j ix xs ys) S2 P EP) EP) EP
def QK' (X : Cx) (T : List (Addr × Str)) (W : WX) (kws : List Keyword) (q : QTA) : Prop := PK X kws (upG X.K T W (Rls X.K) q)
theorem pk_imp {kws : List Keyword} {t t' : TA} (h : PK X kws t) (k : ∀ σ H Q, t' σ H Q → t σ H Q) : PK X kws t' := ⟨fun pos pins s σ H Q I w => h.run pos pins s σ H Q I (k σ H Q w)⟩
theorem qk_nil : QK' X T W [] qaN := pk_imp pk_nil fun σ H Q h => up_ret (v := ([] : List V)) (p := ([] : List PV)) h rfl
theorem qk_cons {kws : List Keyword} {nm : Option Str} {kpos : Pos} {q : QTE} {r : QTA} (ha : QE X T W e q) (hr : QK' X T W kws r) : QK' X T W (⟨nm, e, kpos⟩ :: kws) (qaC q r) :=
  pk_imp (pk_cons ha hr) fun σ H Q h => up_then (RR := Rl X.K) (qk := fun x τ S1 P EP => r τ S1 (fun xs S2 => P (x :: xs) S2) EP) h fun v p H1 l rv u =>
    up_then (RR := Rls X.K) (qk := fun xs _ S2 P _ => P (p :: xs) S2) u fun vs ps H2 l2 rvs u2 => up_ret (v := v :: vs) (p := p :: ps) u2 (Rls.cons (Rl.mono l2 _ _ rv) rvs)
theorem run_kw {pins : List (Addr × Obj)} {s : Shared} {f : Addr} {fd : FuncData} {ps ks : List Str} {g : List Value → List Value → List Value} {gV : List V → List V → List V} {sp : Sp} {us ws : List Value} {vs zs : List V} {Q : VK}
    (F : FnOk X.prog X.w X.K X.mg X.base (L2N.CX X.prog X.w) k f fd ps sp) (hr : Room k X.A) (hb : KBinds X.K fd ps ks g gV) (tk : L2N.Takes X W) (I : Inv X pins σ H s) (r : Vals vs us) (rz : Vals zs ws) (h : sp (gV vs zs) H Q (WE W σ)) :
    wpAny (model X.prog X.w) X.A (call (.ref f) us (ks.zip ws)) (EP X pins σ Q) X.xe s := by
  have r2 := hb.rel r rz
  have hl : (g us ws).length = ps.length := r2.length.symm.trans (F.len _ _ _ _ h)
  refine wpAny_call (codeAny_mono (F.run X.A X.stack s H ⟨us, ks.zip ws⟩ (g us ws) (gV vs zs) Q _ hr I.env0 (hb.to s us ws I.kIn hl) r2 h) fun res s' hq => ?_)
  match res, hq with
  | .error e, hq => exact L2N.passAt tk σ pins H s e s' I hq
  | .ok (.ret u), hq => exact I.after hq
/-- f(k = v, ..), keywords alone -/
theorem q_callK0 {ks : List Str} {j : Nat} {ix : List Nat} {kws : List Keyword} {qk : QTA} (F : Fn X.prog X.w X.K X.mg X.base T k x st n sp) (hr : Room k X.A) (tk : L2N.Takes X W) (hg : Gl X x)
    (hb : ∀ (fd : FuncData) (f : Addr), Fun X.K x x st f fd → KBinds X.K fd ((defArgs st).args.map (·.arg)) ks (kwG 0 j ix) (kwG 0 j ix)) (hkw : QK' X T W kws qk)
    (hall : (backToKw pos (keywordEach kws X.env)).all (·.1.isSome) = true := by rfl) (hks : (backToKw pos (keywordEach kws X.env)).filterMap (·.1) = ks := by rfl) (hdb : (x == ("__debug__" : Str)) = false := by decide)
    (hpl : (backToKw pos (keywordEach kws X.env)).any (·.1.isNone) = false := by rfl) : QE X T W (.Call (.Name x p) [] kws pos) (qCallK n 0 j ix sp qaN qk) := by
  obtain ⟨f, fd, ps, h1, h2, h3, h4, h5, h6⟩ := F.ex
  refine ⟨fun pins s σ H Q I hq => ?_⟩
  refine wpAny_Call_Name_kw (ld_glob I hg h1 ?_ hdb)
  have kb := hb fd f h2
  rw [← h5] at kb
  have hq2 := up_bind (RR := Rls X.K) (qa := qk) (RR' := Rl X.K) (qk := fun ys _ S2 P EP => (kwG 0 j ix ([] : List PV) ys).length = n ∧ sp (kwG 0 j ix [] ys) S2 P EP) hq
  refine PySem.W.callWith_KW0 (h₀ := X.base) I.ok.mod.kin h2.kp hall (thn (PK.run hkw pos pins s σ H _ I hq2) fun ws s2 ⟨zs, H2, I2, rz, ys, l, rl, τ, S, P, EP, rs, rep, ⟨hl, hs⟩, k1, k2⟩ => ⟨I2.kIn, ?_⟩) hpl
  rw [hks]
  exact run_kw h6 hr kb tk I2 .nil rz ⟨by rw [Rls.length (Rls.kw (us := []) (ps := []) rfl rl)]; exact hl, _, S, P, EP, Rls.kw (us := []) (ps := []) rfl rl, rep, hs, k1, k2⟩
end
end Mp

set_option Elab.async false
set_option linter.all false
set_option maxRecDepth 100000
theorem L2.Fun.kb {K : PySem.W.Frag} {x qual : PySem.Str} {st : PySem.Stmt} {f : PySem.Addr} {fd : PySem.FuncData} {ks : List PySem.Str} {m j : Nat} {ix : List Nat} (F : L2.Fun K x qual st f fd) (h0 : 0 < ((L2.defArgs st).args.map (·.arg)).length)
    (h : ∀ (kV doc pm : PySem.Value) (an : Option PySem.Addr) (cdv ct : PySem.Value) (us ws : List PySem.Value), us.length = m → ws.length = j →
      PySem.bindArgs (PySem.W.fnOf x qual (L2.defArgs st) (L2.defBody st) (L2.defScope st) .none kV doc pm an cdv ct) ⟨us, ks.zip ws⟩ = pure (((L2.defArgs st).args.map (·.arg)).zip (Mp.kwG m j ix us ws))) :
    L2.KBinds K fd ((L2.defArgs st).args.map (·.arg)) ks (Mp.kwG m j ix) (Mp.kwG m j ix) := by
  obtain ⟨oc, od, kV, doc, pm, an, cdv, ct, osl, rfl, lk, hcd⟩ := F.ex
  exact Mp.kb_mk h0 (h kV doc pm an cdv ct)
namespace Mp
open PySem PySem.Spec PyProof.Rows L2

section
variable {X : Cx} {T : List (Addr × Str)} {W : WX} {e a b tg : Expr} {es : List Expr} {K : PySem.W.Frag} {S S' S0 S1 : Sto} {H H' H0 H1 : Hp} {σ : L2.St} {τ : PSt} {PD : PEnds} {D : Ends} {pos p : Pos} {q : QTA}

/-! ### a value's truth -/
def truP (x : PV) (S : Sto) : Option Bool := match x with
  | .non => some false
  | .bl c => some c
  | .int i => some (i != 0)
  | .str cs => if cs.length ≤ sizeLine then some (!cs.isEmpty) else none
  | .tup xs => some (!xs.isEmpty)
  | .lsv xs => some (!xs.isEmpty)
  | .ref c => match S c with
    | some (.lst xs) => some (!xs.isEmpty)
    | _ => none
  | .ty _ => none
  | .exv _ _ _ _ _ => none
  | .lam _ _ _ _ _ => none
  | .ktp xs => some (!xs.isEmpty)
def qTru (q : QTE) : QTT := fun τ S P EP => q τ S (fun x S1 => match truP x S1 with
  | some c => P c S1
  | none => False) EP
theorem Rls.empty {ps : List PV} {vs : List V} (r : Rls K H vs ps) : (!ps.isEmpty) = !vs.isEmpty := by
  cases ps with
  | nil =>
    have e : vs = [] := r
    rw [e]; rfl
  | cons p ps =>
    obtain ⟨v, w, e, _⟩ := r
    rw [e]; rfl
theorem tru_v {x : PV} {v : V} {c : Bool} (r : Rl K H v x) (rep : Rep K T S H) (h : truP x S = some c) : TruV K v H c := by
  cases x with
  | non =>
    have e : v = .non := r
    cases h; subst e; exact rfl
  | bl d =>
    have e : v = .bl d := r
    cases h; subst e; exact rfl
  | int i =>
    have e : v = .int i := r
    cases h; subst e; exact rfl
  | str cs =>
    have e : v = .str ⟨cs.toArray⟩ := r
    unfold truP at h
    simp only at h
    split at h
    · rename_i hz
      cases h; subst e
      refine ⟨by rw [str_len]; exact hz, ?_⟩
      rw [str_len]
      cases cs with
      | nil => rfl
      | cons c cs =>
        show true = _
        symm
        rw [bne_iff_ne]
        simp only [List.length_cons]
        omega
    · cases h
  | tup xs =>
    obtain ⟨a, us, e2, s1, t1⟩ := r
    cases h; subst e2
    exact .inr (.inl ⟨us, SqT.of s1, t1.empty⟩)
  | lsv xs =>
    obtain ⟨a, us, e2, s1, t1⟩ := r
    cases h; subst e2
    exact .inl ⟨us, s1.sq, t1.empty⟩
  | ref q =>
    have e : v = .ref q := r
    subst e
    unfold truP at h
    simp only at h
    cases z : S q with
    | none => rw [z] at h; cases h
    | some ob =>
      rw [z] at h
      cases ob with
      | lst ys =>
        cases h
        obtain ⟨us, e1, t1⟩ := rep.ob q _ z
        exact .inl ⟨us, SqL.of e1, t1.empty⟩
      | _ => cases h
  | ty n => cases h
  | exv a C d ns ps => cases h
  | lam f c q vs ps => cases h
  | ktp xs =>
    obtain ⟨a, us, e2, s1, t1⟩ := r
    cases h; subst e2
    exact .inr (.inl ⟨us, s1, t1.empty⟩)
theorem qt_tru {q : QTE} (ha : QE X T W a q) (he : ∀ whole, isTrue a X.env whole = (do let v ← whole; standAt a.pos; holding [v] (truthy v)) := by intro _; rfl) : QT X T W a (qTru q) :=
  pt_imp (pt_truth ha he) fun σ H Q h => up_then (RR := Rl X.K) (RR' := RB) (qk := fun x _ S1 P _ => match truP x S1 with | some c => P c S1 | none => False) h fun v x H1 l r ⟨τ, S, P, EP, rs, rep, hf, k, _⟩ => by
    cases z : truP x S with
    | none => simp only [z] at hf
    | some c =>
      simp only [z] at hf
      exact ⟨c, tru_v r rep z, k c c H1 S Fr.refl rfl rep hf⟩
/-- a, b, c = x, y, z -/
def qPar3 (i j l : Nat) (q : QTA) : QTS := fun D τ S => q τ S (fun ps S1 => match ps with
  | [p1, p2, p3] => D.nx (((τ.set i (some p1)).set j (some p2)).set l (some p3)) S1
  | _ => False) (exAt D τ)
theorem qs_par3 {i j l : Nat} {x y z : Str} {c : Expr} {q : QTA} {px py pz pt : Pos} {kt k2 pt2} (hc : X.calm = true) (hN : X.N.Nodup) (ha : QA X T W [a, b, c] q) (hi : X.N[i]? = some x := by rfl) (hj : X.N[j]? = some y := by rfl) (hl : X.N[l]? = some z := by rfl)
    (hij : i ≠ j := by decide) (hil : i ≠ l := by decide) (hjl : j ≠ l := by decide)
    (hx : X.env.scope.names.lookup x = some .local := by rfl) (hy : X.env.scope.names.lookup y = some .local := by rfl) (hz : X.env.scope.names.lookup z = some .local := by rfl)
    (hw : swappedStores [.Tuple [.Name x px, .Name y py, .Name z pz] kt pt] (.Tuple [a, b, c] k2 pt2) X.env = pure (some [x, y, z]) := by rfl)
    (hs : swapsWithSole [.Tuple [.Name x px, .Name y py, .Name z pz] kt pt] (.Tuple [a, b, c] k2 pt2) pos.line X.env = pure false := by rfl) :
    QS X T W (.Assign [.Tuple [.Name x px, .Name y py, .Name z pz] kt pt] (.Tuple [a, b, c] k2 pt2) pos) (qPar3 i j l q) :=
  ps_imp (ps_par3 hc hN hi hj hl hij hil hjl hx hy hz ha hw hs) fun D σ H ⟨τ, S, PD, r, rep, q, c⟩ => con_up (RR := Rls X.K) r rep c q fun vs ps H' S' fr rs rl rp hp => by
    match ps, hp with
    | [p1, p2, p3], hp =>
      obtain ⟨v, r1, e1, a1, w, r2, e2, a2, u, r3, e3, a3, e4⟩ := rl
      have e4 : r3 = [] := e4
      subst e1; subst e2; subst e3; subst e4
      exact ⟨v, w, u, rfl, c.nx _ _ H' S' fr (((rs.set a1).set a2).set a3) rp hp⟩
end
end Mp

set_option Elab.async false
set_option linter.all false
set_option maxRecDepth 100000
namespace Mp
open PySem PySem.Spec PyProof.Rows L2

/-! ### a law's end -/
theorem rls_map {K : PySem.W.Frag} {H : Hp} : ∀ ns : List Int, Rls K H (ns.map V.int) (ns.map PV.int)
  | [] => rfl
  | n :: ns => ⟨.int n, ns.map V.int, rfl, rfl, rls_map ns⟩
abbrev LawTrue (sp : PSp) : Prop := ∀ ns : List Int, ns.length ≤ 63 → (∀ z ∈ ns, Builtin.Int.intBits z ≤ 1048576) → sp [.lsv (ns.map PV.int)] (fun _ => none) (fun v _ => v = .bl true) (fun _ _ => False)
theorem sp_start {K : PySem.W.Frag} {H : Hp} {a : Addr} {ns : List Int} {sp : PSp} (h : sp [.lsv (ns.map PV.int)] (fun _ => none) (fun v _ => v = .bl true) (fun _ _ => False)) (o : Only H) (s : SqL K H a (ns.map V.int)) :
    spOf K [] 1 sp [.ref a] H (fun v _ => v = .bl true) fun _ _ _ => False := by
  have sf : SqF K H a (ns.map V.int) := by
    rcases s with (s | s) | s
    · rcases o a with z | ⟨ob, xs, z⟩
      · rw [z] at s; cases s
      · rw [z] at s; cases s
    · exact .inl s
    · exact .inr (.inr s)
  refine ⟨rfl, _, _, _, _, Rls.one (p := .lsv (ns.map PV.int)) ⟨a, _, rfl, sf, rls_map ns⟩, ⟨fun _ _ e => (by cases e), fun _ h => (by cases h)⟩, h, fun v p H' S' _ rl _ e => ?_, fun _ _ _ _ _ _ _ _ z => z⟩
  subst e
  exact rl
theorem walk_law {l : PySem.W.OpenLaw} {lv : Nat} {q : Program} {loose : List Str} {XP : (Str → Option Value) → Heap → Prop} {YP : World → Heap → Prop} {d : DefRec} {K : Params → PySem.W.Frag} {sp : PSp}
    (hn : l.most = some 63) (hdf : d.params.defaults = []) (hlv : lv ≤ 200) (hY : ∀ (w : World) (h : Heap), YP w h → (K w.params).In h)
    (F : ∀ (w : World) (mg : Str → Option Value) (fa : Addr) (h : Heap), (K w.params).In h → h.Ns mainGlobals mg → mg d.name = some (.ref fa) →
      ∃ fd : FuncData, (∀ (s : Shared) (u : Value), BindsTo s fd ⟨[u], []⟩ [("script", u)]) ∧ ∀ base : Heap, (K w.params).In base → base.Ns mainGlobals mg → FnOk l.prog w (K w.params) mg base (L2N.CX l.prog w) lv fa fd ["script"] (spOf (K w.params) [] 1 sp))
    (law : LawTrue sp) : PySem.W.WalkO q loose XP YP l.row.toRowW d [] (fun f vs => PySem.call f vs) :=
  L2.walk_ofB (n := 63) (k := lv) (x := "script") (CX := fun w => L2N.CX l.prog w) (sp := fun w => spOf (K w.params) [] 1 sp) hn (by decide) hdf (Room.mono (k := 200) ⟨rfl, by decide, by decide⟩ hlv) hY F
    (fun w H a ns h1 h2 h3 h4 => sp_start (law ns h1 h2) h3 h4) fun w H s e s' h => by
      obtain ⟨_, _, _, _, _, _, _, _, _, _, _, _, z⟩ := h
      exact z.elim
end Mp

set_option Elab.async false
set_option linter.all false
set_option maxRecDepth 100000
namespace Mp
open PySem PySem.Spec PyProof.Rows L2

/-! ### loops, by a word -/
section
variable {keep : Sto → Prop} {g : QTG} {tb : QTS} {D : PEnds} {τ : PSt} {S : Sto}
theorem forQ_inv {its : List PV} (I : PSt → Sto → Prop) (h0 : I τ S)
    (hs : ∀ p, p ∈ its → ∀ τ S (N : PSt → Sto → Prop), I τ S → (∀ τ' S', I τ' S' → keep S' → N τ' S') → g p τ S fun τ1 S1 => tb { D with nx := N, ct := N, bk := D.nx } τ1 S1)
    (hd : ∀ τ S, I τ S → D.nx τ S) : forQ keep g tb D its τ S := by
  induction its generalizing τ S with
  | nil => exact hd τ S h0
  | cons p r ih =>
    exact hs p (List.mem_cons_self) τ S _ h0 fun τ' S' h k => ⟨k, ih h fun q hq => hs q (List.mem_cons_of_mem _ hq)⟩
/-- by the part that is done and the part that is left -/
theorem forQ_at {its : List PV} (I : List PV → PSt → Sto → Prop) (h0 : I its τ S)
    (hs : ∀ p r, ∀ τ S (N : PSt → Sto → Prop), I (p :: r) τ S → (∀ τ' S', I r τ' S' → keep S' → N τ' S') → g p τ S fun τ1 S1 => tb { D with nx := N, ct := N, bk := D.nx } τ1 S1)
    (hd : ∀ τ S, I [] τ S → D.nx τ S) : forQ keep g tb D its τ S := by
  induction its generalizing τ S with
  | nil => exact hd τ S h0
  | cons p r ih => exact hs p r τ S _ h0 fun τ' S' h k => ⟨k, ih h⟩
theorem qWhile_inv {t : QTT} (I : PSt → Sto → Prop) (m : PSt → Sto → Nat) (h0 : I τ S)
    (hs : ∀ τ S (N : PSt → Sto → Prop), I τ S → (∀ τ' S', I τ' S' → m τ' S' < m τ S → N τ' S') →
      t τ S (fun b S1 => iteB b (tb { D with nx := N, ct := N, bk := D.nx } τ S1) (D.nx τ S1)) (exAt D τ)) : qWhile t tb D τ S := by
  unfold qWhile
  refine ⟨fun k τ S => m τ S = k ∧ I τ S, ⟨_, rfl, h0⟩, ?_⟩
  rintro k τ S ⟨rfl, h⟩
  exact hs τ S _ h fun τ' S' h' hl => ⟨_, hl, rfl, h'⟩
end

/-! ### stores -/
theorem put_apply (S : Sto) (a : Addr) (o : Ob) (b : Addr) : put S a o b = if b = a then some o else S b := rfl
theorem new_ne {S : Sto} {a b : Addr} {o : Ob} (h : S b = some o) (n : S a = none) : b ≠ a := fun e => by rw [e, n] at h; cases h
/-- all but b is as it was -/
def Ext (b : Addr) (S S' : Sto) : Prop := ∀ a o, a ≠ b → S a = some o → S' a = some o
theorem Ext.refl {b : Addr} {S : Sto} : Ext b S S := fun _ _ _ h => h
theorem Ext.trans {b : Addr} {S S1 S2 : Sto} (x : Ext b S S1) (y : Ext b S1 S2) : Ext b S S2 := fun a o n h => y a o n (x a o n h)
theorem Ext.put {b : Addr} {S : Sto} {o : Ob} : Ext b S (put S b o) := fun a u n h => by rw [put_ne n]; exact h
theorem Ext.new {b p : Addr} {S : Sto} {o : Ob} (n : S p = none) : Ext b S (Mp.put S p o) := fun a u _ h => by rw [put_ne (new_ne h n)]; exact h
theorem Sub.ext {b : Addr} {S S' : Sto} (s : Sub S S') : Ext b S S' := fun a o _ h => s a o h
theorem Sub.new {p : Addr} {S : Sto} {o : Ob} (n : S p = none) : Sub S (put S p o) := fun a u h => by rw [put_ne (new_ne h n)]; exact h
theorem Ext.from {b : Addr} {S S1 S2 : Sto} (s : Sub S S1) (x : Ext b S1 S2) : Ext b S S2 := s.ext.trans x

/-! ### where draws come from -/
def bx (x y : Int) : Ob := .lst [.int x, .int y]
def Bx (S : Sto) (b : Addr) : Prop := ∃ x y : Int, S b = some (.lst [.int x, .int y]) ∧ 0 ≤ x ∧ 1 ≤ y ∧ y ≤ 2147483647
theorem Bx.sub {S S' : Sto} {b : Addr} (h : Bx S b) (s : Sub S S') : Bx S' b := let ⟨x, y, e, r⟩ := h; ⟨x, y, s _ _ e, r⟩
theorem Bx.there {S : Sto} {b : Addr} (h : Bx S b) : ∃ o, S b = some o := let ⟨x, y, e, r⟩ := h; ⟨_, e⟩
theorem Bx.ne {S : Sto} {b p : Addr} (h : Bx S b) (n : S p = none) : b ≠ p := let ⟨x, y, e, r⟩ := h; new_ne e n
theorem le_line {n : Nat} (h : n ≤ 1000) : n ≤ sizeLine := Nat.le_trans h (by decide)
theorem log_small {m : Int} (h0 : 0 < m) (h : m < 2 ^ 64) : m.natAbs.log2 < 9000 := by
  have h1 : m.natAbs < 2 ^ 64 := by omega
  exact Nat.lt_of_lt_of_le (PySem.Flt.log2_lt_of (by decide) h1) (by decide)
end Mp

set_option Elab.async false
set_option linter.all false
set_option maxRecDepth 100000
namespace Mp
open PySem PySem.Spec PyProof.Rows L2

section
variable {X : Cx} {T : List (Addr × Str)} {W : WX} {e a b tg : Expr} {es : List Expr} {K : PySem.W.Frag} {S S' S0 S1 : Sto} {H H' H0 H1 : Hp} {σ : L2.St} {τ : PSt} {PD : PEnds} {D : Ends} {pos p : Pos} {q : QTA}

/-! ### constants of the module -/
theorem q_gint {x : Str} {i : Int} (hm : ∃ t, X.mg x = some (.int i t)) (hg : Gl X x := by rfl) (hd : (x == ("__debug__" : Str)) = false := by decide) : QE X T W (.Name x pos) (qC (.int i)) := by
  obtain ⟨t, hm⟩ := hm
  exact q_con (pe_glob (v := .int i) hg hm ⟨t, rfl⟩ hd) fun _ => rfl
theorem q_gstr {x : Str} {cs : List Nat} (hm : ∃ t, X.mg x = some (.str ⟨cs.toArray⟩ t)) (hg : Gl X x := by rfl) (hd : (x == ("__debug__" : Str)) = false := by decide) : QE X T W (.Name x pos) (qC (.str cs)) := by
  obtain ⟨t, hm⟩ := hm
  exact q_con (pe_glob (v := .str ⟨cs.toArray⟩) hg hm ⟨t, rfl⟩ hd) fun _ => rfl

/-! ### is True, is False -/
def fIsB (n c : Bool) : PV → Bool
  | .bl d => if n then !(d == c) else d == c
  | _ => n
def rIsC (n c : Bool) : R2 := fun x y H Q => y = .bl c ∧ Q (.bl (if n then !decide (x = .bl c) else decide (x = .bl c))) H
theorem op_isC {c : Bool} : OpR X (compareOp .Is) (rIsC false c) := by
  intro pins s σ H x y v u Q I rx ry ⟨ey, h⟩
  subst ey
  cases (show u = Value.bool c from ry)
  have fin : ∀ d : Bool, decide (x = .bl c) = d → EP X pins σ Q (.bool d) s := fun d e => ⟨.bl d, H, I, rfl, by rw [← e]; exact h⟩
  cases x with
  | bl d =>
    cases (show v = Value.bool d from rx)
    by_cases e : d = c
    · subst e
      exact wpAny_is_self rfl (fin true (by simp))
    · exact wpAny_is_other rfl (fun z => e (Value.bool.inj z)) (fin false (by simp [e]))
  | non =>
    cases (show v = Value.none from rx)
    exact wpAny_is_other rfl (fun z => nomatch z) (fin false (by simp))
  | int i =>
    obtain ⟨t, rfl⟩ := rx
    exact wpAny_is_other rfl (fun z => nomatch z) (fin false (by simp))
  | str i =>
    obtain ⟨t, rfl⟩ := rx
    exact wpAny_is_other rfl (fun z => nomatch z) (fin false (by simp))
  | byt i =>
    obtain ⟨t, rfl⟩ := rx
    exact wpAny_is_other rfl (fun z => nomatch z) (fin false (by simp))
  | flt i =>
    obtain ⟨t, rfl⟩ := rx
    exact wpAny_is_other rfl (fun z => nomatch z) (fin false (by simp))
  | ref i =>
    cases (show v = Value.ref i from rx)
    exact wpAny_is_other rfl (fun z => nomatch z) (fin false (by simp))
  | ty i =>
    cases (show v = Value.type i from rx)
    exact wpAny_is_other rfl (fun z => nomatch z) (fin false (by simp))
theorem op_notC {c : Bool} : OpR X (compareOp .IsNot) (rIsC true c) := by
  intro pins s σ H x y v u Q I rx ry ⟨ey, h⟩
  subst ey
  cases (show u = Value.bool c from ry)
  have fin : ∀ d : Bool, (!decide (x = .bl c)) = d → EP X pins σ Q (.bool d) s := fun d e => ⟨.bl d, H, I, rfl, by rw [← e]; exact h⟩
  cases x with
  | bl d =>
    cases (show v = Value.bool d from rx)
    by_cases e : d = c
    · subst e
      exact wpAny_isNot_self rfl (fin false (by simp))
    · exact wpAny_isNot_other rfl (fun z => e (Value.bool.inj z)) (fin true (by simp [e]))
  | non =>
    cases (show v = Value.none from rx)
    exact wpAny_isNot_other rfl (fun z => nomatch z) (fin true (by simp))
  | int i =>
    obtain ⟨t, rfl⟩ := rx
    exact wpAny_isNot_other rfl (fun z => nomatch z) (fin true (by simp))
  | str i =>
    obtain ⟨t, rfl⟩ := rx
    exact wpAny_isNot_other rfl (fun z => nomatch z) (fin true (by simp))
  | byt i =>
    obtain ⟨t, rfl⟩ := rx
    exact wpAny_isNot_other rfl (fun z => nomatch z) (fin true (by simp))
  | flt i =>
    obtain ⟨t, rfl⟩ := rx
    exact wpAny_isNot_other rfl (fun z => nomatch z) (fin true (by simp))
  | ref i =>
    cases (show v = Value.ref i from rx)
    exact wpAny_isNot_other rfl (fun z => nomatch z) (fin true (by simp))
  | ty i =>
    cases (show v = Value.type i from rx)
    exact wpAny_isNot_other rfl (fun z => nomatch z) (fin true (by simp))
theorem rl_bl {v : V} {x : PV} {c : Bool} (r : Rl K H v x) : decide (v = .bl c) = fIsB false c x := by
  cases x with
  | bl d =>
    have e : v = .bl d := r
    subst e
    show decide (V.bl d = V.bl c) = (d == c)
    cases d <;> cases c <;> rfl
  | non =>
    have e : v = .non := r
    subst e; rfl
  | int i =>
    have e : v = .int i := r
    subst e; rfl
  | str cs =>
    have e : v = .str ⟨cs.toArray⟩ := r
    subst e; rfl
  | tup xs =>
    obtain ⟨a, us, e2, _⟩ := r
    subst e2; rfl
  | lsv xs =>
    obtain ⟨a, us, e2, _⟩ := r
    subst e2; rfl
  | ktp xs =>
    obtain ⟨a, us, e2, _⟩ := r
    subst e2; rfl
  | exv a C d ns ps =>
    have e2 := r.1
    subst e2; rfl
  | lam f c q vs ps =>
    have e2 := r.1
    subst e2; rfl
  | ref i =>
    have e : v = .ref i := r
    subst e; rfl
  | ty i =>
    have e : v = .ty i := r
    subst e; rfl
theorem fIsB_not {c : Bool} (x : PV) : (!fIsB false c x) = fIsB true c x := by cases x <;> rfl
def fIsC (n c : Bool) : FO2 := fun x y S P => match y with
  | .bl d => d = c ∧ P (.bl (fIsB n c x)) S
  | _ => False
theorem oq_isC {n c : Bool} : OpQ K T (rIsC n c) (fIsC n c) := fun x y p1 p2 H S P Q r1 r2 rep h k => by
  cases p2 with
  | bl d =>
    obtain ⟨e, h⟩ := h
    subst e
    refine ⟨r2, ?_⟩
    have e : (if n = true then !decide (x = .bl d) else decide (x = .bl d)) = fIsB n d p1 := by
      rw [rl_bl r1]
      cases n
      · rfl
      · exact fIsB_not p1
    rw [e]
    exact k (.bl _) (.bl _) H S Fr.refl rfl rep h
  | _ => exact h.elim
def qIsB (n c : Bool) (q : QTE) : QTE := fun τ S P EP => q τ S (fun x S1 => P (.bl (fIsB n c x)) S1) EP
theorem isB_of {n c : Bool} {q : QTE} {Q : VK} (h : upG K T W (Rl K) (qIsB n c q) σ H Q) : upG K T W (Rl K) (qBin (fIsC n c) q (qC (.bl c))) σ H Q := by
  obtain ⟨τ, S, P, EP, h1, h2, h3, h4, h5⟩ := h
  exact ⟨τ, S, P, EP, h1, h2, by
    show q τ S (fun x S1 => c = c ∧ P (.bl (fIsB n c x)) S1) EP
    have e : (fun (x : PV) (S1 : Sto) => c = c ∧ P (.bl (fIsB n c x)) S1) = fun x S1 => P (.bl (fIsB n c x)) S1 := by
      funext x S1
      simp
    rw [e]
    exact h3, h4, h5⟩
theorem q_isB {q : QTE} {c : Bool} {j pos'} (ha : QE X T W a q) : QE X T W (.Compare a [.Is] [.Constant (.bool c) j pos'] pos) (qIsB false c q) :=
  pe_imp (q_cmp op_isC oq_isC (nomark _) ha q_bl) fun σ H Q h => isB_of h
theorem q_notB {q : QTE} {c : Bool} {j pos'} (ha : QE X T W a q) : QE X T W (.Compare a [.IsNot] [.Constant (.bool c) j pos'] pos) (qIsB true c q) :=
  pe_imp (q_cmp op_notC oq_isC (nomark _) ha q_bl) fun σ H Q h => isB_of h
theorem qt_isB {q : QTE} {c : Bool} {j pos'} (ha : QE X T W a q) : QT X T W (.Compare a [.Is] [.Constant (.bool c) j pos'] pos) (qTst (qIsB false c q)) :=
  pt_imp (pt_cmpR op_isC ha (q_bl (T := T) (W := W)) (nomark _)) fun σ H Q h => up_bin oq_isC (isB_of (up_tst h))
theorem qt_notB {q : QTE} {c : Bool} {j pos'} (ha : QE X T W a q) : QT X T W (.Compare a [.IsNot] [.Constant (.bool c) j pos'] pos) (qTst (qIsB true c q)) :=
  pt_imp (pt_cmpR op_notC ha (q_bl (T := T) (W := W)) (nomark _)) fun σ H Q h => up_bin oq_isC (isB_of (up_tst h))

/-! ### a < b <= c -/
def qChain (f g : FO2) (qa qb qc : QTE) : QTE := fun τ S P EP => qa τ S (fun x S1 => qb τ S1 (fun y S2 => f x y S2 (fun z S3 => match z with
  | .bl true => qc τ S3 (fun w S4 => g y w S4 P) EP
  | .bl false => P (.bl false) S3
  | _ => False)) EP) EP
theorem up_chain {r r' : R2} {f g : FO2} {qa qb qc : QTE} (o : OpQ K T r f) (o' : OpQ K T r' g) {Q : VK} (h : upG K T W (Rl K) (qChain f g qa qb qc) σ H Q) : tChain r r' (upG K T W (Rl K) qa) (upG K T W (Rl K) qb) (upG K T W (Rl K) qc) σ H Q := by
  refine up_then (RR := Rl K) h fun x p1 H1 l1 r1 h1 => ?_
  refine up_then (RR := Rl K) (RR' := Rl K) (qk := fun y τ S2 P EP => f p1 y S2 (fun z S3 => match z with | .bl true => qc τ S3 (fun w S4 => g y w S4 P) EP | .bl false => P (.bl false) S3 | _ => False)) h1 fun y p2 H2 l2 r2 ⟨τ, S, P, EP, rs, rep, h3, k, kx⟩ => ?_
  refine o x y p1 p2 H2 S _ _ (Rl.mono l2 _ _ r1) r2 rep h3 fun z p3 H3 S3 fr rl rep3 hp => ?_
  cases p3 with
  | bl c =>
    have e : z = .bl c := rl
    refine ⟨c, e, ?_⟩
    cases c with
    | true =>
      refine ⟨τ, S3, _, EP, rs.mono (fr.le rep), rep3, hp, fun w p4 H4 S4 fr4 rl4 rep4 hp4 => ?_, fun c d x H' S' f => kx c d x H' S' (fr.trans f)⟩
      exact o' y w p2 p4 H4 S4 P Q (Rl.mono ((fr.trans fr4).le rep) _ _ r2) rl4 rep4 hp4 fun v p H' S' f => k v p H' S' ((fr.trans fr4).trans f)
    | false => exact k (.bl false) (.bl false) H3 S3 fr rfl rep3 hp
  | _ => exact hp.elim
theorem q_chain {op op' : CmpOp} {c : Expr} {r r' : R2} {f g : FO2} {qa qb qc : QTE} (ho : OpR X (compareOp op) r) (oq : OpQ X.K T r f) (ho' : OpR X (compareOp op') r') (oq' : OpQ X.K T r' g) (ha : QE X T W a qa) (hb : QE X T W b qb) (hc : QE X T W c qc)
    (hm : lastMarks [op, op'] [b, c] = false := by with_unfolding_all rfl) : QE X T W (.Compare a [op, op'] [b, c] pos) (qChain f g qa qb qc) :=
  pe_imp (pe_chain ho ho' ha hb hc hm) fun σ H Q h => up_chain oq oq' h
theorem qt_chain {op op' : CmpOp} {c : Expr} {r r' : R2} {f g : FO2} {qa qb qc : QTE} (ho : OpR X (compareOp op) r) (oq : OpQ X.K T r f) (ho' : OpR X (compareOp op') r') (oq' : OpQ X.K T r' g) (ha : QE X T W a qa) (hb : QE X T W b qb) (hc : QE X T W c qc)
    (hm : lastMarks [op, op'] [b, c] = false := by with_unfolding_all rfl) : QT X T W (.Compare a [op, op'] [b, c] pos) (qTst (qChain f g qa qb qc)) :=
  pt_imp (pt_chain ho ho' ha hb hc hm) fun σ H Q h => up_chain oq oq' (up_tst h)
end
end Mp

set_option Elab.async false
set_option linter.all false
set_option maxRecDepth 100000
namespace Mp
open PySem PySem.Spec PyProof.Rows L2

section
variable {X : Cx} {T : List (Addr × Str)} {W : WX} {e a b tg : Expr} {es : List Expr} {K : PySem.W.Frag} {S S' S0 S1 : Sto} {H H' H0 H1 : Hp} {σ : L2.St} {τ : PSt} {PD : PEnds} {D : Ends} {pos p : Pos} {q : QTA}

/-! ### sequence operands: a new list, or a value -/
inductive SH where
  | hid (a : Addr) (xs : List PV)
  | val (x : PV)
def SH.its (S : Sto) : SH → Option (List PV)
  | .hid _ xs => some xs
  | .val x => seqOf x S
def SH.keep (S : Sto) : SH → Sto → Prop
  | .hid _ _ => kT
  | .val (.ref c) => fun S' => S' c = S c
  | .val _ => kT
abbrev QTH := Qr SH
def RSH (K : PySem.W.Frag) (S : Sto) (H : Hp) (v : V) : SH → Prop
  | .hid a xs => v = .ref a ∧ ∃ vs, H a = some (.lst vs) ∧ S a = none ∧ Rls K H vs xs
  | .val x => Rl K H v x
def upH (K : PySem.W.Frag) (T : List (Addr × Str)) (W : WX) (q : QTH) : TE := fun σ H Q =>
  ∃ τ S P EP, RS K H σ τ ∧ Rep K T S H ∧ q τ S P EP ∧ (∀ v p H' S', Fr S H S' H' → RSH K S' H' v p → Rep K T S' H' → P p S' → Q v H') ∧
    ∀ c d x H' S', Fr S H S' H' → XR K H' c d x → Rep K T S' H' → EP x S' → W c d σ H'
def QH (X : Cx) (T : List (Addr × Str)) (W : WX) (e : Expr) (q : QTH) : Prop := PE X e (upH X.K T W q)
def qhL (q : QTA) : QTH := fun τ S P EP => q τ S (fun xs S1 => ∀ a, P (.hid a xs) S1) EP
def qhE (q : QTE) : QTH := fun τ S P EP => q τ S (fun x S1 => P (.val x) S1) EP
theorem qh_l {q : QTA} (h : QL X T W e q) : QH X T W e (qhL q) := pe_imp h fun σ H Q ⟨τ, S, P, EP, h1, h2, h3, h4, h5⟩ =>
  ⟨τ, S, _, EP, h1, h2, h3, fun a vs ps H' S' fr e n _ rl rep hp => h4 _ (.hid a ps) H' S' fr ⟨rfl, vs, e, n, rl⟩ rep (hp a), h5⟩
theorem qh_e {q : QTE} (h : QE X T W e q) : QH X T W e (qhE q) := pe_imp h fun σ H Q ⟨τ, S, P, EP, h1, h2, h3, h4, h5⟩ =>
  ⟨τ, S, _, EP, h1, h2, h3, fun v p H' S' fr rl rep hp => h4 v (.val p) H' S' fr rl rep hp, h5⟩
theorem RSH.at {v : V} {l : SH} {xs : List PV} (r : RSH K S H v l) (rep : Rep K T S H) (h : l.its S = some xs) : ∃ a vs, v = .ref a ∧ (SqL K H a vs ∨ SqT K H a vs) ∧ Rls K H vs xs := by
  cases l with
  | hid a ys =>
    have h : some ys = some xs := h
    cases h
    obtain ⟨e, vs, e1, _, rl⟩ := r
    exact ⟨a, vs, e, .inl (SqL.of e1), rl⟩
  | val x => exact seq_of r rep h
theorem RSH.fr {v : V} {l : SH} (r : RSH K S H v l) (rep : Rep K T S H) (f : Fr S H S' H') : RSH K S' H' v l := by
  cases l with
  | hid a ys =>
    obtain ⟨e, vs, e1, n, rl⟩ := r
    obtain ⟨e2, _, n2⟩ := f a _ e1 (fun _ q => nomatch q) (.inl n)
    exact ⟨e, vs, e2, n2 n, Rls.mono (f.le rep) _ _ rl⟩
  | val x => exact Rl.mono (f.le rep) _ _ r
/-- is it a tuple -/
def SH.tup : SH → Bool
  | .val (.tup _) => true
  | .val (.ktp _) => true
  | _ => false
theorem RSH.lst {v : V} {l : SH} {xs : List PV} (r : RSH K S H v l) (rep : Rep K T S H) (h : l.its S = some xs) (n : l.tup = false) : ∃ a vs, v = .ref a ∧ SqL K H a vs ∧ Rls K H vs xs := by
  cases l with
  | hid a ys =>
    have h : some ys = some xs := h
    cases h
    obtain ⟨e, vs, e1, _, rl⟩ := r
    exact ⟨a, vs, e, SqL.of e1, rl⟩
  | val x =>
    cases x with
    | tup ys => cases n
    | ktp ys => cases n
    | lsv ys =>
      have h : some ys = some xs := h
      cases h
      obtain ⟨a, us, e2, s1, t1⟩ := r
      exact ⟨a, us, e2, s1.sq, t1⟩
    | ref c =>
      unfold SH.its seqOf at h
      simp only at h
      cases z : S c with
      | none => rw [z] at h; cases h
      | some ob =>
        rw [z] at h
        cases ob with
        | lst ys =>
          cases h
          obtain ⟨us, e1, t1⟩ := rep.ob c _ z
          exact ⟨c, us, r, SqL.of e1, t1⟩
        | _ => cases h
    | _ => cases h
theorem RSH.tupl {v : V} {l : SH} {xs : List PV} (r : RSH K S H v l) (h : l.its S = some xs) (n : l.tup = true) : ∃ a vs, v = .ref a ∧ SqT K H a vs ∧ Rls K H vs xs := by
  cases l with
  | hid a ys => cases n
  | val x =>
    cases x with
    | tup ys =>
      have h : some ys = some xs := h
      cases h
      obtain ⟨a, us, e2, s1, t1⟩ := r
      exact ⟨a, us, e2, SqT.of s1, t1⟩
    | ktp ys =>
      have h : some ys = some xs := h
      cases h
      exact r
    | _ => cases n
/-- later, what is kept standing -/
theorem SH.later {l : SH} {xs : List PV} (h : l.its S = some xs) (k : l.keep S S') : l.its S' = some xs := by
  cases l with
  | hid a ys => exact h
  | val x =>
    cases x with
    | ref c =>
      have k : S' c = S c := k
      unfold SH.its seqOf at h ⊢
      simp only at h ⊢
      rw [k]; exact h
    | _ => exact h
theorem SH.keep_self {l : SH} : l.keep S S := by
  cases l with
  | hid a ys => exact trivial
  | val x => cases x <;> first | exact trivial | exact rfl

/-! ### for a, b in zip(xs, ys) -/
def pairsP (xs ys : List PV) : List PV := List.zipWith (fun x y => PV.tup [x, y]) xs ys
theorem pair_new {T0 : Addr} {x y : V} {p q : PV} (n : H T0 = none) (r1 : Rl K H x p) (r2 : Rl K H y q) : Rl K (upd H T0 (.tup [x, y])) (.ref T0) (.tup [p, q]) :=
  ⟨T0, [x, y], rfl, upd_same, x, [y], rfl, Rl.mono (le_new n) _ _ r1, y, [], rfl, Rl.mono (le_new n) _ _ r2, rfl⟩
def qiZip (qa qb : QTH) : QTI := fun τ S P EP => qa τ S (fun x S1 => qb τ S1 (fun y S2 => match x.its S2, y.its S2 with
  | some xs, some ys => x.tup = y.tup ∧ P ⟨pairsP xs ys, fun S3 => x.keep S2 S3 ∧ y.keep S2 S3⟩ S2
  | _, _ => False) EP) EP
theorem qi_zip {qa qb : QTH} {elts : List Expr} {kk : Nat} {tpos : Pos} (hg : Gl X "zip") (hm : X.mg "zip" = none) (ha : QH X T W a qa) (hb : QH X T W b qb)
    (hs : starEach [a, b] X.env = (false, eval a X.env) :: starEach [b] X.env := by rfl) (hs2 : starEach [b] X.env = (false, eval b X.env) :: starEach [] X.env := by rfl) (hpl : (backTo pos (starEach [b] X.env)).any (·.1) = false := by rfl) :
    QI X T W (.Tuple elts kk tpos) (.Call (.Name "zip" p) [a, b] [] pos) (qiZip qa qb) :=
  pi_imp (RZ.pi_zipA hg hm (pa_cons ha (pa_cons hb pa_nil hs2) hs) hs hpl) fun σ H R ⟨τ, S, P, EP, h1, h2, h3, h4, h5⟩ => by
    refine ⟨τ, S, _, EP, h1, h2, h3, fun v x H1 S1 fr1 r1 rep1 hp1 => ?_, h5⟩
    refine ⟨τ, S1, _, EP, h1.mono (fr1.le h2), rep1, hp1, fun w y H2 S2 fr2 r2 rep2 hp2 => ?_, fun c d x H' S' fr => h5 c d x H' S' (fr1.trans fr)⟩
    have r1 := r1.fr rep1 fr2
    cases z1 : x.its S2 with
    | none => simp only [z1] at hp2
    | some xs =>
      cases z2 : y.its S2 with
      | none => simp only [z1, z2] at hp2
      | some ys =>
        simp only [z1, z2] at hp2
        obtain ⟨ht, hp2⟩ := hp2
        have len : (pairsP xs ys).length = min xs.length ys.length := by simp [pairsP]
        have atP : ∀ i p, (pairsP xs ys)[i]? = some p → ∃ p1 p2 : PV, xs[i]? = some p1 ∧ ys[i]? = some p2 ∧ p = PV.tup [p1, p2] := fun i p h => by
          unfold pairsP at h
          rw [List.getElem?_zipWith] at h
          cases q1 : xs[i]? with
          | none => rw [q1] at h; cases h
          | some p1 =>
            cases q2 : ys[i]? with
            | none => rw [q1, q2] at h; cases h
            | some p2 =>
              rw [q1, q2] at h
              exact ⟨p1, p2, by first | exact q1 | rfl, by first | exact q2 | rfl, (Option.some.inj h).symm⟩
        cases hx : x.tup with
        | true =>
          obtain ⟨u, us, e1, s1, t1⟩ := r1.tupl z1 hx
          obtain ⟨c, ws, e2, s2, t2⟩ := r2.tupl z2 (ht ▸ hx)
          subst e1; subst e2
          refine ⟨u, c, us, ws, rfl, .inr ⟨s1, s2, h4 _ ⟨pairsP xs ys, fun S3 => x.keep S2 S3 ∧ y.keep S2 S3⟩ H2 S2 (fr1.trans fr2) (fun S3 H3 fr3 rep3 _ => ?_) ⟨SH.keep_self, SH.keep_self⟩ rep2 hp2⟩⟩
          have s1 := (fr3.le rep2).sq s1
          have s2 := (fr3.le rep2).sq s2
          have t1 := Rls.mono (fr3.le rep2) _ _ t1
          have t2 := Rls.mono (fr3.le rep2) _ _ t2
          refine ⟨⟨us, ws, s1, s2, ?_⟩, fun i p h => ?_⟩
          · show us.length ≤ (pairsP xs ys).length ∨ ws.length ≤ (pairsP xs ys).length
            rw [len, Rls.length t1, Rls.length t2]
            omega
          · obtain ⟨p1, p2, g1, g2, ep⟩ := atP i p h
            obtain ⟨v1, a1, b1⟩ := t1.get g1
            obtain ⟨v2, a2, b2⟩ := t2.get g2
            refine ⟨⟨us, ws, v1, v2, s1, s2, a1, a2⟩, fun v H' ⟨T0, x', y', ev, hn, eH, k1, k2⟩ => ?_⟩
            have e1 := k1 us s1
            have e2 := k2 ws s2
            rw [a1] at e1; cases e1
            rw [a2] at e2; cases e2
            subst ev; subst eH; subst ep
            exact ⟨Fr.hid hn, rep3.hid hn, pair_new hn b1 b2⟩
        | false =>
          obtain ⟨u, us, e1, s1, t1⟩ := r1.lst rep2 z1 hx
          obtain ⟨c, ws, e2, s2, t2⟩ := r2.lst rep2 z2 (ht ▸ hx)
          have r1' := r1
          have r2' := r2
          subst e1; subst e2
          refine ⟨u, c, us, ws, rfl, .inl ⟨s1, s2, h4 _ ⟨pairsP xs ys, fun S3 => x.keep S2 S3 ∧ y.keep S2 S3⟩ H2 S2 (fr1.trans fr2) (fun S3 H3 fr3 rep3 kp => ?_) ⟨SH.keep_self, SH.keep_self⟩ rep2 hp2⟩⟩
          obtain ⟨u', us, e1, s1, t1⟩ := (r1'.fr rep2 fr3).lst rep3 (SH.later z1 kp.1) hx
          obtain ⟨c', ws, e2, s2, t2⟩ := (r2'.fr rep2 fr3).lst rep3 (SH.later z2 kp.2) (ht ▸ hx)
          cases e1; cases e2
          refine ⟨⟨us, ws, s1, s2, ?_⟩, fun i p h => ?_⟩
          · show us.length ≤ (pairsP xs ys).length ∨ ws.length ≤ (pairsP xs ys).length
            rw [len, Rls.length t1, Rls.length t2]
            omega
          · obtain ⟨p1, p2, g1, g2, ep⟩ := atP i p h
            obtain ⟨v1, a1, b1⟩ := t1.get g1
            obtain ⟨v2, a2, b2⟩ := t2.get g2
            refine ⟨⟨us, ws, v1, v2, s1, s2, a1, a2⟩, fun v H' ⟨T0, x', y', ev, hn, eH, k1, k2⟩ => ?_⟩
            have e1 := k1 us s1
            have e2 := k2 ws s2
            rw [a1] at e1; cases e1
            rw [a2] at e2; cases e2
            subst ev; subst eH; subst ep
            exact ⟨Fr.hid hn, rep3.hid hn, pair_new hn b1 b2⟩

/-! ### texts -/
def strsOf : List PV → Option (List (List Nat))
  | [] => some []
  | .str c :: r => (strsOf r).map (c :: ·)
  | _ :: _ => none
theorem strsOf_rl : ∀ {ps : List PV} {ns : List (List Nat)} {vs : List V}, strsOf ps = some ns → Rls K H vs ps → vs = (ns.map fun c => (⟨c.toArray⟩ : Str)).map V.str
  | [], ns, vs, e, r => by
    have e1 : some [] = some ns := e
    cases e1
    exact r
  | .str i :: ps, ns, vs, e, ⟨v, w, e2, h1, h2⟩ => by
    have e1 : (strsOf ps).map (i :: ·) = some ns := e
    cases q : strsOf ps with
    | none => rw [q] at e1; cases e1
    | some ms =>
      rw [q] at e1
      cases e1
      have h1 : v = .str ⟨i.toArray⟩ := h1
      rw [e2, h1, strsOf_rl q h2]
      rfl
  | .non :: _, _, _, e, _ => nomatch e
  | .bl _ :: _, _, _, e, _ => nomatch e
  | .int _ :: _, _, _, e, _ => nomatch e
  | .tup _ :: _, _, _, e, _ => nomatch e
  | .ref _ :: _, _, _, e, _ => nomatch e
  | .ty _ :: _, _, _, e, _ => nomatch e
  | .lsv _ :: _, _, _, e, _ => nomatch e
  | .exv _ _ _ _ _ :: _, _, _, e, _ => nomatch e
  | .lam _ _ _ _ _ :: _, _, _, e, _ => nomatch e
  | .ktp _ :: _, _, _, e, _ => nomatch e
theorem strsOf_map : ∀ ns : List (List Nat), strsOf (ns.map PV.str) = some ns
  | [] => rfl
  | n :: ns => by
    show (strsOf (ns.map PV.str)).map (n :: ·) = some (n :: ns)
    rw [strsOf_map ns]; rfl
def joinP (sep : List Nat) : List (List Nat) → List Nat
  | [] => []
  | [c] => c
  | c :: d :: r => c ++ sep ++ joinP sep (d :: r)
theorem join_eq (sep : List Nat) : ∀ ns : List (List Nat), Str.join ⟨sep.toArray⟩ (ns.map fun c => (⟨c.toArray⟩ : Str)) = ⟨(joinP sep ns).toArray⟩
  | [] => rfl
  | [c] => rfl
  | c :: d :: r => by
    show (⟨c.toArray⟩ : Str) ++ ⟨sep.toArray⟩ ++ Str.join ⟨sep.toArray⟩ ((d :: r).map fun c => (⟨c.toArray⟩ : Str)) = _
    rw [join_eq sep (d :: r), str_app, str_app]
    rfl
/-- sep.join(..) -/
def qJoin (qo : QTE) (qa : QTH) : QTE := fun τ S P EP => qo τ S (fun o S1 => match o with
  | .str sep => qa τ S1 (fun x S2 => match x.its S2 with
    | some xs => match strsOf xs with
      | some ns => (ns.map List.length).sum + ns.length * sep.length ≤ 16777216 ∧ P (.str (joinP sep ns)) S2
      | none => False
    | none => False) EP
  | _ => False) EP
theorem q_join {qo : QTE} {qa : QTH} {o e : Expr} {apos : Pos} (ho : QE X T W o qo) (he : QH X T W e qa) (hs : starEach [e] X.env = [(false, eval e X.env)] := by rfl) (hbase : attributeBase o "join" X.env (eval o X.env) = eval o X.env := by rfl) (hline : (apos.endLine == pos.line) = true := by rfl) :
    QE X T W (.Call (.Attribute o "join" apos) [e] [] pos) (qJoin qo qa) :=
  pe_imp (pe_join ho he hs hbase hline) fun σ H Q h =>
    up_then (RR := Rl X.K) (RR' := Rl X.K) (qk := fun o τ S1 P EP => match o with
      | .str sep => qa τ S1 (fun x S2 => match x.its S2 with
        | some xs => match strsOf xs with
          | some ns => (ns.map List.length).sum + ns.length * sep.length ≤ 16777216 ∧ P (PV.str (joinP sep ns)) S2
          | none => False
        | none => False) EP
      | _ => False) h fun v x H1 l rl ⟨τ, S, P, EP, rs, rep, hf, k, kx⟩ => by
      cases x with
      | str sep =>
        have ev : v = .str ⟨sep.toArray⟩ := rl
        subst ev
        refine ⟨⟨_, rfl⟩, τ, S, _, EP, rs, rep, hf, fun w y H2 S2 fr r2 rep2 hp => ?_, kx⟩
        cases z : y.its S2 with
        | none => simp only [z] at hp
        | some xs =>
          simp only [z] at hp
          cases z2 : strsOf xs with
          | none => simp only [z2] at hp
          | some ns =>
            simp only [z2] at hp
            obtain ⟨c, us, e1, s1, t1⟩ := r2.at rep2 z
            subst e1
            rw [strsOf_rl z2 t1] at s1
            refine ⟨_, c, _, rfl, rfl, s1, ?_, ?_⟩
            · rw [List.map_map]
              have e : ((fun x : Str => x.length) ∘ fun c : List Nat => (⟨c.toArray⟩ : Str)) = List.length := by
                funext c
                exact str_len
              rw [e, List.length_map, str_len]
              exact hp.1
            · have e : Txt.join ⟨sep.toArray⟩ (ns.map fun c => (⟨c.toArray⟩ : Str)) = ⟨(joinP sep ns).toArray⟩ := by
                rw [← join_eq]
                exact PySem.StrLaws.glued_eq_join _ _
              rw [e]
              exact k (.str _) (.str (joinP sep ns)) H2 S2 fr rfl rep2 hp.2
      | _ => exact hf.elim
end
end Mp

set_option Elab.async false
set_option linter.all false
set_option maxRecDepth 100000
namespace Mp
open PySem PySem.Spec PyProof.Rows L2

section
variable {X : Cx} {T : List (Addr × Str)} {W : WX} {e a b tg : Expr} {es : List Expr} {K : PySem.W.Frag} {S S' S0 S1 : Sto} {H H' H0 H1 : Hp} {σ : L2.St} {τ : PSt} {PD : PEnds} {D : Ends} {pos p : Pos} {q : QTA}

/-! ### more methods of lists -/
theorem Rls.eraseIdx : ∀ {ps : List PV} {vs : List V} (i : Nat), Rls K H vs ps → Rls K H (vs.eraseIdx i) (ps.eraseIdx i)
  | [], _, _, e => by
    have e : _ = [] := e
    subst e; exact rfl
  | p :: ps, _, 0, ⟨v, r, e, h1, h2⟩ => by
    subst e; exact h2
  | p :: ps, _, i + 1, ⟨v, r, e, h1, h2⟩ => by
    subst e
    exact ⟨v, _, rfl, h1, Rls.eraseIdx i h2⟩
theorem Rls.one_of {vs : List V} {p : PV} (r : Rls K H vs [p]) : ∃ v, vs = [v] ∧ Rl K H v p := by
  obtain ⟨v, w, e, h1, h2⟩ := r
  have h2 : w = [] := h2
  subst h2
  exact ⟨v, e, h1⟩
theorem Rls.two_of {vs : List V} {p q : PV} (r : Rls K H vs [p, q]) : ∃ v w, vs = [v, w] ∧ Rl K H v p ∧ Rl K H w q := by
  obtain ⟨v, w, e, h1, v2, w2, e2, h3, h4⟩ := r
  have h4 : w2 = [] := h4
  subst h4; subst e2
  exact ⟨v, v2, e, h1, h3⟩
def fPopAt : FMt := fun c ps S P => match ps with
  | [.int i] => match S c with
    | some (.lst xs) => match ixN xs.length i with
      | some j => match xs[j]? with
        | some y => (-(2 ^ 63) ≤ i ∧ i < 2 ^ 63) ∧ P y (put S c (.lst (xs.eraseIdx j)))
        | none => False
      | none => False
    | _ => False
  | _ => False
theorem mq_popAt : MtQ K T rPopAt fPopAt := fun vs ps c H S P Q rl rep h k => by
  match ps, h with
  | [.int i], h =>
    unfold fPopAt at h
    simp only at h
    obtain ⟨v, e1, h1⟩ := rl.one_of
    have h1 : v = .int i := h1
    subst h1; subst e1
    cases z : S c with
    | none => rw [z] at h; exact h.elim
    | some ob =>
      rw [z] at h
      cases ob with
      | lst xs =>
        simp only at h
        obtain ⟨us, e2, t⟩ := rep.ob c _ z
        cases z2 : ixN xs.length i with
        | none => rw [z2] at h; exact h.elim
        | some j =>
          rw [z2] at h
          simp only at h
          cases z3 : xs[j]? with
          | none => rw [z3] at h; exact h.elim
          | some y =>
            rw [z3] at h
            obtain ⟨u, a1, a2⟩ := t.get z3
            refine ⟨c, us, i, j, u, rfl, rfl, e2, h.1.1, h.1.2, by rw [Rls.length t]; exact (ixN_seq z2).1, a1, ?_⟩
            have fr : Fr S H (put S c (.lst (xs.eraseIdx j))) (upd H c (.lst (us.eraseIdx j))) := Fr.wr z
            exact k u y _ _ fr (Rl.mono (fr.le rep) _ _ a2) (rep.wr (ob := .lst (xs.eraseIdx j)) z fun le => ⟨_, upd_same, Rls.mono le _ _ (t.eraseIdx j)⟩) h.2
      | _ => exact h.elim
theorem q_popAt {qo : QTE} {o e : Expr} {apos cpos : Pos} (ho : QE X T W o qo) (ha : QA X T W (e :: es) q)
    (hbase : attributeBase o "pop" X.env (eval o X.env) = eval o X.env := by rfl)
    (hfew : ((backTo cpos (starEach (e :: es) X.env)).all (fun x => !x.1) && (backToKw cpos (keywordEach [] X.env)).all (fun x => x.1.isSome) && decide ((e :: es).length + ([] : List Keyword).length + (if ([] : List Keyword).isEmpty then 0 else 1) < 30)) = true := by rfl)
    (hline : (apos.endLine == cpos.line) = true := by rfl) (hs : starEach (e :: es) X.env = (false, eval e X.env) :: starEach es X.env := by rfl) (hplain : (backTo cpos (starEach es X.env)).any (·.1) = false := by rfl) :
    QE X T W (.Call (.Attribute o "pop" apos) (e :: es) [] cpos) (qMl fPopAt qo q) :=
  q_ml PySem.F.slot_list_pop PySem.F.type_list_pop mt_popAt mq_popAt ho ha hbase hfew hline hs hplain
def fIns : FMt := fun c ps S P => match ps with
  | [.int i, x] => match S c with
    | some (.lst xs) => (xs.length < sizeLine ∧ 0 ≤ i ∧ i < 2 ^ 63) ∧ P .non (put S c (.lst (xs.take i.toNat ++ [x] ++ xs.drop i.toNat)))
    | _ => False
  | _ => False
def rInsert : V → List V → Hp → VK → Prop := fun x vs H Q => ∃ (l : Addr) (xs : List V) (i : Int) (y : V), x = .ref l ∧ vs = [.int i, y] ∧ H l = some (.lst xs) ∧ xs.length < sizeLine ∧ 0 ≤ i ∧ i < 2 ^ 63 ∧ Q .non (upd H l (.lst (xs.take i.toNat ++ [y] ++ xs.drop i.toNat)))
theorem mq_ins : MtQ K T rInsert fIns := fun vs ps c H S P Q rl rep h k => by
  match ps, h with
  | [.int i, x], h =>
    unfold fIns at h
    simp only at h
    obtain ⟨v, w, e1, h1, h2⟩ := rl.two_of
    have h1 : v = .int i := h1
    subst h1; subst e1
    cases z : S c with
    | none => rw [z] at h; exact h.elim
    | some ob =>
      rw [z] at h
      cases ob with
      | lst xs =>
        obtain ⟨us, e2, t⟩ := rep.ob c _ z
        refine ⟨c, us, i, w, rfl, rfl, e2, by rw [Rls.length t]; exact h.1.1, h.1.2.1, h.1.2.2, k .non .non _ _ (Fr.wr z) rfl (rep.wr (ob := .lst (xs.take i.toNat ++ [x] ++ xs.drop i.toNat)) z fun le => ⟨_, upd_same, Rls.mono le _ _ (((t.take _).append (Rls.one h2)).append (t.drop _))⟩) h.2⟩
      | _ => exact h.elim
theorem q_insert {qo : QTE} {o e : Expr} {apos cpos : Pos} (ho : QE X T W o qo) (ha : QA X T W (e :: es) q)
    (hbase : attributeBase o "insert" X.env (eval o X.env) = eval o X.env := by rfl)
    (hfew : ((backTo cpos (starEach (e :: es) X.env)).all (fun x => !x.1) && (backToKw cpos (keywordEach [] X.env)).all (fun x => x.1.isSome) && decide ((e :: es).length + ([] : List Keyword).length + (if ([] : List Keyword).isEmpty then 0 else 1) < 30)) = true := by rfl)
    (hline : (apos.endLine == cpos.line) = true := by rfl) (hs : starEach (e :: es) X.env = (false, eval e X.env) :: starEach es X.env := by rfl) (hplain : (backTo cpos (starEach es X.env)).any (·.1) = false := by rfl) :
    QE X T W (.Call (.Attribute o "insert" apos) (e :: es) [] cpos) (qMl fIns qo q) :=
  q_ml PySem.F.slot_list_insert PySem.F.type_list_insert mt_insert mq_ins ho ha hbase hfew hline hs hplain
/-- xs.pop() -/
def qPop (qo : QTE) : QTE := fun τ S P EP => qo τ S (fun o S1 => match o with
  | .ref c => match S1 c with
    | some (.lst xs) => match xs[xs.length - 1]? with
      | some y => P y (put S1 c (.lst xs.dropLast))
      | none => False
    | _ => False
  | _ => False) EP
theorem Rls.dropLast {ps : List PV} {vs : List V} (r : Rls K H vs ps) : Rls K H vs.dropLast ps.dropLast := by
  rw [List.dropLast_eq_take, List.dropLast_eq_take, Rls.length r]
  exact r.take _
theorem q_pop {qo : QTE} {o : Expr} {apos cpos : Pos} (ho : QE X T W o qo) (hbase : attributeBase o "pop" X.env (eval o X.env) = eval o X.env := by rfl) (hline : (apos.endLine == cpos.line) = true := by rfl) :
    QE X T W (.Call (.Attribute o "pop" apos) [] [] cpos) (qPop qo) :=
  pe_imp (pe_bm0 PySem.F.plainAttrs_list PySem.F.slot_list_pop PySem.F.type_list_pop mt_pop ho hbase hline) fun σ H Q h =>
    up_then (RR := Rl X.K) (RR' := Rl X.K) (qk := fun o _ S1 P _ => match o with
      | .ref c => match S1 c with
        | some (.lst xs) => match xs[xs.length - 1]? with
          | some y => P y (put S1 c (.lst xs.dropLast))
          | none => False
        | _ => False
      | _ => False) h fun v x H1 l rl ⟨τ, S, P, EP, rs, rep, hf, k, kx⟩ => by
      cases x with
      | ref c =>
        have e1 : v = .ref c := rl
        subst e1
        simp only at hf
        cases z : S c with
        | none => rw [z] at hf; exact hf.elim
        | some ob =>
          rw [z] at hf
          cases ob with
          | lst xs =>
            simp only at hf
            cases z3 : xs[xs.length - 1]? with
            | none => rw [z3] at hf; exact hf.elim
            | some y =>
              rw [z3] at hf
              obtain ⟨vs, e2, t⟩ := rep.ob c _ z
              obtain ⟨u, a1, a2⟩ := t.get z3
              have fr : Fr S H1 (put S c (.lst xs.dropLast)) (upd H1 c (.lst vs.dropLast)) := Fr.wr z
              refine ⟨.inl ⟨rfl, vs, SqL.of e2⟩, c, vs, u, rfl, rfl, e2, by rw [Rls.length t]; exact a1, ?_⟩
              exact k u y _ _ fr (Rl.mono (fr.le rep) _ _ a2) (rep.wr (ob := .lst xs.dropLast) z fun le => ⟨_, upd_same, Rls.mono le _ _ t.dropLast⟩) hf
          | _ => exact hf.elim
      | _ => exact hf.elim
/-- xs.extend(ys) -/
def SH.mut : SH → Bool
  | .hid _ _ => true
  | .val (.ref _) => true
  | _ => false
theorem RSH.mutl {v : V} {l : SH} {xs : List PV} (r : RSH K S H v l) (rep : Rep K T S H) (h : l.its S = some xs) (n : l.mut = true) : ∃ a vs, v = .ref a ∧ H a = some (.lst vs) ∧ Rls K H vs xs := by
  cases l with
  | hid a ys =>
    have h : some ys = some xs := h
    cases h
    obtain ⟨e, vs, e1, _, rl⟩ := r
    exact ⟨a, vs, e, e1, rl⟩
  | val x =>
    cases x with
    | ref c =>
      unfold SH.its seqOf at h
      simp only at h
      cases z : S c with
      | none => rw [z] at h; cases h
      | some ob =>
        rw [z] at h
        cases ob with
        | lst ys =>
          cases h
          obtain ⟨us, e1, t1⟩ := rep.ob c _ z
          exact ⟨c, us, r, e1, t1⟩
        | _ => cases h
    | _ => cases n
def qExt (qo : QTE) (qa : QTH) : QTE := fun τ S P EP => qo τ S (fun o S1 => match o with
  | .ref c => match S1 c with
    | some (.lst _) => qa τ S1 (fun x S2 => match S2 c, x.its S2 with
      | some (.lst xs), some ys => x.mut = true ∧ xs.length + ys.length ≤ sizeLine ∧ P .non (put S2 c (.lst (xs ++ ys)))
      | _, _ => False) EP
    | _ => False
  | _ => False) EP
theorem q_extend {qo : QTE} {qa : QTH} {o e : Expr} {apos cpos : Pos} (ho : QE X T W o qo) (ha : QH X T W e qa)
    (hbase : attributeBase o "extend" X.env (eval o X.env) = eval o X.env := by rfl)
    (hfew : ((backTo cpos (starEach [e] X.env)).all (fun x => !x.1) && (backToKw cpos (keywordEach [] X.env)).all (fun x => x.1.isSome) && decide ([e].length + ([] : List Keyword).length + (if ([] : List Keyword).isEmpty then 0 else 1) < 30)) = true := by rfl)
    (hline : (apos.endLine == cpos.line) = true := by rfl) (hs : starEach [e] X.env = (false, eval e X.env) :: starEach [] X.env := by rfl) (hplain : (backTo cpos (starEach [] X.env)).any (·.1) = false := by rfl) :
    QE X T W (.Call (.Attribute o "extend" apos) [e] [] cpos) (qExt qo qa) :=
  pe_imp (pe_bm PySem.F.plainAttrs_list PySem.F.slot_list_extend PySem.F.type_list_extend mt_extend ho (pa_cons ha pa_nil hs) hbase hfew hline hs hplain) fun σ H Q h =>
    up_then (RR := Rl X.K) (RR' := Rl X.K) (qk := fun o τ S1 P EP => match o with
      | .ref c => match S1 c with
        | some (.lst _) => qa τ S1 (fun x S2 => match S2 c, x.its S2 with
          | some (.lst xs), some ys => x.mut = true ∧ xs.length + ys.length ≤ sizeLine ∧ P PV.non (put S2 c (.lst (xs ++ ys)))
          | _, _ => False) EP
        | _ => False
      | _ => False) h fun v x H1 l rl ⟨τ, S, P, EP, rs, rep, hf, k, kx⟩ => by
      cases x with
      | ref c =>
        have e1 : v = .ref c := rl
        subst e1
        simp only at hf
        cases z : S c with
        | none => rw [z] at hf; exact hf.elim
        | some ob =>
          rw [z] at hf
          cases ob with
          | lst xs0 =>
            obtain ⟨vs0, e0, t0⟩ := rep.ob c _ z
            refine ⟨.inl ⟨rfl, vs0, SqL.of e0⟩, τ, S, _, EP, rs, rep, hf, fun w y H2 S2 fr r2 rep2 hp => ?_, kx⟩
            cases z2 : S2 c with
            | none => simp only [z2] at hp
            | some ob2 =>
              cases ob2 with
              | lst xs =>
                cases z3 : y.its S2 with
                | none => simp only [z2, z3] at hp
                | some ys =>
                  simp only [z2, z3] at hp
                  obtain ⟨c2, us, e2, g2, t2⟩ := r2.mutl rep2 z3 hp.1
                  obtain ⟨vs, e1, t1⟩ := rep2.ob c _ z2
                  subst e2
                  refine ⟨c, c2, vs, us, rfl, rfl, e1, g2, by rw [Rls.length t1, Rls.length t2]; exact hp.2.1, ?_⟩
                  have f2 : Fr S2 H2 (put S2 c (.lst (xs ++ ys))) (upd H2 c (.lst (vs ++ us))) := Fr.wr z2
                  exact k .non .non _ _ (fr.trans f2) rfl (rep2.wr (ob := .lst (xs ++ ys)) z2 fun le => ⟨_, upd_same, Rls.mono le _ _ (t1.append t2)⟩) hp.2.2
              | _ => simp only [z2] at hp
          | _ => exact hf.elim
      | _ => exact hf.elim

/-! ### in, not in -/
def flatP : PV → Bool
  | .non => true
  | .bl _ => true
  | .int _ => true
  | .str _ => true
  | _ => false
def eqF : PV → PV → Bool
  | .non, .non => true
  | .bl c, .bl d => c == d
  | .bl c, .int j => (if c then 1 else 0) == j
  | .int i, .bl d => i == (if d then 1 else 0)
  | .int i, .int j => decide (i = j)
  | .str c, .str d => decide (c = d)
  | _, _ => false
def inF (x : PV) (xs : List PV) : Bool := xs.any fun y => eqF y x
def toV : PV → V
  | .non => .non
  | .bl c => .bl c
  | .int i => .int i
  | .str cs => .str ⟨cs.toArray⟩
  | _ => .non
theorem flat_rl {v : V} {x : PV} (r : Rl K H v x) (f : flatP x = true) : v = toV x ∧ flatV v = true := by
  cases x <;> first
    | (have e : v = _ := r
       subst e
       exact ⟨rfl, rfl⟩)
    | cases f
theorem eqF_V {x y : PV} (fx : flatP x = true) (fy : flatP y = true) : eqV (toV y) (toV x) = eqF y x := by
  cases x <;> cases fx <;> cases y <;> cases fy <;> first
    | rfl
    | (rename_i c d
       show (_ == _) = decide (_ = _)
       first
        | (rw [Bool.beq_eq_decide_eq]
           refine decide_eq_decide.mpr ⟨fun h => ?_, fun h => by rw [h]⟩
           have z : d.toArray.toList = c.toArray.toList := congrArg (fun (x : Str) => x.cps.toList) h
           simpa using z)
        | (rw [Bool.beq_eq_decide_eq]; done)
        | (rw [Bool.eq_iff_iff]; simp))
theorem flats_rl : ∀ {xs : List PV} {vs : List V}, Rls K H vs xs → xs.all flatP = true → vs = xs.map toV ∧ vs.all flatV = true
  | [], _, r, _ => by
    have e : _ = [] := r
    subst e
    exact ⟨rfl, rfl⟩
  | x :: xs, _, ⟨v, w, e, h1, h2⟩, f => by
    rw [List.all_cons, Bool.and_eq_true] at f
    obtain ⟨a1, a2⟩ := flat_rl h1 f.1
    obtain ⟨b1, b2⟩ := flats_rl h2 f.2
    subst e
    exact ⟨by rw [a1, b1]; rfl, by rw [List.all_cons, a2, b2]; rfl⟩
theorem inV_F {x : PV} (fx : flatP x = true) : ∀ {xs : List PV}, xs.all flatP = true → inV (toV x) (xs.map toV) = inF x xs
  | [], _ => rfl
  | y :: xs, f => by
    rw [List.all_cons, Bool.and_eq_true] at f
    have ih := inV_F fx f.2
    unfold inV inF at ih ⊢
    rw [List.map_cons, List.any_cons, List.any_cons, eqF_V fx f.1, ih]
def ng (n c : Bool) : Bool := match n with
  | true => !c
  | false => c
/-- x in xs, by the items -/
def inS (n : Bool) (x : PV) (xs : List PV) (S : Sto) (P : QK PV) : Prop := match flatP x && xs.all flatP with
  | true => P (.bl (ng n (inF x xs))) S
  | false => ∃ d ds, DatS S x d ∧ DatsS S xs ds ∧ SeqAt.shaped d = true ∧ SeqAt.shaped (.list ds) = true ∧ P (.bl (ng n (ds.any fun z => PyData.eqv z d))) S
def sgOf : PV → SH → Option (Nat × List Nat)
  | .str [c], .val (.str cs) => some (c, cs)
  | _, _ => none
theorem sgOf_some {x : PV} {y : SH} {r : Nat × List Nat} (h : sgOf x y = some r) : x = .str [r.1] ∧ y = .val (.str r.2) := by
  unfold sgOf at h
  split at h
  · cases h
    exact ⟨rfl, rfl⟩
  · cases h
def inM (n : Bool) (x : PV) (y : SH) (S2 : Sto) (P : QK PV) : Prop := match sgOf x y with
  | some r => P (.bl (ng n (decide (r.1 ∈ r.2)))) S2
  | none => match y.its S2 with
    | some xs => inS n x xs S2 P
    | none => False
def qIn (n : Bool) (qa : QTE) (qb : QTH) : QTE := fun τ S P EP => qa τ S (fun x S1 => qb τ S1 (fun y S2 => inM n x y S2 P) EP) EP
def rInTD (K : PySem.W.Frag) (n : Bool) : R2 := fun x y H Q => ∃ d ds, Dp K H x d ∧ Dp K H y (.tuple ds) ∧ SeqAt.shaped d = true ∧ SeqAt.shaped (.list ds) = true ∧ Q (.bl (ng n (ds.any fun z => PyData.eqv z d))) H
theorem room_sh {A : Around} {d : PyData} {ds : List PyData} (h : SeqAt.shaped d = true) (hu : A.units + 65 < cLine) : A.units + 1 + min (PyData.depthAll ds) d.depth < cLine := by
  have h1 := SeqAt.depth_of_shaped h
  have h2 : min (PyData.depthAll ds) d.depth ≤ d.depth := Nat.min_le_right _ _
  omega
theorem op_inT (hu : X.A.units + 65 < cLine) : OpR X (compareOp .In) (rInTD X.K false) := by
  intro pins s σ H x y v u Q I rx ry ⟨d, ds, hd, he, sd, se, q⟩
  obtain ⟨as, r1⟩ := Dp.reads I d x v hd rx
  obtain ⟨bs, r2⟩ := Dp.reads I (.tuple ds) y u he ry
  exact SeqAt.in_tuple_reads r2 r1 (by exact SeqAt.canLay_of_shaped se) (SeqAt.canLay_of_shaped sd) (room_sh sd hu) ⟨.bl _, H, I, rfl, q⟩
theorem op_notinT (hu : X.A.units + 65 < cLine) : OpR X (compareOp .NotIn) (rInTD X.K true) := by
  intro pins s σ H x y v u Q I rx ry ⟨d, ds, hd, he, sd, se, q⟩
  obtain ⟨as, r1⟩ := Dp.reads I d x v hd rx
  obtain ⟨bs, r2⟩ := Dp.reads I (.tuple ds) y u he ry
  exact SeqAt.notIn_tuple_reads r2 r1 (by exact SeqAt.canLay_of_shaped se) (SeqAt.canLay_of_shaped sd) (room_sh sd hu) ⟨.bl _, H, I, rfl, q⟩
def rSign (n : Bool) : R2 := fun x y H Q => ∃ (c : Nat) (z : Str), x = .str ⟨#[c]⟩ ∧ y = .str z ∧ Q (.bl (ng n (decide (c ∈ z.cps.toList)))) H
theorem in_val {n : Bool} {x y : V} {px : PV} {py : SH} {P : QK PV} {Q : VK} (r1 : Rl K H x px) (r2 : RSH K S H y py) (rep : Rep K T S H)
    (h : inM n px py S P)
    (k : ∀ v p H' S', Fr S H S' H' → Rl K H' v p → Rep K T S' H' → P p S' → Q v H') :
    rSign n x y H Q ∨ rIn K n x y H Q ∨ (∃ d ds, Dp K H x d ∧ Dp K H y (.list ds) ∧ SeqAt.shaped d = true ∧ SeqAt.shaped (.list ds) = true ∧ Q (.bl (ng n (ds.any fun z => PyData.eqv z d))) H) ∨ rInTD K n x y H Q := by
  unfold inM at h
  cases hs : sgOf px py with
  | some r =>
    obtain ⟨e1, e2⟩ := sgOf_some hs
    rw [hs] at h
    subst e1; subst e2
    have r2 : y = .str ⟨r.2.toArray⟩ := r2
    exact .inl ⟨r.1, _, r1, r2, k (.bl _) (.bl _) H S Fr.refl rfl rep h⟩
  | none =>
    rw [hs] at h
    have h : match py.its S with
        | some xs => inS n px xs S P
        | none => False := h
    cases z : py.its S with
    | none => rw [z] at h; exact h.elim
    | some xs =>
      rw [z] at h
      have h : inS n px xs S P := h
      unfold inS at h
      cases zf : flatP px && xs.all flatP with
      | true =>
        rw [zf] at h
        rw [Bool.and_eq_true] at zf
        obtain ⟨a, vs, e1, sq, t⟩ := r2.at rep z
        obtain ⟨b1, b2⟩ := flat_rl r1 zf.1
        obtain ⟨c1, c2⟩ := flats_rl t zf.2
        refine .inr (.inl ⟨a, vs, e1, sq, b2, c2, ?_⟩)
        have e : (if n then !inV x vs else inV x vs) = ng n (inF px xs) := by
          rw [b1, c1, inV_F zf.1 zf.2]
          cases n <;> rfl
        rw [e]
        exact k (.bl _) (.bl _) H S Fr.refl rfl rep h
      | false =>
        rw [zf] at h
        obtain ⟨d, ds, h1, h2, h3, h4, h5⟩ := h
        have q := k (.bl _) (.bl _) H S Fr.refl rfl rep h5
        cases ht : py.tup with
        | true =>
          obtain ⟨a, vs, e1, sq, t⟩ := r2.tupl z ht
          subst e1
          exact .inr (.inr (.inr ⟨d, ds, dat_dp rep h1 r1, .tup sq (dats_dp rep h2 t), h3, h4, q⟩))
        | false =>
          obtain ⟨a, vs, e1, sq, t⟩ := r2.lst rep z ht
          subst e1
          exact .inr (.inr (.inl ⟨d, ds, dat_dp rep h1 r1, .lst sq (dats_dp rep h2 t), h3, h4, q⟩))
def rInAll (K : PySem.W.Frag) (n : Bool) : R2 := fun x y H Q => rSign n x y H Q ∨ rIn K n x y H Q ∨ (∃ d ds, Dp K H x d ∧ Dp K H y (.list ds) ∧ SeqAt.shaped d = true ∧ SeqAt.shaped (.list ds) = true ∧ Q (.bl (ng n (ds.any fun z => PyData.eqv z d))) H) ∨ rInTD K n x y H Q
theorem or_in (hu : X.A.units + 65 < cLine) : OpR X (compareOp .In) (rInAll X.K false) := OpR.or (fun pins s σ H x y v u Q I rx ry ⟨c, z, e1, e2, q⟩ => op_in_sign pins s σ H x y v u Q I rx ry ⟨c, z, e1, e2, q⟩) (OpR.or op_in_seq (OpR.or (op_inD hu) (op_inT hu)))
theorem or_notin (hu : X.A.units + 65 < cLine) : OpR X (compareOp .NotIn) (rInAll X.K true) := OpR.or (fun pins s σ H x y v u Q I rx ry ⟨c, z, e1, e2, q⟩ => op_notIn_sign pins s σ H x y v u Q I rx ry ⟨c, z, e1, e2, q⟩) (OpR.or op_notIn_seq (OpR.or (op_notInD hu) (op_notinT hu)))
theorem up_in {n : Bool} {qa : QTE} {qb : QTH} {Q : VK} (h : upG K T W (Rl K) (qIn n qa qb) σ H Q) : tOp (rInAll K n) (upG K T W (Rl K) qa) (upH K T W qb) σ H Q := by
  refine up_then (RR := Rl K) h fun x p1 H1 l1 r1 ⟨τ, S, P, EP, rs, rep, hf, k, kx⟩ => ?_
  refine ⟨τ, S, _, EP, rs, rep, hf, fun y p2 H2 S2 fr r2 rep2 hp => ?_, kx⟩
  exact in_val (Rl.mono (fr.le rep) _ _ r1) r2 rep2 hp fun v p H' S' f => k v p H' S' (fr.trans f)
theorem q_in {qa : QTE} {qb : QTH} (hu : X.A.units + 65 < cLine) (ha : QE X T W a qa) (hb : QH X T W b qb) (hm : behindInMarks .In b = false := by rfl) : QE X T W (.Compare a [.In] [b] pos) (qIn false qa qb) :=
  pe_imp (pe_cmpR (or_in hu) ha hb hm) fun σ H Q h => up_in h
theorem q_notin {qa : QTE} {qb : QTH} (hu : X.A.units + 65 < cLine) (ha : QE X T W a qa) (hb : QH X T W b qb) (hm : behindInMarks .NotIn b = false := by rfl) : QE X T W (.Compare a [.NotIn] [b] pos) (qIn true qa qb) :=
  pe_imp (pe_cmpR (or_notin hu) ha hb hm) fun σ H Q h => up_in h
theorem qt_in {qa : QTE} {qb : QTH} (hu : X.A.units + 65 < cLine) (ha : QE X T W a qa) (hb : QH X T W b qb) (hm : behindInMarks .In b = false := by rfl) : QT X T W (.Compare a [.In] [b] pos) (qTst (qIn false qa qb)) :=
  pt_imp (pt_cmpR (or_in hu) ha hb hm) fun σ H Q h => up_in (up_tst h)
theorem qt_notin {qa : QTE} {qb : QTH} (hu : X.A.units + 65 < cLine) (ha : QE X T W a qa) (hb : QH X T W b qb) (hm : behindInMarks .NotIn b = false := by rfl) : QT X T W (.Compare a [.NotIn] [b] pos) (qTst (qIn true qa qb)) :=
  pt_imp (pt_cmpR (or_notin hu) ha hb hm) fun σ H Q h => up_in (up_tst h)

/-! ### == of new lists -/
def qEqL (n : Bool) (qa qb : QTH) : QTE := fun τ S P EP => qa τ S (fun x S1 => qb τ S1 (fun y S2 => match x.its S2, y.its S2 with
  | some xs, some ys => (x.tup = false ∧ y.tup = false) ∧ ∃ ds es, DatsS S2 xs ds ∧ DatsS S2 ys es ∧ SeqAt.shaped (.list ds) = true ∧ SeqAt.shaped (.list es) = true ∧ P (.bl (ng n (PyData.eqvAll ds es))) S2
  | _, _ => False) EP) EP
def rEqA (K : PySem.W.Frag) (n : Bool) : R2 := fun x y H Q => ∃ d e, Dp K H x d ∧ Dp K H y e ∧ SeqAt.shaped d = true ∧ SeqAt.shaped e = true ∧ Q (.bl (ng n (PyData.eqv d e))) H
theorem up_eqL {n : Bool} {qa qb : QTH} {Q : VK} (h : upG K T W (Rl K) (qEqL n qa qb) σ H Q) : tOp (rEqA K n) (upH K T W qa) (upH K T W qb) σ H Q := by
  obtain ⟨τ, S, P, EP, h1, h2, h3, h4, h5⟩ := h
  refine ⟨τ, S, _, EP, h1, h2, h3, fun x p H1 S1 fr1 r1 rep1 hp1 => ?_, h5⟩
  refine ⟨τ, S1, _, EP, h1.mono (fr1.le h2), rep1, hp1, fun y p2 H2 S2 fr2 r2 rep2 hp2 => ?_, fun c d x H' S' fr => h5 c d x H' S' (fr1.trans fr)⟩
  have r1 := r1.fr rep1 fr2
  cases z1 : p.its S2 with
  | none => simp only [z1] at hp2
  | some xs =>
    cases z2 : p2.its S2 with
    | none => simp only [z1, z2] at hp2
    | some ys =>
      simp only [z1, z2] at hp2
      obtain ⟨⟨n1, n2⟩, ds, es, d1, d2, s1, s2, hp⟩ := hp2
      obtain ⟨u, us, e1, g1, t1⟩ := r1.lst rep2 z1 n1
      obtain ⟨w, ws, e2, g2, t2⟩ := r2.lst rep2 z2 n2
      subst e1; subst e2
      exact ⟨.list ds, .list es, .lst g1 (dats_dp rep2 d1 t1), .lst g2 (dats_dp rep2 d2 t2), s1, s2, h4 (.bl _) (.bl _) H2 S2 (fr1.trans fr2) rfl rep2 (by simpa only [PyData.eqv] using hp)⟩
theorem op_eqA (hu : X.A.units + 64 < cLine) : OpR X (compareOp .Eq) (rEqA X.K false) := op_eqD hu
theorem op_neA (hu : X.A.units + 64 < cLine) : OpR X (compareOp .NotEq) (rEqA X.K true) := op_neD hu
theorem q_eqL {qa qb : QTH} (hu : X.A.units + 64 < cLine) (ha : QH X T W a qa) (hb : QH X T W b qb) : QE X T W (.Compare a [.Eq] [b] pos) (qEqL false qa qb) := pe_imp (pe_cmpR (op_eqA hu) ha hb (nomark _)) fun σ H Q h => up_eqL h
theorem q_neL {qa qb : QTH} (hu : X.A.units + 64 < cLine) (ha : QH X T W a qa) (hb : QH X T W b qb) : QE X T W (.Compare a [.NotEq] [b] pos) (qEqL true qa qb) := pe_imp (pe_cmpR (op_neA hu) ha hb (nomark _)) fun σ H Q h => up_eqL h
theorem qt_eqL {qa qb : QTH} (hu : X.A.units + 64 < cLine) (ha : QH X T W a qa) (hb : QH X T W b qb) : QT X T W (.Compare a [.Eq] [b] pos) (qTst (qEqL false qa qb)) := pt_imp (pt_cmpR (op_eqA hu) ha hb (nomark _)) fun σ H Q h => up_eqL (up_tst h)
theorem qt_neL {qa qb : QTH} (hu : X.A.units + 64 < cLine) (ha : QH X T W a qa) (hb : QH X T W b qb) : QT X T W (.Compare a [.NotEq] [b] pos) (qTst (qEqL true qa qb)) := pt_imp (pt_cmpR (op_neA hu) ha hb (nomark _)) fun σ H Q h => up_eqL (up_tst h)

/-! ### len of a new list -/
def qLenL (q : QTA) : QTE := fun τ S P EP => q τ S (fun xs S1 => P (.int xs.length) S1) EP
theorem q_lenL (hg : Gl X "len") (hm : X.mg "len" = none) (ha : QL X T W e q) (he : starEach [e] X.env = [(false, eval e X.env)] := by rfl) : QE X T W (.Call (.Name "len" p) [e] [] pos) (qLenL q) :=
  pe_imp (pe_callB call_len hg hm PySem.boot_len (pa_cons ha pa_nil he) (he := he)) fun σ H Q ⟨τ, S, P, EP, h1, h2, h3, h4, h5⟩ =>
    ⟨τ, S, _, EP, h1, h2, h3, fun a vs ps H1 S1 fr g n nu rl rep hp => ⟨_, ps.length, rfl, .inl ⟨vs, SqL.of g, (Rls.length rl).symm⟩, h4 (.int _) (.int _) H1 S1 fr rfl rep hp⟩, h5⟩
end
end Mp

set_option Elab.async false
set_option linter.all false
set_option maxRecDepth 100000
namespace Mp
open PySem PySem.Spec PyProof.Rows L2

section
variable {X : Cx} {T : List (Addr × Str)} {W : WX} {e a b tg : Expr} {es : List Expr} {K : PySem.W.Frag} {S S' S0 S1 : Sto} {H H' H0 H1 : Hp} {σ : L2.St} {τ : PSt} {PD : PEnds} {D : Ends} {pos p : Pos} {q : QTA}

/-! ### [.. for .. in .. if ..] -/
def pwipe (τ : PSt) : List Nat → PSt
  | [] => τ
  | v :: vs => (pwipe τ vs).set v none
theorem RS.wipe (r : RS K H σ τ) : ∀ vs : List Nat, RS K H (L2.wipe σ vs) (pwipe τ vs)
  | [] => r
  | v :: vs => (RS.wipe r vs).unset
structure Tg where
  vs : List Nat
  go : PV → PSt → Option PSt
/-- a block's target -/
def TgOk (K : PySem.W.Frag) (t : Tg) (g : TG) : Prop := ∀ v p σ τ τ1 H (Q : L2.St → Hp → Prop), Rl K H v p → RS K H σ τ → t.go p τ = some τ1 →
  (∀ σ2, L2.wipe σ2 t.vs = L2.wipe σ t.vs → RS K H σ2 τ1 → Q σ2 H) → g v (L2.wipe σ t.vs) H Q
def tg1 (i : Nat) : Tg := ⟨[i], fun p τ => some ((pwipe τ [i]).set i (some p))⟩
theorem tg1_ok {i : Nat} : TgOk K (tg1 i) (gName i) := fun v p σ τ τ1 H Q rl rs e k => by
  cases e
  refine k _ ?_ ((RS.wipe rs [i]).set rl)
  show ((σ.set i none).set i (some v)).set i none = σ.set i none
  rw [List.set_set, List.set_set]
def tg2 (i j : Nat) : Tg := ⟨[i, j], fun p τ => match p with
  | .tup [x, y] => some (((pwipe τ [i, j]).set i (some x)).set j (some y))
  | _ => none⟩
theorem tg2_ok {i j : Nat} : TgOk K (tg2 i j) (gTup K 2 (gCons (gName i) (gCons (gName j) gNil))) := fun v p σ τ τ1 H Q rl rs e k => by
  match p, e with
  | .tup [x, y], e =>
    cases e
    obtain ⟨a, vs, e1, sq, t⟩ := rl
    obtain ⟨v1, v2, e2, r1, r2⟩ := t.two_of
    subst e1; subst e2
    refine ⟨a, _, rfl, SqT.of sq, rfl, v1, _, rfl, v2, _, rfl, rfl, ?_⟩
    refine k _ ?_ (((RS.wipe rs [i, j]).set r1).set r2)
    show (((((σ.set j none).set i none).set i (some v1)).set j (some v2)).set j none).set i none = (σ.set j none).set i none
    by_cases h : i = j
    · subst h
      simp only [List.set_set]
    · repeat first | rw [List.set_set] | rw [List.set_comm _ _ (fun z => h z)]
theorem Rls.three_of {vs : List V} {p q r : PV} (h : Rls K H vs [p, q, r]) : ∃ v w u, vs = [v, w, u] ∧ Rl K H v p ∧ Rl K H w q ∧ Rl K H u r := by
  obtain ⟨v, z, e, h1, h2⟩ := h
  obtain ⟨w, u, e2, h3, h4⟩ := Rls.two_of h2
  subst e2; subst e
  exact ⟨v, w, u, rfl, h1, h3, h4⟩
theorem pg_n1 {Y : Cx} {i : Nat} {x : Str} {px : Pos} (hN : Y.N.Nodup) (hi : Y.N[i]? = some x) (hx : Loc Y.env.scope x) (hf : Y.fn x = true ∨ Y.env.scope.names.lookup x = some .local) : PG Y (.Name x px) (gName i) := pg_name hN hi hx hf
/-- the turns -/
def lcQ (keep : Sto → Prop) (g : Tg) (t : QTT) (q : QTE) (τ : PSt) (P : QK (List PV)) : List PV → List PV → Sto → Prop
  | [], acc, S => P acc S
  | p :: r, acc, S => match g.go p τ with
    | some τ1 => t τ1 S (fun b S1 => iteB b (q τ1 S1 (fun y S2 => acc.length < sizeLine ∧ keep S2 ∧ lcQ keep g t q τ P r (acc ++ [y]) S2) X0) (keep S1 ∧ lcQ keep g t q τ P r acc S1)) X0
    | none => False
def qLc (qi : QTI) (g : Tg) (t : QTT) (q : QTE) : QTA := fun τ S P EP => qi τ S (fun s S1 => lcQ s.keep g t q τ P s.its [] S1) EP
def qYes : QTT := fun _ S P _ => P true S
def QTs (X : Cx) (T : List (Addr × Str)) (W : WX) (es : List Expr) (q : QTT) : Prop := PTs X es (upG X.K T W RB q)
theorem pts_imp {t t' : TT} (h : PTs X es t) (k : ∀ σ H Q, t' σ H Q → t σ H Q) : PTs X es t' := ⟨fun pins s σ H Q I w => h.run pins s σ H Q I (k σ H Q w)⟩
theorem qts_nil : QTs X T W [] qYes := pts_imp pts_nil fun σ H Q ⟨τ, S, P, EP, h1, h2, h3, h4, h5⟩ => h4 true true H S Fr.refl rfl h2 h3
theorem qts_one {t : QTT} (h : QT X T W e t) : QTs X T W [e] t := pts_one h
/-- the reading of a block is enough -/
theorem up_lc {wi : TI} {gt : TG} {tt : TT} {te : TE} {qi : QTI} {g : Tg} {t : QTT} {q : QTE} {Q : VK}
    (hw : ∀ σ H R, upI K T W qi σ H R → wi σ H R) (hg : TgOk K g gt) (ht : ∀ σ H Q, upG K T W0 RB t σ H Q → tt σ H Q) (he : ∀ σ H Q, upG K T W0 (Rl K) q σ H Q → te σ H Q)
    (h : ∃ τ S P EP, RS K H σ τ ∧ Rep K T S H ∧ qLc qi g t q τ S P EP ∧ (∀ a vs ps H' S', Fr S H S' H' → H' a = some (.lst vs) → S' a = none → Nu S H a → Rls K H' vs ps → Rep K T S' H' → P ps S' → Q (.ref a) H') ∧
      ∀ c d x H' S', Fr S H S' H' → XR K H' c d x → Rep K T S' H' → EP x S' → W c d σ H') : tLc wi gt tt te g.vs σ H Q := by
  obtain ⟨τ, S, P, EP, h1, h2, h3, h4, h5⟩ := h
  refine hw σ H _ ⟨τ, S, _, EP, h1, h2, h3, fun J s H1 S1 fr wk kp rp hp D hD => ?_, h5⟩
  have hSD : S1 D = none := rp.free hD
  refine ⟨fun i m H => m = s.its.length - i ∧ i ≤ s.its.length ∧ ∃ S acc vs, Fr S1 H1 S H ∧ Rep K T S H ∧ s.keep S ∧ H D = some (.lst vs) ∧ S D = none ∧ Rls K H vs acc ∧ lcQ s.keep g t q τ P (s.its.drop i) acc S,
    ⟨_, rfl, Nat.zero_le _, S1, [], [], Fr.hid hD, rp.hid hD, kp, upd_same, hSD, rfl, hp⟩, ?_⟩
  rintro i m H2 ⟨rfl, hi, S2, acc, vs, fr2, rp2, kp2, hd2, sd2, rl2, hq2⟩
  obtain ⟨hstop, hgo⟩ := wk S2 H2 fr2 rp2 kp2
  by_cases hl : i < s.its.length
  · obtain ⟨p, hp⟩ : ∃ p, s.its[i]? = some p := ⟨s.its[i], by simp [hl]⟩
    obtain ⟨go, yl⟩ := hgo i p hp
    have hdr : s.its.drop i = p :: s.its.drop (i + 1) := by
      rw [List.drop_eq_getElem_cons hl]
      rw [List.getElem?_eq_getElem hl] at hp
      rw [Option.some.inj hp]
    rw [hdr] at hq2
    unfold lcQ at hq2
    cases zg : g.go p τ with
    | none => rw [zg] at hq2; exact hq2.elim
    | some τ1 =>
      rw [zg] at hq2
      have hq2 : t τ1 S2 (fun b S1 => iteB b (q τ1 S1 (fun y S2 => acc.length < sizeLine ∧ s.keep S2 ∧ lcQ s.keep g t q τ P (s.its.drop (i + 1)) (acc ++ [y]) S2) X0) (s.keep S1 ∧ lcQ s.keep g t q τ P (s.its.drop (i + 1)) acc S1)) X0 := hq2
      refine .inr ⟨go, fun H3 => ∃ S acc vs, Fr S1 H1 S H3 ∧ Rep K T S H3 ∧ s.keep S ∧ H3 D = some (.lst vs) ∧ S D = none ∧ Rls K H3 vs acc ∧ lcQ s.keep g t q τ P (s.its.drop (i + 1)) acc S, fun H3 z => ⟨_, by omega, rfl, hl, z⟩, fun x H3 y => ?_⟩
      obtain ⟨fr3, rp3, rl3⟩ := yl x H3 y
      have f3 : Fr S1 H1 S2 H3 := fr2.trans fr3
      refine hg x p σ τ τ1 H3 _ rl3 (h1.mono ((fr.trans f3).le h2)) zg fun σ2 ew rs2 => ⟨ew, ?_⟩
      have d3 := fr3.keep hd2 (fun _ z => nomatch z) sd2
      refine ht σ2 H3 _ ⟨τ1, S2, _, _, rs2, rp3, hq2, fun c c' H4 S4 fr4 ec rp4 hb => ?_, fun _ _ _ _ _ _ _ _ z => z⟩
      have ec : c = c' := ec
      subst ec
      have d4 := fr4.keep d3.1 (fun _ z => nomatch z) d3.2
      have f4 : Fr S1 H1 S4 H4 := f3.trans fr4
      have rl4 : Rls K H4 vs acc := Rls.mono ((fr3.trans fr4).le rp2) _ _ rl2
      cases c with
      | false =>
        simp only [Bool.false_eq_true, if_false]
        exact ⟨S4, acc, vs, f4, rp4, hb.1, d4.1, d4.2, rl4, hb.2⟩
      | true =>
        simp only [if_true]
        refine he σ2 H4 _ ⟨τ1, S4, _, _, rs2.mono (fr4.le rp3), rp4, hb, fun v y H5 S5 fr5 rl5 rp5 hb5 => ?_, fun _ _ _ _ _ _ _ _ z => z⟩
        have d5 := fr5.keep d4.1 (fun _ z => nomatch z) d4.2
        have rl5a := Rls.mono (fr5.le rp4) _ _ rl4
        refine ⟨vs, d5.1, by rw [Rls.length rl5a]; exact hb5.1, S5, acc ++ [y], vs ++ [v], fun c o e1 e2 e3 => ?_, rp5.hidwr d5.2 d5.1 trivial, hb5.2.1, upd_same, d5.2, Rls.mono (le_chg d5.1 trivial) _ _ (rl5a.append (Rls.one rl5)), hb5.2.2⟩
        obtain ⟨g1, g2⟩ := (f4.trans fr5) c o e1 e2 e3
        refine ⟨?_, g2⟩
        by_cases z : c = D
        · subst z
          rw [hD] at e1; cases e1
        · rw [upd_ne z]; exact g1
  · have e : i = s.its.length := by omega
    subst e
    rw [List.drop_length] at hq2
    exact .inl ⟨hstop, h4 D vs acc H2 S2 (fr.trans fr2) hd2 sd2 (Nu.of fr hD) rl2 rp2 hq2⟩
theorem ql_lc {elt tg iter : Expr} {ifs : List Expr} {scope : Scope} {own : List (Str × Nat)} {pos : Pos} {qi : QTI} {gt : TG} {g : Tg} {t : QTT} {q : QTE} (hc : X.calm = true) (hN : X.N.Nodup) (hi : QI X T W tg iter qi) (ok : BlkOk X.N X.env.scope scope own) (hv : own.map (·.2) = g.vs) (hok : TgOk X.K g gt)
    (hg : ∀ (s : Shared) (H : Hp) (C : Addr) (cl : List (Str × Addr)) (fp : List Addr), PG (X.blk s H scope (compEnvC scope cl C X.env) fp) tg gt) (ht : ∀ (s : Shared) (H : Hp) (C : Addr) (cl : List (Str × Addr)) (fp : List Addr), QTs (X.blk s H scope (compEnvC scope cl C X.env) fp) T W0 ifs t)
    (he : ∀ (s : Shared) (H : Hp) (C : Addr) (cl : List (Str × Addr)) (fp : List Addr), QE (X.blk s H scope (compEnvC scope cl C X.env) fp) T W0 elt q) (hs : ∀ x, foldedSetIterable iter X.env x = pure x := by intro _; rfl) :
    QL X T W (.ListComp elt [⟨tg, iter, ifs, 0⟩] scope pos) (qLc qi g t q) :=
  pe_imp (pe_lc (tt := upG X.K T W0 RB t) (te := upG X.K T W0 (Rl X.K) q) hc hN hi ok hg ht he hs) fun σ H Q h => by
    rw [hv]
    exact up_lc (fun _ _ _ z => z) hok (fun _ _ _ z => z) (fun _ _ _ z => z) h
/-- name = [..] -/
theorem qs_setLc {i : Nat} {y : Str} {py : Pos} {elt tg iter : Expr} {ifs : List Expr} {scope : Scope} {own : List (Str × Nat)} {pos spos : Pos} {qi : QTI} {gt : TG} {g : Tg} {t : QTT} {q : QTE} (hc : X.calm = true) (hN : X.N.Nodup) (hi : QI X T W tg iter qi) (ok : BlkOk X.N X.env.scope scope own) (hv : own.map (·.2) = g.vs) (hok : TgOk X.K g gt)
    (hg : ∀ (s : Shared) (H : Hp) (C : Addr) (cl : List (Str × Addr)) (fp : List Addr), PG (X.blk s H scope (compEnvC scope cl C X.env) fp) tg gt) (ht : ∀ (s : Shared) (H : Hp) (C : Addr) (cl : List (Str × Addr)) (fp : List Addr), QTs (X.blk s H scope (compEnvC scope cl C X.env) fp) T W0 ifs t)
    (he : ∀ (s : Shared) (H : Hp) (C : Addr) (cl : List (Str × Addr)) (fp : List Addr), QE (X.blk s H scope (compEnvC scope cl C X.env) fp) T W0 elt q) (hs : ∀ x, foldedSetIterable iter X.env x = pure x := by intro _; rfl)
    (hy : X.N[i]? = some y := by rfl) (hyl : X.env.scope.names.lookup y = some .local := by rfl) (hsw : swapsWith (.ListComp elt [⟨tg, iter, ifs, 0⟩] scope pos) (some (.Name y py)) spos.line X.env = pure true := by rfl) :
    QS X T W (.Assign [.Name y py] (.ListComp elt [⟨tg, iter, ifs, 0⟩] scope pos) spos) (qSet i (qNew (qLc qi g t q))) :=
  ps_imp (ps_setLc (tt := upG X.K T W0 RB t) (te := upG X.K T W0 (Rl X.K) q) hc hN hy hyl hsw hi ok hg ht he hs) fun D σ H ⟨τ, S, PD, r, rep, hq, c⟩ => by
    show tLc _ gt _ _ (own.map (·.2)) σ H (fun x H1 => gName i x σ H1 D.nx)
    rw [hv]
    exact up_lc (fun _ _ _ z => z) hok (fun _ _ _ z => z) (fun _ _ _ z => z) ⟨τ, S, _, _, r, rep, hq, fun a vs ps H' S' fr e n nu rl rp hp => c.nx _ _ H' _ (fr.take nu) ((r.mono (fr.le rep)).set (show Rl X.K H' (.ref a) (.ref a) from rfl)) (rp.take (ob := .lst ps) ⟨vs, e, rl⟩) (hp a n),
      fun cc d x H' S' fr xr rp hp => c.ex cc d x σ τ H' S' fr (r.mono (fr.le rep)) xr rp hp⟩
end
end Mp

set_option Elab.async false
set_option linter.all false
set_option maxRecDepth 100000
namespace Mp
open PySem PySem.Spec PyProof.Rows L2

section
variable {X : Cx} {T : List (Addr × Str)} {W : WX} {e a b tg : Expr} {es : List Expr} {K : PySem.W.Frag} {S S' S0 S1 : Sto} {H H' H0 H1 : Hp} {σ : L2.St} {τ : PSt} {PD : PEnds} {D : Ends} {pos p : Pos} {q : QTA}

/-! ### trees without references, as data -/
mutual
def datP : PV → Bool
  | .non => true
  | .bl _ => true
  | .int _ => true
  | .str _ => true
  | .tup xs => datsP xs
  | _ => false
def datsP : List PV → Bool
  | [] => true
  | x :: xs => datP x && datsP xs
end
mutual
def dOf : PV → PyData
  | .non => .none
  | .bl c => .bool c
  | .int i => .int i
  | .str cs => .str ⟨cs.toArray⟩
  | .tup xs => .tuple (dsOf xs)
  | _ => .none
def dsOf : List PV → List PyData
  | [] => []
  | x :: xs => dOf x :: dsOf xs
end
theorem dsOf_map : ∀ xs : List PV, dsOf xs = xs.map dOf
  | [] => rfl
  | x :: xs => by rw [dsOf, dsOf_map xs]; rfl
theorem datsP_all : ∀ xs : List PV, datsP xs = xs.all datP
  | [] => rfl
  | x :: xs => by rw [datsP, datsP_all xs]; rfl
mutual
theorem datP_of : ∀ {x : PV}, datP x = true → DatS S x (dOf x)
  | .non, _ => .non
  | .bl c, _ => .bl c
  | .int i, _ => .int i
  | .str cs, _ => .str cs
  | .tup xs, h => .tup (datsP_of (by unfold datP at h; exact h))
  | .ref _, h => by unfold datP at h; cases h
  | .ty _, h => by unfold datP at h; cases h
  | .lsv _, h => by unfold datP at h; cases h
  | .exv _ _ _ _ _, h => by unfold datP at h; cases h
  | .lam _ _ _ _ _, h => by unfold datP at h; cases h
  | .ktp _, h => by unfold datP at h; cases h
theorem datsP_of : ∀ {xs : List PV}, datsP xs = true → DatsS S xs (dsOf xs)
  | [], _ => .nil
  | x :: xs, h => by
    unfold datsP at h
    rw [Bool.and_eq_true] at h
    exact .cons (datP_of h.1) (datsP_of h.2)
end

/-! ### sorted(xs) -/
abbrev leP : PV → PV → Bool := PySem.W.dataLe false dOf
def rSortP (K : PySem.W.Frag) (T : List (Addr × Str)) : List V → Hp → VK → Prop := fun vs H Q => ∃ (a : Addr) (bs : List (V × PV)), vs = [V.ref a] ∧ SqL K H a (bs.map Prod.fst) ∧ (∀ b ∈ bs, Rl K H b.1 b.2 ∧ datP b.2 = true ∧ (dOf b.2).depth ≤ 60) ∧
  PySem.W.AllAlike (bs.map fun b => dOf b.2) ∧ PySem.W.Sortable (bs.map fun b => dOf b.2) ∧ bs.length ≤ sizeLine ∧ ∀ p, H p = none → Q (.ref p) (upd H p (.lst ((bs.mergeSort (PySem.W.dataLe false fun b => dOf b.2)).map Prod.fst)))
theorem datP_dp : ∀ {x : PV} {v : V}, datP x = true → Rl K H v x → Dp K H v (dOf x) := fun {x v} h r => dat_dp (T := []) (S := fun _ => none) ⟨fun _ _ e => (by cases e), fun _ h => (by cases h)⟩ (datP_of h) r
theorem vals_each {R : Value → (V × PV) → Prop} : ∀ {bs : List (V × PV)} {us : List Value}, Vals (bs.map Prod.fst) us → (∀ b ∈ bs, ∀ u, RelV b.1 u → R u b) → PySem.W.EachIs R us bs
  | [], _, r, _ => by
    have r : Vals [] _ := r
    cases r
    exact .nil
  | b :: bs, _, r, h => by
    have r2 : Vals (b.1 :: bs.map Prod.fst) _ := r
    cases r2 with
    | cons r3 rr => exact .cons (h b (List.mem_cons_self ..) _ r3) (vals_each rr fun c hc => h c (List.mem_cons_of_mem _ hc))
theorem each_vals : ∀ {bs : List (V × PV)} {us : List Value}, PySem.W.EachIs (fun u b => RelV b.1 u) us bs → Vals (bs.map Prod.fst) us
  | [], _, r => by cases r; exact .nil
  | b :: bs, _, r => by
    cases r with
    | cons r rr => exact .cons r (each_vals rr)
theorem cr_sortP (hu : X.A.units + 64 < cLine) : CallR X (.builtin "sorted") (rSortP X.K T) := by
  intro pins s σ H vs us Q I r h
  obtain ⟨a, bs, rfl, hs, hb, h1, h2, h3, q⟩ := h
  obtain ⟨its, rv, hl, hz⟩ := I.list hs
  rw [Vals.ref1 r]
  refine PySem.W.sorted_data (R := fun u b => RelV b.1 u) (enc := fun b : V × PV => dOf b.2) hl.isList (vals_each rv fun b _ u r => r) (vals_each rv fun b hm u r => Dp.reads I _ _ _ (datP_dp (hb b hm).2.1 (hb b hm).1) r) h1 h2 h3 (fun b hm => by have := (hb b hm).2.2; omega) fun out hl2 eo => ?_
  have rv2 := each_vals eo
  obtain ⟨ep, he'⟩ := PyProof.Rows.sortedAll_at s.heap its out.toArray
  have hlen : ((bs.mergeSort (PySem.W.dataLe false fun b => dOf b.2)).map Prod.fst).length ≤ sizeLine := by
    rw [List.length_map, List.length_mergeSort]; exact h3
  exact ⟨.ref _, upd H (s.heap.objs.size + 1) (.lst ((bs.mergeSort (PySem.W.dataLe false fun b => dOf b.2)).map Prod.fst)), I.laid (t' := s.toks) (fun _ _ => PyProof.Rows.sortedAll_old) (Nat.le_succ _) ⟨hlen, out, ep, rv2, he'⟩, rfl, q _ (I.hok.fresh (Nat.le_succ _))⟩
theorem rls_zip : ∀ {xs : List PV} {vs : List V}, Rls K H vs xs → (vs.zip xs).map Prod.fst = vs ∧ (vs.zip xs).map Prod.snd = xs ∧ ∀ b ∈ vs.zip xs, Rl K H b.1 b.2 ∧ b.2 ∈ xs
  | [], _, r => by
    have e : _ = [] := r
    subst e
    exact ⟨rfl, rfl, fun _ h => by cases h⟩
  | x :: xs, _, ⟨v, w, e, h1, h2⟩ => by
    subst e
    obtain ⟨a1, a2, a3⟩ := rls_zip h2
    refine ⟨by simp [a1], by simp [a2], fun b hb => ?_⟩
    rw [List.zip_cons_cons, List.mem_cons] at hb
    rcases hb with e | hb
    · subst e
      exact ⟨h1, List.mem_cons_self ..⟩
    · exact ⟨(a3 b hb).1, List.mem_cons_of_mem _ (a3 b hb).2⟩
theorem rls_pairs : ∀ {bs : List (V × PV)}, (∀ b ∈ bs, Rl K H b.1 b.2) → Rls K H (bs.map Prod.fst) (bs.map Prod.snd)
  | [], _ => rfl
  | b :: bs, h => ⟨b.1, bs.map Prod.fst, rfl, h b (List.mem_cons_self ..), rls_pairs fun c hc => h c (List.mem_cons_of_mem _ hc)⟩
def sortC (xs : List PV) : Prop := (∀ x ∈ xs, datP x = true ∧ (dOf x).depth ≤ 60) ∧ PySem.W.AllAlike (xs.map dOf) ∧ PySem.W.Sortable (xs.map dOf) ∧ xs.length ≤ sizeLine
def qSorted (qa : QTH) : QTA := fun τ S P EP => qa τ S (fun x S1 => match x.its S1 with
  | some xs => (x.tup = false ∧ sortC xs) ∧ P (xs.mergeSort leP) S1
  | none => False) EP
theorem ql_sorted {qa : QTH} (hu : X.A.units + 64 < cLine) (hg : Gl X "sorted") (hm : X.mg "sorted" = none) (ha : QH X T W e qa) (he : starEach [e] X.env = [(false, eval e X.env)] := by rfl) : QL X T W (.Call (.Name "sorted" p) [e] [] pos) (qSorted qa) :=
  pe_imp (pe_callB (cr_sortP (T := T) hu) hg hm (by decide +kernel) (pa_cons ha pa_nil he) (he := he)) fun σ H Q ⟨τ, S, P, EP, h1, h2, h3, h4, h5⟩ =>
    ⟨τ, S, _, EP, h1, h2, h3, fun v x H1 S1 fr rl rep hp => by
      cases z : x.its S1 with
      | none => rw [z] at hp; exact hp.elim
      | some xs =>
        rw [z] at hp
        obtain ⟨⟨nt, c1, c2, c3, c4⟩, hp⟩ := hp
        obtain ⟨a, us, e1, s, t⟩ := rl.lst rep z nt
        subst e1
        obtain ⟨z1, z2, z3⟩ := rls_zip t
        have em : (us.zip xs).map (fun b => dOf b.2) = xs.map dOf := by
          conv => rhs; rw [← z2]
          rw [List.map_map]; rfl
        refine ⟨a, us.zip xs, rfl, by rw [z1]; exact s, fun b hb => ⟨(z3 b hb).1, c1 _ (z3 b hb).2⟩, by rw [em]; exact c2, by rw [em]; exact c3, ?_, fun n hn => ?_⟩
        · have e : (us.zip xs).length = xs.length := by rw [← List.length_map (f := Prod.snd), z2]
          rw [e]; exact c4
        · have es : ((us.zip xs).mergeSort (PySem.W.dataLe false fun b => dOf b.2)).map Prod.snd = xs.mergeSort leP := by
            have q := List.map_mergeSort (f := Prod.snd) (r := PySem.W.dataLe false fun b : V × PV => dOf b.2) (s := leP) (l := us.zip xs) (fun a _ b _ => rfl)
            rw [q, z2]
          have rs : Rls X.K H1 (((us.zip xs).mergeSort (PySem.W.dataLe false fun b => dOf b.2)).map Prod.fst) (xs.mergeSort leP) := by
            rw [← es]
            exact rls_pairs fun b hb => (z3 b (List.mem_mergeSort.mp hb)).1
          exact h4 n _ _ _ S1 (fr.trans (Fr.hid hn)) upd_same (rep.free hn) (Nu.of fr hn) (Rls.mono (le_new hn) _ _ rs) (rep.hid hn) hp, h5⟩

/-! ### a text times an int -/
def rMulS : R2 := fun x y H Q => ∃ (s : Str) (n : Int), x = .str s ∧ y = .int n ∧ MulOk s n ∧ Q (.str (Txt.mul s n)) H
theorem op_mulS : OpR X (binaryOp .Mult) rMulS := by
  intro pins s σ H x y v u Q I rx ry ⟨z, n, e1, e2, ok, h⟩
  subst e1; subst e2
  obtain ⟨t, rfl⟩ := rx
  obtain ⟨t2, rfl⟩ := ry
  exact SB.mul ok fun t' k => ⟨.str _, H, I.kept (t' := k) fun _ _ e => e, ⟨t', rfl⟩, h⟩
def repP : Nat → List Nat → List Nat
  | 0, _ => []
  | n + 1, cs => cs ++ repP n cs
theorem rep_fold (cs : List Nat) : ∀ (n : Nat) (acc : Array Nat), (List.replicate n cs.toArray).foldl (· ++ ·) acc = acc ++ (repP n cs).toArray
  | 0, acc => by simp [repP]
  | n + 1, acc => by
    rw [List.replicate_succ, List.foldl_cons, rep_fold cs n]
    simp [repP]
theorem rep_empty : ∀ n : Nat, repP n [] = []
  | 0 => rfl
  | n + 1 => by rw [repP, rep_empty n]; rfl
theorem mul_txt (cs : List Nat) (n : Int) : Txt.mul ⟨cs.toArray⟩ n = ⟨(repP n.toNat cs).toArray⟩ := by
  unfold Txt.mul
  by_cases h : n < 1
  · rw [if_pos h]
    have e : n.toNat = 0 := by omega
    rw [e]; rfl
  · rw [if_neg h]
    by_cases h2 : (n == 1 || (⟨cs.toArray⟩ : Str).length == 0) = true
    · rw [if_pos h2]
      rw [Bool.or_eq_true] at h2
      rcases h2 with h2 | h2
      · have e : n = 1 := by simpa using h2
        subst e
        show _ = (⟨(cs ++ []).toArray⟩ : Str)
        rw [List.append_nil]
      · rw [str_len] at h2
        have e : cs = [] := by simpa using h2
        subst e
        rw [rep_empty]
    · rw [if_neg h2]
      show (⟨(List.replicate n.toNat cs.toArray).foldl (· ++ ·) #[]⟩ : Str) = _
      rw [rep_fold]
      simp
def fMulA : FO2 := fun x y S P => match x, y with
  | .int i, .int j => CMul i j ∧ P (.int (i * j)) S
  | .str cs, .int n => (cs.length ≤ 256 ∧ -1000 ≤ n ∧ n ≤ 65536) ∧ P (.str (repP n.toNat cs)) S
  | _, _ => False
theorem or_mul : OpR X (binaryOp .Mult) (fun x y H Q => rI CMul (fun i j => .int (i * j)) x y H Q ∨ rMulS x y H Q) := OpR.or op_mul op_mulS
theorem oq_mulA : OpQ K T (fun x y H Q => rI CMul (fun i j => .int (i * j)) x y H Q ∨ rMulS x y H Q) fMulA := by
  intro x y p1 p2 H S P Q r1 r2 rep h k
  cases p1 <;> cases p2 <;> try exact h.elim
  case int.int i j => exact .inl ⟨i, j, r1, r2, h.1, k (.int (i * j)) (.int (i * j)) H S Fr.refl rfl rep h.2⟩
  case str.int cs n =>
    refine .inr ⟨_, n, r1, r2, PyProof.Rows.mulOk_of 256 65536 (by rw [str_len]; exact h.1.1) h.1.2.2 (by have := h.1.2.1; omega) (by decide) (by decide), ?_⟩
    rw [mul_txt]
    exact k (.str _) (.str (repP n.toNat cs)) H S Fr.refl rfl rep h.2
theorem q_mulA {qa qb : QTE} (ha : QE X T W a qa) (hb : QE X T W b qb) : QE X T W (.BinOp a .Mult b pos) (qBin fMulA qa qb) := q_bin or_mul oq_mulA ha hb
end
end Mp

set_option Elab.async false
set_option linter.all false
set_option maxRecDepth 100000
theorem L2.Room.units1 {k : Nat} {A : PySem.Around} (r : L2.Room k A) : A.units + 65 < PySem.cLine := by have := r.un; omega
namespace Mp
open PySem PySem.Spec PyProof.Rows L2

/-! ### a def that calls itself, so many deep -/
def spN0 (m : Nat) (r : PSp → QTS) : Nat → PSp
  | 0 => fun _ _ _ _ => False
  | k + 1 => spDef m (r (spN0 m r k))
@[irreducible] def spN (m : Nat) (r : PSp → QTS) (k : Nat) : PSp := spN0 m r k
theorem spN_succ {m : Nat} {r : PSp → QTS} {k : Nat} : spN m r (k + 1) = spDef m (r (spN m r k)) := by
  unfold spN
  rfl
section
variable {P : Program} {w : World} {K : PySem.W.Frag} {mg : Str → Option Value} {base : Heap} {T : List (Addr × Str)}
theorem fnok_zero {m n k : Nat} {r : PSp → QTS} {f : Addr} {fd : FuncData} {ps : List Str} : FnOk P w K mg base (L2N.CX P w) k f fd ps (spOf K T n (spN m r 0)) := by
  unfold spN
  exact ⟨fun vs H Q E h => by obtain ⟨_, _, _, _, _, _, _, h, _⟩ := h; exact h.elim, fun A outer s H args us vs Q E _ _ _ _ h => by obtain ⟨_, _, _, _, _, _, _, h, _⟩ := h; exact h.elim⟩
theorem fn_rec {n m L0 : Nat} {r : PSp → QTS} {x : Str} {st : Stmt} {f : Addr} {fd : FuncData} {ps : List Str} (hm : mg x = some (.ref f)) (F : Fun K x x st f fd) (hb : Binds K fd ps []) (hn : ps.length = n) (hp : ps = (defArgs st).args.map (·.arg))
    (mk : ∀ k sp, L0 ≤ k → Fn P w K mg base T k x st n sp → FnOk P w K mg base (L2N.CX P w) (k + 1) f fd ps (spOf K T n (spDef m (r sp)))) : ∀ b, Fn P w K mg base T (L0 + b) x st n (spN m r b)
  | 0 => fn_mk hm F hb hn hp fnok_zero
  | b + 1 => by
    rw [spN_succ]
    exact fn_mk hm F hb hn hp (mk (L0 + b) _ (Nat.le_add_right _ _) (fn_rec hm F hb hn hp mk b))
end
end Mp

set_option Elab.async false
set_option linter.all false
set_option maxRecDepth 100000
namespace Mp
open PySem PySem.Spec PyProof.Rows L2

/-! ### blocks, by what holds between the turns -/
theorem lcQ_go {keep : Sto → Prop} {g : Tg} {t : QTT} {q : QTE} {τ : PSt} {P : QK (List PV)} (I : Nat → List PV → Sto → Prop) {its0 : List PV} (hz : its0.length ≤ sizeLine)
    (step : ∀ i p acc S (N : PV → Sto → Prop) (M : Sto → Prop), its0[i]? = some p → I i acc S → (∀ y S2, keep S2 → I (i + 1) (acc ++ [y]) S2 → N y S2) → (∀ S2, keep S2 → I (i + 1) acc S2 → M S2) →
      ∃ τ1, g.go p τ = some τ1 ∧ t τ1 S (fun b S1 => iteB b (q τ1 S1 N X0) (M S1)) X0)
    (fin : ∀ acc S, I its0.length acc S → P acc S) : ∀ (its : List PV) (i : Nat) (acc : List PV) (S : Sto), its0.drop i = its → i ≤ its0.length → acc.length ≤ i → I i acc S → lcQ keep g t q τ P its acc S
  | [], i, acc, S, hd, hi, _, h => by
    have e : i = its0.length := by
      have : (its0.drop i).length = 0 := by rw [hd]; rfl
      rw [List.length_drop] at this
      omega
    subst e
    unfold lcQ
    exact fin acc S h
  | p :: r, i, acc, S, hd, hi, ha, h => by
    have hp : its0[i]? = some p := by
      have : (its0.drop i)[0]? = some p := by rw [hd]; rfl
      rwa [List.getElem?_drop, Nat.add_zero] at this
    have hl : i < its0.length := (List.getElem?_eq_some_iff.mp hp).1
    have hd2 : its0.drop (i + 1) = r := by
      have : (its0.drop i).drop 1 = r := by rw [hd]; rfl
      rwa [List.drop_drop] at this
    obtain ⟨τ1, e1, h1⟩ := step i p acc S (fun y S2 => acc.length < sizeLine ∧ keep S2 ∧ lcQ keep g t q τ P r (acc ++ [y]) S2) (fun S1 => keep S1 ∧ lcQ keep g t q τ P r acc S1) hp h
      (fun y S2 k h2 => ⟨by omega, k, lcQ_go I hz step fin r (i + 1) (acc ++ [y]) S2 hd2 hl (by rw [List.length_append]; simp; omega) h2⟩)
      (fun S2 k h2 => ⟨k, lcQ_go I hz step fin r (i + 1) acc S2 hd2 hl (by omega) h2⟩)
    unfold lcQ
    rw [e1]
    exact h1
theorem lcQ_inv {keep : Sto → Prop} {g : Tg} {t : QTT} {q : QTE} {τ : PSt} {P : QK (List PV)} {S : Sto} {its : List PV} (I : Nat → List PV → Sto → Prop) (hz : its.length ≤ sizeLine) (h0 : I 0 [] S)
    (step : ∀ i p acc S (N : PV → Sto → Prop) (M : Sto → Prop), its[i]? = some p → I i acc S → (∀ y S2, keep S2 → I (i + 1) (acc ++ [y]) S2 → N y S2) → (∀ S2, keep S2 → I (i + 1) acc S2 → M S2) →
      ∃ τ1, g.go p τ = some τ1 ∧ t τ1 S (fun b S1 => iteB b (q τ1 S1 N X0) (M S1)) X0)
    (fin : ∀ acc S, I its.length acc S → P acc S) : lcQ keep g t q τ P its [] S := lcQ_go I hz step fin its 0 [] S rfl (Nat.zero_le _) (Nat.zero_le _) h0
/-- a block that changes nothing -/
theorem lcQ_pure {keep : Sto → Prop} {g : Tg} {t : QTT} {q : QTE} {τ : PSt} {P : QK (List PV)} {S : Sto} {its : List PV} (f : PV → Bool) (m : PV → PV) (hz : its.length ≤ sizeLine) (kp : keep S)
    (step : ∀ p (N : PV → Sto → Prop) (M : Sto → Prop), p ∈ its → (f p = true → N (m p) S) → (f p = false → M S) → ∃ τ1, g.go p τ = some τ1 ∧ t τ1 S (fun b S1 => iteB b (q τ1 S1 N X0) (M S1)) X0)
    (fin : P ((its.filter f).map m) S) : lcQ keep g t q τ P its [] S := by
  refine lcQ_inv (fun i acc S' => S' = S ∧ acc = ((its.take i).filter f).map m) hz ⟨rfl, rfl⟩ (fun i p acc S' N M hp ⟨e1, e2⟩ hN hM => ?_) fun acc S' ⟨e1, e2⟩ => ?_
  · subst e1; subst e2
    have ht : its.take (i + 1) = its.take i ++ [p] := by rw [List.take_add_one, hp]; rfl
    refine step p N M (List.mem_of_getElem? hp) (fun hf => hN _ _ kp ⟨rfl, ?_⟩) (fun hf => hM _ kp ⟨rfl, ?_⟩)
    · rw [ht, List.filter_append, List.map_append, List.filter_cons_of_pos hf]; rfl
    · rw [ht, List.filter_append, List.filter_cons_of_neg (by rw [hf]; exact Bool.false_ne_true), List.filter_nil, List.append_nil]
  · subst e1; subst e2
    rw [List.take_length]
    exact fin
/-- a statement, then the rest: what stands between -/
theorem seq_join {A rest : QTS} {D : PEnds} {τ : PSt} {S : Sto} (J : PSt → Sto → Prop) (h1 : ∀ N : PSt → Sto → Prop, (∀ τ' S', J τ' S' → N τ' S') → A { D with nx := N } τ S) (h2 : ∀ τ' S', J τ' S' → rest D τ' S') : qSeq A rest D τ S := h1 _ h2
/-! ### loops by places -/
section
variable {keep : Sto → Prop} {g : QTG} {tb : QTS} {D : PEnds} {τ : PSt} {S : Sto}
theorem forQ_ix {its : List PV} (I : Nat → PSt → Sto → Prop) (h0 : I 0 τ S)
    (hs : ∀ i p, its[i]? = some p → ∀ τ S (N : PSt → Sto → Prop), I i τ S → (∀ τ' S', I (i + 1) τ' S' → keep S' → N τ' S') → g p τ S fun τ1 S1 => tb { D with nx := N, ct := N, bk := D.nx } τ1 S1)
    (hd : ∀ τ S, I its.length τ S → D.nx τ S) : forQ keep g tb D its τ S := by
  refine forQ_at (fun r τ S => ∃ i, r = its.drop i ∧ i ≤ its.length ∧ I i τ S) ⟨0, rfl, Nat.zero_le _, h0⟩ (fun p r τ S N ⟨i, hr, hi, h⟩ hN => ?_) fun τ S ⟨i, hr, hi, h⟩ => ?_
  · have hl : i < its.length := by
      have : (its.drop i).length = r.length + 1 := by rw [← hr]; rfl
      rw [List.length_drop] at this
      omega
    rw [List.drop_eq_getElem_cons hl] at hr
    injection hr with e1 e2
    refine hs i p (by rw [e1]; simp [hl]) τ S N h fun τ' S' h' k => hN τ' S' ⟨i + 1, e2, hl, h'⟩ k
  · have e : i = its.length := by
      have : (its.drop i).length = 0 := by rw [← hr]; rfl
      rw [List.length_drop] at this
      omega
    subst e
    exact hd τ S h
theorem forQ_join {its : List PV} (J : PSt → Sto → Prop) (h1 : ∀ N : PSt → Sto → Prop, (∀ τ' S', J τ' S' → N τ' S') → forQ keep g tb { D with nx := N } its τ S) (h2 : ∀ τ' S', J τ' S' → D.nx τ' S') : forQ keep g tb D its τ S := h1 D.nx h2
theorem rangeP_at {n i : Nat} {p : PV} (h : (rangeP 0 n)[i]? = some p) : p = .int i ∧ i < n := by
  have hi : i < n := by
    have := (List.getElem?_eq_some_iff.mp h).1
    rwa [rangeP_length] at this
  simp [rangeP, hi] at h
  exact ⟨h.symm, hi⟩
theorem forQ_range {n : Nat} (I : Nat → PSt → Sto → Prop) (h0 : I 0 τ S)
    (hs : ∀ i : Nat, i < n → ∀ τ S (N : PSt → Sto → Prop), I i τ S → (∀ τ' S', I (i + 1) τ' S' → keep S' → N τ' S') → g (.int i) τ S fun τ1 S1 => tb { D with nx := N, ct := N, bk := D.nx } τ1 S1)
    (hd : ∀ τ S, I n τ S → D.nx τ S) : forQ keep g tb D (rangeP 0 n) τ S :=
  forQ_ix I h0 (fun i p hp τ S N h hN => by
    obtain ⟨e, hi⟩ := rangeP_at hp
    subst e
    exact hs i hi τ S N h hN) fun τ S h => hd τ S (by rwa [rangeP_length] at h)
end
/-! ### stores, once more -/
theorem put_put {S : Sto} {a : Addr} {o o' : Ob} : put (put S a o) a o' = put S a o' := by
  funext b
  simp only [put_apply]
  split <;> rfl
theorem Bx.put {S : Sto} {b c : Addr} {o : Ob} (h : Bx S b) (n : b ≠ c) : Bx (put S c o) b := let ⟨x, y, e, r⟩ := h; ⟨x, y, by rw [put_ne n]; exact e, r⟩
theorem Ext.at {b p : Addr} {S S' : Sto} {o : Ob} (x : Ext b S S') (n : p ≠ b) (h : S p = some o) : S' p = some o := x p o n h
theorem rangeP_len {n : Nat} (h : n ≤ 1000) : (rangeP 0 n).length ≤ sizeLine := by rw [rangeP_length]; exact le_line h
theorem Ext.wr {b p : Addr} {S S' : Sto} {o : Ob} (x : Ext b S S') (n : S p = none) : Ext b S (Mp.put S' p o) := fun a q ha h => by
  rw [put_ne (new_ne h n)]
  exact x a q ha h
theorem lt_line {n : Nat} (h : n < 1000) : n < sizeLine := Nat.lt_of_lt_of_le h (le_line (Nat.le_refl _))
theorem Sub.none {p : Addr} {S S' : Sto} (x : Sub S S') (h : S' p = none) : S p = none := by
  cases z : S p with
  | none => rfl
  | some o => rw [x p o z] at h; cases h
theorem Ext.none {b p : Addr} {S S' : Sto} (x : Ext b S S') (n : p ≠ b) (h : S' p = none) : S p = none := by
  cases z : S p with
  | none => rfl
  | some o => rw [x p o n z] at h; cases h
/-! ### what may be sorted -/
theorem sortC_str {os : List (List Nat)} (h : os.length ≤ sizeLine) : sortC (os.map PV.str) := by
  refine ⟨fun x hx => ?_, fun d hd d' hd' => ?_, Or.inr (fun d hd => ?_), (by rw [List.length_map]; exact h)⟩
  · obtain ⟨o, _, rfl⟩ := List.mem_map.mp hx
    exact ⟨rfl, (by rw [dOf, PyData.depth]; decide)⟩
  · obtain ⟨x, hx, rfl⟩ := List.mem_map.mp hd
    obtain ⟨o, _, rfl⟩ := List.mem_map.mp hx
    obtain ⟨y, hy, rfl⟩ := List.mem_map.mp hd'
    obtain ⟨u, _, rfl⟩ := List.mem_map.mp hy
    rfl
  · obtain ⟨x, hx, rfl⟩ := List.mem_map.mp hd
    obtain ⟨o, _, rfl⟩ := List.mem_map.mp hx
    exact ⟨fun e => (nomatch e), fun _ e => (nomatch e)⟩
/-- every item through a word -/
theorem lcQ_map {keep : Sto → Prop} {g : Tg} {q : QTE} {τ : PSt} {P : QK (List PV)} {S : Sto} {its : List PV} (m : PV → PV) (hz : its.length ≤ sizeLine) (kp : keep S)
    (step : ∀ p (N : PV → Sto → Prop), p ∈ its → N (m p) S → ∃ τ1, g.go p τ = some τ1 ∧ q τ1 S N X0) (fin : P (its.map m) S) : lcQ keep g qYes q τ P its [] S :=
  lcQ_pure (fun _ => true) m hz kp (fun p N M hp h1 _ => step p N hp (h1 rfl)) (by rw [List.filter_eq_self.mpr fun _ _ => rfl]; exact fin)
/-! ### places -/
theorem ixN_of {n : Nat} {i : Int} (h0 : 0 ≤ i) (h1 : i < n) : ixN n i = some i.toNat := by
  unfold ixN
  rw [if_pos h0, if_pos h1]
theorem atI_of {α : Type} {xs : List α} {i : Int} {x : α} (h0 : 0 ≤ i) (h : xs[i.toNat]? = some x) : atI xs i = some x := by
  have hl := (List.getElem?_eq_some_iff.mp h).1
  unfold atI
  rw [ixN_of h0 (by omega)]
  exact h
theorem atI_0 {α : Type} {x : α} {xs : List α} : atI (x :: xs) 0 = some x := atI_of (by decide) rfl
theorem atI_1 {α : Type} {x y : α} {xs : List α} : atI (x :: y :: xs) 1 = some y := atI_of (by decide) rfl
theorem cut_to {α : Type} {xs : List α} {h : Int} (h0 : 0 ≤ h) : cut xs none (some h) = xs.take h.toNat := by
  have e : HT.sIx xs.length xs.length (some h) = min h.toNat xs.length := by
    show (if h < 0 then _ else min h.toNat xs.length) = _
    rw [if_neg (by omega)]
  unfold cut
  rw [e, HT.sIx_none, List.drop_zero, Nat.sub_zero]
  rcases Nat.le_total h.toNat xs.length with g | g
  · rw [Nat.min_eq_left g]
  · rw [Nat.min_eq_right g, List.take_of_length_le (Nat.le_refl _), List.take_of_length_le g]
theorem cut_nat {α : Type} {xs : List α} {n : Nat} : cut xs none (some (n : Int)) = xs.take n := by
  rw [cut_to (by omega), Int.toNat_natCast]
theorem cut_from {α : Type} {xs : List α} {h : Int} (h0 : 0 ≤ h) : cut xs (some h) none = xs.drop h.toNat := by
  have e : HT.sIx xs.length 0 (some h) = min h.toNat xs.length := by
    show (if h < 0 then _ else min h.toNat xs.length) = _
    rw [if_neg (by omega)]
  unfold cut
  rw [e, HT.sIx_none]
  rcases Nat.le_total h.toNat xs.length with g | g
  · rw [Nat.min_eq_left g, List.take_of_length_le (by rw [List.length_drop]; exact Nat.le_refl _)]
  · rw [Nat.min_eq_right g, List.drop_eq_nil_of_le (Nat.le_refl _), List.drop_eq_nil_of_le g, List.take_nil]
end Mp

set_option Elab.async false
set_option linter.all false
set_option maxRecDepth 100000
set_option maxHeartbeats 2000000
namespace Mp
open PySem PySem.Spec PySem.W PySem.Calls PyProof.Rows PySem.HandSPX

/-! ### an own exception: super().__init__(text), then one field -/
structure XPos where
  (p1 p2 q1 q2 q3 q4 q5 q6 q7 q8 q9 q10 : Pos)
  j : Nat
def xArgs (fld : Str) (z : XPos) : Arguments := { posonlyargs := [], args := [{ arg := "self", annotation := none, pos := z.p1 }, { arg := fld, annotation := none, pos := z.p2 }], vararg := none, kwonlyargs := [], kw_defaults := [], kwarg := none, defaults := [] }
def xBody (fld msg : Str) (z : XPos) : List Stmt :=
  [.Expr (.Call (.Attribute (.Call (.Name "super" z.q1) [] [] z.q2) "__init__" z.q3) [.Constant (.str msg) z.j z.q4] [] z.q5) z.q6, .Assign [.Attribute (.Name "self" z.q7) fld z.q8] (.Name fld z.q9) z.q10]
def xScope (fld : Str) : Scope := { kind := .function, names := [("self", .local), (fld, .local), ("__class__", .free), ("super", .globalImplicit)], isGenerator := false, isCoroutine := false, more := [] }
structure OwnTxt (prog : Program) (K : Frag) (mg : Str → Option Value) (C fI : Addr) (fld : Str) : Prop where
  cls : ∃ nm q N bs bm sn sub ab col dd k0 k1 k2 k3 k5, K.lookup C = some (excClassObj nm q C N bs bm true sn sub ab col dd k0 k1 k2 k3 k5 "ValueError.__new__") ∧ refsVE bm = true
  sa : findIn K (.ref C) "__setattr__" = some (some (.builtin "object.__setattr__"))
  noN : findIn K (.ref C) fld = some none
  iC : findIn K (.ref C) "__init__" = some (some (.ref fI))
  tC : typeIn K (.ref fI) = some (.type "function")
  kC : keepIn K (.ref C) = true
  exC : subIn K (.ref C) (.type "BaseException") = some true
  tyC : typeIn K (.ref C) = some (.type "type")
  sup : ks_superIn K C C "__init__" = some (some (.builtin "ValueError.__init__"))
  subB : subIn K (.ref C) (.type "ValueError") = some true
  mroC : mroIn K C (.ref C) = some true
  stat : nsIn K cStatics "thirdparty.any" = some none
  fn : ∃ (oc doc pm ct ccl cl : Value) (od cdd cld an : Option Addr) (osl ccs csl : Array (Option Value)) (cda cc : Addr) (vs : Array Value) (file qual msg : Str) (tf : Tok) (z : XPos),
    (z.q3.endLine == z.q5.line) = true ∧ K.lookup fI = some ⟨oc, od, .func (ksFn "__init__" qual (xArgs fld z) (xBody fld msg z) (xScope fld) .none .none doc pm an (.ref cda) ct cc), osl⟩ ∧ codeIn K (.ref cda) qual = true ∧
    K.lookup cda = some ⟨ccl, cdd, .fields vs, ccs⟩ ∧ vs[2]? = some (.str file tf) ∧ ((prog.main.file : Str) == file) = true ∧ K.lookup cc = some ⟨cl, cld, .cell (some (.ref C)), csl⟩
/-- what __init__ leaves of a fresh exception at x -/
structure InitEnd (h h' : Heap) (x C dx : Addr) (fld : Str) (v : Value) : Prop where
  keep : ∀ b o, b ≠ x → h.get? b = some o → h'.get? b = some o
  obj : ∃ t1, h'.get? x = some { cls := .ref C, dict := some dx, data := .fields #[.ref t1, .none, .none, .none, .bool false, .none] }
  dbig : h.objs.size ≤ dx
  dne : dx ≠ x
  ns : h'.Ns1 dx (fun y => if y = fld then some v else none)
theorem at_mcall {M : Model} {A : Around} {E : Value → Shared → Prop} {s : Shared} {c : Code} {env : Env} {o : Expr} {name : Str} {apos pos : Pos} {args : List Expr} {Q : Value → Shared → Prop} (hline : (apos.endLine == pos.line) = true)
    (hfew : methodCallForm (args.length + ([] : List Keyword).length) (backTo pos (starEach args env)) (backToKw pos (keywordEach [] env)) = true)
    (h : _root_.PySem.wpAt M A c (attributeBase o name env (eval o env)) (fun ov s₁ => wpAny M A (calleeOf true o env ov name) (fun fx s₂ => wpAny M A (callWith pos fx.1 fx.2 (backTo pos (starEach args env)) []) Q E s₂) E s₁) E s) :
    _root_.PySem.wpAt M A c (eval (.Call (.Attribute o name apos) args [] pos) env) Q E s := by
  rw [arm_eval_Call]
  refine _root_.PySem.wpAt_bind (ks_wpAt_mono h (fun ov s₁ h₁ => _root_.PySem.wpAt_of_wpAny (wpAny_bind (wpAny_standAt ?_))) fun _ _ x => x)
  have hpos : methodCallPos true o env apos pos = pure pos := by unfold methodCallPos; simp [hline]
  unfold methodCall
  rw [hfew]
  refine wpAny_bind (wpAny_holding (wpAny_mono h₁ (fun fx s₂ h₂ => ?_) fun _ _ x => x))
  exact wpAny_bind (wpAny_of_eq hpos h₂)
theorem call_mw {prog : Program} {w : World} {A : Around} {E : Value → Shared → Prop} {h : Heap} {g : Array GenState} {d : Drawn} {t : Nat} {os : OsState} {nm q : Str} {C N : Addr} {bs bm : List Value} {hdct : Bool} {sn : List Str} {sub : List Value} {ab : Bool} {col : Option Bool} {dd : Option Addr} {k0 k1 k2 k3 k5 : Option Value}
    {u e t0 : Addr} {rest : List Value} {Q : Value → Shared → Prop} (hC : h.get? C = some (excClassObj nm q C N bs bm hdct sn sub ab col dd k0 k1 k2 k3 k5 "ValueError.__new__")) (he : h.get? e = some (excO C t0)) (hu : h.get? u = some (kxs_mw "ValueError.__init__" e)) (hrest : rest.length ≤ sizeLine)
    (hq : ∀ h' t1, (∀ b o, b ≠ e → h.get? b = some o → h'.get? b = some o) → h'.get? e = some (excO C t1) → Q .none ⟨h', g, d, t, os⟩) :
    wpAny (model prog w) A (call (.ref u) rest) Q E ⟨h, g, d, t, os⟩ := by
  refine wpAny_call (codeAny_of_tree ?_)
  show wpAny _ A.in1 (callAny (.ref u) ⟨rest, []⟩) _ _ _
  simp only [callAny]
  refine wpAny_bind (wpAny_load hu ?_)
  simp only [kxs_mw, show (Value.type "method-wrapper" == Value.type "method" || Value.type "method-wrapper" == Value.type "builtin_function_or_method" || Value.type "method-wrapper" == Value.type "method-wrapper") = true by decide, if_true]
  refine W.KFB.if_so (by decide) ?_
  refine wpAny_bind (check_bound_init F.excBase_ValueError.toExcCallFacts hC he rfl ?_)
  refine wpAny_bind (wpAny_pure (wpAny_pure ?_))
  refine ⟨Code.quiet_builtin _ (by decide +kernel), codeAny_builtin F.excBase_ValueError.initEntry ?_⟩
  rw [Around.under_plainId F.excBase_ValueError.init.plain _]
  wp_walk
  refine hq _ h.objs.size (fun b o hb ho => ?_) ?_
  · rw [Heap.get?_update_other _ _ (Ne.symm hb)]
    exact Heap.get?_push_of_some _ ho
  · rw [Heap.get?_update_self _ (Heap.get?_push_of_some _ he) rfl]
    rfl
section
variable {prog : Program} {w : World} {A : Around} {E : Value → Shared → Prop} {R : Result → Shared → Prop} {s : Shared} {K : Frag} {mg mb : Str → Option Value} {C fI : Addr} {fld : Str}
theorem own_init (T : OwnTxt prog K mg C fI fld) {x t0 : Addr} {v : Value} (X : K.In s.heap) (G : s.heap.Ns mainGlobals mg) (B : s.heap.Ns builtinsNs mb) (hs : mg "super" = none) (hb : mb "super" = some (.type "super")) (htop : (prog.main.scope.names.lookup ("super" : Str)).isSome = false)
    (hfl : fld = "at" ∨ fld = "value") (hlim : s.heap.NoLimit) (hx : s.heap.get? x = some (excO C t0)) (hxC : x ≠ C) (hnx : K.lookup x = none) (hroom : A.depth < recursionLimit)
    (hq : ∀ h' tk dx, InitEnd s.heap h' x C dx fld v → R (.ok (.ret .none)) { s with heap := h', toks := tk }) :
    codeAny (model prog w) A (.call (.ref fI) ⟨[.ref x, v], []⟩) R s := by
  obtain ⟨oc, doc, pm, ct, ccl, cl, od, cdd, cld, an, osl, ccs, csl, cda, cc, vs, file, qual, msg, tf, z, hline, ho, hcd, hco, hvs, hfile, hcell⟩ := T.fn
  obtain ⟨nm, q, N, bs, bm, sn, sub, ab, col, dd, k0, k1, k2, k3, k5, hC, hbm⟩ := T.cls
  have hcl : clsIn K C = some { name := nm, bases := bs, mro := .ref C :: bm, ns := N, qualname := q, hasDict := true, slotNames := sn, subclasses := sub, abstract := ab, collection := col, hasDel := false } := by unfold clsIn; rw [hC] <;> rfl
  have hbind : ∀ (doc pm : Value) (an : Option Addr), BindsTo s (ksFn "__init__" qual (xArgs fld z) (xBody fld msg z) (xScope fld) .none .none doc pm an (.ref cda) ct cc) ⟨[.ref x, v], []⟩ [("self", .ref x), (fld, v)] := fun doc pm an => by
    rcases hfl with rfl | rfl <;> exact BindsTo.of_eq (by first | rfl | with_unfolding_all rfl)
  have hcells : ∀ y ∈ (xScope fld).names, y.2 ≠ .cell := by rcases hfl with rfl | rfl <;> decide +kernel
  have hlocs : ∀ y ∈ ([("self", .ref x), (fld, v)] : List (Str × Value)), (xScope fld).names.lookup y.1 = some .local := by
    rcases hfl with rfl | rfl <;> (intro y hy; simp only [List.mem_cons, List.not_mem_nil, or_false] at hy; rcases hy with rfl | rfl <;> rfl)
  refine ks_codeAny_call_defAt (fd := ksFn "__init__" qual (xArgs fld z) (xBody fld msg z) (xScope fld) .none .none doc pm an (.ref cda) ct cc) (body := xBody fld msg z) (binds := [("self", .ref x), (fld, v)]) hroom (X _ _ ho) rfl hlim (codeRec_of X hcd) rfl
    (hbind doc pm an) hcells hlocs (fun h₁ hns k₁ => ?_) rfl rfl rfl
  have X₁ : K.In h₁ := X.keeps k₁
  have hx₁ := k₁ _ _ hx
  refine ks_wpAt_execs_cons (ks_wpAt_Expr_any (at_mcall hline (by rfl) ?_))
  have hks : (ksEnv qual (xScope fld) s.heap.objs.size fI (.ref cda) cc).kindOf "super" = some .globalImplicit := by rcases hfl with rfl | rfl <;> rfl
  have hkc : (ksEnv qual (xScope fld) s.heap.objs.size fI (.ref cda) cc).kindOf "__class__" = some .free := by rcases hfl with rfl | rfl <;> rfl
  have hself : (ksEnv qual (xScope fld) s.heap.objs.size fI (.ref cda) cc).kindOf "self" = some .local := rfl
  refine ks_wpAt_super_base (env := ksEnv qual (xScope fld) s.heap.objs.size fI (.ref cda) cc) hks hkc (by decide) rfl (X₁ _ _ ho) rfl rfl rfl (X₁ _ _ hco) rfl hvs hfile htop ?_
  refine ks_loadName_global rfl hks (loadGlobal_builtin (G.keeps k₁) hs (B.keeps k₁) hb ⟨rfl, ?_⟩)
  refine wpAny_loadName_free rfl hkc rfl ⟨_, X₁ _ _ hcell, rfl⟩ ?_
  refine wpAny_loadName_local rfl hself hns (v := .ref x) (by rcases hfl with rfl | rfl <;> rfl) ?_
  refine ks_wpAny_isType_cls (X₁ _ _ hC) rfl ⟨rfl, ?_⟩
  have X1e : ({ s with heap := h₁, toks := s.toks + ([("self", .ref x), (fld, v)] : List (Str × Value)).length } : Shared) = ⟨h₁, s.gens, s.drawn, s.toks + 2, s.os⟩ := rfl
  refine ks_wpAny_call_super (X₁ _ _ hC) rfl hx₁ rfl (fun c e => nomatch e) (looks_mroIn X₁ T.mroC) (fun h₂ hso k₂ => ?_)
  have X₂ : K.In h₂ := X₁.keeps k₂
  have hx₂ := k₂ _ _ hx₁
  have hsup : alongIn K "__init__" (((Value.ref C :: bm).dropWhile (· != .ref C)).drop 1) = some (some (.builtin "ValueError.__init__")) := by
    have z := T.sup
    unfold ks_superIn at z
    rw [hcl] at z
    exact z
  have IA : InstAt h₂ x (excO C t0) C none := ⟨hx₂, rfl, rfl, trivial⟩
  show wpAny _ _ (getMethod (.ref h₁.objs.size) "__init__" _) _ _ _
  refine kxs_getMethod kxs_ValueError hso (looks_opaque X₂ T.stat) (l₀ := .ref C :: bm) ?_ rfl X₂ hsup (IA.type.andThen (looks_subIn X₂ T.subB)) hxC (by decide) ?_
  · exact fun A Q E s k q => wpAny_bind ((looks_clsIn X₂ hcl) A _ E s k (wpAny_pure q))
  have lt2 : h₂.get? h₂.objs.size = none := by
    cases z : h₂.get? h₂.objs.size with
    | none => rfl
    | some o => exact absurd (Heap.lt_size z) (Nat.lt_irrefl _)
  have k₃ : ∀ b o, h₂.get? b = some o → (h₂.push (kxs_mw "ValueError.__init__" x)).get? b = some o := fun b o e => Heap.get?_push_of_some _ e
  refine kxs_callWith (i := "ValueError.__init__") (x := x) (by rfl) (evalArgs_plain (spliced_cons (wpAny_Constant_str (pos := z.q4) (k := z.j) (spliced_nil ⟨Heap.get?_push_at rfl rfl, ?_⟩))))
  refine call_mw (k₃ _ _ (X₂ _ _ hC)) (k₃ _ _ hx₂) (Heap.get?_push_at rfl rfl) (by rw [sizeLine_eq]; exact (by decide : 1 ≤ 16777216)) fun h₄ t1 k₄ hx₄ => ?_
  have k14 : ∀ b o, b ≠ x → h₁.get? b = some o → h₄.get? b = some o := fun b o n e => k₄ b o n (k₃ _ _ (k₂ _ _ e))
  have X₄ : K.In h₄ := fun a o e => k14 a o (fun zz => by rw [zz, hnx] at e; cases e) (X₁ a o e)
  have nL : s.heap.objs.size ≠ x := Nat.ne_of_gt (Heap.lt_size hx)
  have hns₄ : h₄.Ns s.heap.objs.size (fun y => ([("self", .ref x), (fld, v)] : List (Str × Value)).reverse.lookup y) := by
    obtain ⟨oL, es, ep, hL, r⟩ := hns
    exact ⟨oL, es, ep, k14 _ _ nL hL, r⟩
  show _root_.PySem.wpAt _ _ _ (execs _ _) _ _ _
  refine _root_.PySem.wpAt_of_wpAny (wpAny_execs_cons (plainObj_wpAny_Assign_Attribute ?_))
  refine wpAny_Name (wpAny_loadName_local rfl (by rcases hfl with rfl | rfl <;> rfl) hns₄ (v := v) (by rcases hfl with rfl | rfl <;> rfl) ?_) (by rcases hfl with rfl | rfl <;> decide)
  refine wpAny_Name (wpAny_loadName_local rfl hself hns₄ (v := .ref x) (by rcases hfl with rfl | rfl <;> rfl) ?_) (by decide)
  refine set_plain X₄ (ox := excO C t1) (od := none) ⟨hx₄, rfl, rfl, trivial⟩ T.sa ?_
  refine exc_osa X₄ hx₄ hcl (show refsVE (.ref C :: bm) = true from hbm) rfl T.noN (fun h₅ tk₅ dx k₅ dn dne hx₅ hn₅ => ?_)
  refine wpAny_execs_nil (hq h₅ tk₅ dx ⟨fun b o n e => k₅ b o n (k14 b o n (k₁ b o e)), ⟨t1, hx₅⟩, ?_, dne, hn₅⟩)
  have z := hns₄.lt
  exact Nat.le_of_lt (Nat.lt_of_lt_of_le z dn)
end
end Mp

set_option Elab.async false
set_option linter.all false
set_option maxRecDepth 100000
set_option maxHeartbeats 2000000
namespace Mp
open PySem PySem.Spec PyProof.Rows PySem.HandSPX L2

/-! ### an own exception, made -/
structure OwnMade (h h' : Heap) (e C d : Addr) (fld : Str) (v : Value) : Prop where
  keep : ∀ b o, h.get? b = some o → h'.get? b = some o
  new : h.objs.size ≤ e
  obj : ∃ oe vs, h'.get? e = some oe ∧ oe.cls = .ref C ∧ oe.dict = some d ∧ oe.data = .fields vs ∧ vs[1]? = some .none ∧ vs[2]? = some .none
  dbig : h.objs.size ≤ d
  dne : d ≠ e
  ns : h'.Ns1 d (fun y => if y = fld then some v else none)
section
variable {prog : Program} {w : World} {A : Around} {E : Value → Shared → Prop} {R : Result → Shared → Prop} {s : Shared} {K : PySem.W.Frag} {mg mb : Str → Option Value} {C fI : Addr} {fld : Str}
theorem own_made (T : OwnTxt prog K mg C fI fld) {v : Value} (X : K.In s.heap) (G : s.heap.Ns mainGlobals mg) (B : s.heap.Ns builtinsNs mb) (hs : mg "super" = none) (hb : mb "super" = some (.type "super")) (htop : (prog.main.scope.names.lookup ("super" : Str)).isSome = false)
    (hfl : fld = "at" ∨ fld = "value") (hlim : s.heap.NoLimit) (hroom : A.depth + 1 < recursionLimit)
    (hq : ∀ h' tk e d, OwnMade s.heap h' e C d fld v → R (.ok (.ret (.ref e))) { s with heap := h', toks := tk }) :
    codeAny (model prog w) A (.call (.ref C) ⟨[v], []⟩) R s := by
  obtain ⟨nm, q, N, bs, bm, sn, sub, ab, col, dd, k0, k1, k2, k3, k5, hC, hbm⟩ := T.cls
  obtain ⟨hp, g, dr, tk, os⟩ := s
  have k : ∀ b o, hp.get? b = some o → ((hp.push (PySem.W.kdv_tup [v])).push (excO C hp.objs.size)).get? b = some o := fun b o e => Heap.get?_push_of_some _ (Heap.get?_push_of_some _ e)
  have hget : ((hp.push (PySem.W.kdv_tup [v])).push (excO C hp.objs.size)).get? (hp.objs.size + 1) = some (excO C hp.objs.size) := by heap_get
  have hnx : K.lookup (hp.objs.size + 1) = none := by
    cases e : K.lookup (hp.objs.size + 1) with
    | none => rfl
    | some o =>
      have z : hp.get? (hp.objs.size + 1) = some o := X _ _ e
      exact absurd (Nat.lt_of_succ_lt (Heap.lt_size z)) (Nat.lt_irrefl _)
  have hxC : hp.objs.size + 1 ≠ C := fun z => by
    have y : hp.get? C = some _ := X _ _ hC
    rw [← z] at y
    exact absurd (Nat.lt_of_succ_lt (Heap.lt_size y)) (Nat.lt_irrefl _)
  refine call_own F.excBase_ValueError (fun Y => refsVE_contains Y bm hbm) (X _ _ hC) (PySem.W.looks_findIn X T.iC) (fun self => PySem.W.bind_fn X self T.tC) (by rw [sizeLine_eq]; exact (by decide : 1 ≤ 16777216)) ?_
  refine own_init (s := ⟨(hp.push (PySem.W.kdv_tup [v])).push (excO C hp.objs.size), g, dr, tk, os⟩) T (X.keeps k) (G.keeps k) (B.keeps k) hs hb htop hfl (hlim.keeps k) hget hxC hnx ?_ fun h' tk' dx ⟨k', ⟨t1, hx⟩, dn, dne, hns⟩ => ?_
  · show A.depth + 1 < recursionLimit
    exact hroom
  · have old : ∀ b o, hp.get? b = some o → h'.get? b = some o := fun b o e => k' b o (Nat.ne_of_lt (Nat.lt_succ_of_lt (Heap.lt_size e))) (k b o e)
    have z : hp.objs.size + 1 + 1 ≤ dx := by
      first
        | (simpa only [Heap.size_push] using dn)
        | exact dn
        | (have q := dn; rw [Heap.size_push, Heap.size_push] at q; exact q)
    exact ⟨rfl, hq h' tk' (hp.objs.size + 1) dx ⟨old, Nat.le_succ _, ⟨_, _, hx, rfl, rfl, rfl, rfl, rfl⟩, Nat.le_trans (Nat.le_trans (Nat.le_succ _) (Nat.le_succ _)) z, dne, hns⟩⟩
end
theorem relO_one {fld : Str} {v : V} {v' : Value} (r : RelV v v') (f : Str) : RelO (List.lookup f [(fld, v)]) (if f = fld then some v' else none) := by
  by_cases hw : f = fld
  · subst hw
    rw [if_pos rfl]
    have q : List.lookup f [(f, v)] = some v := by simp [List.lookup]
    rw [q]
    exact r
  · rw [if_neg hw]
    have qw : (f == fld) = false := by simpa using hw
    have q2 : List.lookup f [(fld, v)] = none := by simp [List.lookup, qw]
    rw [q2]
    trivial
section
variable {X : Cx} {C fI : Addr} {fld : Str}
/-- Refused(e) -/
def tMkOwn (C : Addr) (fld : Str) (ta : TA) : L2.St → Hp → XK → Prop := fun σ H Q => ta σ H fun vs H1 => ∃ v, vs = [v] ∧ ∀ d, H1 d = none → Q (.ref C) (some d) (upd H1 d (.xd [(fld, v)]))
theorem pmk_own1 {a : Expr} {ta : TA} {x : Str} {p pos : Pos} {k : Nat} (T : OwnTxt X.prog X.K X.mg C fI fld) (hfl : fld = "at" ∨ fld = "value") (gC : X.mg x = some (.ref C)) (hs : X.mg "super" = none) (htop : (X.prog.main.scope.names.lookup ("super" : Str)).isSome = false) (hr : Room k X.A) (ha : PA X [a] ta) (hg : Gl X x)
    (hdb : (x == ("__debug__" : Str)) = false := by decide) (he : starEach (a :: []) X.env = (false, eval a X.env) :: starEach [] X.env := by rfl) (hpl : (backTo pos (starEach [] X.env)).any (·.1) = false := by rfl) :
    L2N.PMk X (.Call (.Name x p) [a] [] pos) (tMkOwn C fld ta) := by
  intro pins s σ H Q I h
  refine wpAny_Call_Name_kw (ld_glob I hg gC ?_ hdb)
  refine PySem.W.callWith_K (h₀ := X.base) I.ok.mod.kin T.kC (thn (ha.run pos pins s σ H _ I h) fun us s1 hh => ?_) he hpl
  obtain ⟨vs, H1, I1, r1, v, ev, q1⟩ := hh
  subst ev
  refine ⟨I1.kIn, ?_⟩
  cases r1 with
  | cons rv rn =>
    rename_i v' us'
    cases rn
    show wpAny _ _ (call (.ref C) [v']) _ _ _
    have hlim := I1.nolimit
    obtain ⟨mb, b1, b2⟩ := I1.mod.blt
    have G := I1.mod.glob.keeps I1.bk
    have B := b1.keeps I1.bk
    have hsup : mb "super" = some (.type "super") := (b2 _ (by decide)).trans (by decide +kernel)
    obtain ⟨hp, g, dr, tk, os⟩ := s1
    refine wpAny_call (own_made T I1.kIn G B hs hsup htop hfl hlim (by have := hr.dp; omega) fun h' tk' e d M => ?_)
    show L2N.MkP X pins σ Q (.ref e) ⟨h', g, dr, tk', os⟩
    obtain ⟨oe, fv, hoe, hc, hd, hdat, h1, h2⟩ := M.obj
    have hz : L2N.Zn (.ref C) (some d) oe := by first | exact ⟨hc, hd⟩ | exact ⟨hc, hd, fun vs q => by rw [hdat] at q; cases q; exact h2⟩
    have hns := M.ns
    obtain ⟨G', g1, g2⟩ := restrict h' fun b => decide (b ≠ e)
    have gk : ∀ b, b ≠ e → G'.get? b = h'.get? b := fun b hb => g1 b (decide_eq_true hb)
    have ge : G'.get? e = none := g2 e (by simp)
    have old : ∀ b o, hp.get? b = some o → G'.get? b = some o := fun b o q => (gk b (Nat.ne_of_lt (Nat.lt_of_lt_of_le (Heap.lt_size q) M.new))).trans (M.keep b o q)
    have ob : ObjOk X.prog X.w (upd H1 d (.xd [(fld, v)])) G' d (.xd [(fld, v)]) := ⟨_, hns.at (fun o q => (gk d M.dne).trans q), fun f => relO_one rv f⟩
    have J : L2.Inv X pins σ (upd H1 d (.xd [(fld, v)])) ⟨G', g, dr, tk', os⟩ := I1.laid (t' := tk') old M.dbig ob
    refine ⟨e, oe, fv, ⟨G', g, dr, tk', os⟩, _, .ref C, some d, rfl, J, fun b o q => ?_, ge, hoe, hz, hdat, h1, ?_, rfl, I1.bare, raises_own T.exC T.tyC, q1 d (I1.hok.fresh M.dbig)⟩
    · by_cases hb : b = e
      · have q' : G'.get? b = some o := q
        rw [hb, ge] at q'; cases q'
      · exact (gk b hb).symm.trans q
    · rw [upd_ne (Ne.symm M.dne)]
      exact I1.hok.fresh M.new
end

/-! ### raise, try, over trees -/
section
variable {X : Cx} {T : List (Addr × Str)} {W : WX} {e a b tg : Expr} {es : List Expr} {K : PySem.W.Frag} {S S' S0 S1 : Sto} {H H' H0 H1 : Hp} {σ : L2.St} {τ : PSt} {PD : PEnds} {D : Ends} {pos p : Pos} {q : QTA} {C fI : Addr} {fld : Str}
/-- raise N(e) -/
def qRaise (n fld : Str) (q : QTE) : QTS := fun D τ S => q τ S (fun x S1 => D.ex ⟨n, [(fld, x)]⟩ τ S1) (exAt D τ)
theorem qs_raise {q : QTE} {x : Str} {pos2 : Pos} {k : Nat} (hc : X.calm = true) (Tx : OwnTxt X.prog X.K X.mg C fI fld) (hn : PySem.W.nsIn X.K mainGlobals x = some (some (.ref C))) (hfl : fld = "at" ∨ fld = "value") (gC : X.mg x = some (.ref C)) (hs : X.mg "super" = none) (htop : (X.prog.main.scope.names.lookup ("super" : Str)).isSome = false) (hr : Room k X.A) (tk : L2N.Takes X W) (ha : QE X T W a q) (hg : Gl X x := by rfl)
    (hdb : (x == ("__debug__" : Str)) = false := by decide) (he : starEach (a :: []) X.env = (false, eval a X.env) :: starEach [] X.env := by rfl) (hpl : (backTo pos (starEach [] X.env)).any (·.1) = false := by rfl) :
    QS X T W (.Raise (some (.Call (.Name x p) [a] [] pos)) none pos2) (qRaise x fld q) :=
  ps_imp (L2N.ps_raise hc tk (pmk_own1 Tx hfl gC hs htop hr (pa_cons ha pa_nil he) hg hdb he hpl)) fun D σ H ⟨τ, S, PD, r, rep, hq, c⟩ => by
    refine con_up (RR := Rl X.K) r rep c hq fun v x1 H1 S1 fr rs rl rp hp => ?_
    refine ⟨v, rfl, fun d hd => ?_⟩
    refine c.ex (.ref C) (some d) ⟨x, [(fld, x1)]⟩ σ τ _ S1 (fr.trans (Fr.hid hd)) (rs.mono (le_new hd)) ⟨hn, .inr ⟨d, [(fld, v)], rfl, upd_same, rfl, Rls.one (Rl.mono (le_new hd) _ _ rl)⟩⟩ (rp.hid hd) hp
end
end Mp

set_option Elab.async false
set_option linter.all false
set_option maxRecDepth 100000
set_option maxHeartbeats 2000000
namespace Mp
open PySem PySem.Spec PyProof.Rows PySem.HandSPX L2
section
variable {X : Cx} {T : List (Addr × Str)} {W : WX} {e a b tg : Expr} {es : List Expr} {K : PySem.W.Frag} {S S' S0 S1 : Sto} {H H' H0 H1 : Hp} {σ : L2.St} {τ : PSt} {PD : PEnds} {D : Ends} {pos p : Pos} {q : QTA}
/-- which classes a clause takes -/
abbrev XTab := Str → Option Bool
def XTest (K : PySem.W.Frag) (t : XTab) (cv : Value) : Prop := ∀ n b cls, t n = some b → PySem.W.nsIn K mainGlobals n = some (some cls) → PySem.W.exmOne K cls cv = some b
/-- a table written out -/
def tabL (l : List (Str × Bool)) : XTab := fun n => l.lookup n
theorem tabL_mem {l : List (Str × Bool)} {n : Str} {b : Bool} (h : tabL l n = some b) : (n, b) ∈ l := PySem.mem_of_lookup h
theorem tabL_true {l : List (Str × Bool)} {n : Str} {names : List Str} (h : tabL l n = some true) (hl : ∀ p ∈ l, p.2 = true → p.1 ∈ names) : n ∈ names := hl _ (tabL_mem h) rfl
/-- what a suite is read under -/
def XAt (K : PySem.W.Frag) (cls : Value) (x : PX) (d : Option Addr) : Prop := PySem.W.nsIn K mainGlobals x.C = some (some cls) ∧ ((d = none ∧ x.fs = []) ∨ ∃ dd, d = some dd)
abbrev exvOf (a : Addr) (x : PX) (d : Option Addr) : PV := .exv a x.C d (x.fs.map Prod.fst) (x.fs.map Prod.snd)
abbrev noEx (D : PEnds) : PEnds := { D with ex := fun _ _ _ => False }
/-- try: .. except N as n: .. -/
def qTryAs (i : Nat) (t : XTab) (tb : QTS) (ts : Addr → PX → Option Addr → QTS) : QTS := fun D τ S =>
  tb { D with ex := fun x τ' S' => ∃ b, t x.C = some b ∧ (b = true → ∀ a d, S' a = none → ts a x d { nx := fun τ2 S2 => D.nx (τ2.set i none) S2, rt := D.rt, bk := fun τ2 S2 => D.bk (τ2.set i none) S2, ct := fun τ2 S2 => D.ct (τ2.set i none) S2 } (τ'.set i (some (exvOf a x d))) S') ∧
    (b = false → D.ex x τ' S') } τ S
/-- try: .. except N: .. -/
def qTry (t : XTab) (tb : QTS) (ts : Addr → PX → Option Addr → QTS) : QTS := fun D τ S =>
  tb { D with ex := fun x τ' S' => ∃ b, t x.C = some b ∧ (b = true → ∀ a d, S' a = none → ts a x d { nx := D.nx, rt := D.rt, bk := D.bk, ct := D.ct } τ' S') ∧ (b = false → D.ex x τ' S') } τ S
theorem pss_ex {st : List Stmt} {ι : Type} {C : ι → Prop} {t : ι → TS} (h : ∀ i, C i → PSs X st (t i)) : PSs X st (fun D σ H => ∃ i, C i ∧ t i D σ H) := ⟨fun pins s σ H D I ⟨i, hi, w⟩ => (h i hi).run pins s σ H D I w⟩
theorem exv_rl {a : Addr} {x : PX} {c : Value} {d : Option Addr} (h : XR K H c d x) : Rl K H (.ref a) (exvOf a x d) := by
  refine ⟨rfl, ?_⟩
  rcases h.2 with ⟨e1, e2⟩ | ⟨dd, gs, e1, e2, e3, r⟩
  · exact .inl ⟨e1, by rw [e2]; rfl, by rw [e2]; rfl⟩
  · exact .inr ⟨dd, gs, e1, e2, e3, r⟩
theorem xat_of {x : PX} {c : Value} {d : Option Addr} (h : XR K H c d x) : XAt K c x d := ⟨h.1, h.2.imp id fun ⟨dd, _, e, _⟩ => ⟨dd, e⟩⟩
theorem qs_tryAs {x n : Str} {cv : Value} {i : Nat} {body suite : List Stmt} {b₀ : Stmt} {np pos' : Pos} {tb : QTS} {ts : Addr → PX → Option Addr → QTS} {t : XTab}
    (hs : X.stack = X.env :: X.outer) (hf : X.env.frame = some X.env.locals) (hN : X.N.Nodup) (hc : Names X x cv) (tk : L2N.Takes X W) (ht : XTest X.K t cv)
    (hb : ∀ (W : WX) (pn : List (Addr × Obj)) (xe : Value → Shared → Prop), L2N.Takes (X.tr pn xe) W → PassesOwn (model X.prog X.w) X.A X.env xe → QSs (X.tr pn xe) T W body tb)
    (hsu : ∀ (a : Addr) (oe : Obj) (cls : Value) (d : Option Addr) (pn : List (Addr × Obj)), L2N.Zn cls d oe → (∃ vs, oe.data = .fields vs) → ∀ x : PX, XAt X.K cls x d → t x.C = some true → QSs (X.suite a ((a, oe) :: pn)) T W0 (b₀ :: suite) (ts a x d))
    (hi : X.N[i]? = some n := by rfl) (hln : X.env.kindOf n = some .local := by rfl) :
    QS X T W (.Try body [.ExceptHandler (some (.Name x np)) (some n) (b₀ :: suite) pos'] [] [] pos) (qTryAs i t tb ts) :=
  ps_imp (L2N.ps_try_as (tb := fun W => upS X.K T W tb) (ts := fun a cls d D σ H => ∃ x : PX, (XAt X.K cls x d ∧ t x.C = some true) ∧ upS X.K T W0 (ts a x d) D σ H) hs hf hN hi hln hc tk (fun W pn xe tk hp => hb W pn xe tk hp) fun a oe cls d pn hz hv => pss_ex fun x hx => hsu a oe cls d pn hz hv x hx.1 hx.2)
    fun D σ H ⟨τ, S, PD, r, rep, hq, c⟩ => by
      refine ⟨τ, S, _, r, rep, hq, ⟨c.nx, c.rt, c.bk, c.ct, fun cl d x σ' τ' H' S' fr rs xr rp hx => ?_⟩⟩
      obtain ⟨b, h1, h2, h3⟩ := hx
      refine ⟨b, ht _ _ _ h1 xr.1, fun hb a ha => ?_, fun hb => c.ex cl d x σ' τ' H' S' fr rs xr rp (h3 hb)⟩
      refine ⟨x, ⟨xat_of xr, by rw [h1, hb]⟩, τ'.set i (some (exvOf a x d)), S', _, rs.set (exv_rl xr), rp, h2 hb a d (rp.free ha), ⟨fun σ2 τ2 H2 S2 f2 r2 p2 h => c.nx _ _ H2 S2 (fr.trans f2) r2.unset p2 h, fun v p H2 S2 f2 => c.rt v p H2 S2 (fr.trans f2), fun σ2 τ2 H2 S2 f2 r2 p2 h => c.bk _ _ H2 S2 (fr.trans f2) r2.unset p2 h, fun σ2 τ2 H2 S2 f2 r2 p2 h => c.ct _ _ H2 S2 (fr.trans f2) r2.unset p2 h, fun _ _ _ _ _ _ _ _ _ _ _ z => z⟩⟩
theorem qs_try {x : Str} {cv : Value} {body suite : List Stmt} {b₀ : Stmt} {np pos' : Pos} {tb : QTS} {ts : Addr → PX → Option Addr → QTS} {t : XTab}
    (hs : X.stack = X.env :: X.outer) (hf : X.env.frame = some X.env.locals) (hc : Names X x cv) (tk : L2N.Takes X W) (ht : XTest X.K t cv)
    (hb : ∀ (W : WX) (pn : List (Addr × Obj)) (xe : Value → Shared → Prop), L2N.Takes (X.tr pn xe) W → PassesOwn (model X.prog X.w) X.A X.env xe → QSs (X.tr pn xe) T W body tb)
    (hsu : ∀ (a : Addr) (oe : Obj) (cls : Value) (d : Option Addr) (pn : List (Addr × Obj)), L2N.Zn cls d oe → (∃ vs, oe.data = .fields vs) → ∀ x : PX, XAt X.K cls x d → t x.C = some true → QSs (X.suite a ((a, oe) :: pn)) T W0 (b₀ :: suite) (ts a x d)) :
    QS X T W (.Try body [.ExceptHandler (some (.Name x np)) none (b₀ :: suite) pos'] [] [] pos) (qTry t tb ts) :=
  ps_imp (L2N.ps_try_many (tb := fun W => upS X.K T W tb) (l := [(cv, fun a cls d D σ H => ∃ x : PX, (XAt X.K cls x d ∧ t x.C = some true) ∧ upS X.K T W0 (ts a x d) D σ H)]) hs hf tk (fun W pn xe tk hp => hb W pn xe tk hp) (L2N.HdsOk.cons hc (fun a oe cls d pn hz hv => pss_ex fun x hx => hsu a oe cls d pn hz hv x hx.1 hx.2) .nil))
    fun D σ H ⟨τ, S, PD, r, rep, hq, c⟩ => by
      refine ⟨τ, S, _, r, rep, hq, ⟨c.nx, c.rt, c.bk, c.ct, fun cl d x σ' τ' H' S' fr rs xr rp hx => ?_⟩⟩
      obtain ⟨b, h1, h2, h3⟩ := hx
      refine ⟨b, ht _ _ _ h1 xr.1, fun hb a ha => ?_, fun hb => c.ex cl d x σ' τ' H' S' fr rs xr rp (h3 hb)⟩
      refine ⟨x, ⟨xat_of xr, by rw [h1, hb]⟩, τ', S', _, rs, rp, h2 hb a d (rp.free ha), ⟨fun σ2 τ2 H2 S2 f2 r2 p2 h => c.nx _ _ H2 S2 (fr.trans f2) r2 p2 h, fun v p H2 S2 f2 => c.rt v p H2 S2 (fr.trans f2), fun σ2 τ2 H2 S2 f2 r2 p2 h => c.bk _ _ H2 S2 (fr.trans f2) r2 p2 h, fun σ2 τ2 H2 S2 f2 r2 p2 h => c.ct _ _ H2 S2 (fr.trans f2) r2 p2 h, fun _ _ _ _ _ _ _ _ _ _ _ z => z⟩⟩
/-- fault.field -/
def qXf (a : Addr) (x : PX) (d : Option Addr) (f : Str) (q : QTE) : QTE := fun τ S P EP => q τ S (fun y S1 => match y with
  | .exv a' C' d' ns ps => (a' = a ∧ C' = x.C ∧ d' = d) ∧ match ns, ps with
    | [g], [v] => f = g ∧ P v S1
    | _, _ => False
  | _ => False) EP
def XFields (K : PySem.W.Frag) (names : List Str) (f : Str) : Prop := ∀ n ∈ names, ∃ C, PySem.W.nsIn K mainGlobals n = some (some (.ref C)) ∧ XfC K C ∧ PySem.W.findIn K (.ref C) f = some none
theorem q_xf {a0 : Addr} {oe : Obj} {cls : Value} {d : Option Addr} {pn : List (Addr × Obj)} {x : PX} {f : Str} {q : QTE} {names : List Str} (hz0 : L2N.Zn cls d oe) (hv : ∃ vs, oe.data = .fields vs) (hx : XAt X.K cls x d) (hn : x.C ∈ names) (hF : XFields X.K names f)
    (he : QE (X.suite a0 ((a0, oe) :: pn)) T W e q) (hb : attributeBase e f X.env (eval e X.env) = eval e X.env := by rfl) : QE (X.suite a0 ((a0, oe) :: pn)) T W (.Attribute e f pos) (qXf a0 x d f q) := by
  have hz : Zc cls d oe := by first | exact hz0 | exact hz0.zc
  obtain ⟨C, h1, h2, h3⟩ := hF _ hn
  have ec : cls = .ref C := Option.some.inj (Option.some.inj (hx.1.symm.trans h1))
  exact pe_imp (pe_xf h2 h3 hz hv he hb) fun σ H Q h => up_then (RR := Rl X.K) (RR' := Rl X.K) (qk := fun y _ S1 P _ => match y with
    | .exv a' C' d' ns ps => (a' = a0 ∧ C' = x.C ∧ d' = d) ∧ match ns, ps with
      | [g], [v] => f = g ∧ P v S1
      | _, _ => False
    | _ => False) h fun v y H1 l rl ⟨τ, S, P, EP, rs, rep, hf, k, kx⟩ => by
      cases y with
      | exv a' C' d' ns ps =>
        obtain ⟨⟨e1, e2, e3⟩, hf⟩ := hf
        subst e1; subst e3
        obtain ⟨ev, rl⟩ := rl
        match ns, ps, hf, rl with
        | [g], [pv], ⟨e4, hp⟩, rl =>
          subst e4
          rcases rl with ⟨_, z, _⟩ | ⟨dd, gs, g1, g2, g3, g4⟩
          · cases z
          · obtain ⟨u, g5, g6⟩ := g4.one_of
            match gs, g2, g3, g5 with
            | [(g, w)], g2, g3, g5 =>
              have e5 : g = f := by simpa using g3
              subst e5
              have e6 : w = u := by simpa using g5
              subst e6
              exact ⟨ev, ec, dd, _, w, g1, g2, by simp [List.lookup], k w pv H1 S Fr.refl g6 rep hp⟩
      | _ => exact hf.elim
end
end Mp

set_option Elab.async false
set_option linter.all false
set_option maxRecDepth 100000
set_option maxHeartbeats 2000000
namespace Mp
open PySem PySem.Spec PyProof.Rows PySem.HandSPX L2
section
variable {X : Cx} {T : List (Addr × Str)} {W : WX} {e a b tg : Expr} {es : List Expr} {K : PySem.W.Frag} {S S' S0 S1 : Sto} {H H' H0 H1 : Hp} {σ : L2.St} {τ : PSt} {PD : PEnds} {D : Ends} {pos p : Pos} {q : QTA}

/-! ### isinstance(fault, C), isinstance(fault, (C, ..)) -/
def rIsX (K : PySem.W.Frag) (C a : Addr) (d : Option Addr) : List V → Hp → VK → Prop := fun xs H Q => ∃ (c : V) (cv : Value) (b : Bool) (dd : Addr) (gs : List (Str × V)), xs = [.ref a, c] ∧ (∀ u, RelV c u → u = cv) ∧ PySem.W.kitOne K (.ref C) cv = some b ∧ d = some dd ∧ H dd = some (.xd gs) ∧ Q (.bl b) H
def rIsXT (K : PySem.W.Frag) (C a : Addr) (d : Option Addr) : List V → Hp → VK → Prop := fun xs H Q => ∃ (p : Addr) (cs : List V) (cvs : List Value) (b : Bool) (dd : Addr) (gs : List (Str × V)), xs = [.ref a, .ref p] ∧ SqT K H p cs ∧ (∀ us, Vals cs us → us = cvs) ∧ PySem.W.kitAny K (.ref C) cvs = some b ∧ d = some dd ∧ H dd = some (.xd gs) ∧ Q (.bl b) H
theorem inst_at {C a0 : Addr} {oe : Obj} {d : Option Addr} {pn pins : List (Addr × Obj)} {s : Shared} {dd : Addr} {gs : List (Str × V)} (hz : Zc (.ref C) d oe) (hf : ∃ vs, oe.data = .fields vs) (I : L2.Inv (X.suite a0 ((a0, oe) :: pn)) pins σ H s) (ed : d = some dd) (eh : H dd = some (.xd gs)) :
    ∃ od, PySem.W.InstAt s.heap a0 oe C (some od) := by
  obtain ⟨ha, _⟩ := I.pin (a0, oe) (List.mem_append.mpr (.inl List.mem_cons_self))
  obtain ⟨vs, hd⟩ := hf
  have hx : ObjOk X.prog X.w H s.heap dd (.xd gs) := I.hok dd _ eh
  obtain ⟨mA, hns, hr⟩ := hx
  obtain ⟨od, ho, hl⟩ := lookIn_ns hns
  exact ⟨od, ha, hz.1, by unfold PySem.W.notCls; rw [hd] <;> rfl, by rw [hz.2, ed]; exact ho⟩
theorem kitx_of_c {C x : Addr} {ox : Obj} {od : Option Obj} (c : ExcC K C) : PySem.W.KitX K (.ref x) (.ref C) (fun h => PySem.W.InstAt h x ox C od) :=
  PySem.W.kitx_exc (by obtain ⟨cd, h, _⟩ := PySem.W.any_some c.hd; rw [h]; rfl) c.hg c.hk c.hs c.ha c.hn c.ht c.hm
theorem call_isX {a0 C : Addr} {oe : Obj} {d : Option Addr} {pn : List (Addr × Obj)} (c : ExcC X.K C) (hz : Zc (.ref C) d oe) (hf : ∃ vs, oe.data = .fields vs) : CallR (X.suite a0 ((a0, oe) :: pn)) (.builtin "isinstance") (rIsX X.K C a0 d) := by
  intro pins s σ H xs us Q I r ⟨cc, cv, b, dd, gs, e1, hcv, e, ed, eh, hq⟩
  subst e1
  cases r with
  | cons rx rr =>
    cases rr with
    | cons rt rr =>
      cases rr
      cases rx
      have ec := hcv _ rt
      subst ec
      obtain ⟨od, J⟩ := inst_at hz hf I ed eh
      exact PySem.W.kia_one (kitx_of_c c) I.kIn J e (fun z => nomatch z) fun tk => ⟨.bl b, H, I.kept (t' := tk) fun _ _ z => z, rfl, hq⟩
theorem call_isXT {a0 C : Addr} {oe : Obj} {d : Option Addr} {pn : List (Addr × Obj)} (c : ExcC X.K C) (hz : Zc (.ref C) d oe) (hf : ∃ vs, oe.data = .fields vs) : CallR (X.suite a0 ((a0, oe) :: pn)) (.builtin "isinstance") (rIsXT X.K C a0 d) := by
  intro pins s σ H xs us Q I r ⟨p, cs, cvs, b, dd, gs, e1, hs, hcv, e, ed, eh, hq⟩
  subst e1
  cases r with
  | cons rx rr =>
    cases rr with
    | cons rt rr =>
      cases rr
      cases rx
      cases rt
      obtain ⟨its, rv, ht, _⟩ := I.tuple hs
      have ec := hcv _ rv
      subst ec
      obtain ⟨⟨cls, od0, dat, sl⟩, ho, hc, n, hd⟩ := ht
      simp only at hc hd
      subst hc hd
      obtain ⟨od, J⟩ := inst_at hz hf I ed eh
      exact PySem.W.kia_tup (kitx_of_c c) I.kIn J ho e (fun z => nomatch z) fun tk => ⟨.bl b, H, I.kept (t' := tk) fun _ _ z => z, rfl, hq⟩
def qIsE (t : XTab) (a : Addr) (x : PX) (d : Option Addr) (q : QTE) : QTE := fun τ S P EP => q τ S (fun y S1 => match y with
  | .exv a' C' d' (_ :: _) _ => (a' = a ∧ C' = x.C ∧ d' = d) ∧ match t C' with
    | some b => P (.bl b) S1
    | none => False
  | _ => False) EP
def XIs (K : PySem.W.Frag) (t : XTab) (c : V) : Prop := ∀ n b, t n = some b → ∃ C cv, PySem.W.nsIn K mainGlobals n = some (some (.ref C)) ∧ ExcC K C ∧ (∀ u, RelV c u → u = cv) ∧ PySem.W.kitOne K (.ref C) cv = some b
def XIsT (K : PySem.W.Frag) (t : XTab) (cs : List V) : Prop := ∀ n b, t n = some b → ∃ C cvs, PySem.W.nsIn K mainGlobals n = some (some (.ref C)) ∧ ExcC K C ∧ (∀ us, Vals cs us → us = cvs) ∧ PySem.W.kitAny K (.ref C) cvs = some b
theorem exv_dd {v : V} {a' : Addr} {C' : Str} {d : Option Addr} {n : Str} {ns : List Str} {ps : List PV} (r : Rl K H v (.exv a' C' d (n :: ns) ps)) : v = .ref a' ∧ ∃ dd gs, d = some dd ∧ H dd = some (.xd gs) := by
  obtain ⟨e, h⟩ := r
  rcases h with ⟨_, z, _⟩ | ⟨dd, gs, h1, h2, _⟩
  · cases z
  · exact ⟨e, dd, gs, h1, h2⟩
theorem q_isE {a0 : Addr} {oe : Obj} {cls : Value} {d : Option Addr} {pn : List (Addr × Obj)} {x : PX} {c : V} {t : XTab} {q : QTE} (hz0 : L2N.Zn cls d oe) (hv : ∃ vs, oe.data = .fields vs) (hx : XAt X.K cls x d) (hT : XIs X.K t c) (hg : Gl X "isinstance") (hm : X.mg "isinstance" = none)
    (hd : t x.C ≠ none) (he : QE (X.suite a0 ((a0, oe) :: pn)) T W e q) (hc : PE (X.suite a0 ((a0, oe) :: pn)) b (tC c)) (hs : starEach [e, b] X.env = (false, eval e X.env) :: starEach [b] X.env := by rfl) (hs2 : starEach [b] X.env = [(false, eval b X.env)] := by rfl)
    (hpl : (backTo pos (starEach [b] X.env)).any (·.1) = false := by rfl) :
    QE (X.suite a0 ((a0, oe) :: pn)) T W (.Call (.Name "isinstance" p) [e, b] [] pos) (qIsE t a0 x d q) := by
  have hz : Zc cls d oe := by first | exact hz0 | exact hz0.zc
  obtain ⟨bb, hb⟩ : ∃ bb, t x.C = some bb := Option.ne_none_iff_exists'.mp hd
  obtain ⟨C, cv, h1, h2, h3, h4⟩ := hT _ _ hb
  have ec : cls = .ref C := Option.some.inj (Option.some.inj (hx.1.symm.trans h1))
  subst ec
  exact pe_imp (pe_callB (call_isX h2 hz hv) hg hm (by decide +kernel) (pa_cons he (pa_cons hc pa_nil hs2) hs) (he := hs) (hpl := hpl)) fun σ H Q h => up_then (RR := Rl X.K) (RR' := Rl X.K) (qk := fun y _ S1 P _ => match y with
    | .exv a' C' d' (_ :: _) _ => (a' = a0 ∧ C' = x.C ∧ d' = d) ∧ match t C' with
      | some b => P (PV.bl b) S1
      | none => False
    | _ => False) h fun v y H1 l rl ⟨τ, S, P, EP, rs, rep, hf, k, kx⟩ => by
      match y, hf, rl with
      | .exv a' C' d' (n :: ns) ps, ⟨⟨e1, e2, e3⟩, hf2⟩, rl =>
        subst e1; subst e2; subst e3
        rw [hb] at hf2
        obtain ⟨ev, dd, gs, g1, g2⟩ := exv_dd rl
        subst ev
        exact ⟨c, cv, bb, dd, gs, rfl, h3, h4, g1, g2, k (.bl _) (.bl bb) H1 S Fr.refl rfl rep hf2⟩
theorem pac_nil : PA X [] (fun σ H Q => Q [] H) := pa_nil
theorem pac_cons {c : V} {cs : List V} (h : PE X e (tC c)) (hr : PA X es (fun σ H Q => Q cs H)) (hs : starEach (e :: es) X.env = (false, eval e X.env) :: starEach es X.env := by rfl) : PA X (e :: es) (fun σ H Q => Q (c :: cs) H) := pa_cons h hr hs
theorem q_isET {a0 : Addr} {oe : Obj} {cls : Value} {d : Option Addr} {pn : List (Addr × Obj)} {x : PX} {cs : List V} {t : XTab} {q : QTE} {k1 : Nat} {p1 : Pos} (hz0 : L2N.Zn cls d oe) (hv : ∃ vs, oe.data = .fields vs) (hx : XAt X.K cls x d) (hT : XIsT X.K t cs) (hg : Gl X "isinstance") (hm : X.mg "isinstance" = none)
    (hd : t x.C ≠ none) (hl : cs.length ≤ 1000) (he : QE (X.suite a0 ((a0, oe) :: pn)) T W e q) (hc : PA (X.suite a0 ((a0, oe) :: pn)) es (fun σ H Q => Q cs H)) (hs : starEach [e, .Tuple es k1 p1] X.env = (false, eval e X.env) :: starEach [.Tuple es k1 p1] X.env := by rfl) (hs2 : starEach [.Tuple es k1 p1] X.env = [(false, eval (.Tuple es k1 p1) X.env)] := by rfl)
    (hpl : (backTo pos (starEach [.Tuple es k1 p1] X.env)).any (·.1) = false := by rfl) :
    QE (X.suite a0 ((a0, oe) :: pn)) T W (.Call (.Name "isinstance" p) [e, .Tuple es k1 p1] [] pos) (qIsE t a0 x d q) := by
  have hz : Zc cls d oe := by first | exact hz0 | exact hz0.zc
  obtain ⟨bb, hb⟩ : ∃ bb, t x.C = some bb := Option.ne_none_iff_exists'.mp hd
  obtain ⟨C, cvs, h1, h2, h3, h4⟩ := hT _ _ hb
  have ec : cls = .ref C := Option.some.inj (Option.some.inj (hx.1.symm.trans h1))
  subst ec
  exact pe_imp (pe_callB (call_isXT h2 hz hv) hg hm (by decide +kernel) (pa_cons he (pa_cons (pe_tup hc) pa_nil hs2) hs) (he := hs) (hpl := hpl)) fun σ H Q h => up_then (RR := Rl X.K) (RR' := Rl X.K) (qk := fun y _ S1 P _ => match y with
    | .exv a' C' d' (_ :: _) _ => (a' = a0 ∧ C' = x.C ∧ d' = d) ∧ match t C' with
      | some b => P (PV.bl b) S1
      | none => False
    | _ => False) h fun v y H1 l rl ⟨τ, S, P, EP, rs, rep, hf, k, kx⟩ => by
      match y, hf, rl with
      | .exv a' C' d' (n :: ns) ps, ⟨⟨e1, e2, e3⟩, hf2⟩, rl =>
        subst e1; subst e2; subst e3
        rw [hb] at hf2
        obtain ⟨ev, dd, gs, g1, g2⟩ := exv_dd rl
        subst ev
        refine ⟨le_line hl, fun p hp => ⟨p, cs, cvs, bb, dd, gs, rfl, SqT.of upd_same, h3, h4, g1, ?_, k (.bl _) (.bl bb) _ S (Fr.hid hp) rfl (rep.hid hp) hf2⟩⟩
        rw [upd_ne (ne_of_none g2 hp)]
        exact g2
end
end Mp

set_option Elab.async false
set_option linter.all false
set_option maxRecDepth 100000
set_option maxHeartbeats 2000000
namespace Mp
open PySem PySem.Spec PyProof.Rows PySem.HandSPX L2

/-! ### what is known of own exceptions, by computing over K -/
def ownB (K : PySem.W.Frag) (C fI : Addr) (fld : Str) : Bool :=
  decide (PySem.W.findIn K (.ref C) "__setattr__" = some (some (.builtin "object.__setattr__"))) && (decide (PySem.W.findIn K (.ref C) fld = some none) && (decide (PySem.W.typeIn K (.ref fI) = some (.type "function")) && (PySem.W.keepIn K (.ref C) && (decide (PySem.W.subIn K (.ref C) (.type "BaseException") = some true) &&
  (decide (PySem.W.typeIn K (.ref C) = some (.type "type")) && (decide (PySem.W.ks_superIn K C C "__init__" = some (some (.builtin "ValueError.__init__"))) && (decide (PySem.W.subIn K (.ref C) (.type "ValueError") = some true) && (decide (PySem.W.mroIn K C (.ref C) = some true) && decide (PySem.W.nsIn K cStatics "thirdparty.any" = some none)))))))))
theorem own_mk {prog : Program} {K : PySem.W.Frag} {mg : Str → Option Value} {C fI O : Addr} {fld : Str} {nm q : Str} {N : Addr} {bs : List Value} {sn : List Str} {sub : List Value} {ab : Bool} {col : Option Bool} {dd : Option Addr} {k0 k1 k2 k3 k5 : Option Value}
    {oc doc pm ct ccl cl : Value} {od cdd cld an : Option Addr} {osl ccs csl : Array (Option Value)} {cda cc : Addr} {vs : Array Value} {file qual msg : Str} {tf : Tok} {z1 z2 y1 y2 y3 y4 y5 y6 y7 y8 y9 y10 : Pos} {j : Nat}
    (xL : K.lookup C = some (excClassObj nm q C N bs [.ref O, .type "ValueError", .type "Exception", .type "BaseException", .type "object"] true sn sub ab col dd k0 k1 k2 k3 k5 "ValueError.__new__"))
    (iC : PySem.W.findIn K (.ref C) "__init__" = some (some (.ref fI))) (hb : ownB K C fI fld = true)
    (l : K.lookup fI = some ⟨oc, od, .func (PySem.W.ksFn "__init__" qual (xArgs fld ⟨z1, z2, y1, y2, y3, y4, y5, y6, y7, y8, y9, y10, j⟩) (xBody fld msg ⟨z1, z2, y1, y2, y3, y4, y5, y6, y7, y8, y9, y10, j⟩) (xScope fld) .none .none doc pm an (.ref cda) ct cc), osl⟩)
    (hline : (y3.endLine == y5.line) = true) (hcd : PySem.W.codeIn K (.ref cda) qual = true) (l2 : K.lookup cda = some ⟨ccl, cdd, .fields vs, ccs⟩) (l3 : vs[2]? = some (.str file tf)) (l4 : ((prog.main.file : Str) == file) = true) (l5 : K.lookup cc = some ⟨cl, cld, .cell (some (.ref C)), csl⟩) :
    OwnTxt prog K mg C fI fld := by
  unfold ownB at hb
  simp only [Bool.and_eq_true, decide_eq_true_eq] at hb
  obtain ⟨h1, h2, h3, h4, h5, h6, h7, h8, h9, h10⟩ := hb
  exact ⟨⟨nm, q, N, bs, _, sn, sub, ab, col, dd, k0, k1, k2, k3, k5, xL, by rfl⟩, h1, h2, iC, h3, h4, h5, h6, h7, h8, h9, h10, ⟨oc, doc, pm, ct, ccl, cl, od, cdd, cld, an, osl, ccs, csl, cda, cc, vs, file, qual, msg, tf, ⟨z1, z2, y1, y2, y3, y4, y5, y6, y7, y8, y9, y10, j⟩, hline, l, hcd, l2, l3, l4, l5⟩⟩
def excCB (K : PySem.W.Frag) (D : Addr) : Bool :=
  decide (PySem.W.findIn K (.ref D) "__getattribute__" = some (some (.builtin "BaseException.__getattribute__"))) && (decide (PySem.W.findIn K (.ref D) "__getattr__" = some none) && (decide (PySem.W.subIn K (.ref D) (.type "BaseException") = some true) && (PySem.W.hasDictIn K D &&
  (decide (PySem.W.findIn K (.ref D) "__class__" = some (some (.builtin "object.__class__"))) && (decide (PySem.W.specialIn K (.builtin "object.__class__") "__get__" = some (some (.builtin "getset_descriptor.__get__"))) && (decide (PySem.W.takesIn K (.builtin "object.__class__") = some true) && decide (PySem.W.mroIn K D (.type "object") = some true)))))))
theorem excCB_ok {K : PySem.W.Frag} {D : Addr} (hb : excCB K D = true) : ExcC K D := by
  unfold excCB at hb
  simp only [Bool.and_eq_true, decide_eq_true_eq] at hb
  obtain ⟨h1, h2, h3, h4, h5, h6, h7, h8⟩ := hb
  exact ⟨h1, h2, h3, h4, h5, h6, h7, h8⟩
section
variable {K : PySem.W.Frag} {C : Addr} {n : Str} {b : Bool} {l : List (Str × Bool)} {cv : Value}
theorem lookup_cons {n m : Str} {b : Bool} {l : List (Str × Bool)} : ((n, b) :: l).lookup m = if m = n then some b else l.lookup m := by
  by_cases h : m = n
  · subst h; simp [List.lookup]
  · have q : (m == n) = false := by simpa using h
    simp [List.lookup, q, h]
theorem xtest_nil : XTest K (tabL []) cv := fun _ _ _ h => by cases h
theorem xtest_cons (h : PySem.W.nsIn K mainGlobals n = some (some (.ref C))) (e : PySem.W.exmOne K (.ref C) cv = some b) (t : XTest K (tabL l) cv) : XTest K (tabL ((n, b) :: l)) cv := fun m c cls hm hc => by
  unfold tabL at hm
  rw [lookup_cons] at hm
  by_cases hn : m = n
  · rw [if_pos hn] at hm
    cases hm
    subst hn
    rw [h] at hc
    cases hc
    exact e
  · rw [if_neg hn] at hm
    exact t m c cls hm hc
theorem xis_nil {c : V} : XIs K (tabL []) c := fun _ _ h => by cases h
theorem xis_cons {c : V} (h : PySem.W.nsIn K mainGlobals n = some (some (.ref C))) (hx : excCB K C = true) (hr : ∀ u, RelV c u → u = cv) (e : PySem.W.kitOne K (.ref C) cv = some b) (t : XIs K (tabL l) c) : XIs K (tabL ((n, b) :: l)) c := fun m d hm => by
  unfold tabL at hm
  rw [lookup_cons] at hm
  by_cases hn : m = n
  · rw [if_pos hn] at hm
    cases hm
    subst hn
    exact ⟨C, cv, h, excCB_ok hx, hr, e⟩
  · rw [if_neg hn] at hm
    exact t m d hm
def cvOf : V → Value
  | .ref a => .ref a
  | .ty n => .type n
  | _ => .none
def cvOk : V → Bool
  | .ref _ => true
  | .ty _ => true
  | _ => false
theorem cv_rel {v : V} {u : Value} (h : cvOk v = true) (r : RelV v u) : u = cvOf v := by
  cases v with
  | ref a => exact r
  | ty n => exact r
  | _ => cases h
theorem cvs_rel : ∀ {cs : List V}, cs.all cvOk = true → ∀ us : List Value, Vals cs us → us = cs.map cvOf
  | [], _, us, r => by
    have r : Vals [] us := r
    cases r; rfl
  | c :: cs, h, us, r => by
    have r2 : Vals (c :: cs) us := r
    rw [List.all_cons, Bool.and_eq_true] at h
    cases r2 with
    | cons r3 rr => rw [cv_rel h.1 r3, cvs_rel h.2 _ rr]; rfl
theorem xist_nil {cs : List V} : XIsT K (tabL []) cs := fun _ _ h => by cases h
theorem xist_cons {cs : List V} (h : PySem.W.nsIn K mainGlobals n = some (some (.ref C))) (hx : excCB K C = true) (hr : cs.all cvOk = true) (e : PySem.W.kitAny K (.ref C) (cs.map cvOf) = some b) (t : XIsT K (tabL l) cs) : XIsT K (tabL ((n, b) :: l)) cs := fun m d hm => by
  unfold tabL at hm
  rw [lookup_cons] at hm
  by_cases hn : m = n
  · rw [if_pos hn] at hm
    cases hm
    subst hn
    exact ⟨C, _, h, excCB_ok hx, cvs_rel hr, e⟩
  · rw [if_neg hn] at hm
    exact t m d hm
theorem xfields_nil {f : Str} : XFields K [] f := fun _ h => by cases h
theorem xfields_cons {f : Str} {ns : List Str} (h : PySem.W.nsIn K mainGlobals n = some (some (.ref C))) (hx : xfB K C = true) (hf : PySem.W.findIn K (.ref C) f = some none) (t : XFields K ns f) : XFields K (n :: ns) f := fun m hm => by
  rcases List.mem_cons.mp hm with e | hm
  · subst e
    exact ⟨C, h, xfB_ok hx, hf⟩
  · exact t m hm
end
end Mp
namespace Mp
theorem tab_uniq {l : List (PySem.Addr × PySem.Str)} (nd : (l.map (·.1)).Nodup) {a : PySem.Addr} {q : PySem.Str} (m : (a, q) ∈ l) : ∀ p ∈ l, p.1 = a → p.2 = q := by
  induction l with
  | nil => cases m
  | cons x r ih =>
    rw [List.map_cons, List.nodup_cons] at nd
    intro p hp e
    rcases List.mem_cons.mp m with m1 | m1
    · rcases List.mem_cons.mp hp with p1 | p1
      · rw [p1, ← m1]
      · exact absurd (List.mem_map.mpr ⟨p, p1, by rw [e, ← m1]⟩) nd.1
    · rcases List.mem_cons.mp hp with p1 | p1
      · exact absurd (List.mem_map.mpr ⟨_, m1, by rw [← p1, e]⟩) nd.1
      · exact ih nd.2 m1 p p1 e
end Mp

set_option Elab.async false
set_option linter.all false
set_option maxRecDepth 100000
set_option maxHeartbeats 2000000
namespace PySem
open Sem (wp)
open AutoSeq1 (wpAny_loadPart')
theorem mp_enumerate_newT (l : Addr) (items : Array Value) (n : Nat) (dct : Option Addr) (sl : Array (Option Value)) :
    Meets (Builtin.«enumerate.__new__» ⟨[.type "enumerate", .ref l], []⟩) (fun _ R s => s.heap.get? l = some { cls := .type "tuple", dict := dct, data := .seq items n, slots := sl } ∧
      R (.ok (.ret (.ref (s.heap.push { cls := .type "tuple_iterator", data := .fields #[.ref l, .int 0 0] }).objs.size)))
        { s with heap := (s.heap.push { cls := .type "tuple_iterator", data := .fields #[.ref l, .int 0 0] }).push { cls := .type "enumerate", data := .fields #[.none, .bool false, .ref s.heap.objs.size, rawInt 0, .none, .none] } }) :=
  .of_wp fun prog w A R s h => by
    obtain ⟨hp, g, d, tk, os⟩ := s; obtain ⟨hl, h⟩ := h
    have hsub := sub_enumerate
    have hL : Heap.IsTuple (Shared.heap ⟨hp, g, d, tk, os⟩) l items := ⟨_, hl, rfl, n, rfl⟩
    wp_walk using wpAny_loadPart' hl
    refine wpAny_stack_any fun st => wpAny_pure ?_
    split
    · rename_i c _ _ _ _ _
      cases (c == Value.type "enumerate")
      · wp_walk using wpAny_loadPart' hl, wpAny_pyIter_tuple hL
        exact ⟨_, rfl, h⟩
      · wp_walk using wpAny_loadPart' hl, wpAny_pyIter_tuple hL
        exact ⟨_, rfl, h⟩
    · wp_walk using wpAny_loadPart' hl, wpAny_pyIter_tuple hL
      exact ⟨_, rfl, h⟩
theorem mp_call_enumerate_tuple {prog : Program} {w : World} {A : Around} {E : Value → Shared → Prop} {s : Shared} {l : Addr} {items : Array Value} {Q : Value → Shared → Prop} (hL : s.heap.IsTuple l items)
    (h : ∀ h', IsEnum h' (s.heap.objs.size + 1) s.heap.objs.size 0 .none → h'.IsTupleIter s.heap.objs.size l 0 → h'.objs.size = s.heap.objs.size + 2 →
      (∀ b o, s.heap.get? b = some o → h'.get? b = some o) → Q (.ref (s.heap.objs.size + 1)) { s with heap := h' }) :
    wpAny (model prog w) A (call (.type "enumerate") [.ref l]) Q E s := by
  obtain ⟨⟨c, dct, dt, sl⟩, hl, hc, n, hd⟩ := hL
  replace hc : c = .type "tuple" := hc
  replace hd : dt = .seq items n := hd
  subst hc hd
  refine callType_new F.called_enumerate (by decide) (F.typeCall_enumerate_1 _) (F.newCall_enumerate_1 _) (fun obj => F.args_object_init_2 obj _) F.entry_enumerate_new
    (mp_enumerate_newT l items n dct sl) ⟨hl, ?_⟩
  have hz : (s.heap.push { cls := .type "tuple_iterator", data := .fields #[.ref l, .int 0 0] }).objs.size = s.heap.objs.size + 1 := Heap.size_push ..
  show _ ∧ _
  rw [hz]
  have he : IsEnum ((s.heap.push { cls := .type "tuple_iterator", data := .fields #[.ref l, .int 0 0] }).push
      { cls := .type "enumerate", data := .fields #[.none, .bool false, .ref s.heap.objs.size, rawInt 0, .none, .none] }) (s.heap.objs.size + 1) s.heap.objs.size 0 .none := by
    have := Heap.get?_push_size (s.heap.push { cls := .type "tuple_iterator", data := .fields #[.ref l, .int 0 0] })
      (o := { cls := .type "enumerate", data := .fields #[.none, .bool false, .ref s.heap.objs.size, rawInt 0, .none, .none] }) rfl
    rw [hz] at this; exact this
  refine ⟨⟨_, he, rfl⟩, h _ he ⟨_, Heap.get?_push_of_some _ (Heap.get?_push_size _ rfl), rfl, rfl⟩ (by rw [Heap.size_push, hz]) fun b o x => Heap.get?_push_of_some _ (Heap.get?_push_of_some _ x)⟩
end PySem
namespace Mp
open PySem PySem.Spec PyProof.Rows L2

/-! ### enumerate over a tuple, over a text -/
def ItET (K : PySem.W.Frag) (a : Addr) : It :=
  ⟨fun i H => ∃ (xs : List V) (x : V), SqT K H a xs ∧ xs[i]? = some x, fun i H v H' => ∃ T x, v = .ref T ∧ H T = none ∧ H' = upd H T (.tup [.int (i : Nat), x]) ∧ ∀ xs, SqT K H a xs → xs[i]? = some x, fun i H => ∃ xs : List V, SqT K H a xs ∧ xs.length = i⟩
def ItES (x : Str) : It :=
  ⟨fun i _ => ∃ c, x.cps[i]? = some c, fun i H v H' => ∃ T c, v = .ref T ∧ H T = none ∧ H' = upd H T (.tup [.int (i : Nat), .str ⟨#[c]⟩]) ∧ x.cps[i]? = some c, fun i _ => x.cps.size = i⟩
theorem turn_enumT {P : Program} {w : World} {K : PySem.W.Frag} {elts : List Expr} {kk : Nat} {tpos : Pos} (a e it : Addr) :
    Turn P w K (.Tuple elts kk tpos) (ItET K a) [e, it] e (fun i h => (∃ old, IsEnum h e it ((i : Nat) : Int) old) ∧ h.IsTupleIter it a i ∧ e ≠ it ∧ a ≠ it ∧ e ≠ a) where
  mem := by simp
  obj := fun i h st b hb => by
    obtain ⟨⟨old, he⟩, ⟨o, ho, hc, hd⟩, _⟩ := st
    have e' : b = e ∨ b = it := by simpa using hb
    rcases e' with z | z
    · rw [z]; exact ⟨_, he, fun v q => nomatch q⟩
    · rw [z]; exact ⟨o, ho, fun v q => by rw [hd] at q; cases q⟩
  keep := fun i h h' st k => let ⟨⟨old, he⟩, hi, hne⟩ := st; ⟨⟨old, k e (by simp) _ he⟩, hi.at fun o q => k it (by simp) o q, hne⟩
  item := by
    intro X hP hw hK hc i pins s σ H E I hf st hg
    subst hP hw hK
    obtain ⟨⟨old, he⟩, hit, hne, hai, hea⟩ := st
    obtain ⟨xs, x, hq, hx⟩ := hg
    obtain ⟨its, rv, p, hz⟩ := I.tuple hq
    obtain ⟨u, hu, ru⟩ := rv.get hx
    have hel : e < s.heap.objs.size := Heap.lt_size he
    have hil : it < s.heap.objs.size := by obtain ⟨_, q, _⟩ := hit; exact Heap.lt_size q
    have hu2 : its.toArray[i]? = some u := by simpa using hu
    have hlt : i < its.toArray.size := (Array.getElem?_eq_some_iff.mp hu2).1
    refine wpAny_pyNext_enum_itemD (Draws.tuple (show X.A.in1.handled = none from I.ok.hd hc) it a hai its.toArray) he ⟨hit, p⟩ hlt hne (by simp [hne, hea]) fun x' h' tk hP ho hs' hT hsz hk => ?_
    have hP : its.toArray[i]? = some x' := hP
    rw [hu2] at hP
    cases hP
    obtain ⟨hit', _⟩ := hs'
    refine ⟨_, rfl, wpAny_letOwnedTupleGo_enum (s := { s with heap := h', toks := tk + 1 }) ho fun h'' he' sb => ?_⟩
    have hT2 : h''.get? s.heap.objs.size = some { cls := .type "tuple", data := .seq #[.int i tk, u] } := (sb.2 _ (Nat.ne_of_gt hel)).trans hT
    have new : ObjOk X.prog X.w (upd H s.heap.objs.size (.tup [.int (i : Nat), x])) h'' s.heap.objs.size (.tup [.int (i : Nat), x]) :=
      ⟨by show 2 ≤ sizeLine; decide, [.int i tk, u], .cons ⟨_, rfl⟩ (.cons ru .nil), ⟨_, hT2, rfl, _, rfl⟩⟩
    have I1 : Inv X pins σ (upd H s.heap.objs.size (.tup [.int (i : Nat), x])) { s with heap := h'', toks := tk + 1 } :=
      I.turnedNew (ch := [e, it]) (fun b ob hb q => (sb.2 b (fun z => hb (by simp [z]))).trans (hk b ob (fun z => hb (by simp [z])) (fun z => hb (by simp [z])) q)) hf (Nat.le_refl _) new
    refine ⟨.ref s.heap.objs.size, _, I1, rfl, ⟨_, x, rfl, I.hok.fresh (Nat.le_refl _), rfl, fun ys hy => by rw [I.tuple_inj hy hq]; exact hx⟩, ⟨⟨u, ?_⟩, hit'.at fun o q => (sb.2 it (Ne.symm hne)).trans q, hne, hai, hea⟩, fun b hb => ?_⟩
    · have e1 : ((i + 1 : Nat) : Int) = (i : Int) + 1 := by omega
      rw [e1]; exact he'
    · have hb' : b < s.heap.objs.size := by
        have e' : b = e ∨ b = it := by simpa using hb
        rcases e' with z | z
        · rw [z]; exact hel
        · rw [z]; exact hil
      rw [upd_ne (Nat.ne_of_lt hb')]
      exact (hf b hb).1
  done := by
    intro X hP hw hK hc i pins s σ H E I hf st hg
    subst hP hw hK
    obtain ⟨⟨old, he⟩, hit, hne, hai, hea⟩ := st
    obtain ⟨xs, hq, hx⟩ := hg
    obtain ⟨its, rv, p, hz⟩ := I.tuple hq
    obtain ⟨f0, f1, f2, f3, f4, f5⟩ := hf it (by simp)
    have hl := rv.length
    have es : its.toArray.size = i := by simp; omega
    subst es
    exact wpAny_pyNext_enum_endD (Draws.tuple (show X.A.in1.handled = none from I.ok.hd hc) it a hai its.toArray) he ⟨hit, p⟩ fun h' eb => ⟨rfl, I.turned (t' := s.toks) (fun b o hb q => eb b o hb q) f0 f1 f3 f4 f5⟩
  self := fun A i s Q E st h => let ⟨⟨_, he⟩, _⟩ := st; wpAny_pyIter_enum he h
theorem turn_enumS {P : Program} {w : World} {K : PySem.W.Frag} {elts : List Expr} {kk : Nat} {tpos : Pos} (x : Str) (t : Tok) (e it : Addr) :
    Turn P w K (.Tuple elts kk tpos) (ItES x) [e, it] e (fun i h => (∃ old, IsEnum h e it ((i : Nat) : Int) old) ∧ h.IsStrIter it (strIterType x) x t i ∧ e ≠ it) where
  mem := by simp
  obj := fun i h st b hb => by
    obtain ⟨⟨old, he⟩, ⟨o, ho, hc, hd⟩, _⟩ := st
    have e' : b = e ∨ b = it := by simpa using hb
    rcases e' with z | z
    · rw [z]; exact ⟨_, he, fun v q => nomatch q⟩
    · rw [z]; exact ⟨o, ho, fun v q => by rw [hd] at q; cases q⟩
  keep := fun i h h' st k => let ⟨⟨old, he⟩, ⟨o, ho, hr⟩, hne⟩ := st; ⟨⟨old, k e (by simp) _ he⟩, ⟨o, k it (by simp) o ho, hr⟩, hne⟩
  item := by
    intro X hP hw hK hc i pins s σ H E I hf st hg
    subst hP hw hK
    obtain ⟨⟨old, he⟩, hit, hne⟩ := st
    obtain ⟨c, hx⟩ := hg
    have hel : e < s.heap.objs.size := Heap.lt_size he
    have hil : it < s.heap.objs.size := by obtain ⟨_, q, _⟩ := hit; exact Heap.lt_size q
    have hlt : i < x.cps.size := (Array.getElem?_eq_some_iff.mp hx).1
    refine wpAny_pyNext_enum_itemD (Draws.text (show X.A.in1.handled = none from I.ok.hd hc) it x t) he hit hlt hne (by simp [hne]) fun x' h' tk hP ho hit' hT hsz hk => ?_
    obtain ⟨c', u, hc', rfl⟩ := hP
    rw [hx] at hc'
    cases hc'
    refine ⟨_, rfl, wpAny_letOwnedTupleGo_enum (s := { s with heap := h', toks := tk + 1 }) ho fun h'' he' sb => ?_⟩
    have hT2 : h''.get? s.heap.objs.size = some { cls := .type "tuple", data := .seq #[.int i tk, .str ⟨#[c]⟩ u] } := (sb.2 _ (Nat.ne_of_gt hel)).trans hT
    have new : ObjOk X.prog X.w (upd H s.heap.objs.size (.tup [.int (i : Nat), .str ⟨#[c]⟩])) h'' s.heap.objs.size (.tup [.int (i : Nat), .str ⟨#[c]⟩]) :=
      ⟨by show 2 ≤ sizeLine; decide, [.int i tk, .str ⟨#[c]⟩ u], .cons ⟨_, rfl⟩ (.cons ⟨_, rfl⟩ .nil), ⟨_, hT2, rfl, _, rfl⟩⟩
    have I1 : Inv X pins σ (upd H s.heap.objs.size (.tup [.int (i : Nat), .str ⟨#[c]⟩])) { s with heap := h'', toks := tk + 1 } :=
      I.turnedNew (ch := [e, it]) (fun b ob hb q => (sb.2 b (fun z => hb (by simp [z]))).trans (hk b ob (fun z => hb (by simp [z])) (fun z => hb (by simp [z])) q)) hf (Nat.le_refl _) new
    refine ⟨.ref s.heap.objs.size, _, I1, rfl, ⟨_, c, rfl, I.hok.fresh (Nat.le_refl _), rfl, hx⟩, ⟨⟨Value.str ⟨#[c]⟩ u, ?_⟩, (let ⟨o, q1, q2⟩ := hit'; ⟨o, (sb.2 it (Ne.symm hne)).trans q1, q2⟩), hne⟩, fun b hb => ?_⟩
    · have e1 : ((i + 1 : Nat) : Int) = (i : Int) + 1 := by omega
      rw [e1]; exact he'
    · have hb' : b < s.heap.objs.size := by
        have e' : b = e ∨ b = it := by simpa using hb
        rcases e' with z | z
        · rw [z]; exact hel
        · rw [z]; exact hil
      rw [upd_ne (Nat.ne_of_lt hb')]
      exact (hf b hb).1
  done := by
    intro X hP hw hK hc i pins s σ H E I hf st hg
    subst hP hw hK
    obtain ⟨⟨old, he⟩, hit, hne⟩ := st
    have hg : x.cps.size = i := hg
    obtain ⟨f0, f1, f2, f3, f4, f5⟩ := hf it (by simp)
    subst hg
    exact wpAny_pyNext_enum_endD (Draws.text (show X.A.in1.handled = none from I.ok.hd hc) it x t) he hit fun h' eb => ⟨rfl, I.turned (t' := s.toks) (fun b o hb q => eb b o hb q) f0 f1 f3 f4 f5⟩
  self := fun A i s Q E st h => let ⟨⟨_, he⟩, _⟩ := st; wpAny_pyIter_enum he h
section
variable {X : Cx} {T : List (Addr × Str)} {W : WX} {e a b tg : Expr} {es : List Expr} {K : PySem.W.Frag} {S S' S0 S1 : Sto} {H H' H0 H1 : Hp} {σ : L2.St} {τ : PSt} {PD : PEnds} {D : Ends} {pos p : Pos} {q : QTA}
def enumP : Nat → List PV → List PV
  | _, [] => []
  | k, x :: r => .tup [.int k, x] :: enumP (k + 1) r
theorem enumP_len : ∀ (k : Nat) (xs : List PV), (enumP k xs).length = xs.length
  | _, [] => rfl
  | k, x :: r => by rw [enumP, List.length_cons, List.length_cons, enumP_len]
theorem enumP_at : ∀ {xs : List PV} {k i : Nat} {p : PV}, (enumP k xs)[i]? = some p → ∃ x, xs[i]? = some x ∧ p = .tup [.int ((k + i : Nat) : Int), x]
  | [], k, i, p, h => by simp [enumP] at h
  | x :: r, k, 0, p, h => by
    simp [enumP] at h
    exact ⟨x, rfl, by rw [← h]; rfl⟩
  | x :: r, k, i + 1, p, h => by
    rw [enumP, List.getElem?_cons_succ] at h
    obtain ⟨y, h1, h2⟩ := enumP_at h
    exact ⟨y, by simpa using h1, by rw [h2]; congr 3; omega⟩
theorem walkP_enumT {c : Addr} {vs : List V} {xs : List PV} (sq : SqT K H0 c vs) (t : Rls K H0 vs xs) (rep0 : Rep K T S0 H0) : WalkP K T (ItET K c) ⟨enumP 0 xs, kT⟩ S0 H0 := fun S H fr rep _ => by
  have s1 := (fr.le rep0).sq sq
  have t1 := Rls.mono (fr.le rep0) _ _ t
  refine ⟨⟨vs, s1, by show vs.length = (enumP 0 xs).length; rw [enumP_len, Rls.length t1]⟩, fun i p h => ?_⟩
  obtain ⟨x, h1, h2⟩ := enumP_at h
  obtain ⟨v, h3, h4⟩ := t1.get h1
  refine ⟨⟨vs, v, s1, h3⟩, fun v' H' ⟨T0, x', ev, hn, eH, k1⟩ => ?_⟩
  have e1 := k1 vs s1
  rw [h3] at e1; cases e1
  subst ev; subst eH; subst h2
  rw [Nat.zero_add]
  exact ⟨Fr.hid hn, rep.hid hn, pair_new hn rfl h4⟩
theorem walkP_enumL {c : Addr} {xs : List PV} {keep : Sto → Prop} (hs : ∀ S H, Fr S0 H0 S H → Rep K T S H → keep S → ∃ vs, SqL K H c vs ∧ Rls K H vs xs) : WalkP K T (Ite K c) ⟨enumP 0 xs, keep⟩ S0 H0 := fun S H fr rep kp => by
  obtain ⟨vs, s1, t1⟩ := hs S H fr rep kp
  refine ⟨⟨vs, s1, by show vs.length ≤ (enumP 0 xs).length; rw [enumP_len, Rls.length t1]; exact Nat.le_refl _⟩, fun i p h => ?_⟩
  obtain ⟨x, h1, h2⟩ := enumP_at h
  obtain ⟨v, h3, h4⟩ := t1.get h1
  refine ⟨⟨vs, v, s1, h3⟩, fun v' H' ⟨T0, x', ev, hn, eH, k1⟩ => ?_⟩
  have e1 := k1 vs s1
  rw [h3] at e1; cases e1
  subst ev; subst eH; subst h2
  rw [Nat.zero_add]
  exact ⟨Fr.hid hn, rep.hid hn, pair_new hn rfl h4⟩
theorem walkP_enumS {cs : List Nat} : WalkP K T (ItES ⟨cs.toArray⟩) ⟨enumP 0 (strP cs), kT⟩ S0 H0 := fun S H fr rep _ => by
  refine ⟨?_, fun i p h => ?_⟩
  · show cs.toArray.size = (enumP 0 (strP cs)).length
    rw [enumP_len]; simp [strP]
  obtain ⟨x, h1, h2⟩ := enumP_at h
  unfold strP at h1
  rw [List.getElem?_map] at h1
  cases z : cs[i]? with
  | none => rw [z] at h1; cases h1
  | some c =>
    rw [z] at h1
    cases h1
    have hz : (⟨cs.toArray⟩ : Str).cps[i]? = some c := by simpa using z
    refine ⟨⟨c, hz⟩, fun v' H' ⟨T0, c', ev, hn, eH, k1⟩ => ?_⟩
    rw [hz] at k1; cases k1
    subst ev; subst eH; subst h2
    rw [Nat.zero_add]
    exact ⟨Fr.hid hn, rep.hid hn, pair_new hn rfl rfl⟩
def qiEnum (q : QTE) : QTI := fun τ S P EP => q τ S (fun x S1 => match x with
  | .tup xs => P ⟨enumP 0 xs, kT⟩ S1
  | .str cs => P ⟨enumP 0 (strP cs), kT⟩ S1
  | .lsv xs => P ⟨enumP 0 xs, kT⟩ S1
  | .ref c => match S1 c with
    | some (.lst xs) => P ⟨enumP 0 xs, fun S => S c = some (.lst xs)⟩ S1
    | _ => False
  | _ => False) EP
theorem qi_enum {q : QTE} {elts : List Expr} {kk : Nat} {tpos : Pos} (hg : Gl X "enumerate") (hm : X.mg "enumerate" = none) (ha : QE X T W e q) (hs : starEach [e] X.env = [(false, eval e X.env)] := by rfl) :
    QI X T W (.Tuple elts kk tpos) (.Call (.Name "enumerate" p) [e] [] pos) (qiEnum q) := by
  refine ⟨fun pins s σ H R I h => ?_⟩
  obtain ⟨τ, S, P, EP, h1, h2, h3, h4, h5⟩ := h
  refine Call_ (ld_blt I hg hm boot_enumerate (PyProof.Rows.callWith_type1 (thn ((pa_cons ha pa_nil hs).run pos pins s σ H (fun vs H1 => ∃ v x S1, vs = [v] ∧ Fr S H S1 H1 ∧ Rl X.K H1 v x ∧ Rep X.K T S1 H1 ∧ (match x with
    | .tup xs => P ⟨enumP 0 xs, kT⟩ S1
    | .str cs => P ⟨enumP 0 (strP cs), kT⟩ S1
    | .lsv xs => P ⟨enumP 0 xs, kT⟩ S1
    | .ref c => match S1 c with
      | some (.lst xs) => P ⟨enumP 0 xs, fun S => S c = some (.lst xs)⟩ S1
      | _ => False
    | _ => False)) I ⟨τ, S, _, EP, h1, h2, h3, fun v x H1 S1 fr rl rep hp => ⟨v, x, S1, rfl, fr, rl, rep, hp⟩, h5⟩) fun us s1 ⟨vs, H1, I1, r1, v, x, S1, ev, fr, rl, rep, hp⟩ => ?_) hs rfl))
  subst ev
  have lists : ∀ {c : Addr} {ws : List V} {R' : It → Hp → Prop}, v = .ref c → SqL X.K H1 c ws → (R (Ite X.K c) H1) → wpAny (model X.prog X.w) X.A (call (.type "enumerate") us) (fun v s => wpAny (model X.prog X.w) X.A (pyIter v) (PIE X pins σ (.Tuple elts kk tpos) R) X.xe s) X.xe s1 := fun {c ws R'} ev hq q => by
    subst ev
    cases r1 with
    | cons r rr =>
      cases rr
      cases r
      obtain ⟨its, rv, p', hz⟩ := I1.list hq
      refine call_enumerate_list p'.isList fun h' he hit hsz hk => wpAny_pyIter_enum he ?_
      have I2 : Inv X pins σ H1 { s1 with heap := h' } := I1.kept (t' := s1.toks) hk
      refine ⟨s1.heap.objs.size + 1, [s1.heap.objs.size + 1, s1.heap.objs.size], _, _, H1, rfl, I2, turn_enum c (s1.heap.objs.size + 1) s1.heap.objs.size, ⟨⟨.none, he⟩, hit, Nat.succ_ne_self _⟩, fun b hb => ?_, q⟩
      have e' : b = s1.heap.objs.size + 1 ∨ b = s1.heap.objs.size := by simpa using hb
      have hle : s1.heap.objs.size ≤ b := by
        rcases e' with z | z
        · rw [z]; exact Nat.le_add_right _ _
        · rw [z]; exact Nat.le_refl _
      exact I1.fpOk hle (I1.hok.fresh hle)
  cases x with
  | tup xs =>
    obtain ⟨c, ws, e1, sq', t⟩ := rl
    have sq : SqT X.K H1 c ws := SqT.of sq'
    subst e1
    cases r1 with
    | cons r rr =>
      cases rr
      cases r
      obtain ⟨its, rv, p', hz⟩ := I1.tuple sq
      have hlt : c < s1.heap.objs.size := by obtain ⟨_, z, _⟩ := p'; exact Heap.lt_size z
      refine mp_call_enumerate_tuple p' fun h' he hit hsz hk => wpAny_pyIter_enum he ?_
      have I2 : Inv X pins σ H1 { s1 with heap := h' } := I1.kept (t' := s1.toks) hk
      refine ⟨s1.heap.objs.size + 1, [s1.heap.objs.size + 1, s1.heap.objs.size], _, _, H1, rfl, I2, turn_enumT c (s1.heap.objs.size + 1) s1.heap.objs.size, ⟨⟨.none, he⟩, hit, Nat.succ_ne_self _, Nat.ne_of_lt hlt, Nat.ne_of_gt (Nat.lt_succ_of_lt hlt)⟩, fun b hb => ?_, h4 _ ⟨enumP 0 xs, kT⟩ H1 S1 fr (walkP_enumT sq t rep) trivial rep hp⟩
      have e' : b = s1.heap.objs.size + 1 ∨ b = s1.heap.objs.size := by simpa using hb
      have hle : s1.heap.objs.size ≤ b := by
        rcases e' with z | z
        · rw [z]; exact Nat.le_add_right _ _
        · rw [z]; exact Nat.le_refl _
      exact I1.fpOk hle (I1.hok.fresh hle)
  | str cs =>
    have e1 : v = .str ⟨cs.toArray⟩ := rl
    subst e1
    cases r1 with
    | cons r rr =>
      cases rr
      obtain ⟨t, rfl⟩ := r
      refine call_enumerate_str fun h' he hit hsz hk => wpAny_pyIter_enum he ?_
      have I2 : Inv X pins σ H1 { s1 with heap := h' } := I1.kept (t' := s1.toks) hk
      refine ⟨s1.heap.objs.size + 1, [s1.heap.objs.size + 1, s1.heap.objs.size], _, _, H1, rfl, I2, turn_enumS ⟨cs.toArray⟩ t (s1.heap.objs.size + 1) s1.heap.objs.size, ⟨⟨.none, he⟩, hit, Nat.succ_ne_self _⟩, fun b hb => ?_, h4 _ ⟨enumP 0 (strP cs), kT⟩ H1 S1 fr walkP_enumS trivial rep hp⟩
      have e' : b = s1.heap.objs.size + 1 ∨ b = s1.heap.objs.size := by simpa using hb
      have hle : s1.heap.objs.size ≤ b := by
        rcases e' with z | z
        · rw [z]; exact Nat.le_add_right _ _
        · rw [z]; exact Nat.le_refl _
      exact I1.fpOk hle (I1.hok.fresh hle)
  | lsv xs =>
    obtain ⟨c, ws, e1, sq, t⟩ := rl
    exact lists (R' := R) e1 sq.sq (h4 _ ⟨enumP 0 xs, kT⟩ H1 S1 fr (walkP_enumL fun S2 H2 f2 _ _ => ⟨ws, ((f2.le rep).sqf sq).sq, Rls.mono (f2.le rep) _ _ t⟩) trivial rep hp)
  | ref c =>
    have e1 : v = .ref c := rl
    simp only at hp
    cases z : S1 c with
    | none => rw [z] at hp; exact hp.elim
    | some ob =>
      rw [z] at hp
      cases ob with
      | lst xs =>
        obtain ⟨ws, e2, t⟩ := rep.ob c _ z
        exact lists (R' := R) e1 (SqL.of e2) (h4 _ ⟨enumP 0 xs, fun S => S c = some (.lst xs)⟩ H1 S1 fr (walkP_enumL fun S2 H2 f2 r2 kp => (let ⟨vs, e, t⟩ := r2.ob c _ kp; ⟨vs, SqL.of e, t⟩)) z rep hp)
      | _ => exact hp.elim
  | _ => exact hp.elim

/-! ### xs[::-1] -/
theorem Rls.reverse : ∀ {ps : List PV} {vs : List V}, Rls K H vs ps → Rls K H vs.reverse ps.reverse
  | [], _, e => by
    have e : _ = [] := e
    subst e; exact rfl
  | p :: ps, _, ⟨v, r, e, h1, h2⟩ => by
    subst e
    rw [List.reverse_cons, List.reverse_cons]
    exact Rls.append (Rls.reverse h2) (Rls.one h1)
def qRevL (qa : QTH) : QTA := fun τ S P EP => qa τ S (fun x S1 => match x.its S1 with
  | some xs => x.tup = false ∧ P xs.reverse S1
  | none => False) EP
theorem ql_rev {qa : QTH} {k : Nat} {p1 p2 p3 : Pos} (ha : QH X T W e qa) : QL X T W (.Subscript e (.Slice none none (some (.UnaryOp .USub (.Constant (.int 1) k p1) p2)) p3) pos) (qRevL qa) :=
  pe_imp (pe_revL ha) fun σ H Q ⟨τ, S, P, EP, h1, h2, h3, h4, h5⟩ =>
    ⟨τ, S, _, EP, h1, h2, h3, fun v x H1 S1 fr rl rep hp => by
      cases z : x.its S1 with
      | none => rw [z] at hp; exact hp.elim
      | some xs =>
        rw [z] at hp
        obtain ⟨a, us, e1, s, t⟩ := rl.lst rep z hp.1
        exact ⟨a, us, e1, s, fun n hn => h4 n _ _ _ S1 (fr.trans (Fr.hid hn)) upd_same (rep.free hn) (Nu.of fr hn) (Rls.mono (le_new hn) _ _ (Rls.reverse t)) (rep.hid hn) hp.2⟩, h5⟩
end
end Mp

set_option Elab.async false
set_option linter.all false
set_option maxRecDepth 100000
set_option maxHeartbeats 2000000
namespace PySem
open Sem (wp)
open AutoSeq1 (wpAny_loadPart')
theorem mp_extend_tuple (l : Addr) (items : Array Value) (n : Nat) (b : Addr) (items2 : Array Value) (n2 : Nat) (dct : Option Addr) (sl : Array (Option Value)) (hs0 : ¬(!items.isEmpty && Builtin.List.listTooLong (items.size + items2.size)) = true) (hs1 : items.size ≤ sizeLine) (hs2 : items.size + items2.size ≤ sizeLine + 1) :
    Meets (Builtin.«list.extend» ⟨[.ref l, .ref b], []⟩) (fun _ R s => s.heap.get? l = some { cls := .type "list", dict := none, data := .seq items n, slots := #[] } ∧ s.heap.get? b = some { cls := .type "tuple", dict := dct, data := .seq items2 n2, slots := sl } ∧ R (.ok (.ret Value.none)) { s with heap := s.heap.update l (Obj.mapSeq fun x => x ++ items2), toks := s.toks }) :=
  .of_wp fun prog w A R s h => by
    obtain ⟨hp, g, d, tk, os⟩ := s; obtain ⟨hl, hb, h⟩ := h; have f1 := AutoSeq1.idx_int; have f2 := AutoSeq1.sub_tuple_tuple; have f3 := AutoSeq1.sub_list_list; have f4 := AutoSeq1.sub_tuple_list; have f5 := AutoSeq1.sub_list_tuple
    have hz' : (items ++ items2).size ≤ sizeLine + 1 := by rw [Array.size_append]; exact hs2
    wp_walk using (wpAny_updateSeq hl rfl (hz := hs1) (_hz' := hz')), wpAny_loadPart' hl, wpAny_loadPart' hb; exact ⟨_, rfl, h⟩
end PySem
namespace Mp
open PySem PySem.Spec PyProof.Rows L2
section
variable {X : Cx} {T : List (Addr × Str)} {W : WX} {e a b tg : Expr} {es : List Expr} {K : PySem.W.Frag} {S S' S0 S1 : Sto} {H H' H0 H1 : Hp} {σ : L2.St} {τ : PSt} {PD : PEnds} {D : Ends} {pos p : Pos} {q : QTA}

/-! ### xs.extend(a tuple) -/
def rExtT (K : PySem.W.Frag) : V → List V → Hp → VK → Prop := fun x vs H Q => ∃ l b xs zs, x = .ref l ∧ vs = [.ref b] ∧ H l = some (.lst xs) ∧ SqT K H b zs ∧ xs.length + zs.length ≤ sizeLine ∧ Q .non (upd H l (.lst (xs ++ zs)))
theorem mt_extT : MtR X "list.extend" (rExtT X.K) := by
  intro pins s σ H x vs v us Q I rx rv h
  obtain ⟨l, b, xs, zs, rfl, rfl, hH, hB, hz, q⟩ := h
  cases rx
  obtain ⟨u, rfl, ru⟩ := rv.one
  cases ru
  obtain ⟨z, its, n, r, hl, e⟩ := I.lstM hH
  obtain ⟨its2, r2, ⟨⟨cls, dd, dt, sl⟩, ho, hc, n2, hd⟩, hl2⟩ := I.tuple hB
  simp only at hc hd
  subst hc hd
  have l2 := r2.length
  have hsz : its.toArray.size + its2.toArray.size ≤ sizeLine := by rw [List.size_toArray, List.size_toArray]; omega
  have hlong : ¬ (!its.toArray.isEmpty && Builtin.List.listTooLong (its.toArray.size + its2.toArray.size)) = true := by
    rw [notLongL hsz, Bool.and_false]
    exact Bool.false_ne_true
  refine call_meets PySem.F.slot_list_extend ⟨_, e, rfl⟩ PySem.F.entry_list_extend (PySem.F.args_list_extend_2 _ _)
    (mp_extend_tuple l its.toArray n b its2.toArray n2 dd sl hlong (by rw [List.size_toArray]; omega) (by omega)) ⟨e, ho, ?_⟩
  refine ⟨.non, _, I.lset (its' := its ++ its2) hH e (by simp) (r.append r2) ?_, rfl, q⟩
  rw [List.length_append]
  omega
def qExtA (qo : QTE) (qa : QTH) : QTE := fun τ S P EP => qo τ S (fun o S1 => match o with
  | .ref c => match S1 c with
    | some (.lst _) => qa τ S1 (fun x S2 => match S2 c, x.its S2 with
      | some (.lst xs), some ys => (x.mut || x.tup) = true ∧ xs.length + ys.length ≤ sizeLine ∧ P .non (put S2 c (.lst (xs ++ ys)))
      | _, _ => False) EP
    | _ => False
  | _ => False) EP
theorem q_extendA {qo : QTE} {qa : QTH} {o e : Expr} {apos cpos : Pos} (ho : QE X T W o qo) (ha : QH X T W e qa)
    (hbase : attributeBase o "extend" X.env (eval o X.env) = eval o X.env := by rfl)
    (hfew : ((backTo cpos (starEach [e] X.env)).all (fun x => !x.1) && (backToKw cpos (keywordEach [] X.env)).all (fun x => x.1.isSome) && decide ([e].length + ([] : List Keyword).length + (if ([] : List Keyword).isEmpty then 0 else 1) < 30)) = true := by rfl)
    (hline : (apos.endLine == cpos.line) = true := by rfl) (hs : starEach [e] X.env = (false, eval e X.env) :: starEach [] X.env := by rfl) (hplain : (backTo cpos (starEach [] X.env)).any (·.1) = false := by rfl) :
    QE X T W (.Call (.Attribute o "extend" apos) [e] [] cpos) (qExtA qo qa) :=
  pe_imp (pe_bm PySem.F.plainAttrs_list PySem.F.slot_list_extend PySem.F.type_list_extend (MtR.or mt_extend mt_extT) ho (pa_cons ha pa_nil hs) hbase hfew hline hs hplain) fun σ H Q h =>
    up_then (RR := Rl X.K) (RR' := Rl X.K) (qk := fun o τ S1 P EP => match o with
      | .ref c => match S1 c with
        | some (.lst _) => qa τ S1 (fun x S2 => match S2 c, x.its S2 with
          | some (.lst xs), some ys => (x.mut || x.tup) = true ∧ xs.length + ys.length ≤ sizeLine ∧ P PV.non (put S2 c (.lst (xs ++ ys)))
          | _, _ => False) EP
        | _ => False
      | _ => False) h fun v x H1 l rl ⟨τ, S, P, EP, rs, rep, hf, k, kx⟩ => by
      cases x with
      | ref c =>
        have e1 : v = .ref c := rl
        subst e1
        simp only at hf
        cases z : S c with
        | none => rw [z] at hf; exact hf.elim
        | some ob =>
          rw [z] at hf
          cases ob with
          | lst xs0 =>
            obtain ⟨vs0, e0, t0⟩ := rep.ob c _ z
            refine ⟨.inl ⟨rfl, vs0, SqL.of e0⟩, τ, S, _, EP, rs, rep, hf, fun w y H2 S2 fr r2 rep2 hp => ?_, kx⟩
            cases z2 : S2 c with
            | none => simp only [z2] at hp
            | some ob2 =>
              cases ob2 with
              | lst xs =>
                cases z3 : y.its S2 with
                | none => simp only [z2, z3] at hp
                | some ys =>
                  simp only [z2, z3] at hp
                  obtain ⟨vs, e1, t1⟩ := rep2.ob c _ z2
                  have f2 : ∀ us, Fr S2 H2 (put S2 c (.lst (xs ++ ys))) (upd H2 c (.lst (vs ++ us))) := fun us => Fr.wr z2
                  cases hm : y.mut with
                  | true =>
                    obtain ⟨c2, us, e2, g2, t2⟩ := r2.mutl rep2 z3 hm
                    subst e2
                    refine .inl ⟨c, c2, vs, us, rfl, rfl, e1, g2, by rw [Rls.length t1, Rls.length t2]; exact hp.2.1, ?_⟩
                    exact k .non .non _ _ (fr.trans (f2 us)) rfl (rep2.wr (ob := .lst (xs ++ ys)) z2 fun le => ⟨_, upd_same, Rls.mono le _ _ (t1.append t2)⟩) hp.2.2
                  | false =>
                    have ht : y.tup = true := by
                      have := hp.1
                      rw [hm] at this
                      exact this
                    obtain ⟨c2, us, e2, g2, t2⟩ := r2.tupl z3 ht
                    subst e2
                    refine .inr ⟨c, c2, vs, us, rfl, rfl, e1, g2, by rw [Rls.length t1, Rls.length t2]; exact hp.2.1, ?_⟩
                    exact k .non .non _ _ (fr.trans (f2 us)) rfl (rep2.wr (ob := .lst (xs ++ ys)) z2 fun le => ⟨_, upd_same, Rls.mono le _ _ (t1.append t2)⟩) hp.2.2
              | _ => simp only [z2] at hp
          | _ => exact hf.elim
      | _ => exact hf.elim

/-! ### tuples of texts of the module; the place of a text -/
def TupS (K : PySem.W.Frag) (mg : Str → Option Value) (x : Str) (ns : List (List Nat)) : Prop := ∃ (a : Addr) (o : Obj) (its : Array Value) (n : Nat), mg x = some (.ref a) ∧ K.lookup a = some o ∧ o.cls = .type "tuple" ∧ o.dict = none ∧ o.data = .seq its n ∧ its.size ≤ sizeLine ∧ Vals ((ns.map fun c => (⟨c.toArray⟩ : Str)).map V.str) its.toList
theorem rls_strs {H : Hp} : ∀ ns : List (List Nat), Rls K H ((ns.map fun c => (⟨c.toArray⟩ : Str)).map V.str) (ns.map PV.str)
  | [] => rfl
  | n :: ns => ⟨_, _, rfl, rfl, rls_strs ns⟩
theorem q_gtup {x : Str} {ns : List (List Nat)} (t : TupS X.K X.mg x ns) (hg : Gl X x := by rfl) (hd : (x == ("__debug__" : Str)) = false := by decide) : QE X T W (.Name x pos) (qC (.ktp (ns.map PV.str))) := by
  obtain ⟨a, o, its, n, hm, h1, h2, h3, h4, h5, h6⟩ := t
  exact q_con (pe_glob (v := .ref a) hg hm rfl hd) fun H => ⟨a, _, rfl, .inr ⟨o, its, n, h1, h2, h4, h5, h6⟩, rls_strs ns⟩
def idxS (z : List Nat) : List (List Nat) → Option Nat
  | [] => none
  | n :: ns => if n = z then some 0 else (idxS z ns).map (· + 1)
theorem idxS_some {z : List Nat} : ∀ {ns : List (List Nat)} {j : Nat}, idxS z ns = some j → ns[j]? = some z ∧ ∀ m, m < j → ns[m]? ≠ some z
  | [], j, h => by cases h
  | n :: ns, j, h => by
    unfold idxS at h
    by_cases hn : n = z
    · rw [if_pos hn] at h
      cases h
      exact ⟨by rw [hn]; rfl, fun m hm => by omega⟩
    · rw [if_neg hn] at h
      cases q : idxS z ns with
      | none => rw [q] at h; cases h
      | some i =>
        rw [q] at h
        cases h
        obtain ⟨h1, h2⟩ := idxS_some q
        refine ⟨h1, fun m hm => ?_⟩
        cases m with
        | zero => exact fun z => hn (by simpa using z)
        | succ m =>
          have hm : m + 1 < i + 1 := hm
          exact h2 m (by omega)
theorem str_get {ns : List (List Nat)} {j : Nat} {z : List Nat} (h : ns[j]? = some z) : (ns.map fun c => (⟨c.toArray⟩ : Str))[j]? = some ⟨z.toArray⟩ := by rw [List.getElem?_map, h]; rfl
theorem str_inj {c d : List Nat} (h : (⟨c.toArray⟩ : Str) = ⟨d.toArray⟩) : c = d := by
  have h2 := congrArg (fun s : Str => s.cps.toList) h
  simpa using h2
theorem str_no {ns : List (List Nat)} {j : Nat} {z : List Nat} (h : ∀ m, m < j → ns[m]? ≠ some z) : ∀ m, m < j → (ns.map fun c => (⟨c.toArray⟩ : Str))[m]? ≠ some ⟨z.toArray⟩ := fun m hm q => by
  rw [List.getElem?_map] at q
  cases w : ns[m]? with
  | none => rw [w] at q; cases q
  | some u =>
    rw [w] at q
    have e : u = z := str_inj (Option.some.inj q)
    subst e
    exact h m hm w
def qIdxG (ns : List (List Nat)) (qa : QTE) : QTE := fun τ S P EP => qa τ S (fun y S1 => match y with
  | .str z => match idxS z ns with
    | some j => P (.int j) S1
    | none => False
  | _ => False) EP
theorem q_idxG {x : Str} {ns : List (List Nat)} {qa : QTE} {npos apos cpos : Pos} (t : TupS X.K X.mg x ns) (ha : QE X T W e qa) (hg : Gl X x := by rfl) (hd : (x == ("__debug__" : Str)) = false := by decide)
    (hbase : attributeBase (.Name x npos) "index" X.env (eval (.Name x npos) X.env) = eval (.Name x npos) X.env := by rfl)
    (hfew : ((backTo cpos (starEach [e] X.env)).all (fun x => !x.1) && (backToKw cpos (keywordEach [] X.env)).all (fun x => x.1.isSome) && decide ([e].length + ([] : List Keyword).length + (if ([] : List Keyword).isEmpty then 0 else 1) < 30)) = true := by rfl)
    (hline : (apos.endLine == cpos.line) = true := by rfl) (hs : starEach [e] X.env = (false, eval e X.env) :: starEach [] X.env := by rfl) (hplain : (backTo cpos (starEach [] X.env)).any (·.1) = false := by rfl) :
    QE X T W (.Call (.Attribute (.Name x npos) "index" apos) [e] [] cpos) (qIdxG ns qa) := by
  obtain ⟨a, o, its, n, hm, h1, h2, h3, h4, h5, h6⟩ := t
  exact pe_imp (pe_bm PySem.F.plainAttrs_tuple PySem.F.slot_tuple_index PySem.F.type_tuple_index mt_tup_index (pe_glob (v := .ref a) hg hm rfl hd) (pa_cons ha pa_nil hs) hbase hfew hline hs hplain) fun σ H Q h =>
    ⟨.inr (.inl ⟨rfl, o, h1, h2, h3⟩), up_then (RR := Rl X.K) (RR' := Rl X.K) (qk := fun y _ S1 P _ => match y with
      | .str z => match idxS z ns with
        | some j => P (PV.int j) S1
        | none => False
      | _ => False) h fun v y H1 l rl ⟨τ, S, P, EP, rs, rep, hf, k, kx⟩ => by
        cases y with
        | str z =>
          have e1 : v = .str ⟨z.toArray⟩ := rl
          subst e1
          simp only at hf
          cases q : idxS z ns with
          | none => rw [q] at hf; exact hf.elim
          | some j =>
            rw [q] at hf
            obtain ⟨g1, g2⟩ := idxS_some q
            exact ⟨a, _, _, j, rfl, rfl, .inr ⟨o, its, n, h1, h2, h4, h5, h6⟩, str_get g1, str_no g2, k (.int _) (.int _) H1 S Fr.refl rfl rep hf⟩
        | _ => exact hf.elim⟩
/-- [..].index(text) -/
def qIdxL (qo : QTA) (qa : QTE) : QTE := fun τ S P EP => qo τ S (fun xs S1 => qa τ S1 (fun y S2 => match y, strsOf xs with
  | .str z, some ns => match idxS z ns with
    | some j => P (.int j) S2
    | none => False
  | _, _ => False) EP) EP
theorem flat_strs2 : ∀ ns : List Str, (ns.map V.str).all flatV = true
  | [] => rfl
  | n :: ns => by
    rw [List.map_cons, List.all_cons, flat_strs2 ns]; rfl
theorem q_idxL {qo : QTA} {qa : QTE} {o : Expr} {apos cpos : Pos} (ho : QL X T W o qo) (ha : QE X T W e qa)
    (hbase : attributeBase o "index" X.env (eval o X.env) = eval o X.env := by rfl)
    (hfew : ((backTo cpos (starEach [e] X.env)).all (fun x => !x.1) && (backToKw cpos (keywordEach [] X.env)).all (fun x => x.1.isSome) && decide ([e].length + ([] : List Keyword).length + (if ([] : List Keyword).isEmpty then 0 else 1) < 30)) = true := by rfl)
    (hline : (apos.endLine == cpos.line) = true := by rfl) (hs : starEach [e] X.env = (false, eval e X.env) :: starEach [] X.env := by rfl) (hplain : (backTo cpos (starEach [] X.env)).any (·.1) = false := by rfl) :
    QE X T W (.Call (.Attribute o "index" apos) [e] [] cpos) (qIdxL qo qa) :=
  pe_imp (pe_bm PySem.F.plainAttrs_list PySem.F.slot_list_index PySem.F.type_list_index mt_index ho (pa_cons ha pa_nil hs) hbase hfew hline hs hplain) fun σ H Q ⟨τ, S, P, EP, h1, h2, h3, h4, h5⟩ => by
    refine ⟨τ, S, _, EP, h1, h2, h3, fun c vs xs H1 S1 fr g nS nu rl rep hp => ?_, h5⟩
    refine ⟨.inl ⟨rfl, vs, SqL.of g⟩, τ, S1, _, EP, h1.mono (fr.le h2), rep, hp, fun w y H2 S2 fr2 r2 rep2 hp2 => ?_, fun c d x H' S' f => h5 c d x H' S' (fr.trans f)⟩
    cases y with
    | str z =>
      have e1 : w = .str ⟨z.toArray⟩ := r2
      subst e1
      cases z2 : strsOf xs with
      | none => simp only [z2] at hp2
      | some ns =>
        simp only [z2] at hp2
        cases q : idxS z ns with
        | none => simp only [q] at hp2
        | some j =>
          simp only [q] at hp2
          obtain ⟨g1, g2⟩ := idxS_some q
          have g' := (fr2 c _ g (fun _ q => nomatch q) (.inl nS)).1
          have ev := strsOf_rl z2 (Rls.mono (fr2.le rep) _ _ rl)
          subst ev
          refine ⟨c, _, _, j, .str ⟨z.toArray⟩, rfl, rfl, SqL.of g', rfl, flat_strs2 _, ?_, by show ((⟨z.toArray⟩ : Str) == ⟨z.toArray⟩) = true; simp, fun m z' hm hz => ?_, h4 (.int _) (.int _) H2 S2 (fr.trans fr2) rfl rep2 hp2⟩
          · rw [List.getElem?_map, str_get g1]; rfl
          · rw [List.getElem?_map] at hz
            cases w : (ns.map fun c => (⟨c.toArray⟩ : Str))[m]? with
            | none => rw [w] at hz; cases hz
            | some u =>
              rw [w] at hz
              cases hz
              show (u == (⟨z.toArray⟩ : Str)) = false
              rw [beq_eq_false_iff_ne]
              exact fun q => str_no g2 m hm (by rw [w, q])
    | _ => exact hp2.elim
end
end Mp

set_option Elab.async false
set_option linter.all false
set_option maxRecDepth 100000
namespace Mp
open PySem PySem.Spec PyProof.Rows L2

/-! ### fields by numbers -/
theorem fld_inj : ∀ i < 36, ∀ j < 36, fld i = fld j → i = j := by decide +kernel
def lkF : List (Nat × PV) → Nat → Option PV
  | [], _ => none
  | (j, x) :: r, i => match Nat.beq i j with
    | true => some x
    | false => lkF r i
def ptF : List (Nat × PV) → Nat → PV → List (Nat × PV)
  | [], i, v => [(i, v)]
  | (j, x) :: r, i, v => match Nat.beq i j with
    | true => (j, v) :: r
    | false => (j, x) :: ptF r i v
section
variable {K : PySem.W.Frag} {H : Hp}
theorem beq_t {i j : Nat} (h : Nat.beq i j = true) : i = j := Nat.eq_of_beq_eq_true h
theorem beq_f {i j : Nat} (h : Nat.beq i j = false) : i ≠ j := Nat.ne_of_beq_eq_false h
theorem str_bt {a b : Str} (h : a = b) : (a == b) = true := beq_iff_eq.mpr h
theorem str_bf {a b : Str} (h : a ≠ b) : (a == b) = false := beq_eq_false_iff_ne.mpr h
theorem lk_some : ∀ {fs : List (Nat × PV)} {gs : List (Str × V)} {i : Nat} {x : PV}, gs.map Prod.fst = fs.map (fun x => fld x.1) → (∀ x ∈ fs, x.1 < 36) → i < 36 → Rls K H (gs.map Prod.snd) (fs.map Prod.snd) → lkF fs i = some x → ∃ v, gs.lookup (fld i) = some v ∧ Rl K H v x
  | [], _, _, _, _, _, _, _, h => by cases h
  | (j, y) :: fs, [], _, _, e, _, _, _, _ => by cases e
  | (j, y) :: fs, (g, w) :: gs, i, x, e, b, hi, r, h => by
    injection e with e1 e2
    have e1 : g = fld j := e1
    obtain ⟨w', r', e3, r1, r2⟩ := r
    injection e3 with e3 e4
    have e3 : w = w' := e3
    subst e3
    have r2 : Rls K H (gs.map Prod.snd) (fs.map Prod.snd) := by
      have e4 : gs.map Prod.snd = r' := e4
      rw [e4]; exact r2
    unfold lkF at h
    cases hb : Nat.beq i j with
    | true =>
      rw [hb] at h
      have h : some y = some x := h
      cases h
      exact ⟨w, by rw [List.lookup, str_bt (by rw [e1, beq_t hb])], r1⟩
    | false =>
      rw [hb] at h
      have h : lkF fs i = some x := h
      have hj : j < 36 := b (j, y) (List.mem_cons_self ..)
      obtain ⟨v, h1, h2⟩ := lk_some e2 (fun x hx => b x (List.mem_cons_of_mem _ hx)) hi r2 h
      refine ⟨v, ?_, h2⟩
      rw [List.lookup, str_bf (by rw [e1]; exact fun z => beq_f hb (fld_inj i hi j hj z))]
      exact h1
theorem lk_no : ∀ {fs : List (Nat × PV)} {gs : List (Str × V)} {m : Str}, gs.map Prod.fst = fs.map (fun x => fld x.1) → (∀ x ∈ fs, x.1 < 36) → (∀ i < 36, fld i ≠ m) → gs.lookup m = none
  | _, [], _, _, _, _ => rfl
  | [], _ :: _, _, e, _, _ => by cases e
  | (j, y) :: fs, (g, w) :: gs, m, e, b, hm => by
    injection e with e1 e2
    have e1 : g = fld j := e1
    have hj : j < 36 := b (j, y) (List.mem_cons_self ..)
    rw [List.lookup, str_bf (by rw [e1]; exact fun z => hm j hj z.symm)]
    exact lk_no e2 (fun x hx => b x (List.mem_cons_of_mem _ hx)) hm
theorem pt_fst : ∀ {fs : List (Nat × PV)} {gs : List (Str × V)} {i : Nat} {x : PV} {v : V}, gs.map Prod.fst = fs.map (fun x => fld x.1) → (∀ x ∈ fs, x.1 < 36) → i < 36 → Rls K H (gs.map Prod.snd) (fs.map Prod.snd) → Rl K H v x →
    (putF (fld i) v gs).map Prod.fst = (ptF fs i x).map (fun x => fld x.1) ∧ (∀ y ∈ ptF fs i x, y.1 < 36) ∧ Rls K H ((putF (fld i) v gs).map Prod.snd) ((ptF fs i x).map Prod.snd)
  | [], [], i, x, v, _, _, hi, _, rx => ⟨rfl, fun y hy => by
    have hy : y ∈ [(i, x)] := hy
    rw [List.mem_singleton] at hy; subst hy; exact hi, ⟨v, [], rfl, rx, rfl⟩⟩
  | [], _ :: _, _, _, _, e, _, _, _, _ => by cases e
  | (j, y) :: fs, [], _, _, _, e, _, _, _, _ => by cases e
  | (j, y) :: fs, (g, w) :: gs, i, x, v, e, b, hi, r, rx => by
    injection e with e1 e2
    have e1 : g = fld j := e1
    have hj : j < 36 := b (j, y) (List.mem_cons_self ..)
    have b2 : ∀ x ∈ fs, x.1 < 36 := fun x hx => b x (List.mem_cons_of_mem _ hx)
    obtain ⟨w', r', e3, r1, r2⟩ := r
    injection e3 with e3 e4
    have e3 : w = w' := e3
    subst e3
    have r2 : Rls K H (gs.map Prod.snd) (fs.map Prod.snd) := by
      have e4 : gs.map Prod.snd = r' := e4
      rw [e4]; exact r2
    unfold ptF putF
    cases hb : Nat.beq i j with
    | true =>
      rw [if_pos (by rw [e1, beq_t hb])]
      refine ⟨?_, fun z hz => ?_, ⟨v, gs.map Prod.snd, rfl, rx, r2⟩⟩
      · show g :: gs.map Prod.fst = fld j :: _
        rw [e1, e2]
      · rcases List.mem_cons.mp hz with h | h
        · subst h; exact hj
        · exact b2 z h
    | false =>
      rw [if_neg (by rw [e1]; exact fun z => beq_f hb (fld_inj i hi j hj z.symm))]
      obtain ⟨h1, h2, h3⟩ := pt_fst e2 b2 hi r2 rx
      refine ⟨?_, fun z hz => ?_, ⟨w, (putF (fld i) v gs).map Prod.snd, rfl, r1, h3⟩⟩
      · show g :: (putF (fld i) v gs).map Prod.fst = fld j :: _
        rw [e1, h1]
      · rcases List.mem_cons.mp hz with h | h
        · subst h; exact hj
        · exact h2 z h
end
section
variable {X : Cx} {T : List (Addr × Str)} {W : WX} {e a b o tg : Expr} {es : List Expr} {K : PySem.W.Frag} {S S' S0 S1 : Sto} {H H' H0 H1 : Hp} {σ : L2.St} {τ : PSt} {PD : PEnds} {D : Ends} {pos pos' p apos : Pos} {q : QTA}
/-- what is known of classes -/
structure InsC (K : PySem.W.Frag) (C : Nat) (fs : List Nat) : Prop where
  at_ : ∀ c, PySem.W.nsIn K mainGlobals (cls C) = some (some (.ref c)) → Cls K c ∧ ∀ i ∈ fs, NoAttr K c (fld i)
def InsCs (K : PySem.W.Frag) (l : List (Nat × List Nat)) : Prop := ∀ x ∈ l, InsC K x.1 x.2
/-- which classes have the field -/
def hasF (l : List (Nat × List Nat)) (i C : Nat) : Bool := l.any fun x => Nat.beq x.1 C && x.2.any (Nat.beq i)
theorem hasF_ok {l : List (Nat × List Nat)} {i C : Nat} {c : Addr} (h : InsCs K l) (f : hasF l i C = true) (n : PySem.W.nsIn K mainGlobals (cls C) = some (some (.ref c))) : Cls K c ∧ NoAttr K c (fld i) := by
  unfold hasF at f
  obtain ⟨x, hx, h1⟩ := List.any_eq_true.mp f
  rw [Bool.and_eq_true] at h1
  obtain ⟨j, hj, h2⟩ := List.any_eq_true.mp h1.2
  have e1 := beq_t h1.1
  have e2 := beq_t h2
  subst e2
  obtain ⟨g1, g2⟩ := (h x hx).at_ c (by rw [e1]; exact n)
  exact ⟨g1, g2 i hj⟩
/-- o.f -/
def qFld (l : List (Nat × List Nat)) (i : Nat) (qo : QTE) : QTE := fun τ S P EP => qo τ S (fun o S1 => match o with
  | .ref p => match S1 p with
    | some (.ins C fs) => match lkF fs i with
      | some x => hasF l i C = true ∧ P x S1
      | none => False
    | _ => False
  | _ => False) EP
theorem q_fld {l : List (Nat × List Nat)} {i : Nat} {f : Str} {qo : QTE} (hl : InsCs X.K l) (ho : QE X T W o qo) (hf : fld i = f := by rfl) (hi : i < 36 := by decide) (hb : attributeBase o f X.env (eval o X.env) = eval o X.env := by rfl) : QE X T W (.Attribute o f pos) (qFld l i qo) := by
  subst hf
  exact pe_imp (pe_fld ho hb) fun σ H Q h => up_then (RR := Rl X.K) (RR' := Rl X.K) (qk := fun o _ S1 P _ => match o with
    | .ref p => match S1 p with
      | some (.ins C fs) => match lkF fs i with
        | some x => hasF l i C = true ∧ P x S1
        | none => False
      | _ => False
    | _ => False) h fun v x H1 le rl ⟨τ, S, P, EP, rs, rep, hf, k, kx⟩ => by
    cases x with
    | ref c =>
      have e1 : v = .ref c := rl
      subst e1
      simp only at hf
      cases z : S c with
      | none => simp only [z] at hf
      | some ob =>
        cases ob with
        | ins C fs =>
          simp only [z] at hf
          cases z2 : lkF fs i with
          | none => simp only [z2] at hf
          | some y =>
            simp only [z2] at hf
            obtain ⟨cc, dx, gs, e2, n, m, bd, r⟩ := rep.ob c _ z
            obtain ⟨w, e3, r3⟩ := lk_some m bd hi r z2
            obtain ⟨g1, g2⟩ := hasF_ok hl hf.1 n
            exact ⟨c, cc, dx, gs, w, rfl, e2, g1, g2, e3, k w y H1 S Fr.refl r3 rep hf.2⟩
        | _ => simp only [z] at hf
    | _ => exact hf.elim
/-- o.f = e -/
def qSFld (l : List (Nat × List Nat)) (i : Nat) (qo qe : QTE) : QTS := fun D τ S => qe τ S (fun y S1 => qo τ S1 (fun o S2 => match o with
  | .ref p => match S2 p with
    | some (.ins C fs) => (hasF l i C = true ∧ fs.length < 1000) ∧ D.nx τ (put S2 p (.ins C (ptF fs i y)))
    | _ => False
  | _ => False) (exAt D τ)) (exAt D τ)
theorem qs_fld {l : List (Nat × List Nat)} {i : Nat} {f : Str} {qo qe : QTE} (hl : InsCs X.K l) (ho : QE X T W o qo) (he : QE X T W e qe) (hf : fld i = f := by rfl) (hi : i < 36 := by decide) (hs : swapsWith e (some (.Attribute o f pos')) pos.line X.env = pure false := by rfl) :
    QS X T W (.Assign [.Attribute o f pos'] e pos) (qSFld l i qo qe) := by
  subst hf
  refine ps_imp (ps_fld ho he hs) fun D σ H ⟨τ, S, PD, rs, rep, q, c⟩ => con_up rs rep c q fun y py H1 S1 fr1 rs1 ry rep1 h1 => con_up rs1 rep1 (c.mono fr1) h1 fun v x H2 S2 fr2 rs2 rx rep2 h2 => ?_
  cases x with
  | ref p =>
    have e1 : v = .ref p := rx
    subst e1
    simp only at h2
    cases z : S2 p with
    | none => simp only [z] at h2
    | some ob =>
      cases ob with
      | ins C fs =>
        simp only [z] at h2
        obtain ⟨cc, dx, gs, e2, n, m, bd, r⟩ := rep2.ob p _ z
        obtain ⟨g1, g2⟩ := hasF_ok hl h2.1.1 n
        have hlen : gs.length < 1000 := by
          have q := congrArg List.length m
          rw [List.length_map, List.length_map] at q
          rw [q]; exact h2.1.2
        have ry2 : Rl X.K H2 y py := Rl.mono (fr2.le rep1) _ _ ry
        have fr := (fr1.trans fr2).trans (Fr.wr (o := .ins cc dx (putF (fld i) y gs)) (ob := .ins C (ptF fs i py)) z)
        have rp := rep2.wr (ob := .ins C (ptF fs i py)) (o := .ins cc dx (putF (fld i) y gs)) z fun le => by
          obtain ⟨k1, k2, k3⟩ := pt_fst m bd hi (Rls.mono le _ _ r) (Rl.mono le _ _ ry2)
          exact ⟨cc, dx, _, upd_same, n, k1, k2, k3⟩
        exact ⟨p, cc, dx, gs, rfl, e2, g1, g2, hlen, c.nx σ τ _ _ fr (rs2.mono ((Fr.wr (o := .ins cc dx (putF (fld i) y gs)) (ob := .ins C (ptF fs i py)) z).le rep2)) rp h2.2⟩
      | _ => simp only [z] at h2
  | _ => exact h2.elim

/-! ### methods -/
/-- a method that keeps a promise -/
structure Mt (P : Program) (w : World) (K : PySem.W.Frag) (mg : Str → Option Value) (base : Heap) (T : List (Addr × Str)) (k : Nat) (C : Nat) (m : Str) (st : Stmt) (n : Nat) (sp : PSp) : Prop where
  ex : ∃ (c f : Addr) (fd : FuncData) (ps : List Str), mg (cls C) = some (.ref c) ∧ PySem.W.nsIn K mainGlobals (cls C) = some (some (.ref c)) ∧ Cls K c ∧ Meth K c m f ∧ (∃ q, Fun K m q st f fd) ∧ Binds K fd ps [] ∧ ps.length = n ∧ ps = (defArgs st).args.map (·.arg) ∧ FnOk P w K mg base (L2N.CX P w) k f fd ps (spOf K T n sp)
theorem Mt.mono {P : Program} {w : World} {mg : Str → Option Value} {base : Heap} {k j C n : Nat} {m : Str} {st : Stmt} {sp : PSp} (M : Mt P w K mg base T j C m st n sp) (h : j ≤ k) : Mt P w K mg base T k C m st n sp :=
  let ⟨c, f, fd, ps, h0, h1, h2, h3, h4, h5, h6, h7, h8⟩ := M.ex
  ⟨c, f, fd, ps, h0, h1, h2, h3, h4, h5, h6, h7, h8.mono h⟩
def qMeth (C n : Nat) (sp : PSp) (qo : QTE) (qa : QTA) : QTE := fun τ S P EP => qo τ S (fun o S1 => match o with
  | .ref p => match S1 p with
    | some (.ins D _) => D = C ∧ qa τ S1 (fun xs S2 => xs.length + 1 = n ∧ sp (.ref p :: xs) S2 P EP) EP
    | _ => False
  | _ => False) EP
theorem meth_then {qo : QTE} {qa : QTA} {C n : Nat} {sp : PSp} {m : Str} {c : Addr} {Q : VK} (hn : PySem.W.nsIn K mainGlobals (cls C) = some (some (.ref c))) (hm : ∀ i < 36, fld i ≠ m) (h : upG K T W (Rl K) (qMeth C n sp qo qa) σ H Q) :
    upG K T W (Rl K) qo σ H fun x H1 => ∃ a dx fs, x = V.ref a ∧ H1 a = some (.ins c dx fs) ∧ fs.lookup m = none ∧ upG K T W (Rls K) qa σ H1 fun vs H2 => spOf K T n sp (.ref a :: vs) H2 Q (WE W σ) :=
  up_then (RR := Rl K) (RR' := Rl K) (qk := fun o τ S1 P EP => match o with
    | .ref p => match S1 p with
      | some (.ins D _) => D = C ∧ qa τ S1 (fun xs S2 => xs.length + 1 = n ∧ sp (PV.ref p :: xs) S2 P EP) EP
      | _ => False
    | _ => False) h fun v x H1 le rl ⟨τ, S, P, EP, rs, rep, hf, k, kx⟩ => by
    cases x with
    | ref p =>
      have e1 : v = .ref p := rl
      subst e1
      simp only at hf
      cases z : S p with
      | none => simp only [z] at hf
      | some ob =>
        cases ob with
        | ins D fs =>
          simp only [z] at hf
          obtain ⟨rfl, hf⟩ := hf
          obtain ⟨cc, dx, gs, e2, n1, m1, bd, r⟩ := rep.ob p _ z
          rw [hn] at n1
          cases n1
          refine ⟨p, dx, gs, rfl, e2, lk_no m1 bd hm, τ, S, _, EP, rs, rep, hf, fun vs ps H2 S2 fr rl2 rep2 ⟨hl, hs⟩ => ?_, kx⟩
          exact ⟨by rw [List.length_cons, Rls.length rl2]; exact hl, _, S2, P, EP, Rls.cons (p := .ref p) rfl rl2, rep2, hs, fun w p2 H3 S3 f3 => k w p2 H3 S3 (fr.trans f3), fun cv d y H3 S3 f3 => kx cv d y H3 S3 (fr.trans f3)⟩
        | _ => simp only [z] at hf
    | _ => exact hf.elim
theorem q_meth {k C n : Nat} {m : Str} {st : Stmt} {sp : PSp} {qo : QTE} {qa : QTA} {pl : Sem Bool} (M : Mt X.prog X.w X.K X.mg X.base T k C m st n sp) (hm : ∀ i < 36, fld i ≠ m) (hr : Room k X.A) (tk : L2N.Takes X W) (ho : QE X T W o qo) (ha : QA X T W (e :: es) qa)
    (hst : starEach (e :: es) X.env = (false, eval e X.env) :: starEach es X.env := by rfl) (hpl : (backTo pos (starEach es X.env)).any (·.1) = false := by rfl)
    (ht : eval (.Call (.Attribute o m apos) (e :: es) [] pos) X.env = (do
      let ov ← eval o X.env
      standAt apos.atName
      let (f, first) ← holding [ov] (getMethod ov m pl)
      callWith pos f first (backTo pos (starEach (e :: es) X.env)) (backToKw pos (keywordEach [] X.env))) := by rfl) : QE X T W (.Call (.Attribute o m apos) (e :: es) [] pos) (qMeth C n sp qo qa) := by
  obtain ⟨c, f, fd, ps, h0, h1, h2, h3, h4, h5, h6, h7, h8⟩ := M.ex
  refine ⟨fun pins s σ H Q I h => ?_⟩
  refine PySem.W.methodCall_KW (pl := pl) (thn (PE.run ho pins s σ H _ I (meth_then h1 hm h)) fun u s1 ⟨x, H1, I1, rx, a, dx, fs, ex, ea, l, q⟩ => ?_) ht
  subst ex
  obtain rfl : u = Value.ref a := rx
  refine getmeth_ok I1 ea h2 h3 l ?_
  refine PySem.W.callWith_K (first := [.ref a]) (h₀ := X.base) I.ok.mod.kin h3.kp (thn (PA.run ha pos pins s1 σ H1 _ I1 q) fun us s2 ⟨vs, H2, I2, r, q2⟩ => ⟨I2.kIn, ?_⟩) hst hpl
  exact run_fnS (us := .ref a :: us) (vs := .ref a :: vs) (E := WE W) h8 hr h5 (L2N.passAt tk σ) I2 (.cons rfl r) q2
theorem q_meth0 {k C n : Nat} {m : Str} {st : Stmt} {sp : PSp} {qo : QTE} {pl : Sem Bool} (M : Mt X.prog X.w X.K X.mg X.base T k C m st n sp) (hm : ∀ i < 36, fld i ≠ m) (hr : Room k X.A) (tk : L2N.Takes X W) (ho : QE X T W o qo)
    (ht : eval (.Call (.Attribute o m apos) [] [] pos) X.env = (do
      let ov ← eval o X.env
      standAt apos.atName
      let (f, first) ← holding [ov] (getMethod ov m pl)
      callWith pos f first (backTo pos (starEach [] X.env)) (backToKw pos (keywordEach [] X.env))) := by rfl) : QE X T W (.Call (.Attribute o m apos) [] [] pos) (qMeth C n sp qo qaN) := by
  obtain ⟨c, f, fd, ps, h0, h1, h2, h3, h4, h5, h6, h7, h8⟩ := M.ex
  refine ⟨fun pins s σ H Q I h => ?_⟩
  refine PySem.W.methodCall_KW (pl := pl) (thn (PE.run ho pins s σ H _ I (meth_then h1 hm h)) fun u s1 ⟨x, H1, I1, rx, a, dx, fs, ex, ea, l, q⟩ => ?_) ht
  subst ex
  obtain rfl : u = Value.ref a := rx
  refine getmeth_ok I1 ea h2 h3 l ?_
  refine PySem.W.callWith_K0 (first := [.ref a]) I1.kIn h3.kp ?_
  obtain ⟨τ, S, P, EP, rs, rep, hq, k1, k2⟩ := q
  exact run_fnS (us := [.ref a]) (vs := [.ref a]) (E := WE W) h8 hr h5 (L2N.passAt tk σ) I1 (.cons rfl .nil) (k1 [] [] H1 S Fr.refl rfl rep hq)

/-! ### new instances -/
structure MkC (P : Program) (w : World) (K : PySem.W.Frag) (mg : Str → Option Value) (base : Heap) (T : List (Addr × Str)) (k : Nat) (C : Nat) (st : Stmt) (n : Nat) (sp : PSp) : Prop where
  ex : ∃ (c f : Addr) (fd : FuncData) (ps : List Str), mg (cls C) = some (.ref c) ∧ PySem.W.nsIn K mainGlobals (cls C) = some (some (.ref c)) ∧ Mk K c f ∧ (∃ q, Fun K "__init__" q st f fd) ∧ Binds K fd ps [] ∧ ps.length = n ∧ ps = (defArgs st).args.map (·.arg) ∧ FnOk P w K mg base (L2N.CX P w) k f fd ps (spOf K T n sp)
theorem MkC.mono {P : Program} {w : World} {mg : Str → Option Value} {base : Heap} {k j C n : Nat} {st : Stmt} {sp : PSp} (M : MkC P w K mg base T j C st n sp) (h : j ≤ k) : MkC P w K mg base T k C st n sp :=
  let ⟨c, f, fd, ps, h0, h1, h2, h4, h5, h6, h7, h8⟩ := M.ex
  ⟨c, f, fd, ps, h0, h1, h2, h4, h5, h6, h7, h8.mono h⟩
theorem passes_no {P : Program} {w : World} : Passes (L2N.CX P w) X (fun _ _ _ => False) := fun _ _ _ _ _ _ _ ⟨_, _, _, _, _, _, _, _, _, _, _, _, z⟩ => z.elim
def mkIns (C n : Nat) (sp : PSp) (xs : List PV) (S : Sto) (P : QK PV) : Prop := ∀ p, S p = none → xs.length + 1 = n ∧ sp (.ref p :: xs) (put S p (.ins C [])) (fun v S2 => v = .non ∧ P (.ref p) S2) X0
def qMake (C n : Nat) (sp : PSp) (qa : QTA) : QTE := fun τ S P EP => qa τ S (fun xs S1 => mkIns C n sp xs S1 P) EP
theorem mk_ins {C n : Nat} {sp : PSp} {vs : List V} {xs : List PV} {c : Addr} {P : QK PV} {Q : VK} (hn : PySem.W.nsIn K mainGlobals (cls C) = some (some (.ref c))) (rl : Rls K H vs xs) (rep : Rep K T S H) (hp : mkIns C n sp xs S P)
    (k : ∀ v p H' S', Fr S H S' H' → Rl K H' v p → Rep K T S' H' → P p S' → Q v H') (x dx : Addr) (hx : H x = none) (hd : H dx = none) (hne : dx ≠ x) :
    spOf K T n sp (.ref x :: vs) (upd (upd H dx (.own x)) x (.ins c dx [])) (fun v H2 => v = .non ∧ Q (.ref x) H2) (fun _ _ _ => False) := by
  have n1 : upd H dx (.own x) x = none := by rw [upd_ne (Ne.symm hne)]; exact hx
  obtain ⟨hl, hs⟩ := hp x (rep.free hx)
  have f1 : Fr S H S (upd H dx (.own x)) := Fr.hid hd
  have rep1 : Rep K T S (upd H dx (.own x)) := rep.hid hd
  have rep2 : Rep K T (put S x (.ins C [])) (upd (upd H dx (.own x)) x (.ins c dx [])) := rep1.new n1 ⟨c, dx, [], upd_same, hn, rfl, fun _ h => (nomatch h), rfl⟩
  have f2 : Fr S H (put S x (.ins C [])) (upd (upd H dx (.own x)) x (.ins c dx [])) := f1.trans (Fr.new n1)
  refine ⟨by rw [List.length_cons, Rls.length rl]; exact hl, _, _, _, _, Rls.cons (p := .ref x) rfl (Rls.mono (f2.le rep) _ _ rl), rep2, hs, fun v p H' S' fr rv rp ⟨e, hq⟩ => ?_, fun _ _ _ _ _ _ _ _ z => z.elim⟩
  subst e
  exact ⟨rv, k (.ref x) (.ref x) H' S' (f2.trans fr) rfl rp hq⟩
theorem q_make {k C n : Nat} {st : Stmt} {sp : PSp} {x : Str} {qa : QTA} (M : MkC X.prog X.w X.K X.mg X.base T k C st n sp) (hr : Room (k + 1) X.A) (hg : Gl X x) (ha : QA X T W (e :: es) qa) (hx : cls C = x := by rfl) (hdb : (x == ("__debug__" : Str)) = false := by decide)
    (he : starEach (e :: es) X.env = (false, eval e X.env) :: starEach es X.env := by rfl) (hpl : (backTo pos (starEach es X.env)).any (·.1) = false := by rfl) : QE X T W (.Call (.Name x p) (e :: es) [] pos) (qMake C n sp qa) := by
  obtain ⟨c, f, fd, ps, h0, h1, h2, h4, h5, h6, h7, h8⟩ := M.ex
  rw [hx] at h0
  refine pe_imp (pe_make (E := fun _ _ _ => False) h2 h8 hr hg h0 h5 .nil passes_no ha hdb he hpl) fun σ H Q ⟨τ, S, P, EP, rs, rep, hq, k1, k2⟩ => ?_
  refine ⟨τ, S, _, EP, rs, rep, hq, fun vs ps H' S' fr rl rep' hp => ?_, k2⟩
  intro x dx nx nd ne
  rw [List.append_nil]
  exact mk_ins h1 rl rep' hp (fun v p H2 S2 f2 => k1 v p H2 S2 (fr.trans f2)) x dx nx nd ne
theorem q_make0 {k C n : Nat} {st : Stmt} {sp : PSp} {x : Str} (M : MkC X.prog X.w X.K X.mg X.base T k C st n sp) (hr : Room (k + 1) X.A) (hg : Gl X x) (hx : cls C = x := by rfl) (hdb : (x == ("__debug__" : Str)) = false := by decide) : QE X T W (.Call (.Name x p) [] [] pos) (qMake C n sp qaN) := by
  obtain ⟨c, f, fd, ps, h0, h1, h2, h4, h5, h6, h7, h8⟩ := M.ex
  rw [hx] at h0
  refine pe_imp (pe_make0 (E := fun _ _ _ => False) h2 h8 hr hg h0 h5 .nil passes_no hdb) fun σ H Q ⟨τ, S, P, EP, rs, rep, hq, k1, k2⟩ => ?_
  intro x dx nx nd ne
  exact mk_ins (vs := []) (xs := []) h1 rfl rep hq k1 x dx nx nd ne
end
end Mp

set_option Elab.async false
set_option linter.all false
set_option maxRecDepth 100000
set_option maxHeartbeats 2000000
namespace Mp
open PySem PySem.Spec PyProof.Rows L2
section
variable {X : Cx} {T : List (Addr × Str)} {W : WX} {e a b o tg : Expr} {es : List Expr} {K : PySem.W.Frag} {S S' S0 S1 : Sto} {H H' H0 H1 : Hp} {σ : L2.St} {τ : PSt} {PD : PEnds} {D : Ends} {pos pos' p apos : Pos} {q : QTA}
theorem insC_mk {C : Nat} {fs : List Nat} {a : Addr} (h : PySem.W.nsIn K mainGlobals (cls C) = some (some (.ref a))) (c : Cls K a) (n : ∀ i ∈ fs, NoAttr K a (fld i)) : InsC K C fs := ⟨fun c' h' => by
  rw [h] at h'
  cases h'
  exact ⟨c, n⟩⟩

/-! ### isinstance(x, (T1, T2, ..)), built in -/
def isKinds (k : String) (ts : List String) : Bool := ts.any (isKind k)
theorem kit_anys {k : String} (hk : k ∈ ["NoneType", "bool", "int", "str", "tuple", "list", "dict"]) : ∀ {ts : List String}, (∀ t ∈ ts, t ∈ ["bool", "int", "str", "tuple", "list", "dict"]) → PySem.W.kitAny K (.type k) (ts.map Value.type) = some (isKinds k ts)
  | [], _ => rfl
  | t :: ts, h => by
    have ih := kit_anys hk (ts := ts) fun u hu => h u (List.mem_cons_of_mem _ hu)
    refine kitAny_cons (b := isKind k t) (kit_ty (kit_all k hk t (h t (List.mem_cons_self ..)))) (fun e => ?_) fun e => ?_
    · rw [ih]
      show some (isKinds k ts) = some (isKind k t || isKinds k ts)
      rw [e]; rfl
    · show (isKind k t || isKinds k ts) = true
      rw [e]; rfl
def qIsiT (ts : List String) (q : QTE) : QTE := fun τ S P EP => q τ S (fun x S1 => match kindOf x S1 with
  | some k => P (.bl (isKinds k ts)) S1
  | none => False) EP
theorem paired_ty : ∀ ts : List String, Paired ClsV (ts.map V.ty) (ts.map Value.type)
  | [] => .nil
  | t :: ts => .cons (.ty t) (paired_ty ts)
theorem pat_nil : PA X [] (fun σ H Q => Q [] H) := pa_nil
theorem pat_cons {c : V} {cs : List V} (h : PE X e (tC c)) (hr : PA X es (fun σ H Q => Q cs H)) (hs : starEach (e :: es) X.env = (false, eval e X.env) :: starEach es X.env := by rfl) : PA X (e :: es) (fun σ H Q => Q (c :: cs) H) := pa_cons h hr hs
theorem q_isiT {ts : List String} {q : QTE} {k1 : Nat} {p1 : Pos} (hg : Gl X "isinstance") (hm : X.mg "isinstance" = none) (ht : ∀ t ∈ ts, t ∈ ["bool", "int", "str", "tuple", "list", "dict"]) (hl : ts.length ≤ 1000) (ha : QE X T W e q) (hc : PA X es (fun σ H Q => Q (ts.map V.ty) H))
    (hs : starEach [e, .Tuple es k1 p1] X.env = (false, eval e X.env) :: starEach [.Tuple es k1 p1] X.env := by rfl) (hs2 : starEach [.Tuple es k1 p1] X.env = [(false, eval (.Tuple es k1 p1) X.env)] := by rfl) (hpl : (backTo pos (starEach [.Tuple es k1 p1] X.env)).any (·.1) = false := by rfl) :
    QE X T W (.Call (.Name "isinstance" p) [e, .Tuple es k1 p1] [] pos) (qIsiT ts q) :=
  pe_imp (pe_callB call_isiT hg hm (by decide +kernel) (pa_cons ha (pa_cons (pe_tup hc) pa_nil hs2) hs) (he := hs) (hpl := hpl)) fun σ H Q h =>
    up_then (RR := Rl X.K) (RR' := Rl X.K) (qk := fun x _ S1 P _ => match kindOf x S1 with | some k => P (PV.bl (isKinds k ts)) S1 | none => False) h fun v x H1 l rl ⟨τ, S, P, EP, rs, rep, hf, k, _⟩ => by
      simp only at hf
      cases z : kindOf x S with
      | none => rw [z] at hf; exact hf.elim
      | some kd =>
        rw [z] at hf
        refine ⟨by rw [List.length_map]; exact le_line hl, fun p hp => ?_⟩
        have le : Le H1 (upd H1 p (.tup (ts.map V.ty))) := le_new hp
        exact ⟨v, p, ts.map V.ty, .type kd, ts.map Value.type, isKinds kd ts, rfl, upd_same, paired_ty ts, kind_ty (Rl.mono le _ _ rl) (rep.hid hp) z, kit_anys (kind_in z) ht, k (.bl _) (.bl _) _ S (Fr.hid hp) rfl (rep.hid hp) hf⟩

/-! ### o.f op= e -/
def qAugF (l : List (Nat × List Nat)) (i : Nat) (f : FO2) (qo qe : QTE) : QTS := fun D τ S => qo τ S (fun o S1 => match o with
  | .ref p => match S1 p with
    | some (.ins C fs) => match lkF fs i with
      | some x => hasF l i C = true ∧ qe τ S1 (fun y S2 => f x y S2 fun z S3 => match S3 p with
        | some (.ins C' fs') => (C' = C ∧ fs'.length < 1000) ∧ D.nx τ (put S3 p (.ins C (ptF fs' i z)))
        | _ => False) (exAt D τ)
      | none => False
    | _ => False
  | _ => False) (exAt D τ)
theorem qs_fldAug {l : List (Nat × List Nat)} {i : Nat} {fn : Str} {op : Operator} {r : R2} {f : FO2} {qo qe : QTE} (hr : OpR X (inplaceOp op) r) (oq : OpQ X.K T r f) (hl : InsCs X.K l) (ho : QE X T W o qo) (he : QE X T W e qe) (hf : fld i = fn := by rfl) (hi : i < 36 := by decide) :
    QS X T W (.AugAssign (.Attribute o fn pos') op e pos) (qAugF l i f qo qe) := by
  subst hf
  refine ps_imp (ps_fldaug ho he (fun pins s σ H x y u v Q I rx ry h => hr pins s σ H x y u v Q I rx ry h)) fun D σ H ⟨τ, S, PD, rs, rep, q, c⟩ => con_up rs rep c q fun v x H1 S1 fr1 rs1 rx rep1 h1 => ?_
  cases x with
  | ref p =>
    have e1 : v = .ref p := rx
    subst e1
    simp only at h1
    cases z : S1 p with
    | none => simp only [z] at h1
    | some ob =>
      cases ob with
      | ins C fs =>
        simp only [z] at h1
        cases z2 : lkF fs i with
        | none => simp only [z2] at h1
        | some y =>
          simp only [z2] at h1
          obtain ⟨cc, dx, gs, e2, n, m, bd, r1⟩ := rep1.ob p _ z
          obtain ⟨w, e3, r3⟩ := lk_some m bd hi r1 z2
          obtain ⟨g1, g2⟩ := hasF_ok hl h1.1 n
          refine ⟨p, cc, dx, gs, w, rfl, e2, g1, g2, e3, con_up rs1 rep1 (c.mono fr1) h1.2 fun v2 y2 H2 S2 fr2 rs2 ry rep2 h2 => ?_⟩
          refine oq w v2 y y2 H2 S2 _ _ (Rl.mono (fr2.le rep1) _ _ r3) ry rep2 h2 fun v3 y3 H3 S3 fr3 r3' rep3 h3 => ?_
          cases z3 : S3 p with
          | none => simp only [z3] at h3
          | some ob3 =>
            cases ob3 with
            | ins C' fs' =>
              simp only [z3] at h3
              obtain ⟨⟨rfl, hlen⟩, h3⟩ := h3
              obtain ⟨cc', dx', gs', e2', n', m', bd', r1'⟩ := rep3.ob p _ z3
              rw [n] at n'
              cases n'
              have hlen' : gs'.length < 1000 := by
                have q := congrArg List.length m'
                rw [List.length_map, List.length_map] at q
                rw [q]; exact hlen
              have fw : Fr S3 H3 (put S3 p (.ins C' (ptF fs' i y3))) (upd H3 p (.ins cc dx' (putF (fld i) v3 gs'))) := Fr.wr z3
              have rp := rep3.wr (ob := .ins C' (ptF fs' i y3)) (o := .ins cc dx' (putF (fld i) v3 gs')) z3 fun le => by
                obtain ⟨k1, k2, k3⟩ := pt_fst m' bd' hi (Rls.mono le _ _ r1') (Rl.mono le _ _ r3')
                exact ⟨cc, dx', _, upd_same, n, k1, k2, k3⟩
              exact ⟨dx', gs', e2', hlen', c.nx σ τ _ _ ((fr1.trans fr2).trans (fr3.trans fw)) (rs2.mono ((fr3.trans fw).le rep2)) rp h3⟩
            | _ => simp only [z3] at h3
      | _ => simp only [z] at h1
  | _ => exact h1.elim
theorem qs_fldSub {l : List (Nat × List Nat)} {i : Nat} {fn : Str} {qo qe : QTE} (hl : InsCs X.K l) (ho : QE X T W o qo) (he : QE X T W e qe) (hf : fld i = fn := by rfl) (hi : i < 36 := by decide) : QS X T W (.AugAssign (.Attribute o fn pos') .Sub e pos) (qAugF l i fSub qo qe) :=
  qs_fldAug iop_sub (oq_int0 fun p1 p2 S P h => by
    cases p1 <;> cases p2 <;> first | exact h.elim | exact ⟨_, _, _, rfl, rfl, h, fun _ _ => rfl⟩) hl ho he hf hi
theorem oq_addA : OpQ K T (fun x y H Q => rAddI x y H Q ∨ rAddS x y H Q) fAddA := fun x y p1 p2 H S P Q r1 r2 rep h k => by
  cases p1 <;> cases p2 <;> try exact h.elim
  case int.int i j => exact .inl ⟨i, j, r1, r2, k (.int (i + j)) (.int (i + j)) H S Fr.refl rfl rep h⟩
  case str.str c d =>
    refine .inr ⟨_, _, r1, r2, by rw [str_len, str_len]; exact h.1, ?_⟩
    rw [str_app]
    exact k (.str ⟨(c ++ d).toArray⟩) (.str (c ++ d)) H S Fr.refl rfl rep h.2
theorem qs_fldAdd {l : List (Nat × List Nat)} {i : Nat} {fn : Str} {qo qe : QTE} (hl : InsCs X.K l) (ho : QE X T W o qo) (he : QE X T W e qe) (hf : fld i = fn := by rfl) (hi : i < 36 := by decide) : QS X T W (.AugAssign (.Attribute o fn pos') .Add e pos) (qAugF l i fAddA qo qe) :=
  qs_fldAug (r := fun x y H Q => rAddI x y H Q ∨ rAddS x y H Q) (OpR.or iop_add iop_add_str) oq_addA hl ho he hf hi
theorem qs_augMul {i : Nat} {x : Str} {q : QTE} (hN : X.N.Nodup) (he : QE X T W e q) (hi : X.N[i]? = some x := by rfl) (hx : Loc X.env.scope x := by first | exact Or.inl rfl | exact Or.inr rfl)
    (hf : X.fn x = true ∨ X.env.scope.names.lookup x = some .local := by first | exact .inl rfl | exact .inr rfl | assumption) : QS X T W (.AugAssign (.Name x pos') .Mult e pos) (qAug i fMul q) :=
  qs_aug iop_mul (oq_int fun p1 p2 S P h => by
    cases p1 <;> cases p2 <;> first | exact h.elim | exact ⟨_, _, _, rfl, rfl, h.1, h.2, fun _ _ => rfl⟩) hN he hi hx hf
end
end Mp

set_option Elab.async false
set_option linter.all false
set_option maxRecDepth 100000
set_option maxHeartbeats 2000000
namespace Mp
open PySem PySem.Spec PyProof.Rows L2
section
variable {X : Cx} {T : List (Addr × Str)} {W : WX} {e a b o tg : Expr} {es : List Expr} {K : PySem.W.Frag} {S S' S0 S1 : Sto} {H H' H0 H1 : Hp} {σ : L2.St} {τ : PSt} {PD : PEnds} {D : Ends} {pos pos' p apos cpos : Pos} {q : QTA}

/-! ### xs.remove(x), xs.index(x): data -/
def rRemD (K : PySem.W.Frag) : V → List V → Hp → VK → Prop := fun x vs H Q => ∃ (l : Addr) (xs : List V) (y : V) (ds : List PyData) (d : PyData) (j : Nat), x = .ref l ∧ vs = [y] ∧ H l = some (.lst xs) ∧ DpAll K H xs ds ∧ Dp K H y d ∧ SeqAt.shaped d = true ∧ SeqAt.shaped (.list ds) = true ∧ SeqAt.dataPlace ds d = some j ∧ Q .non (upd H l (.lst (xs.eraseIdx j)))
theorem mt_removeD (hu : X.A.units + 65 < cLine) : MtR X "list.remove" (rRemD X.K) := by
  intro pins s σ H x vs v us Q I rx rxs h
  obtain ⟨l, xs, y, ds, d, j, rfl, rfl, hH, hx, hy, sd, sl, hj, q⟩ := h
  cases rx
  obtain ⟨u, rfl, ru⟩ := rxs.one
  obtain ⟨z, its, n, r, hl, e⟩ := I.lstM hH
  obtain ⟨as, r1⟩ := Dp.readsAll I ds xs its hx r
  obtain ⟨bs, r2⟩ := Dp.reads I d y u hy ru
  have hroom : X.A.units + 1 + min (PyData.depthAll ds) d.depth < cLine := room_sh sd hu
  refine SeqAt.remove_list_data (vs := its.toArray) (xs := ds) (as := as) (bs := bs) ⟨_, e, rfl, n, rfl⟩ (by simpa using r1) r2 (PyData.plainAll_of_canLay0 ds (SeqAt.canLay_of_shaped sl)) (PyData.plain_of_canLay0 d (SeqAt.canLay_of_shaped sd)) hroom hj (by rw [List.size_toArray]; omega) ?_
  refine ⟨.non, _, I.lset (its' := its.eraseIdx j) (t' := s.toks) hH e ?_ (r.eraseIdx j) ?_, rfl, q⟩
  · show its.toArray.eraseIdxIfInBounds j = (its.eraseIdx j).toArray
    rw [List.eraseIdxIfInBounds_toArray]
  · have := len_erase xs j
    omega
def plP (x : PV) (xs : List PV) : Option Nat := xs.findIdx? fun y => PyData.eqv (dOf y) (dOf x)
def okD (x : PV) (xs : List PV) : Prop := (datP x = true ∧ datsP xs = true) ∧ SeqAt.shaped (dOf x) = true ∧ SeqAt.shaped (.list (dsOf xs)) = true
theorem plP_place {x : PV} {xs : List PV} : SeqAt.dataPlace (dsOf xs) (dOf x) = plP x xs := by
  unfold SeqAt.dataPlace plP
  rw [dsOf_map, List.findIdx?_map]
  rfl
def qRem (qo qe : QTE) : QTE := fun τ S P EP => qo τ S (fun o S1 => match o with
  | .ref c => match S1 c with
    | some (.lst _) => qe τ S1 (fun x S2 => match S2 c with
      | some (.lst xs) => okD x xs ∧ match plP x xs with
        | some j => P .non (put S2 c (.lst (xs.eraseIdx j)))
        | none => False
      | _ => False) EP
    | _ => False
  | _ => False) EP
theorem q_remove {qo qe : QTE} (hu : X.A.units + 65 < cLine) (ho : QE X T W o qo) (ha : QE X T W e qe)
    (hbase : attributeBase o "remove" X.env (eval o X.env) = eval o X.env := by rfl)
    (hfew : ((backTo cpos (starEach [e] X.env)).all (fun x => !x.1) && (backToKw cpos (keywordEach [] X.env)).all (fun x => x.1.isSome) && decide ([e].length + ([] : List Keyword).length + (if ([] : List Keyword).isEmpty then 0 else 1) < 30)) = true := by rfl)
    (hline : (apos.endLine == cpos.line) = true := by rfl) (hs : starEach [e] X.env = (false, eval e X.env) :: starEach [] X.env := by rfl) (hplain : (backTo cpos (starEach [] X.env)).any (·.1) = false := by rfl) :
    QE X T W (.Call (.Attribute o "remove" apos) [e] [] cpos) (qRem qo qe) :=
  pe_imp (pe_bm PySem.F.plainAttrs_list PySem.F.slot_list_remove PySem.F.type_list_remove (mt_removeD hu) ho (pa_cons ha pa_nil hs) hbase hfew hline hs hplain) fun σ H Q h =>
    up_then (RR := Rl X.K) (RR' := Rl X.K) (qk := fun o τ S1 P EP => match o with
      | .ref c => match S1 c with
        | some (.lst _) => qe τ S1 (fun x S2 => match S2 c with
          | some (.lst xs) => okD x xs ∧ match plP x xs with
            | some j => P PV.non (put S2 c (.lst (xs.eraseIdx j)))
            | none => False
          | _ => False) EP
        | _ => False
      | _ => False) h fun v x H1 l rl ⟨τ, S, P, EP, rs, rep, hf, k, kx⟩ => by
      cases x with
      | ref c =>
        have e1 : v = .ref c := rl
        subst e1
        simp only at hf
        cases z : S c with
        | none => rw [z] at hf; exact hf.elim
        | some ob =>
          rw [z] at hf
          cases ob with
          | lst xs0 =>
            obtain ⟨vs0, e0, t0⟩ := rep.ob c _ z
            refine ⟨.inl ⟨rfl, vs0, SqL.of e0⟩, τ, S, _, EP, rs, rep, hf, fun w y H2 S2 fr r2 rep2 hp => ?_, kx⟩
            cases z2 : S2 c with
            | none => simp only [z2] at hp
            | some ob2 =>
              cases ob2 with
              | lst xs =>
                simp only [z2] at hp
                obtain ⟨⟨⟨d1, d2⟩, s1, s2⟩, hp⟩ := hp
                cases z3 : plP y xs with
                | none => simp only [z3] at hp
                | some j =>
                  simp only [z3] at hp
                  obtain ⟨vs, e1, t1⟩ := rep2.ob c _ z2
                  refine ⟨c, vs, w, dsOf xs, dOf y, j, rfl, rfl, e1, dats_dp rep2 (datsP_of d2) t1, dat_dp rep2 (datP_of d1) r2, s1, s2, by rw [plP_place, z3], ?_⟩
                  exact k .non .non _ _ (fr.trans (Fr.wr z2)) rfl (rep2.wr (ob := .lst (xs.eraseIdx j)) z2 fun le => ⟨_, upd_same, Rls.mono le _ _ (t1.eraseIdx j)⟩) hp
              | _ => simp only [z2] at hp
          | _ => exact hf.elim
      | _ => exact hf.elim
def fIdxD : FMt := fun c ps S P => match ps with
  | [x] => match S c with
    | some (.lst xs) => okD x xs ∧ match plP x xs with
      | some j => P (.int j) S
      | none => False
    | _ => False
  | _ => False
theorem mq_idxD : MtQ K T (rIndexD K) fIdxD := fun vs ps c H S P Q rl rep h k => by
  match ps, h with
  | [x], h =>
    unfold fIdxD at h
    simp only at h
    obtain ⟨v, w, e1, h1, h2⟩ := rl
    have h2 : w = [] := h2
    subst h2; subst e1
    cases z : S c with
    | none => rw [z] at h; exact h.elim
    | some ob =>
      rw [z] at h
      cases ob with
      | lst xs =>
        obtain ⟨⟨⟨d1, d2⟩, s1, s2⟩, hp⟩ := h
        cases z3 : plP x xs with
        | none => simp only [z3] at hp
        | some j =>
          simp only [z3] at hp
          obtain ⟨us, e2, t⟩ := rep.ob c _ z
          unfold plP at z3
          obtain ⟨g1, g2, g3⟩ := List.findIdx?_eq_some_iff_getElem.mp z3
          have hds : ∀ m (hm : m < xs.length), (dsOf xs)[m]? = some (dOf xs[m]) := fun m hm => by
            rw [dsOf_map, List.getElem?_map, List.getElem?_eq_getElem hm]; rfl
          refine ⟨c, v, dOf x, dsOf xs, j, dOf xs[j], rfl, rfl, .lst (SqL.of e2) (dats_dp rep (datsP_of d2) t), dat_dp rep (datP_of d1) h1, s2, s1, hds j g1, g2, fun m z' hm hz => ?_, k (.int _) (.int _) H S Fr.refl rfl rep hp⟩
          rw [hds m (by omega)] at hz
          cases hz
          simpa using g3 m hm
      | _ => exact h.elim
theorem q_indexD {qo : QTE} (hu : X.A.units + 65 < cLine) (ho : QE X T W o qo) (ha : QA X T W (e :: es) q)
    (hbase : attributeBase o "index" X.env (eval o X.env) = eval o X.env := by rfl)
    (hfew : ((backTo cpos (starEach (e :: es) X.env)).all (fun x => !x.1) && (backToKw cpos (keywordEach [] X.env)).all (fun x => x.1.isSome) && decide ((e :: es).length + ([] : List Keyword).length + (if ([] : List Keyword).isEmpty then 0 else 1) < 30)) = true := by rfl)
    (hline : (apos.endLine == cpos.line) = true := by rfl) (hs : starEach (e :: es) X.env = (false, eval e X.env) :: starEach es X.env := by rfl) (hplain : (backTo cpos (starEach es X.env)).any (·.1) = false := by rfl) :
    QE X T W (.Call (.Attribute o "index" apos) (e :: es) [] cpos) (qMl fIdxD qo q) :=
  q_ml PySem.F.slot_list_index PySem.F.type_list_index (mt_indexD hu) mq_idxD ho ha hbase hfew hline hs hplain

/-! ### len(set(xs)), xs unlike tuples of ints -/
theorem nodup_perm_len {α : Type} [DecidableEq α] {l m : List α} (h1 : l.Nodup) (h2 : m.Nodup) (h : ∀ x, x ∈ l ↔ x ∈ m) : l.length = m.length := ((List.perm_ext_iff_of_nodup h1 h2).mpr h).length_eq
theorem rls_tups : ∀ {ks : List (List Int)} {vs : List V}, Rls K H vs (ks.map fun l => PV.tup (l.map PV.int)) → ∃ ps : List (Addr × List Int), vs = ps.map (fun p => V.ref p.1) ∧ ps.map Prod.snd = ks ∧ ∀ p ∈ ps, SqT K H p.1 (p.2.map V.int)
  | [], vs, h => by
    have e : vs = [] := h
    exact ⟨[], by rw [e]; rfl, rfl, fun _ h => nomatch h⟩
  | k :: ks, _, ⟨v, w, e, h1, h2⟩ => by
    obtain ⟨ps, e1, e2, e3⟩ := rls_tups h2
    obtain ⟨c, us, ev, sq, t⟩ := h1
    have eu := intsOf_rl (intsOf_map k) t
    subst eu
    refine ⟨(c, k) :: ps, by rw [e, e1, ev]; rfl, by rw [List.map_cons, e2], fun p hp => ?_⟩
    rcases List.mem_cons.mp hp with z | z
    · subst z; exact SqT.of sq
    · exact e3 p z
def qLenSetT (qa : QTH) : QTE := fun τ S P EP => qa τ S (fun x S1 => match x.its S1 with
  | some xs => x.tup = false ∧ ∃ ks : List (List Int), xs = ks.map (fun l => PV.tup (l.map PV.int)) ∧ ks.length < 64 ∧ ks.Nodup ∧ P (.int ks.length) S1
  | none => False) EP
theorem q_lenSetT {qa : QTH} {p2 p3 : Pos} (hc : X.calm = true) (hu : X.A.units + 64 < cLine) (hg : Gl X "len") (hm : X.mg "len" = none) (hg2 : Gl X "set") (hm2 : X.mg "set" = none) (ha : QH X T W a qa)
    (na : starEach [a] X.env = (false, eval a X.env) :: starEach [] X.env := by rfl) : QE X T W (.Call (.Name "len" p) [.Call (.Name "set" p2) [a] [] p3] [] pos) (qLenSetT qa) := by
  refine ⟨fun pins s σ H Q I ⟨τ, S, P, EP, rs, rep, hq, k1, k2⟩ => ?_⟩
  refine Call_ (ld_blt I hg hm PySem.boot_len ?_)
  refine PyProof.Rows.callWith_builtin1 (PyProof.Rows.args_cons ?_ rfl) rfl rfl
  refine Call_ (ld_blt I hg2 hm2 PyProof.Rows.boot_set ?_)
  refine PyProof.Rows.callWith_type1 (PyProof.Rows.args_cons (thn (PE.run ha pins s σ H (fun v H1 => ∃ x S1, Fr S H S1 H1 ∧ RSH X.K S1 H1 v x ∧ Rep X.K T S1 H1 ∧ (match x.its S1 with
    | some xs => x.tup = false ∧ ∃ ks : List (List Int), xs = ks.map (fun l => PV.tup (l.map PV.int)) ∧ ks.length < 64 ∧ ks.Nodup ∧ P (.int ks.length) S1
    | none => False)) I ⟨τ, S, _, EP, rs, rep, hq, fun v x H1 S1 fr r1 rep1 hp => ⟨x, S1, fr, r1, rep1, hp⟩, k2⟩) fun v s1 ⟨x, H1, I1, r1, y, S1, fr, rl, rep1, q1⟩ => PyProof.Rows.args_nil ?_) na) na rfl
  cases z : y.its S1 with
  | none => simp only [z] at q1
  | some xs =>
    simp only [z] at q1
    obtain ⟨ht, ks, rfl, h1, hnd, q1⟩ := q1
    obtain ⟨l, vs, rfl, hq, t⟩ := rl.lst rep1 z ht
    cases r1
    obtain ⟨ps, e1, e2, e3⟩ := rls_tups t
    subst e1
    obtain ⟨its, r, pl, hz⟩ := I1.list hq
    have hpl : ps.length = ks.length := by rw [← e2, List.length_map]
    refine call_set_tups (P := X.prog) (w := X.w) ps (I1.ok.hd hc) pl.isList (by simpa using refs_of_vals r) (fun p hp => I1.isT (e3 p hp)) (by omega) (by omega) fun h' tk L es ep t R g hk => ?_
    refine PyProof.Rows.args_nil ?_
    obtain ⟨o, ho, hex, hd⟩ := R.ob
    have hsz := SetTR.size (s := { s1 with heap := h', toks := tk }) R
    have hfew := R.few
    have I2 : Inv X pins σ H1 { s1 with heap := h', toks := tk } := I1.kept fun b o e => hk b o e
    have hlen : es.size = ks.length := by
      rw [hsz]
      have q := nodup_perm_len R.nd hnd fun x => ⟨fun hx => ?_, fun hx => ?_⟩
      · rwa [List.length_map] at q
      · obtain ⟨p, hp, rfl⟩ := List.mem_map.mp hx
        rw [← e2]
        exact List.mem_map_of_mem (List.mem_of_mem_take (g.sub p hp))
      · rw [← e2] at hx
        obtain ⟨p, hp, rfl⟩ := List.mem_map.mp hx
        exact g.all p (by rw [List.take_length]; exact hp)
    refine call_len_set ho hex hd (SetTR.fits (s := { s1 with heap := h', toks := tk }) R) (by rw [hlen] <;> omega) ⟨.int ks.length, H1, I2.tok _, ⟨_, by rw [hlen]⟩, ?_⟩
    exact k1 (.int _) (.int _) H1 S1 fr rfl rep1 q1

/-! ### list(range(..)) -/
theorem rls_range (i : Int) : ∀ n : Nat, Rls K H ((List.range n).map fun k : Nat => V.int (i + k)) (rangeP i n)
  | n => by
    have e : rangeP i n = (List.range n).map fun k : Nat => PV.int (i + k) := by simp [rangeP]
    rw [e]
    generalize List.range n = l
    induction l with
    | nil => exact rfl
    | cons x l ih => exact ⟨_, _, rfl, rfl, ih⟩
def qLstR1 (qa : QTE) : QTA := fun τ S P EP => qa τ S (fun x S1 => match x with
  | .int j => (0 ≤ j ∧ j ≤ 16777216) ∧ P (rangeP 0 j.toNat) S1
  | _ => False) EP
theorem ql_range1 {qa : QTE} {p2 p3 : Pos} (hc : X.calm = true) (hg : Gl X "list") (hm : X.mg "list" = none) (hg2 : Gl X "range") (hm2 : X.mg "range" = none) (ha : QE X T W a qa)
    (ns : starEach [a] X.env = [(false, eval a X.env)] := by rfl) (na : starEach [.Call (.Name "range" p2) [a] [] p3] X.env = (false, eval (.Call (.Name "range" p2) [a] [] p3) X.env) :: starEach [] X.env := by rfl) : QL X T W (.Call (.Name "list" p) [.Call (.Name "range" p2) [a] [] p3] [] pos) (qLstR1 qa) :=
  pe_imp (pe_listRg hc hg hm (prg_1 hg2 hm2 ha ns) na) fun σ H Q ⟨τ, S, P, EP, rs, rep, hq, k1, k2⟩ => by
    refine ⟨τ, S, _, EP, rs, rep, hq, fun v x H1 S1 fr rl rep1 hp => ?_, k2⟩
    cases x with
    | int j =>
      have e1 : v = .int j := rl
      subst e1
      obtain ⟨⟨h0, h1⟩, hp⟩ := hp
      refine ⟨j, rfl, RgOk.of_le (by omega) h1 (by omega) h0, fun c hc => ?_⟩
      have e : rgV 0 j = (List.range j.toNat).map fun k : Nat => V.int (0 + k) := by unfold rgV; rw [Int.sub_zero]
      exact k1 c _ (rangeP 0 j.toNat) _ S1 (fr.trans (Fr.hid hc)) upd_same (rep1.free hc) (Nu.of fr hc) (by rw [e]; exact rls_range 0 _) (rep1.hid hc) hp
    | _ => exact hp.elim

/-! ### min, max, sum of ints -/
def qAgg (f : List Int → QK PV → Sto → Prop) (qa : QTH) : QTE := fun τ S P EP => qa τ S (fun x S1 => match x.its S1 with
  | some xs => x.tup = false ∧ ∃ ns, intsOf xs = some ns ∧ f ns P S1
  | none => False) EP
theorem q_agg {f : List Int → QK PV → Sto → Prop} {qa : QTH} {x : Str} {id : String} {r : List V → Hp → VK → Prop} (cr : CallR X (.builtin id) r) (hv : bootBuiltins x = some (.builtin id))
    (hf : ∀ (l : Addr) (ns : List Int) (H : Hp) (S : Sto) (P : QK PV) (Q : VK), SqL X.K H l (ns.map V.int) → f ns P S → (∀ i, P (.int i) S → Q (.int i) H) → r [.ref l] H Q)
    (hg : Gl X x) (hm : X.mg x = none) (ha : QH X T W a qa) (hn : x ≠ "__name__" := by decide) (hdb : (x == ("__debug__" : Str)) = false := by decide) (he : starEach [a] X.env = [(false, eval a X.env)] := by rfl) : QE X T W (.Call (.Name x p) [a] [] pos) (qAgg f qa) :=
  pe_imp (pe_callB cr hg hm hv (pa_cons ha pa_nil he) hn hdb (he := he)) fun σ H Q ⟨τ, S, P, EP, rs, rep, hq, k1, k2⟩ => by
    refine ⟨τ, S, _, EP, rs, rep, hq, fun v y H1 S1 fr rl rep1 hp => ?_, k2⟩
    cases z : y.its S1 with
    | none => simp only [z] at hp
    | some xs =>
      simp only [z] at hp
      obtain ⟨ht, ns, e1, hp⟩ := hp
      obtain ⟨l, vs, rfl, hq, t⟩ := rl.lst rep1 z ht
      have ev := intsOf_rl e1 t
      subst ev
      exact hf l ns H1 S1 P Q hq hp fun i hi => k1 (.int i) (.int i) H1 S1 fr rfl rep1 hi
def fMinL : List Int → QK PV → Sto → Prop := fun ns P S => 0 < ns.length ∧ ∀ m, m ∈ ns → (∀ y, y ∈ ns → m ≤ y) → P (.int m) S
def fMaxL : List Int → QK PV → Sto → Prop := fun ns P S => 0 < ns.length ∧ ∀ m, m ∈ ns → (∀ y, y ∈ ns → y ≤ m) → P (.int m) S
def fSumL : List Int → QK PV → Sto → Prop := fun ns P S => P (.int ns.sum) S
theorem q_minL {qa : QTH} (hc : X.calm = true) (hg : Gl X "min") (hm : X.mg "min" = none) (ha : QH X T W a qa) (he : starEach [a] X.env = [(false, eval a X.env)] := by rfl) : QE X T W (.Call (.Name "min" p) [a] [] pos) (qAgg fMinL qa) :=
  q_agg (cr_min hc) (by decide +kernel) (fun l ns H S P Q hs h k => ⟨l, ns, rfl, hs, h.1, fun m h1 h2 => k m (h.2 m h1 h2)⟩) hg hm ha (he := he)
theorem q_maxL {qa : QTH} (hc : X.calm = true) (hg : Gl X "max") (hm : X.mg "max" = none) (ha : QH X T W a qa) (he : starEach [a] X.env = [(false, eval a X.env)] := by rfl) : QE X T W (.Call (.Name "max" p) [a] [] pos) (qAgg fMaxL qa) :=
  q_agg (cr_max hc) (by decide +kernel) (fun l ns H S P Q hs h k => ⟨l, ns, rfl, hs, h.1, fun m h1 h2 => k m (h.2 m h1 h2)⟩) hg hm ha (he := he)
theorem q_sumL {qa : QTH} (hc : X.calm = true) (hg : Gl X "sum") (hm : X.mg "sum" = none) (ha : QH X T W a qa) (he : starEach [a] X.env = [(false, eval a X.env)] := by rfl) : QE X T W (.Call (.Name "sum" p) [a] [] pos) (qAgg fSumL qa) :=
  q_agg (cr_sum hc) (by decide +kernel) (fun l ns H S P Q hs h k => ⟨l, ns, rfl, hs, k _ h⟩) hg hm ha (he := he)
end
end Mp

set_option Elab.async false
set_option linter.all false
set_option maxRecDepth 100000
namespace Mp
open PySem PySem.Spec PyProof.Rows L2

/-! ### calls within an except suite -/
structure FnHt (P : Program) (w : World) (K : PySem.W.Frag) (mg : Str → Option Value) (base : Heap) (T : List (Addr × Str)) (k : Nat) (x : Str) (st : Stmt) (n : Nat) (sp : PSp) : Prop where
  ex : ∃ (f : Addr) (fd : FuncData) (ps : List Str), mg x = some (.ref f) ∧ Fun K x x st f fd ∧ Binds K fd ps [] ∧ ps.length = n ∧ L2H.FnH P w K mg base (L2N.CX P w) k f fd ps (spOf K T n sp)
theorem FnHt.mono {P : Program} {w : World} {K : PySem.W.Frag} {mg : Str → Option Value} {base : Heap} {T : List (Addr × Str)} {j k n : Nat} {x : Str} {st : Stmt} {sp : PSp} (F : FnHt P w K mg base T j x st n sp) (h : j ≤ k) : FnHt P w K mg base T k x st n sp :=
  let ⟨f, fd, ps, h1, h2, h3, h4, h5⟩ := F.ex
  ⟨f, fd, ps, h1, h2, h3, h4, h5.len, fun A outer s H args us vs Q E p hr => h5.run A outer s H args us vs Q E p (hr.mono h)⟩
section
variable {X : Cx} {T : List (Addr × Str)} {W : WX} {e a b tg : Expr} {es : List Expr} {K : PySem.W.Frag} {S S' S0 S1 : Sto} {H H' H0 H1 : Hp} {σ : L2.St} {τ : PSt} {PD : PEnds} {D : Ends} {pos p : Pos} {q : QTA}
variable {k n : Nat} {x : Str} {st : Stmt} {sp : PSp}
theorem q_callH (F : FnHt X.prog X.w X.K X.mg X.base T k x st n sp) (hr : L2H.RoomH k X.A) (hc : L2H.HotC X) (tk : L2N.Takes X W) (hg : Gl X x) (ha : QA X T W (e :: es) q) (hdb : (x == ("__debug__" : Str)) = false := by decide)
    (he : starEach (e :: es) X.env = (false, eval e X.env) :: starEach es X.env := by rfl) (hpl : (backTo pos (starEach es X.env)).any (·.1) = false := by rfl) : QE X T W (.Call (.Name x p) (e :: es) [] pos) (qCall n sp q) := by
  obtain ⟨f, fd, ps, h1, h2, h3, h4, h5⟩ := F.ex
  exact pe_imp (L2H.pe_callH h5 hr hc hg h1 h2.kp h3 (fun σ => L2N.passAt tk σ) ha hdb he hpl) fun σ H Q h => up_call h
/-- what is not read there -/
theorem qs_no {st : Stmt} : QS X T W st (fun _ _ _ => False) := ⟨fun _ _ _ _ _ _ ⟨_, _, _, _, _, h, _⟩ => h.elim⟩
theorem hot_of {a0 : Addr} {oe : Obj} {cls : Value} {d : Option Addr} {pn : List (Addr × Obj)} (hz : L2N.Zn cls d oe) (hv : ∃ vs, oe.data = .fields vs) : L2H.HotC (X.suite a0 ((a0, oe) :: pn)) := by
  obtain ⟨vs, h⟩ := hv
  exact ⟨(a0, oe), ⟨rfl, vs, h, hz.2.2 vs h⟩, List.mem_cons_self⟩
theorem roomH_at {a0 : Addr} {pn : List (Addr × Obj)} (r : Room k X.A) : L2H.RoomH k (X.suite a0 pn).A := ⟨r.dp, r.un⟩
theorem roomH_units {A : Around} (r : L2H.RoomH k A) : A.units + 65 < cLine := by have := r.un; omega
end
theorem fnht_mk {P : Program} {w : World} {K : PySem.W.Frag} {mg : Str → Option Value} {base : Heap} {T : List (Addr × Str)} {k m n : Nat} {x : Str} {st : Stmt} {r : QTS} {f : Addr} {fd : FuncData} {N ps : List Str}
    (hm : mg x = some (.ref f)) (F : Fun K x x st f fd) (hb : Binds K fd ps []) (hn : ps.length = n) (hN : N.length = m) (S : FnScope N ps (defScope st))
    (body : ∀ (cdv : Value) (A : Around) (outer : List Env) (s : Shared) (H : Hp) (E : XK) (p : Addr × Obj), L2H.RoomH k (A.deeper (envOfC x (defScope st) s.heap.objs.size f cdv)) →
      L2H.HotC (L2H.cxH (L2N.CX P w) P w K mg base N x (defScope st) f cdv A outer s H E p) → L2N.Takes (L2H.cxH (L2N.CX P w) P w K mg base N x (defScope st) f cdv A outer s H E p) (WD E) →
      (A.deeper (envOfC x (defScope st) s.heap.objs.size f cdv)).units + 65 < cLine → N.Nodup →
      QSs (L2H.cxH (L2N.CX P w) P w K mg base N x (defScope st) f cdv A outer s H E p) T (WD E) (defBody st) r) : FnHt P w K mg base T (k + 1) x st n (spDef m r) := by
  refine ⟨f, fd, ps, hm, F, hb, hn, ?_⟩
  obtain ⟨oc, od, kV, doc, pm, an, cdv, ct, osl, rfl, lk, hcd⟩ := F.ex
  refine L2H.fn_ofH lk hcd S (fun vs H Q E h => by rw [hn]; exact h.1) fun A outer s H vs Q E p hot hr h => ?_
  obtain ⟨hl, qs, S0, PQ, EP, rl, rep, hsp, k1, k2⟩ := h
  refine ⟨_, body cdv A outer s H E p hr ⟨p, hot, List.mem_cons_self⟩ (L2N.takes_of rfl rfl rfl rfl) (roomH_units hr) S.nd, ?_⟩
  refine ⟨st0 m qs, S0, _, rs_start rl hN, rep, hsp, ⟨fun σ' τ' H' S' fr rs rp z => ?_, fun v p H' S' fr rl rp z => ?_, fun _ _ _ _ _ _ _ z => z.elim, fun _ _ _ _ _ _ _ z => z.elim, fun c d x σ' τ' H' S' fr rs xr rp z => ?_⟩⟩
  · obtain ⟨S2, su, hp⟩ := Dr.get z
    exact k1 .non .non H' S2 (fr.sub su) rfl (rp.sub su) hp
  · obtain ⟨S2, su, hp⟩ := Dr.get z
    exact k1 v p H' S2 (fr.sub su) rl (rp.sub su) hp
  · obtain ⟨S2, su, hp⟩ := Dr.get z
    exact k2 c d x H' S2 (fr.sub su) xr (rp.sub su) hp
end Mp

set_option Elab.async false
set_option linter.all false
set_option maxRecDepth 100000
namespace Mp
open PySem PySem.Spec PyProof.Rows L2

/-! ### tuples, greater -/
theorem lexAt_gt {e r : Nat → Bool} {z : Bool} : ∀ (xs ys : List Int) (i : Nat), (∀ j, e (i + j) = decide (xs.getD j 0 = ys.getD j 0)) → (∀ j, r (i + j) = decide (ys.getD j 0 < xs.getD j 0)) → z = decide (xs.length > ys.length) →
    Ob.lexAt e r z i (min xs.length ys.length) = HT.lexLt ys xs
  | [], [], i, _, _, hz => by subst hz; rfl
  | [], y :: ys, i, _, _, hz => by subst hz; rfl
  | x :: xs, [], i, _, _, hz => by
    subst hz
    rw [List.length_nil, Nat.min_zero, Ob.lexAt_zero]
    exact decide_eq_true (by simp)
  | x :: xs, y :: ys, i, he, hr, hz => by
    have e0 : e i = decide (x = y) := he 0
    have r0 : r i = decide (y < x) := hr 0
    rw [List.length_cons, List.length_cons, Nat.succ_min_succ, Ob.lexAt_succ, e0, r0, HT.lexLt_cons]
    by_cases h : x = y
    · subst h
      rw [if_pos (decide_eq_true rfl), if_pos rfl]
      exact lexAt_gt xs ys (i + 1) (fun j => by have := he (j + 1); rw [show i + 1 + j = i + (j + 1) by omega]; exact this) (fun j => by have := hr (j + 1); rw [show i + 1 + j = i + (j + 1) by omega]; exact this) (by rw [hz]; simp)
    · rw [if_neg (by simp [h]), if_neg (fun z => h z.symm)]
def rGtT (K : PySem.W.Frag) : R2 := fun x y H Q => ∃ a b ns ms, x = .ref a ∧ y = .ref b ∧ SqT K H a (ns.map V.int) ∧ SqT K H b (ms.map V.int) ∧ Q (.bl (HT.lexLt ms ns)) H
section
variable {X : Cx} {T : List (Addr × Str)} {W : WX} {e a b tg : Expr} {es : List Expr} {K : PySem.W.Frag} {S S' S0 S1 : Sto} {H H' H0 H1 : Hp} {σ : L2.St} {τ : PSt} {PD : PEnds} {D : Ends} {pos p : Pos} {q : QTA}
theorem op_gtT (hu : X.A.units < cLine) : OpR X (compareOp .Gt) (rGtT X.K) := by
  intro pins s σ H x y v u Q I rx ry h
  obtain ⟨a, b, ns, ms, rfl, rfl, ha, hb, q⟩ := h
  cases rx
  cases ry
  obtain ⟨its, r1, p1, _⟩ := I.tuple ha
  obtain ⟨its2, r2, p2, _⟩ := I.tuple hb
  have i1 : IntsAre its ns := Vals.ints r1
  have i2 : IntsAre its2 ms := Vals.ints r2
  have e1 : its.toArray.size = ns.length := by rw [List.size_toArray]; exact i1.length
  have e2 : its2.toArray.size = ms.length := by rw [List.size_toArray]; exact i2.length
  have at1 : ∀ j (h1 : j < its.toArray.size), ∃ t, its.toArray[j] = .int (ns.getD j 0) t := fun j h1 => PyProof.Rows.IntsAre.int_at i1 _ _ (by simp at h1; simp [h1])
  have at2 : ∀ j (h1 : j < its2.toArray.size), ∃ t, its2.toArray[j] = .int (ms.getD j 0) t := fun j h1 => PyProof.Rows.IntsAre.int_at i2 _ _ (by simp at h1; simp [h1])
  have R := Ob.RcOp.tuples_gt (A := X.A) (s := s) (e := fun j => decide (ns.getD j 0 = ms.getD j 0)) (r := fun j => decide (ms.getD j 0 < ns.getD j 0)) p1 p2 hu (fun j h1 h2 => by
    obtain ⟨t, et⟩ := at1 j h1
    obtain ⟨t', et'⟩ := at2 j h2
    rw [et, et']
    have z : (ns.getD j 0 == ms.getD j 0) = decide (ns.getD j 0 = ms.getD j 0) := by
      by_cases q : ns.getD j 0 = ms.getD j 0
      · rw [decide_eq_true q]; exact beq_iff_eq.mpr q
      · rw [decide_eq_false q]; exact beq_eq_false_iff_ne.mpr q
    rw [← z]
    exact SeqAt.EqAt.int_int _ _ _ _) (fun j h1 h2 _ => by
    obtain ⟨t, et⟩ := at1 j h1
    obtain ⟨t', et'⟩ := at2 j h2
    rw [et, et']
    exact Ob.RcOp.gt_int _ _ _ _)
  rw [e1, e2, lexAt_gt ns ms 0 (fun j => by rw [Nat.zero_add]) (fun j => by rw [Nat.zero_add]) rfl] at R
  have z : wpAny (model X.prog X.w) X.A (compareOp .Gt (.ref a) (.ref b)) (EP X pins σ Q) X.xe s := R X.prog X.w X.xe (EP X pins σ Q) ⟨.bl _, H, I, rfl, q⟩
  exact z
def fGtA : FO2 := fun x y S P => match x, y with
  | .int i, .int j => P (.bl (decide (j < i))) S
  | .tup xs, .tup ys => ∃ ns ms, intsOf xs = some ns ∧ intsOf ys = some ms ∧ P (.bl (HT.lexLt ms ns)) S
  | _, _ => False
theorem oq_gtA : OpQ K T (fun x y H Q => rI0 (fun i j => .bl (decide (j < i))) x y H Q ∨ rGtT K x y H Q) fGtA := by
  intro x y p1 p2 H S P Q r1 r2 rep h k
  cases p1 <;> cases p2 <;> try exact h.elim
  case int.int i j => exact .inl ⟨i, j, r1, r2, k (.bl _) (.bl _) H S Fr.refl rfl rep h⟩
  case tup.tup xs ys =>
    obtain ⟨ns, ms, i1, i2, h⟩ := h
    obtain ⟨u, us, e1, s1, t1⟩ := r1
    obtain ⟨w, ws, e2, s2, t2⟩ := r2
    rw [intsOf_rl i1 t1] at s1
    rw [intsOf_rl i2 t2] at s2
    exact .inr ⟨u, w, ns, ms, e1, e2, SqT.of s1, SqT.of s2, k (.bl _) (.bl _) H S Fr.refl rfl rep h⟩
theorem q_gtA {qa qb : QTE} (hu : X.A.units < cLine) (ha : QE X T W a qa) (hb : QE X T W b qb) : QE X T W (.Compare a [.Gt] [b] pos) (qBin fGtA qa qb) := q_cmp (OpR.or op_gt (op_gtT hu)) oq_gtA (nomark _) ha hb
theorem qt_gtA {qa qb : QTE} (hu : X.A.units < cLine) (ha : QE X T W a qa) (hb : QE X T W b qb) : QT X T W (.Compare a [.Gt] [b] pos) (qTst (qBin fGtA qa qb)) := qt_cmp (OpR.or op_gt (op_gtT hu)) oq_gtA (nomark _) ha hb
end

/-! ### str of a number: some text -/
def fStr : FCal := fun ps S P => match ps with
  | [.int i] => i.natAbs.log2 < 1920 ∧ ∀ cs : List Nat, (∀ c ∈ cs, c < 1114112) → P (.str cs) S
  | _ => False
theorem ofString_lt (s : String) : ∀ c ∈ (Str.ofString s).cps.toList, c < 1114112 := fun c hc => by
  rw [Str.ofString_eq_toList] at hc
  obtain ⟨d, _, rfl⟩ := List.mem_map.mp (by simpa using hc)
  have h := d.valid
  rcases h with h | ⟨_, h⟩
  · exact Nat.lt_of_lt_of_le h (by decide)
  · exact h
theorem cq_str {K : PySem.W.Frag} {T : List (Addr × Str)} : CalQ K T (fun xs H Q => ∃ i, xs = [.int i] ∧ i.natAbs.log2 < 1920 ∧ Q (.str (toString i)) H) fStr := by
  intro vs ps H S P Q rl rep h k
  match ps, h with
  | [.int i], ⟨h1, h2⟩ =>
    obtain ⟨v, w, e1, e2, e3⟩ := rl
    have e2 : v = .int i := e2
    have e3 : w = [] := e3
    subst e2; subst e3
    exact ⟨i, e1, h1, k _ (.str (Str.ofString (toString i)).cps.toList) H S Fr.refl rfl rep (h2 _ (ofString_lt _))⟩
/-! ### blocks over what is written in a code -/
theorem lcQ_enc {α : Type} {enc : α → PV} {as : List α} {keep : Sto → Prop} {g : Tg} {t : QTT} {q : QTE} {τ : PSt} {P : QK (List PV)} {S : Sto} (f : α → Bool) (m : α → PV) (hz : as.length ≤ sizeLine) (kp : keep S)
    (step : ∀ a (N : PV → Sto → Prop) (M : Sto → Prop), a ∈ as → (f a = true → N (m a) S) → (f a = false → M S) → ∃ τ1, g.go (enc a) τ = some τ1 ∧ t τ1 S (fun b S1 => iteB b (q τ1 S1 N X0) (M S1)) X0)
    (fin : P ((as.filter f).map m) S) : lcQ keep g t q τ P (as.map enc) [] S := by
  refine lcQ_inv (fun i acc S' => S' = S ∧ acc = ((as.take i).filter f).map m) (by rw [List.length_map]; exact hz) ⟨rfl, rfl⟩ (fun i p acc S' N M hp ⟨e1, e2⟩ hN hM => ?_) fun acc S' ⟨e1, e2⟩ => ?_
  · subst e1; subst e2
    rw [List.getElem?_map] at hp
    obtain ⟨a, ha, rfl⟩ := Option.map_eq_some_iff.mp hp
    have ht : as.take (i + 1) = as.take i ++ [a] := by rw [List.take_add_one, ha]; rfl
    refine step a N M (List.mem_of_getElem? ha) (fun hf => hN _ _ kp ⟨rfl, ?_⟩) (fun hf => hM _ kp ⟨rfl, ?_⟩)
    · rw [ht, List.filter_append, List.map_append, List.filter_cons_of_pos hf]; rfl
    · rw [ht, List.filter_append, List.filter_cons_of_neg (by rw [hf]; exact Bool.false_ne_true), List.filter_nil, List.append_nil]
  · subst e1; subst e2
    rw [List.length_map, List.take_length]
    exact fin
end Mp

set_option Elab.async false
set_option linter.all false
set_option maxRecDepth 100000
namespace Mp
open PySem PySem.Spec PyProof.Rows L2

/-! ### keys -/
mutual
def kEq : PV → PV → Bool
  | .int i, .int j => decide (i = j)
  | .str a, .str b => decide (a = b)
  | .tup a, .tup b => kEqs a b
  | _, _ => false
def kEqs : List PV → List PV → Bool
  | [], [] => true
  | x :: xs, y :: ys => kEq x y && kEqs xs ys
  | _, _ => false
end
def keyP : PV → Option Key
  | .int i => some (.inl i)
  | .str cs => some (.inr ⟨cs.toArray⟩)
  | _ => none
def keysP : List PV → Option (List Key)
  | [] => some []
  | x :: xs => match keyP x, keysP xs with
    | some k, some ks => some (k :: ks)
    | _, _ => none
/-- whether a value may be a key of such a dict -/
def kOk : Bool → PV → Bool
  | false, y => (keyP y).isSome
  | true, .tup xs => (keysP xs).isSome
  | true, _ => false
@[irreducible] def valP (kvs : List (PV × PV)) (k : PV) : Option PV := (kvs.find? fun x => kEq x.1 k).map Prod.snd
@[irreducible] def putP (kvs : List (PV × PV)) (k v : PV) : List (PV × PV) := if (kvs.any fun x => kEq x.1 k) = true then kvs.map (fun x => if kEq x.1 k then (x.1, v) else x) else kvs ++ [(k, v)]
@[irreducible] def dropP (kvs : List (PV × PV)) (k : PV) : List (PV × PV) := kvs.filter fun x => !kEq x.1 k
theorem keyP_kP (k : Key) : keyP (kP k) = some k := by
  cases k with
  | inl i => rfl
  | inr z => rfl
theorem kP_of : ∀ {x : PV} {k : Key}, keyP x = some k → x = kP k
  | .int i, k, h => by cases h; rfl
  | .str cs, k, h => by cases h; rfl
  | .non, _, h => by cases h
  | .bl _, _, h => by cases h
  | .tup _, _, h => by cases h
  | .ref _, _, h => by cases h
  | .ty _, _, h => by cases h
  | .lsv _, _, h => by cases h
  | .exv _ _ _ _ _, _, h => by cases h
  | .lam _ _ _ _ _, _, h => by cases h
  | .ktp _, _, h => by cases h
theorem keysP_of : ∀ {xs : List PV} {ks : List Key}, keysP xs = some ks → xs = ks.map kP
  | [], ks, h => by cases h; rfl
  | x :: xs, ks, h => by
    unfold keysP at h
    cases e1 : keyP x with
    | none => rw [e1] at h; cases h
    | some k =>
      cases e2 : keysP xs with
      | none => rw [e1, e2] at h; cases h
      | some r =>
        rw [e1, e2] at h
        cases h
        rw [kP_of e1, keysP_of e2]; rfl
theorem keysP_map : ∀ ks : List Key, keysP (ks.map kP) = some ks
  | [] => rfl
  | k :: ks => by
    show (match keyP (kP k), keysP (ks.map kP) with | some k, some ks => some (k :: ks) | _, _ => none) = _
    rw [keyP_kP, keysP_map ks]
theorem kEq_kP (a b : Key) : kEq (kP a) (kP b) = decide (a = b) := by
  cases a with
  | inl i =>
    cases b with
    | inl j => show decide (i = j) = _; simp
    | inr z => rfl
  | inr y =>
    cases b with
    | inl j => rfl
    | inr z =>
      show decide (y.cps.toList = z.cps.toList) = _
      by_cases h : y = z
      · subst h; simp
      · rw [decide_eq_false (fun e => h (by cases y; cases z; simpa [Array.toList_inj] using e)), decide_eq_false (by simpa using h)]
theorem kEqs_kP : ∀ a b : List Key, kEqs (a.map kP) (b.map kP) = decide (a = b)
  | [], [] => rfl
  | [], _ :: _ => rfl
  | _ :: _, [] => rfl
  | x :: xs, y :: ys => by
    show (kEq (kP x) (kP y) && kEqs (xs.map kP) (ys.map kP)) = _
    rw [kEq_kP, kEqs_kP xs ys]
    by_cases h : x = y
    · subst h; simp
    · simp [h]
/-! ### a table of the model and a table of trees -/
section
variable {κ : Type} [DecidableEq κ] {K : PySem.W.Frag} {H : Hp} {enc : κ → PV}
theorem rel_val (he : ∀ a b, kEq (enc a) (enc b) = decide (a = b)) (k : κ) : ∀ {ks : List (κ × V)} {kvs : List (PV × PV)}, ks.map (fun x => enc x.1) = kvs.map Prod.fst → Rls K H (ks.map Prod.snd) (kvs.map Prod.snd) →
    (∀ p, valP kvs (enc k) = some p → ∃ v, valV ks k = some v ∧ Rl K H v p) ∧ (valP kvs (enc k) = none → valV ks k = none)
  | [], [], _, _ => by
    unfold valP
    exact ⟨fun p h => (nomatch h), fun _ => rfl⟩
  | [], _ :: _, e, _ => by cases e
  | _ :: _, [], e, _ => by cases e
  | (a, v) :: ks, (x, p) :: kvs, e, r => by
    injection e with e1 e2
    have e1 : enc a = x := e1
    obtain ⟨v', r', e3, r1, r2⟩ := r
    injection e3 with e3 e4
    have e3 : v = v' := e3
    have r2 : Rls K H (ks.map Prod.snd) (kvs.map Prod.snd) := by
      have e4 : ks.map Prod.snd = r' := e4
      rw [e4]; exact r2
    subst e3
    have ih := rel_val he k e2 r2
    by_cases h : a = k
    · subst h
      have z : valP ((x, p) :: kvs) (enc a) = some p := by
        unfold valP
        rw [List.find?_cons_of_pos (by show kEq x (enc a) = true; rw [← e1, he]; exact decide_eq_true rfl)]
        rfl
      rw [z]
      exact ⟨fun q hq => by cases hq; exact ⟨v, valV_pos rfl, r1⟩, fun z => (nomatch z)⟩
    · have z : valP ((x, p) :: kvs) (enc k) = valP kvs (enc k) := by
        unfold valP
        rw [List.find?_cons_of_neg (by show ¬ kEq x (enc k) = true; rw [← e1, he]; simp [h])]
      rw [z, valV_neg (p := (a, v)) h]
      exact ih
theorem rel_any (he : ∀ a b, kEq (enc a) (enc b) = decide (a = b)) (k : κ) : ∀ {ks : List (κ × V)} {kvs : List (PV × PV)}, ks.map (fun x => enc x.1) = kvs.map Prod.fst → (ks.any fun kv => decide (kv.1 = k)) = kvs.any fun x => kEq x.1 (enc k)
  | [], [], _ => rfl
  | [], _ :: _, e => by cases e
  | _ :: _, [], e => by cases e
  | (a, v) :: ks, (x, p) :: kvs, e => by
    injection e with e1 e2
    have e1 : enc a = x := e1
    rw [List.any_cons, List.any_cons, rel_any he k e2]
    show (decide (a = k) || _) = (kEq x (enc k) || _)
    rw [← e1, he]
theorem rel_repl (he : ∀ a b, kEq (enc a) (enc b) = decide (a = b)) (k : κ) {v : V} {p : PV} (rv : Rl K H v p) : ∀ {ks : List (κ × V)} {kvs : List (PV × PV)}, ks.map (fun x => enc x.1) = kvs.map Prod.fst → Rls K H (ks.map Prod.snd) (kvs.map Prod.snd) →
    (ks.map fun kv => if kv.1 = k then (kv.1, v) else kv).map (fun x => enc x.1) = (kvs.map fun x => if kEq x.1 (enc k) then (x.1, p) else x).map Prod.fst ∧ Rls K H ((ks.map fun kv => if kv.1 = k then (kv.1, v) else kv).map Prod.snd) ((kvs.map fun x => if kEq x.1 (enc k) then (x.1, p) else x).map Prod.snd)
  | [], [], _, _ => ⟨rfl, rfl⟩
  | [], _ :: _, e, _ => by cases e
  | _ :: _, [], e, _ => by cases e
  | (a, w) :: ks, (x, q) :: kvs, e, r => by
    injection e with e1 e2
    have e1 : enc a = x := e1
    obtain ⟨v', r', e3, r1, r2⟩ := r
    injection e3 with e3 e4
    have e3 : w = v' := e3
    have r2 : Rls K H (ks.map Prod.snd) (kvs.map Prod.snd) := by
      have e4 : ks.map Prod.snd = r' := e4
      rw [e4]; exact r2
    subst e3
    obtain ⟨h1, h2⟩ := rel_repl he k rv e2 r2
    have hk : kEq x (enc k) = decide (a = k) := by rw [← e1, he]
    rw [List.map_cons, List.map_cons, List.map_cons, List.map_cons, List.map_cons, List.map_cons, h1]
    by_cases h : a = k
    · rw [if_pos h, if_pos (by rw [hk]; exact decide_eq_true h)]
      exact ⟨by show enc a :: _ = x :: _; rw [e1], ⟨v, _, rfl, rv, h2⟩⟩
    · rw [if_neg h, if_neg (by rw [hk]; simp [h])]
      exact ⟨by show enc a :: _ = x :: _; rw [e1], ⟨w, _, rfl, r1, h2⟩⟩
theorem rel_put (he : ∀ a b, kEq (enc a) (enc b) = decide (a = b)) (k : κ) {v : V} {p : PV} (rv : Rl K H v p) {ks : List (κ × V)} {kvs : List (PV × PV)} (e : ks.map (fun x => enc x.1) = kvs.map Prod.fst) (r : Rls K H (ks.map Prod.snd) (kvs.map Prod.snd)) :
    (putK ks k v).map (fun x => enc x.1) = (putP kvs (enc k) p).map Prod.fst ∧ Rls K H ((putK ks k v).map Prod.snd) ((putP kvs (enc k) p).map Prod.snd) := by
  unfold putK putP
  rw [rel_any he k e]
  by_cases h : (kvs.any fun x => kEq x.1 (enc k)) = true
  · rw [if_pos h, if_pos h]
    exact rel_repl he k rv e r
  · rw [if_neg h, if_neg h]
    refine ⟨by rw [List.map_append, List.map_append, e]; rfl, ?_⟩
    rw [List.map_append, List.map_append]
    exact r.append (Rls.one rv)
theorem rel_drop (he : ∀ a b, kEq (enc a) (enc b) = decide (a = b)) (k : κ) : ∀ {ks : List (κ × V)} {kvs : List (PV × PV)}, ks.map (fun x => enc x.1) = kvs.map Prod.fst → Rls K H (ks.map Prod.snd) (kvs.map Prod.snd) →
    (dropK ks k).map (fun x => enc x.1) = (dropP kvs (enc k)).map Prod.fst ∧ Rls K H ((dropK ks k).map Prod.snd) ((dropP kvs (enc k)).map Prod.snd)
  | [], [], _, _ => by
    unfold dropP
    exact ⟨rfl, rfl⟩
  | [], _ :: _, e, _ => by cases e
  | _ :: _, [], e, _ => by cases e
  | (a, w) :: ks, (x, q) :: kvs, e, r => by
    injection e with e1 e2
    have e1 : enc a = x := e1
    obtain ⟨v', r', e3, r1, r2⟩ := r
    injection e3 with e3 e4
    have e3 : w = v' := e3
    have r2 : Rls K H (ks.map Prod.snd) (kvs.map Prod.snd) := by
      have e4 : ks.map Prod.snd = r' := e4
      rw [e4]; exact r2
    subst e3
    have ih := rel_drop he k e2 r2
    have hk : kEq x (enc k) = decide (a = k) := by rw [← e1, he]
    unfold dropK dropP at ih ⊢
    by_cases h : a = k
    · rw [List.filter_cons_of_neg (by simp [h]), List.filter_cons_of_neg (by show ¬ (!kEq x (enc k)) = true; rw [hk]; simp [h])]
      exact ih
    · rw [List.filter_cons_of_pos (by simp [h]), List.filter_cons_of_pos (by show (!kEq x (enc k)) = true; rw [hk]; simp [h])]
      exact ⟨by rw [List.map_cons, List.map_cons, ih.1]; show enc a :: _ = x :: _; rw [e1], ⟨w, _, rfl, r1, ih.2⟩⟩
end
def kT' (l : List Key) : PV := .tup (l.map kP)
theorem kEq_kT (a b : List Key) : kEq (kT' a) (kT' b) = decide (a = b) := kEqs_kP a b
theorem rl_kP {K : PySem.W.Frag} {H : Hp} {v : V} {k : Key} (h : Rl K H v (kP k)) : v = kV k := by
  cases k with
  | inl i => exact h
  | inr z =>
    have h : v = .str ⟨z.cps.toList.toArray⟩ := h
    rw [h]; rfl
theorem rls_kP {K : PySem.W.Frag} {H : Hp} : ∀ {ks : List Key} {vs : List V}, Rls K H vs (ks.map kP) → vs = ks.map kV
  | [], _, h => h
  | k :: ks, _, ⟨v, r, e, h1, h2⟩ => by rw [e, rl_kP h1, rls_kP h2]; rfl
section
variable {K : PySem.W.Frag} {H : Hp} {T : List (Addr × Str)} {S : Sto}
/-- a dict that stands, locked or not -/
def dicAt (S : Sto) (q : Addr) : Option (Bool × List (PV × PV)) := match S q with
  | some (.dic t kvs) => some (t, kvs)
  | some (.fdi t kvs) => some (t, kvs)
  | _ => none
theorem dicAt_rd (rep : Rep K T S H) {q : Addr} {t : Bool} {kvs : List (PV × PV)} (h : dicAt S q = some (t, kvs)) : ∃ u, Rd H q u ∧ DRel K H t u kvs := by
  unfold dicAt at h
  cases z : S q with
  | none => rw [z] at h; cases h
  | some ob =>
    rw [z] at h
    cases ob with
    | lst xs => cases h
    | ins C fs => cases h
    | dic t kvs =>
      cases h
      obtain ⟨u, e, d⟩ := rep.ob q _ z
      exact ⟨u, .inl e, d⟩
    | fdi t kvs =>
      cases h
      obtain ⟨od, u, e, d⟩ := rep.ob q _ z
      exact ⟨u, .inr ⟨od, e⟩, d⟩
theorem dget_of {u : HO} {q : Addr} {t : Bool} {kvs : List (PV × PV)} {y : PV} {w : V} (rd : Rd H q u) (d : DRel K H t u kvs) (hk : kOk t y = true) (rw_ : Rl K H w y) :
    ∃ o, DGet H q w o ∧ (∀ p, valP kvs y = some p → ∃ v, o = some v ∧ Rl K H v p) ∧ (valP kvs y = none → o = none) := by
  cases t with
  | false =>
    obtain ⟨ks, rfl, e, r⟩ := d
    obtain ⟨k, hk⟩ := Option.isSome_iff_exists.mp (show (keyP y).isSome = true from hk)
    have ey := kP_of hk
    subst ey
    obtain ⟨h1, h2⟩ := rel_val kEq_kP k e r
    exact ⟨valV ks k, .inl ⟨ks, k, rd, rl_kP rw_, rfl⟩, h1, h2⟩
  | true =>
    obtain ⟨ks, rfl, e, r⟩ := d
    cases y with
    | tup xs =>
      obtain ⟨l, hl⟩ := Option.isSome_iff_exists.mp (show (keysP xs).isSome = true from hk)
      have ey := keysP_of hl
      subst ey
      obtain ⟨b, vs, ew, eb, rs⟩ := rw_
      rw [rls_kP rs] at eb
      obtain ⟨h1, h2⟩ := rel_val (enc := kT') kEq_kT l e r
      exact ⟨valV ks l, .inr ⟨ks, l, b, rd, ew, eb, rfl⟩, h1, h2⟩
    | _ => cases hk
theorem dput_of (rep : Rep K T S H) {q : Addr} {t : Bool} {kvs : List (PV × PV)} {y x : PV} {w v : V} (h : S q = some (.dic t kvs)) (hk : kOk t y = true) (hl : kvs.length < sizeLine) (rw_ : Rl K H w y) (rv : Rl K H v x) :
    ∃ H', DPut H q w v H' ∧ Fr S H (put S q (.dic t (putP kvs y x))) H' ∧ Rep K T (put S q (.dic t (putP kvs y x))) H' := by
  obtain ⟨u, e0, d⟩ := rep.ob q _ h
  cases t with
  | false =>
    obtain ⟨ks, rfl, e, r⟩ := d
    obtain ⟨k, hk⟩ := Option.isSome_iff_exists.mp (show (keyP y).isSome = true from hk)
    have ey := kP_of hk
    subst ey
    have len : ks.length = kvs.length := by simpa using congrArg List.length e
    refine ⟨_, .inl ⟨ks, k, e0, rl_kP rw_, by omega, rfl⟩, Fr.wr h, rep.wr h fun le => ⟨_, upd_same, _, rfl, ?_⟩⟩
    exact rel_put kEq_kP k (Rl.mono le _ _ rv) e (Rls.mono le _ _ r)
  | true =>
    obtain ⟨ks, rfl, e, r⟩ := d
    cases y with
    | tup xs =>
      obtain ⟨l, hl2⟩ := Option.isSome_iff_exists.mp (show (keysP xs).isSome = true from hk)
      have ey := keysP_of hl2
      subst ey
      obtain ⟨b, vs, ew, eb, rs⟩ := rw_
      rw [rls_kP rs] at eb
      have len : ks.length = kvs.length := by simpa using congrArg List.length e
      refine ⟨_, .inr ⟨ks, l, b, e0, ew, eb, by omega, rfl⟩, Fr.wr h, rep.wr h fun le => ⟨_, upd_same, _, rfl, ?_⟩⟩
      exact rel_put (enc := kT') kEq_kT l (Rl.mono le _ _ rv) e (Rls.mono le _ _ r)
    | _ => cases hk
end

/-! ### d[k], k in d, d[k] = v -/
section
variable {X : Cx} {T : List (Addr × Str)} {W : WX} {e a b tg : Expr} {es : List Expr} {K : PySem.W.Frag} {S S' S0 S1 : Sto} {H H' H0 H1 : Hp} {σ : L2.St} {τ : PSt} {PD : PEnds} {D : Ends} {pos p : Pos} {q : QTA}
def rDGet : R2 := fun x y H Q => ∃ a v, x = .ref a ∧ DGet H a y (some v) ∧ Q v H
theorem ix_dget (hu : X.A.units + 1 < cLine) : IxR X rDGet := by
  intro value slice pins s σ H x y v u Q I rx ry h hs
  obtain ⟨c, z, rfl, g, q⟩ := h
  cases (show v = Value.ref c from rx)
  refine tail_any (dict_typeIs I g) PySem.F.slot_dict_getitem.lookup (d_getItem hu I g ry fun w' s3 I3 rw' => ⟨z, H, I3, rw', q⟩) hs
def fIdxA : FO2 := fun x y S P => match x with
  | .ref q => match dicAt S q with
    | some (t, kvs) => match kOk t y with
      | true => match valP kvs y with
        | some p => P p S
        | none => False
      | false => False
    | none => fIdx x y S P
  | _ => fIdx x y S P
theorem oq_idxA : OpQ K T (fun x y H Q => rIx K x y H Q ∨ rDGet x y H Q) fIdxA := by
  intro x y p1 p2 H S P Q r1 r2 rep h k
  have old : fIdx p1 p2 S P → rIx K x y H Q ∨ rDGet x y H Q := fun h => .inl (oq_idx x y p1 p2 H S P Q r1 r2 rep h k)
  unfold fIdxA at h
  cases p1 with
  | ref c =>
    simp only at h
    cases z : dicAt S c with
    | none => rw [z] at h; exact old h
    | some tk =>
      obtain ⟨t, kvs⟩ := tk
      rw [z] at h
      simp only at h
      cases zk : kOk t p2 with
      | false => rw [zk] at h; exact h.elim
      | true =>
        rw [zk] at h
        simp only at h
        cases zv : valP kvs p2 with
        | none => rw [zv] at h; exact h.elim
        | some w =>
          rw [zv] at h
          obtain ⟨u, rd, d⟩ := dicAt_rd rep z
          obtain ⟨o, g, h1, _⟩ := dget_of rd d zk r2
          obtain ⟨v, rfl, rv⟩ := h1 w zv
          exact .inr ⟨c, v, r1, g, k v w H S Fr.refl rv rep h⟩
  | _ => exact old h
theorem q_idxA {qa qb : QTE} (hu : X.A.units + 1 < cLine) (ha : QE X T W a qa) (hb : QE X T W b qb) (hs : PlainIx b := by exact fun _ _ => rfl) : QE X T W (.Subscript a b pos) (qBin fIdxA qa qb) :=
  pe_imp (pe_ix (ix_seq.or (ix_dget hu)) ha hb hs) fun _ _ _ h => up_bin oq_idxA h
/-- k in d -/
def rDIn (n : Bool) : R2 := fun x y H Q => ∃ a o, y = .ref a ∧ DGet H a x o ∧ Q (.bl (ng n o.isSome)) H
theorem op_din (hu : X.A.units + 1 < cLine) : OpR X (compareOp .In) (rDIn false) := by
  intro pins s σ H x y v u Q I rx ry h
  obtain ⟨c, o, rfl, g, q⟩ := h
  cases (show u = Value.ref c from ry)
  exact d_in hu I g rx fun s3 I3 => ⟨.bl o.isSome, H, I3, rfl, q⟩
theorem op_dnotin (hu : X.A.units + 1 < cLine) : OpR X (compareOp .NotIn) (rDIn true) := by
  intro pins s σ H x y v u Q I rx ry h
  obtain ⟨c, o, rfl, g, q⟩ := h
  cases (show u = Value.ref c from ry)
  exact d_notIn hu I g rx fun s3 I3 => ⟨.bl (!o.isSome), H, I3, rfl, q⟩
def inMA (n : Bool) (x : PV) (y : SH) (S : Sto) (P : QK PV) : Prop := match y with
  | .val (.ref q) => match dicAt S q with
    | some (t, kvs) => match kOk t x with
      | true => P (.bl (ng n (valP kvs x).isSome)) S
      | false => False
    | none => inM n x y S P
  | _ => inM n x y S P
def qInA (n : Bool) (qa : QTE) (qb : QTH) : QTE := fun τ S P EP => qa τ S (fun x S1 => qb τ S1 (fun y S2 => inMA n x y S2 P) EP) EP
theorem in_valA {n : Bool} {x y : V} {px : PV} {py : SH} {P : QK PV} {Q : VK} (r1 : Rl K H x px) (r2 : RSH K S H y py) (rep : Rep K T S H) (h : inMA n px py S P)
    (k : ∀ v p H' S', Fr S H S' H' → Rl K H' v p → Rep K T S' H' → P p S' → Q v H') : rInAll K n x y H Q ∨ rDIn n x y H Q := by
  have old : inM n px py S P → rInAll K n x y H Q ∨ rDIn n x y H Q := fun h => .inl (in_val r1 r2 rep h k)
  unfold inMA at h
  cases py with
  | hid c xs => exact old h
  | val w =>
    cases w with
    | ref c =>
      simp only at h
      cases z : dicAt S c with
      | none => rw [z] at h; exact old h
      | some tk =>
        obtain ⟨t, kvs⟩ := tk
        rw [z] at h
        simp only at h
        cases zk : kOk t px with
        | false => rw [zk] at h; exact h.elim
        | true =>
          rw [zk] at h
          obtain ⟨u, rd, d⟩ := dicAt_rd rep z
          obtain ⟨o, g, h1, h2⟩ := dget_of rd d zk r1
          have e : o.isSome = (valP kvs px).isSome := by
            cases zv : valP kvs px with
            | none => rw [h2 zv]; rfl
            | some p =>
              obtain ⟨v, ev, _⟩ := h1 p zv
              rw [ev]; rfl
          refine .inr ⟨c, o, r2, g, ?_⟩
          rw [e]
          exact k (.bl _) (.bl _) H S Fr.refl rfl rep h
    | _ => exact old h
theorem up_inA {n : Bool} {qa : QTE} {qb : QTH} {Q : VK} (h : upG K T W (Rl K) (qInA n qa qb) σ H Q) : tOp (fun x y H Q => rInAll K n x y H Q ∨ rDIn n x y H Q) (upG K T W (Rl K) qa) (upH K T W qb) σ H Q := by
  refine up_then (RR := Rl K) h fun x p1 H1 l1 r1 ⟨τ, S, P, EP, rs, rep, hf, k, kx⟩ => ?_
  refine ⟨τ, S, _, EP, rs, rep, hf, fun y p2 H2 S2 fr r2 rep2 hp => ?_, kx⟩
  exact in_valA (Rl.mono (fr.le rep) _ _ r1) r2 rep2 hp fun v p H' S' f => k v p H' S' (fr.trans f)
theorem or_inA (hu : X.A.units + 65 < cLine) : OpR X (compareOp .In) (fun x y H Q => rInAll X.K false x y H Q ∨ rDIn false x y H Q) := OpR.or (or_in hu) (op_din (by omega))
theorem or_notinA (hu : X.A.units + 65 < cLine) : OpR X (compareOp .NotIn) (fun x y H Q => rInAll X.K true x y H Q ∨ rDIn true x y H Q) := OpR.or (or_notin hu) (op_dnotin (by omega))
theorem q_inA {qa : QTE} {qb : QTH} (hu : X.A.units + 65 < cLine) (ha : QE X T W a qa) (hb : QH X T W b qb) (hm : behindInMarks .In b = false := by rfl) : QE X T W (.Compare a [.In] [b] pos) (qInA false qa qb) :=
  pe_imp (pe_cmpR (or_inA hu) ha hb hm) fun σ H Q h => up_inA h
theorem q_notinA {qa : QTE} {qb : QTH} (hu : X.A.units + 65 < cLine) (ha : QE X T W a qa) (hb : QH X T W b qb) (hm : behindInMarks .NotIn b = false := by rfl) : QE X T W (.Compare a [.NotIn] [b] pos) (qInA true qa qb) :=
  pe_imp (pe_cmpR (or_notinA hu) ha hb hm) fun σ H Q h => up_inA h
theorem qt_inA {qa : QTE} {qb : QTH} (hu : X.A.units + 65 < cLine) (ha : QE X T W a qa) (hb : QH X T W b qb) (hm : behindInMarks .In b = false := by rfl) : QT X T W (.Compare a [.In] [b] pos) (qTst (qInA false qa qb)) :=
  pt_imp (pt_cmpR (or_inA hu) ha hb hm) fun σ H Q h => up_inA (up_tst h)
theorem qt_notinA {qa : QTE} {qb : QTH} (hu : X.A.units + 65 < cLine) (ha : QE X T W a qa) (hb : QH X T W b qb) (hm : behindInMarks .NotIn b = false := by rfl) : QT X T W (.Compare a [.NotIn] [b] pos) (qTst (qInA true qa qb)) :=
  pt_imp (pt_cmpR (or_notinA hu) ha hb hm) fun σ H Q h => up_inA (up_tst h)
/-- d[k] = v -/
def fSetA : FSet := fun o i v S P => match o with
  | .ref q => match S q with
    | some (.dic t kvs) => match kOk t i with
      | true => kvs.length < sizeLine ∧ P (put S q (.dic t (putP kvs i v)))
      | false => False
    | _ => fSet o i v S P
  | _ => fSet o i v S P
theorem PSet.or {t u : TSet} (h : PSet X t) (g : PSet X u) : PSet X (fun o i v H Q => t o i v H Q ∨ u o i v H Q) := by
  intro pins s σ H o i v ov iv w Q I ro ri rv z
  rcases z with z | z
  · exact h pins s σ H o i v ov iv w Q I ro ri rv z
  · exact g pins s σ H o i v ov iv w Q I ro ri rv z
theorem sq_any : SetQ K T (fun o i v H Q => rSetL o i v H Q ∨ rSetD o i v H Q) fSetA := by
  intro o i v p1 p2 p3 H S P Q r1 r2 r3 rep h k
  have old : fSet p1 p2 p3 S P → rSetL o i v H Q ∨ rSetD o i v H Q := fun h => .inl (sq_list o i v p1 p2 p3 H S P Q r1 r2 r3 rep h k)
  unfold fSetA at h
  cases p1 with
  | ref c =>
    simp only at h
    cases z : S c with
    | none => rw [z] at h; exact old h
    | some ob =>
      rw [z] at h
      cases ob with
      | dic t kvs =>
        simp only at h
        cases zk : kOk t p2 with
        | false => rw [zk] at h; exact h.elim
        | true =>
          rw [zk] at h
          obtain ⟨H', dp, fr, rep'⟩ := dput_of rep z zk h.1 r2 r3
          exact .inr ⟨c, H', r1, dp, k _ _ fr rep' h.2⟩
      | _ => exact old h
  | _ => exact old h
theorem qg_idxA {o i : Expr} {qo qi : QTE} (hu : X.A.units + 1 < cLine) (ho : QE X T W0 o qo) (hi : QE X T W0 i qi)
    (ha : ∀ v, assign (.Subscript o i pos) X.env v = (do let ov ← holding [v] (eval o X.env); let iv ← holding [v, ov] (eval i X.env); standAt pos; holding [v, ov, iv] (setItem ov iv v); release [v, ov, iv] []) := by intro _; rfl) :
    QG X T (.Subscript o i pos) (qgSub qo qi fSetA) := qg_sub (PSet.or set_list (set_dict hu)) sq_any ho hi ha
/-- {} -/
def qDNew : QTE := fun τ S P EP => ∃ t, ∀ c, S c = none → P (.ref c) (put S c (.dic t []))
theorem q_dnew : QE X T W (.Dict [] [] pos) qDNew := by
  refine ⟨fun pins s σ H Q I ⟨τ, S, P, EP, rs, rep, ⟨t, hf⟩, k, kx⟩ => ?_⟩
  cases t with
  | false =>
    refine pe_dnewK.run pins s σ H Q I fun c hc => ?_
    exact k (.ref c) (.ref c) _ _ (Fr.new hc) rfl (rep.new (ob := .dic false []) hc ⟨_, upd_same, [], rfl, rfl, rfl⟩) (hf c (rep.free hc))
  | true =>
    refine pe_dnewT.run pins s σ H Q I fun c hc => ?_
    exact k (.ref c) (.ref c) _ _ (Fr.new hc) rfl (rep.new (ob := .dic true []) hc ⟨_, upd_same, [], rfl, rfl, rfl⟩) (hf c (rep.free hc))
end
end Mp

set_option Elab.async false
set_option linter.all false
set_option maxRecDepth 100000
namespace Mp
open PySem PySem.Spec PyProof.Rows L2

/-! ### the entries of a dict, as they lie -/
section
variable {X : Cx} {T : List (Addr × Str)} {W : WX} {e a b tg : Expr} {es : List Expr} {K : PySem.W.Frag} {S S' S0 S1 : Sto} {H H' H0 H1 : Hp} {σ : L2.St} {τ : PSt} {PD : PEnds} {D : Ends} {pos p apos cpos : Pos} {q : QTA}
def ksV : List (Key × V) → List V := List.map fun x => kV x.1
theorem pairs_at {P : Program} {w : World} : ∀ {es : List DictEntry} {vs : List (Key × Value)}, Pairs (mixKind P w) es vs → ∀ (i : Nat) (en : DictEntry), es[i]? = some en → ∃ kv, vs[i]? = some kv ∧ RelV (kV kv.1) en.key
  | _, _, .nil, _, _, h => by simp at h
  | _, _, .cons (e := e) (kv := kv) h1 h2 h3, 0, en, h => by
    simp at h; subst h
    exact ⟨kv, rfl, relV_key (show keyIs kv.1 e.key = true from h1)⟩
  | _, _, .cons h1 h2 h3, i + 1, en, h => by
    obtain ⟨kv, a1, a2⟩ := pairs_at h3 i en (by simpa using h)
    exact ⟨kv, by simpa using a1, a2⟩
theorem rls_keys : ∀ {ks : List (Key × V)} {kvs : List (PV × PV)}, ks.map (fun x => kP x.1) = kvs.map Prod.fst → Rls K H (ks.map fun x => kV x.1) (kvs.map Prod.fst)
  | [], [], _ => rfl
  | [], _ :: _, e => by cases e
  | _ :: _, [], e => by cases e
  | (a, v) :: ks, (x, p) :: kvs, e => by
    injection e with e1 e2
    have e1 : kP a = x := e1
    refine ⟨kV a, _, rfl, ?_, rls_keys e2⟩
    show Rl K H (kV a) x
    rw [← e1]
    cases a with
    | inl i => exact rfl
    | inr z => exact rfl
theorem rls_map_kP : ∀ l : List Key, Rls K H (l.map kV) (l.map kP)
  | [] => rfl
  | .inl i :: l => ⟨_, _, rfl, rfl, rls_map_kP l⟩
  | .inr z :: l => ⟨_, _, rfl, rfl, rls_map_kP l⟩
theorem rls_keysT : ∀ {ks : List (List Key × V)} {bs : List Addr} {kvs : List (PV × PV)}, IsKeys H ks bs → ks.map (fun x => PV.tup (x.1.map kP)) = kvs.map Prod.fst → Rls K H (bs.map V.ref) (kvs.map Prod.fst)
  | [], bs, kvs, h, e => by
    have h : Paired _ [] bs := h
    cases h
    cases kvs with
    | nil => exact rfl
    | cons _ _ => cases e
  | k :: ks, bs, kvs, h, e => by
    have h : Paired _ (k :: ks) bs := h
    cases h with
    | @cons _ b _ bs' h1 h2 =>
      cases kvs with
      | nil => cases e
      | cons x kvs =>
        injection e with e1 e2
        refine ⟨.ref b, bs'.map V.ref, rfl, ?_, rls_keysT h2 e2⟩
        rw [← e1]
        exact ⟨b, _, rfl, h1, rls_map_kP _⟩
theorem dic_raw {pins : List (Addr × Obj)} {s : Shared} {u : HO} {c : Addr} {t : Bool} {kvs : List (PV × PV)} (I : Inv X pins σ H s) (rd : Rd H c u) (d : DRel X.K H t u kvs) :
    (c == sysModules) = false ∧ kvs.length ≤ sizeLine ∧ ∃ (o : Obj) (es : Array DictEntry) (ep : Nat) (vs : List V), s.heap.get? c = some o ∧ o.ExactDict ∧ o.data = .dict es ep ∧ es.size = kvs.length ∧ Rls X.K H vs (kvs.map Prod.fst) ∧
      ∀ (i : Nat) (en : DictEntry), es[i]? = some en → ∃ v, vs[i]? = some v ∧ RelV v en.key := by
  cases t with
  | false =>
    obtain ⟨ks, rfl, e, r⟩ := d
    obtain ⟨z, hd, vs, rel, o, es, ep, h1, h2, h3, h4, h5, h6⟩ := dk_rd I.hok rd
    have len : ks.length = kvs.length := by simpa using congrArg List.length e
    have l2 : ks.length = vs.length := Paired.length rel
    have l3 := h5.length
    refine ⟨hd, by omega, o, es, ep, ks.map (fun x => kV x.1), h1, h2, h3, by rw [Array.length_toList] at l3; omega, rls_keys e, fun i en he => ?_⟩
    obtain ⟨kv, a1, a2⟩ := pairs_at h5 i en (by rw [Array.getElem?_toList]; exact he)
    refine ⟨kV kv.1, ?_, a2⟩
    have ek : ks.map (·.1) = vs.map (·.1) := rel.keys
    have : (ks.map (·.1))[i]? = some kv.1 := by rw [ek, List.getElem?_map, a1]; rfl
    rw [List.getElem?_map] at this ⊢
    obtain ⟨x, b1, b2⟩ := Option.map_eq_some_iff.mp this
    rw [b1]; exact congrArg (fun z => some (kV z)) b2
  | true =>
    obtain ⟨ks, rfl, e, r⟩ := d
    obtain ⟨z, hd, xs, rel, o, es, ep, h1, h2, h3, h4, h5, h6⟩ := dt_rd I.hok rd
    have len : ks.length = kvs.length := by simpa using congrArg List.length e
    have l2 : ks.length = xs.length := Paired.length rel
    have l1 : es.size = xs.length := size_of_entries h4
    refine ⟨hd, by omega, o, es, ep, _, h1, h2, h3, by omega, rls_keysT (isKeys_of rel) e, fun i en he => ?_⟩
    have qe := entry_at h4 i
    rw [he] at qe
    cases hb : xs[i]? with
    | none => rw [hb] at qe; exact nomatch (show some en = none from qe)
    | some b =>
      rw [hb] at qe
      have e2 : en = entryOfKey (tupleKind (mixKind X.prog X.w)) b := Option.some.inj qe
      refine ⟨.ref b.2.1, by simp [hb], ?_⟩
      rw [e2]; exact rfl
/-- what is collected of its keys -/
theorem keys_vals {u : HO} {c : Addr} {t : Bool} {kvs : List (PV × PV)} {es : Array DictEntry} {vs : List V} {acc : Array Value} {n : Nat} (hn : es.size = n) (hl : vs.length = n) (hk : ∀ (i : Nat) (en : DictEntry), es[i]? = some en → ∃ v, vs[i]? = some v ∧ RelV v en.key)
    (it : ItemsOf (fun i v => ∃ en : DictEntry, es[i]? = some en ∧ v = en.key) acc n) : Vals vs acc.toList := by
  have go : ∀ (l : List V) (m : List Value), l.length = m.length → (∀ (j : Nat) (v : Value), m[j]? = some v → ∃ x, l[j]? = some x ∧ RelV x v) → Vals l m := by
    intro l
    induction l with
    | nil => intro m h _; cases m with
      | nil => exact .nil
      | cons _ _ => cases h
    | cons x l ih =>
      intro m h g
      cases m with
      | nil => cases h
      | cons y m =>
        obtain ⟨x', e1, e2⟩ := g 0 y rfl
        cases e1
        exact .cons e2 (ih m (by simpa using h) fun j v hj => g (j + 1) v hj)
  refine go vs acc.toList (by have h1 : acc.size = n := it.1; have h2 : acc.toList.length = acc.size := Array.length_toList; omega) fun j v hj => ?_
  obtain ⟨en, h1, h2⟩ := it.2 j v (by rw [← Array.getElem?_toList]; exact hj)
  obtain ⟨x, h3, h4⟩ := hk j en h1
  rw [h2]
  exact ⟨x, h3, h4⟩
/-! ### list(d), sorted(d) -/
def rListD (K : PySem.W.Frag) : List V → Hp → VK → Prop := fun xs H Q => ∃ (c : Addr) (u : HO) (t : Bool) (kvs : List (PV × PV)), xs = [.ref c] ∧ Rd H c u ∧ DRel K H t u kvs ∧ ∀ vs n, Rls K H vs (kvs.map Prod.fst) → H n = none → Q (.ref n) (upd H n (.lst vs))
theorem cr_listD (hc : X.calm = true) : CallR X (.type "list") (rListD X.K) := by
  intro pins s σ H xs us Q I r h
  obtain ⟨c, u, t, kvs, rfl, rd, d, q⟩ := h
  obtain ⟨w, rfl, rx⟩ := r.one
  cases rx
  obtain ⟨hs, hz, o, es, ep, vs, h1, h2, h3, h4, h5, h6⟩ := dic_raw I rd d
  have hl : vs.length = kvs.length := by rw [Rls.length h5, List.length_map]
  refine PySem.W.kdl_call (kdl_raw hs h2 h3) (I.ok.hd hc) h1 (by omega) fun h' tk acc' c' kp e it => ?_
  have rv : Vals vs acc'.toList := keys_vals (u := u) (c := c) (t := t) (kvs := kvs) rfl (by omega) h6 it
  refine ⟨.ref s.heap.objs.size, _, I.laid (t' := tk) (o := .lst vs) kp (Nat.le_refl _) ?_, rfl, q vs _ h5 (I.hok.fresh (Nat.le_refl _))⟩
  exact ⟨by omega, acc'.toList, c', rv, by rw [Array.toArray_toList]; exact e⟩
def qListD (q : QTE) : QTA := fun τ S P EP => q τ S (fun x S1 => match x with
  | .ref c => match dicAt S1 c with
    | some (_, kvs) => P (kvs.map Prod.fst) S1
    | none => match seqOf x S1 with
      | some xs => P xs S1
      | none => False
  | _ => match seqOf x S1 with
    | some xs => P xs S1
    | none => False) EP
def rSortD (K : PySem.W.Frag) (T : List (Addr × Str)) : List V → Hp → VK → Prop := fun xs H Q => ∃ (c : Addr) (u : HO) (t : Bool) (kvs : List (PV × PV)), xs = [.ref c] ∧ Rd H c u ∧ DRel K H t u kvs ∧ sortC (kvs.map Prod.fst) ∧
  ∀ vs n, Rls K H vs ((kvs.map Prod.fst).mergeSort leP) → H n = none → Q (.ref n) (upd H n (.lst vs))
theorem cr_sortD (hc : X.calm = true) (hu : X.A.units + 64 < cLine) : CallR X (.builtin "sorted") (rSortD X.K T) := by
  intro pins s σ H xs us Q I r h
  obtain ⟨c, u, t, kvs, rfl, rd, d, ⟨c1, c2, c3, c4⟩, q⟩ := h
  obtain ⟨w, rfl, rx⟩ := r.one
  cases rx
  obtain ⟨hs, hz, o, es, ep, vs, h1, h2, h3, h4, h5, h6⟩ := dic_raw I rd d
  have hl : vs.length = kvs.length := by rw [Rls.length h5, List.length_map]
  refine Calls.call_function_entry PyProof.Rows.kind_sorted PyProof.Rows.plain_sorted PyProof.Rows.entry_sorted (PyProof.Rows.args_sorted1 _) ?_
  unfold Builtin.«sorted»
  refine wpAny_bind (m := checkCount "sorted" 1 1 _) (wpAny_pure ?_)
  refine wpAny_bind (PySem.W.kdu_collect (A := X.A.in1) (kdl_raw hs h2 h3) (I.ok.hd hc) h1 (by omega) fun h' tk acc hk hacc => ?_)
  have rv : Vals vs acc.toList := keys_vals (u := u) (c := c) (t := t) (kvs := kvs) rfl (by omega) h6 hacc
  have I1 : Inv X pins σ H { s with heap := h', toks := tk } := I.kept hk
  have hal : acc.toList.length = kvs.length := by rw [← rv.length]; exact hl
  refine wpAny_bind (wpAny_newList ?_ (by rw [hal]; exact hz))
  have hoL : (h'.push (seqObj "list" acc.toList.toArray 0)).get? h'.objs.size = some (seqObj "list" acc.toList.toArray 0) := Heap.get?_push_size _ rfl
  show wpAny _ _ _ _ _ { s with heap := h'.push (seqObj "list" acc.toList.toArray 0), toks := tk }
  have I2 : Inv X pins σ H { s with heap := h'.push (seqObj "list" acc.toList.toArray 0), toks := tk } := I.kept fun b o e => Heap.get?_push_of_some _ (hk b o e)
  obtain ⟨z1, z2, z3⟩ := rls_zip h5
  have em : (vs.zip (kvs.map Prod.fst)).map (fun b => dOf b.2) = (kvs.map Prod.fst).map dOf := by
    conv => rhs; rw [← z2]
    rw [List.map_map]; rfl
  have el : (vs.zip (kvs.map Prod.fst)).length = kvs.length := by rw [← List.length_map (f := Prod.snd), z2, List.length_map]
  have er0 : PySem.W.EachIs (fun v b => ∃ as, PySem.Reads h' v (dOf b.2) as) acc.toList (vs.zip (kvs.map Prod.fst)) := vals_each (by rw [z1]; exact rv) fun b hm u r => Dp.reads I1 _ _ _ (datP_dp (c1 b.2 (z3 b hm).2).1 (z3 b hm).1) r
  have er1 : PySem.W.EachIs (fun v b => ∃ as, PySem.Reads (PySem.W.sortingHeap (h'.push (seqObj "list" acc.toList.toArray 0)) h'.objs.size acc.toList) v (dOf b.2) as) acc.toList (vs.zip (kvs.map Prod.fst)) :=
    er0.mono fun _ _ ⟨as, r⟩ => ⟨as, PyProof.Rows.Reads.keeps (fun b o e => PySem.W.sortingHeap_old (Nat.ne_of_lt (Heap.lt_size e)) (Heap.get?_push_of_some _ e)) r⟩
  have ee : PySem.W.EachIs (fun u b => RelV b.1 u) acc.toList (vs.zip (kvs.map Prod.fst)) := vals_each (by rw [z1]; exact rv) fun b _ u r => r
  refine wpAny_bind (wpAny_holding (wpAny_call_entry PyProof.Rows.slot_list_sort ⟨_, hoL, rfl⟩ PyProof.Rows.entry_list_sort
    (PySem.W.list_sort_vals (κ := PySem.W.dataKind (PySem.W.sortingHeap (h'.push (seqObj "list" acc.toList.toArray 0)) h'.objs.size acc.toList) ((vs.zip (kvs.map Prod.fst)).map fun b => dOf b.2)) (s := { s with heap := h'.push (seqObj "list" acc.toList.toArray 0), toks := tk }) hoL
      (PySem.W.SortsAt.data (s := { s with heap := PySem.W.sortingHeap (h'.push (seqObj "list" acc.toList.toArray 0)) h'.objs.size acc.toList, toks := tk }) (PySem.W.each_map (R := fun v d => ∃ as, PySem.Reads (PySem.W.sortingHeap (h'.push (seqObj "list" acc.toList.toArray 0)) h'.objs.size acc.toList) v d as) (fun b : V × PV => dOf b.2) er1) (by rw [em]; exact c2) (by rw [em]; exact c3) (PySem.W.bound_map fun b hm => by have := (c1 b.2 (z3 b hm).2).2; exact (show X.A.units + 1 + 1 + (dOf b.2).depth < cLine by omega)))
      (by rw [hal]; exact hz) ⟨.none, rfl, ?_⟩) (PyProof.Rows.args_list_sort _)))
  have eo := PySem.W.sortVals_data (R := fun u b => RelV b.1 u) (enc := fun b : V × PV => dOf b.2) false ee er1 (by rw [em]; exact c2)
  generalize PySem.W.sortVals (PySem.W.dataKind (PySem.W.sortingHeap (h'.push (seqObj "list" acc.toList.toArray 0)) h'.objs.size acc.toList) ((vs.zip (kvs.map Prod.fst)).map fun b => dOf b.2)) false acc.toList acc.toList = out at eo ⊢
  have rv2 := each_vals eo
  have es2 : ((vs.zip (kvs.map Prod.fst)).mergeSort (PySem.W.dataLe false fun b => dOf b.2)).map Prod.snd = (kvs.map Prod.fst).mergeSort leP := by
    have q := List.map_mergeSort (f := Prod.snd) (r := PySem.W.dataLe false fun b : V × PV => dOf b.2) (s := leP) (l := vs.zip (kvs.map Prod.fst)) (fun a _ b _ => rfl)
    rw [q, z2]
  have rs : Rls X.K H (((vs.zip (kvs.map Prod.fst)).mergeSort (PySem.W.dataLe false fun b => dOf b.2)).map Prod.fst) ((kvs.map Prod.fst).mergeSort leP) := by
    rw [← es2]
    exact rls_pairs fun b hb => (z3 b (List.mem_mergeSort.mp hb)).1
  have hlen : (((vs.zip (kvs.map Prod.fst)).mergeSort (PySem.W.dataLe false fun b => dOf b.2)).map Prod.fst).length ≤ sizeLine := by
    rw [List.length_map, List.length_mergeSort, el]; exact hz
  obtain ⟨e', he'⟩ := PyProof.Rows.sortedHeap_at (vs := acc.toList) (out := out.toArray) hoL
  refine wpAny_pure ⟨_, rfl, .ref h'.objs.size, _, I1.laid (t' := tk) (o := .lst (((vs.zip (kvs.map Prod.fst)).mergeSort (PySem.W.dataLe false fun b => dOf b.2)).map Prod.fst)) (fun b u e => ?_) (Nat.le_refl _) ⟨hlen, out, e', rv2, he'⟩, rfl, q _ _ rs (I1.hok.fresh (Nat.le_refl _))⟩
  have hb : b < h'.objs.size := Heap.lt_size e
  rw [PyProof.Rows.sortedHeap_old (Nat.ne_of_lt hb) (by rw [size_push']; exact Nat.lt_succ_of_lt hb)]
  exact Heap.get?_push_of_some _ e
end
end Mp

set_option Elab.async false
set_option linter.all false
set_option maxRecDepth 100000
namespace Mp
open PySem PySem.Spec PyProof.Rows L2

section
variable {X : Cx} {T : List (Addr × Str)} {W : WX} {e a b o f tg : Expr} {es : List Expr} {K : PySem.W.Frag} {S S' S0 S1 : Sto} {H H' H0 H1 : Hp} {σ : L2.St} {τ : PSt} {PD : PEnds} {D : Ends} {pos p apos cpos : Pos} {q : QTA}
/-! ### list(x), sorted(x), len(x) of lists and dicts -/
theorem list_cases {x : PV} {P : QK (List PV)} (hp : match x with
    | .ref c => match dicAt S c with
      | some (_, kvs) => P (kvs.map Prod.fst) S
      | none => match seqOf x S with
        | some xs => P xs S
        | none => False
    | _ => match seqOf x S with
      | some xs => P xs S
      | none => False) : (∃ xs, seqOf x S = some xs ∧ P xs S) ∨ ∃ c t kvs, x = .ref c ∧ dicAt S c = some (t, kvs) ∧ P (kvs.map Prod.fst) S := by
  have old : (match seqOf x S with | some xs => P xs S | none => False) → ∃ xs, seqOf x S = some xs ∧ P xs S := fun hp => by
    cases z : seqOf x S with
    | none => rw [z] at hp; exact hp.elim
    | some xs => rw [z] at hp; exact ⟨xs, rfl, hp⟩
  cases x with
  | ref c =>
    simp only at hp
    cases z : dicAt S c with
    | none => rw [z] at hp; exact .inl (old hp)
    | some tk => rw [z] at hp; exact .inr ⟨c, tk.1, tk.2, rfl, z, hp⟩
  | _ => exact .inl (old hp)
theorem ql_listD {q : QTE} (hc : X.calm = true) (hg : Gl X "list") (hm : X.mg "list" = none) (ha : QE X T W e q) (he : starEach [e] X.env = [(false, eval e X.env)] := by rfl) : QL X T W (.Call (.Name "list" p) [e] [] pos) (qListD q) :=
  pe_imp (pe_callTy (CallR.or call_list_of (cr_listD hc)) hg hm (by decide +kernel) (pa_cons ha pa_nil he) (he := he)) fun σ H Q ⟨τ, S, P, EP, h1, h2, h3, h4, h5⟩ =>
    ⟨τ, S, _, EP, h1, h2, h3, fun v x H1 S1 fr rl rep hp => by
      rcases list_cases hp with ⟨xs, z, hp⟩ | ⟨c, t, kvs, rfl, z, hp⟩
      · obtain ⟨a, us, e1, s, t⟩ := seq_of rl rep z
        subst e1
        exact .inl ⟨a, us, rfl, s, fun n hn => h4 n us xs _ S1 (fr.trans (Fr.hid hn)) upd_same (rep.free hn) (Nu.of fr hn) (Rls.mono (le_new hn) _ _ t) (rep.hid hn) hp⟩
      · obtain ⟨u, rd, d⟩ := dicAt_rd rep z
        have e1 : v = .ref c := rl
        subst e1
        exact .inr ⟨c, u, t, kvs, rfl, rd, d, fun vs n rvs hn => h4 n vs _ _ S1 (fr.trans (Fr.hid hn)) upd_same (rep.free hn) (Nu.of fr hn) (Rls.mono (le_new hn) _ _ rvs) (rep.hid hn) hp⟩, h5⟩
def sortQ (x : SH) (S : Sto) (P : QK (List PV)) : Prop := match x with
  | .val (.ref c) => match dicAt S c with
    | some (_, kvs) => sortC (kvs.map Prod.fst) ∧ P ((kvs.map Prod.fst).mergeSort leP) S
    | none => match x.its S with
      | some xs => (x.tup = false ∧ sortC xs) ∧ P (xs.mergeSort leP) S
      | none => False
  | _ => match x.its S with
    | some xs => (x.tup = false ∧ sortC xs) ∧ P (xs.mergeSort leP) S
    | none => False
def qSortedA (qa : QTH) : QTA := fun τ S P EP => qa τ S (fun x S1 => sortQ x S1 P) EP
theorem sort_cases {x : SH} {P : QK (List PV)} (hp : sortQ x S P) : (∃ xs, x.its S = some xs ∧ (x.tup = false ∧ sortC xs) ∧ P (xs.mergeSort leP) S) ∨ ∃ c t kvs, x = .val (.ref c) ∧ dicAt S c = some (t, kvs) ∧ sortC (kvs.map Prod.fst) ∧ P ((kvs.map Prod.fst).mergeSort leP) S := by
  have old : (match x.its S with | some xs => (x.tup = false ∧ sortC xs) ∧ P (xs.mergeSort leP) S | none => False) → ∃ xs, x.its S = some xs ∧ (x.tup = false ∧ sortC xs) ∧ P (xs.mergeSort leP) S := fun hp => by
    cases z : x.its S with
    | none => rw [z] at hp; exact hp.elim
    | some xs => rw [z] at hp; exact ⟨xs, rfl, hp⟩
  unfold sortQ at hp
  cases x with
  | hid _ _ => exact .inl (old hp)
  | val y =>
    cases y with
    | ref c =>
      simp only at hp
      cases z : dicAt S c with
      | none => rw [z] at hp; exact .inl (old hp)
      | some tk => rw [z] at hp; exact .inr ⟨c, tk.1, tk.2, rfl, z, hp⟩
    | _ => exact .inl (old hp)
theorem ql_sortedA {qa : QTH} (hc : X.calm = true) (hu : X.A.units + 64 < cLine) (hg : Gl X "sorted") (hm : X.mg "sorted" = none) (ha : QH X T W e qa) (he : starEach [e] X.env = [(false, eval e X.env)] := by rfl) : QL X T W (.Call (.Name "sorted" p) [e] [] pos) (qSortedA qa) :=
  pe_imp (pe_callB (CallR.or (cr_sortP (T := T) hu) (cr_sortD (T := T) hc hu)) hg hm (by decide +kernel) (pa_cons ha pa_nil he) (he := he)) fun σ H Q ⟨τ, S, P, EP, h1, h2, h3, h4, h5⟩ =>
    ⟨τ, S, _, EP, h1, h2, h3, fun v x H1 S1 fr rl rep hp => by
      rcases sort_cases hp with ⟨xs, z, ⟨nt, c1, c2, c3, c4⟩, hp⟩ | ⟨c, t, kvs, rfl, z, hs, hp⟩
      · obtain ⟨a, us, e1, s, t⟩ := rl.lst rep z nt
        subst e1
        obtain ⟨z1, z2, z3⟩ := rls_zip t
        have em : (us.zip xs).map (fun b => dOf b.2) = xs.map dOf := by
          conv => rhs; rw [← z2]
          rw [List.map_map]; rfl
        refine .inl ⟨a, us.zip xs, rfl, by rw [z1]; exact s, fun b hb => ⟨(z3 b hb).1, c1 _ (z3 b hb).2⟩, by rw [em]; exact c2, by rw [em]; exact c3, ?_, fun n hn => ?_⟩
        · have e : (us.zip xs).length = xs.length := by rw [← List.length_map (f := Prod.snd), z2]
          rw [e]; exact c4
        · have es : ((us.zip xs).mergeSort (PySem.W.dataLe false fun b => dOf b.2)).map Prod.snd = xs.mergeSort leP := by
            have q := List.map_mergeSort (f := Prod.snd) (r := PySem.W.dataLe false fun b : V × PV => dOf b.2) (s := leP) (l := us.zip xs) (fun a _ b _ => rfl)
            rw [q, z2]
          have rs : Rls X.K H1 (((us.zip xs).mergeSort (PySem.W.dataLe false fun b => dOf b.2)).map Prod.fst) (xs.mergeSort leP) := by
            rw [← es]
            exact rls_pairs fun b hb => (z3 b (List.mem_mergeSort.mp hb)).1
          exact h4 n _ _ _ S1 (fr.trans (Fr.hid hn)) upd_same (rep.free hn) (Nu.of fr hn) (Rls.mono (le_new hn) _ _ rs) (rep.hid hn) hp
      · obtain ⟨u, rd, d⟩ := dicAt_rd rep z
        have e1 : v = .ref c := rl
        subst e1
        exact .inr ⟨c, u, t, kvs, rfl, rd, d, hs, fun vs n rvs hn => h4 n vs _ _ S1 (fr.trans (Fr.hid hn)) upd_same (rep.free hn) (Nu.of fr hn) (Rls.mono (le_new hn) _ _ rvs) (rep.hid hn) hp⟩, h5⟩
def rLenD (K : PySem.W.Frag) : List V → Hp → VK → Prop := fun xs H Q => ∃ (c : Addr) (u : HO) (t : Bool) (kvs : List (PV × PV)), xs = [.ref c] ∧ Rd H c u ∧ DRel K H t u kvs ∧ Q (.int ((kvs.length : Nat) : Int)) H
theorem cr_lenD : CallR X (.builtin "len") (rLenD X.K) := by
  intro pins s σ H xs us Q I r h
  obtain ⟨c, u, t, kvs, rfl, rd, d, q⟩ := h
  obtain ⟨w, rfl, rx⟩ := r.one
  cases rx
  have z63 := line63
  cases t with
  | false =>
    obtain ⟨ks, rfl, e, r⟩ := d
    have len : ks.length = kvs.length := by simpa using congrArg List.length e
    exact d_len I rd fun t s' I' => ⟨.int ((ks.length : Nat) : Int), H, I', ⟨t, rfl⟩, by rw [len]; exact q⟩
  | true =>
    obtain ⟨ks, rfl, e, r⟩ := d
    have len : ks.length = kvs.length := by simpa using congrArg List.length e
    obtain ⟨z, hd, ys, rel, dd⟩ := dt_rd I.hok rd
    have hl : ks.length = ys.length := Paired.length rel
    refine call_len_dictH hd dd (by omega) ⟨.int ((ys.length : Nat) : Int), H, I.tok _, ⟨_, rfl⟩, ?_⟩
    rw [← hl, len]; exact q
def fLenA : FCal := fun ps S P => match ps with
  | [.ref c] => match dicAt S c with
    | some (_, kvs) => P (.int kvs.length) S
    | none => fLen ps S P
  | _ => fLen ps S P
theorem cq_lenA : CalQ K T (fun xs H Q => (∃ x n, xs = [x] ∧ LenV K x H n ∧ Q (.int n) H) ∨ rLenD K xs H Q) fLenA := fun vs ps H S P Q rl rep h k => by
  have old : fLen ps S P → (∃ x n, vs = [x] ∧ LenV K x H n ∧ Q (.int n) H) ∨ rLenD K vs H Q := fun h => .inl (cq_len vs ps H S P Q rl rep h k)
  unfold fLenA at h
  split at h
  · rename_i c
    cases z : dicAt S c with
    | none => rw [z] at h; exact old h
    | some tk =>
      obtain ⟨t, kvs⟩ := tk
      rw [z] at h
      obtain ⟨u, rd, d⟩ := dicAt_rd rep z
      obtain ⟨v, w, e1, h1, h2⟩ := rl
      have h1 : v = .ref c := h1
      have h2 : w = [] := h2
      subst e1; subst h1; subst h2
      exact .inr ⟨c, u, t, kvs, rfl, rd, d, k (.int _) (.int _) H S Fr.refl rfl rep h⟩
  · exact old h
/-! ### all(a new list), any -/
def allP : List PV → Option Bool
  | [] => some true
  | .bl c :: r => match allP r with
    | some d => some (c && d)
    | none => none
  | _ => none
def anyP : List PV → Option Bool
  | [] => some false
  | .bl c :: r => match anyP r with
    | some d => some (c || d)
    | none => none
  | _ => none
theorem allP_map {α : Type} (g : α → Bool) : ∀ l : List α, allP (l.map fun a => PV.bl (g a)) = some (l.all g)
  | [] => rfl
  | a :: l => by
    show (match allP (l.map fun a => PV.bl (g a)) with | some d => some (g a && d) | none => none) = _
    rw [allP_map g l]; rfl
theorem anyP_map {α : Type} (g : α → Bool) : ∀ l : List α, anyP (l.map fun a => PV.bl (g a)) = some (l.any g)
  | [] => rfl
  | a :: l => by
    show (match anyP (l.map fun a => PV.bl (g a)) with | some d => some (g a || d) | none => none) = _
    rw [anyP_map g l]; rfl
theorem all_rl : ∀ {xs : List PV} {vs : List V} {c : Bool}, Rls K H vs xs → allP xs = some c → ∃ bs : List Bool, vs = bs.map V.bl ∧ bs.all id = c
  | [], vs, c, r, h => by
    cases h
    exact ⟨[], r, rfl⟩
  | .bl b :: xs, vs, c, ⟨v, w, e, r1, r2⟩, h => by
    unfold allP at h
    cases z : allP xs with
    | none => rw [z] at h; cases h
    | some d =>
      rw [z] at h; cases h
      obtain ⟨bs, e1, e2⟩ := all_rl r2 z
      have r1 : v = .bl b := r1
      exact ⟨b :: bs, by rw [e, r1, e1]; rfl, by rw [List.all_cons, e2]; rfl⟩
  | .non :: _, _, _, _, h => by cases h
  | .int _ :: _, _, _, _, h => by cases h
  | .str _ :: _, _, _, _, h => by cases h
  | .tup _ :: _, _, _, _, h => by cases h
  | .ref _ :: _, _, _, _, h => by cases h
  | .ty _ :: _, _, _, _, h => by cases h
  | .lsv _ :: _, _, _, _, h => by cases h
  | .exv _ _ _ _ _ :: _, _, _, _, h => by cases h
  | .lam _ _ _ _ _ :: _, _, _, _, h => by cases h
  | .ktp _ :: _, _, _, _, h => by cases h
theorem any_rl : ∀ {xs : List PV} {vs : List V} {c : Bool}, Rls K H vs xs → anyP xs = some c → ∃ bs : List Bool, vs = bs.map V.bl ∧ bs.any id = c
  | [], vs, c, r, h => by
    cases h
    exact ⟨[], r, rfl⟩
  | .bl b :: xs, vs, c, ⟨v, w, e, r1, r2⟩, h => by
    unfold anyP at h
    cases z : anyP xs with
    | none => rw [z] at h; cases h
    | some d =>
      rw [z] at h; cases h
      obtain ⟨bs, e1, e2⟩ := any_rl r2 z
      have r1 : v = .bl b := r1
      exact ⟨b :: bs, by rw [e, r1, e1]; rfl, by rw [List.any_cons, e2]; rfl⟩
  | .non :: _, _, _, _, h => by cases h
  | .int _ :: _, _, _, _, h => by cases h
  | .str _ :: _, _, _, _, h => by cases h
  | .tup _ :: _, _, _, _, h => by cases h
  | .ref _ :: _, _, _, _, h => by cases h
  | .ty _ :: _, _, _, _, h => by cases h
  | .lsv _ :: _, _, _, _, h => by cases h
  | .exv _ _ _ _ _ :: _, _, _, _, h => by cases h
  | .lam _ _ _ _ _ :: _, _, _, _, h => by cases h
  | .ktp _ :: _, _, _, _, h => by cases h
def qAllL (q : QTA) : QTE := fun τ S P EP => q τ S (fun xs S1 => match allP xs with
  | some c => P (.bl c) S1
  | none => False) EP
def qAnyL (q : QTA) : QTE := fun τ S P EP => q τ S (fun xs S1 => match anyP xs with
  | some c => P (.bl c) S1
  | none => False) EP
theorem q_allL (hc : X.calm = true) (hg : Gl X "all") (hm : X.mg "all" = none) (ha : QL X T W e q) (he : starEach [e] X.env = [(false, eval e X.env)] := by rfl) : QE X T W (.Call (.Name "all" p) [e] [] pos) (qAllL q) :=
  pe_imp (pe_callB (cr_all hc) hg hm (by decide +kernel) (pa_cons ha pa_nil he) (he := he)) fun σ H Q ⟨τ, S, P, EP, h1, h2, h3, h4, h5⟩ =>
    ⟨τ, S, _, EP, h1, h2, h3, fun a vs ps H1 S1 fr g n nu rl rep hp => by
      cases z : allP ps with
      | none => rw [z] at hp; exact hp.elim
      | some c =>
        rw [z] at hp
        obtain ⟨bs, rfl, rfl⟩ := all_rl rl z
        exact ⟨a, bs, rfl, SqL.of g, h4 (.bl _) (.bl _) H1 S1 fr rfl rep hp⟩, h5⟩
theorem q_anyL (hc : X.calm = true) (hg : Gl X "any") (hm : X.mg "any" = none) (ha : QL X T W e q) (he : starEach [e] X.env = [(false, eval e X.env)] := by rfl) : QE X T W (.Call (.Name "any" p) [e] [] pos) (qAnyL q) :=
  pe_imp (pe_callB (cr_any hc) hg hm (by decide +kernel) (pa_cons ha pa_nil he) (he := he)) fun σ H Q ⟨τ, S, P, EP, h1, h2, h3, h4, h5⟩ =>
    ⟨τ, S, _, EP, h1, h2, h3, fun a vs ps H1 S1 fr g n nu rl rep hp => by
      cases z : anyP ps with
      | none => rw [z] at hp; exact hp.elim
      | some c =>
        rw [z] at hp
        obtain ⟨bs, rfl, rfl⟩ := any_rl rl z
        exact ⟨a, bs, rfl, SqL.of g, h4 (.bl _) (.bl _) H1 S1 fr rfl rep hp⟩, h5⟩
/-! ### d.get(k), d.get(k, x) -/
def fGet (x y : PV) (z : PV) (S : Sto) (P : QK PV) : Prop := match x with
  | .ref c => match dicAt S c with
    | some (t, kvs) => match kOk t y with
      | true => match valP kvs y with
        | some w => P w S
        | none => P z S
      | false => False
    | none => False
  | _ => False
def qGet1 (qd qk : QTE) : QTE := fun τ S P EP => qd τ S (fun x S1 => match x with
  | .ref c => (dicAt S1 c).isSome = true ∧ qk τ S1 (fun y S2 => fGet x y .non S2 P) EP
  | _ => False) EP
def qGet2 (qd qk qx : QTE) : QTE := fun τ S P EP => qd τ S (fun x S1 => match x with
  | .ref c => (dicAt S1 c).isSome = true ∧ qk τ S1 (fun y S2 => qx τ S2 (fun z S3 => fGet x y z S3 P) EP) EP
  | _ => False) EP
theorem isD_of (rep : Rep K T S H) {c : Addr} (h : (dicAt S c).isSome = true) : IsD H c := by
  obtain ⟨⟨t, kvs⟩, z⟩ := Option.isSome_iff_exists.mp h
  obtain ⟨u, rd, d⟩ := dicAt_rd rep z
  cases t with
  | false => obtain ⟨ks, rfl, _⟩ := d; exact .inl ⟨ks, rd⟩
  | true => obtain ⟨ks, rfl, _⟩ := d; exact .inr ⟨ks, rd⟩
theorem get_of {c : Addr} {y z : PV} {w w2 : V} {P : QK PV} {Q : VK} (rep : Rep K T S H) (h : fGet (.ref c) y z S P) (r1 : Rl K H w y) (r2 : Rl K H w2 z) (k : ∀ v p H' S', Fr S H S' H' → Rl K H' v p → Rep K T S' H' → P p S' → Q v H') :
    ∃ o, DGet H c w o ∧ Q (o.getD w2) H := by
  unfold fGet at h
  simp only at h
  cases zd : dicAt S c with
  | none => rw [zd] at h; exact h.elim
  | some tk =>
    obtain ⟨t, kvs⟩ := tk
    rw [zd] at h
    simp only at h
    cases zk : kOk t y with
    | false => rw [zk] at h; exact h.elim
    | true =>
      rw [zk] at h
      simp only at h
      obtain ⟨u, rd, d⟩ := dicAt_rd rep zd
      obtain ⟨o, g, h1, h2⟩ := dget_of rd d zk r1
      cases zv : valP kvs y with
      | none =>
        rw [zv] at h
        rw [h2 zv] at g
        exact ⟨none, g, k w2 z H S Fr.refl r2 rep h⟩
      | some x =>
        rw [zv] at h
        obtain ⟨v, rfl, rv⟩ := h1 x zv
        exact ⟨some v, g, k v x H S Fr.refl rv rep h⟩
theorem q_get1 {qd qk : QTE} (hu : X.A.units + 1 < cLine) (hd : QE X T W o qd) (hk : QE X T W e qk) (m : M1 X o "get" apos e cpos := by exact ⟨rfl, rfl, rfl, rfl⟩) : QE X T W (.Call (.Attribute o "get" apos) [e] [] cpos) (qGet1 qd qk) :=
  pe_imp (pe_dget1 hu hd hk m) fun σ H Q h => up_then (RR := Rl X.K) (RR' := Rl X.K) (qk := fun x τ S1 P EP => match x with
    | .ref c => (dicAt S1 c).isSome = true ∧ qk τ S1 (fun y S2 => fGet x y .non S2 P) EP
    | _ => False) h fun v x H1 l rl ⟨τ, S, P, EP, rs, rep, hf, k, kx⟩ => by
    cases x with
    | ref c =>
      have e1 : v = .ref c := rl
      subst e1
      refine ⟨c, rfl, isD_of rep hf.1, τ, S, _, EP, rs, rep, hf.2, fun w y H2 S2 fr2 r2 rep2 h2 => ?_, kx⟩
      exact get_of (w2 := .non) (z := .non) rep2 h2 r2 rfl fun v p H' S' f => k v p H' S' (fr2.trans f)
    | _ => exact hf.elim
theorem q_get2 {qd qk qx : QTE} (hu : X.A.units + 1 < cLine) (hd : QE X T W o qd) (hk : QE X T W e qk) (hx : QE X T W f qx) (m : M2 X o "get" apos e f cpos := by exact ⟨rfl, rfl, rfl, rfl⟩) : QE X T W (.Call (.Attribute o "get" apos) [e, f] [] cpos) (qGet2 qd qk qx) :=
  pe_imp (pe_dget2 hu hd hk hx m) fun σ H Q h => up_then (RR := Rl X.K) (RR' := Rl X.K) (qk := fun x τ S1 P EP => match x with
    | .ref c => (dicAt S1 c).isSome = true ∧ qk τ S1 (fun y S2 => qx τ S2 (fun z S3 => fGet x y z S3 P) EP) EP
    | _ => False) h fun v x H1 l rl ⟨τ, S, P, EP, rs, rep, hf, k, kx⟩ => by
    cases x with
    | ref c =>
      have e1 : v = .ref c := rl
      subst e1
      refine ⟨c, rfl, isD_of rep hf.1, τ, S, _, EP, rs, rep, hf.2, fun w y H2 S2 fr2 r2 rep2 h2 => ?_, kx⟩
      refine ⟨τ, S2, _, EP, rs.mono (fr2.le rep), rep2, h2, fun w3 z H3 S3 fr3 r3 rep3 h3 => ?_, fun c d x H' S' f => kx c d x H' S' (fr2.trans f)⟩
      exact get_of rep3 h3 (Rl.mono (fr3.le rep2) _ _ r2) r3 fun v p H' S' f => k v p H' S' ((fr2.trans fr3).trans f)
    | _ => exact hf.elim
end
end Mp

set_option Elab.async false
set_option linter.all false
set_option maxRecDepth 100000
namespace Mp
open PySem PySem.Spec PyProof.Rows L2

section
variable {X : Cx} {T : List (Addr × Str)} {W : WX} {e a b o f tg : Expr} {es : List Expr} {K : PySem.W.Frag} {S S' S0 S1 : Sto} {H H' H0 H1 : Hp} {σ : L2.St} {τ : PSt} {PD : PEnds} {D : Ends} {pos p apos cpos : Pos} {q : QTA}
/-! ### a dict is locked while it is walked -/
theorem DRel.nosq {t : Bool} {u : HO} {kvs : List (PV × PV)} (h : DRel K H t u kvs) : ¬ SqO u := by
  cases t with
  | false => obtain ⟨ks, rfl, _⟩ := h; exact id
  | true => obtain ⟨ks, rfl, _⟩ := h; exact id
theorem DRel.mut {t : Bool} {u : HO} {kvs : List (PV × PV)} (h : DRel K H t u kvs) : Mut (some u) := by
  cases t with
  | false => obtain ⟨ks, rfl, _⟩ := h; trivial
  | true => obtain ⟨ks, rfl, _⟩ := h; trivial
theorem le_unl {c : Addr} {od : Obj} {u u' : HO} (e : H c = some (.frz od u)) (n : ¬ SqO u) : Le H (upd H c u') :=
  ⟨fun b _ q => by rw [upd_ne (ne_of q e fun z => nomatch z)]; exact q, fun b ob x q sq => by
    by_cases hb : b = c
    · subst hb; rw [e] at q; cases q; exact absurd sq n
    · rw [upd_ne hb]; exact q, fun b _ q => by rw [upd_ne (ne_of q e fun z => nomatch z)]; exact q, fun b _ q => by
    rw [upd_ne (ne_of q e fun z => by unfold LamX.CodeO at z; cases z)]; exact q⟩
theorem tabs_unl {c : Addr} {od : Obj} {u u' : HO} (t : LamX.Tabs T H) (e : H c = some (.frz od u)) : LamX.Tabs T (upd H c u') := fun p hp => by
  obtain ⟨ps, h1, h2, h3⟩ := t p hp
  have n1 : p.1 ≠ c := ne_of h1 e fun z => nomatch z
  refine ⟨ps, by rw [upd_ne n1]; exact h1, h2, fun pos cv hc => ?_⟩
  obtain ⟨cc, e1, e2⟩ := h3 pos cv hc
  have n2 : cc ≠ c := ne_of e2 e fun z => by
    unfold LamX.CodeO at z
    cases z
  exact ⟨cc, e1, by rw [upd_ne n2]; exact e2⟩
theorem Rep.unl {c : Addr} {od : Obj} {u : HO} {t : Bool} {kvs : List (PV × PV)} (r : Rep K T S H) (e : H c = some (.frz od u)) (d : DRel K H t u kvs) : Rep K T (put S c (.dic t kvs)) (upd H c u) := by
  have le : Le H (upd H c u) := le_unl e d.nosq
  refine ⟨fun b ob q => ?_, tabs_unl r.tb e⟩
  by_cases hb : b = c
  · subst hb; rw [put_same] at q; cases q; exact ⟨u, upd_same, d.mono le⟩
  · rw [put_ne hb] at q
    exact (r.ob b ob q).mono le (upd_ne hb)
theorem Fr.unl {c : Addr} {ob ob2 : Ob} {u : HO} (x : Fr S H S' H') (h : S c = some ob) (nf : Nf ob) : Fr S H (put S' c ob2) (upd H' c u) := fun b o e t n => by
  have hb : b ≠ c := fun z => by
    rw [z] at n
    rcases n with n | ⟨_, _, n⟩
    · rw [h] at n; cases n
    · rw [h] at n; cases n; exact nf
  obtain ⟨e1, n1, z1⟩ := x b o e t n
  refine ⟨by rw [upd_ne hb]; exact e1, ?_, fun z => by rw [put_ne hb]; exact z1 z⟩
  unfold Fz
  rw [put_ne hb]; exact n1
structure Lk (K : PySem.W.Frag) (T : List (Addr × Str)) (S : Sto) (H : Hp) (c : Addr) (t : Bool) (kvs : List (PV × PV)) (u : HO) : Prop where
  e : H c = some u
  d : DRel K H t u kvs
theorem lk_of (rep : Rep K T S H) {c : Addr} {t : Bool} {kvs : List (PV × PV)} (h : S c = some (.dic t kvs)) : ∃ u, H c = some u ∧ DRel K H t u kvs := rep.ob c _ h
/-- within: the store with the locked dict -/
theorem lk_in (rep : Rep K T S H) {c : Addr} {t : Bool} {kvs : List (PV × PV)} {u : HO} (h : S c = some (.dic t kvs)) (e : H c = some u) (d : DRel K H t u kvs) (od : Obj) :
    Fr S H (put S c (.fdi t kvs)) (upd H c (.frz od u)) ∧ Rep K T (put S c (.fdi t kvs)) (upd H c (.frz od u)) ∧ Le H (upd H c (.frz od u)) :=
  ⟨Fr.wr h, rep.wr h fun le => ⟨od, u, upd_same, d.mono le⟩, le_chg e d.chg⟩
/-- behind -/
theorem lk_out {c : Addr} {t : Bool} {kvs : List (PV × PV)} {u : HO} {od : Obj} (rep : Rep K T S H) (h : S c = some (.dic t kvs)) (e : H c = some u) (d : DRel K H t u kvs)
    (fr : Fr (put S c (.fdi t kvs)) (upd H c (.frz od u)) S' H') (rep' : Rep K T S' H') : H' c = some (.frz od u) ∧ Fr S H (put S' c (.dic t kvs)) (upd H' c u) ∧ Rep K T (put S' c (.dic t kvs)) (upd H' c u) ∧ Le H' (upd H' c u) := by
  obtain ⟨f1, r1, l1⟩ := lk_in rep h e d od
  obtain ⟨e', _, _⟩ := fr c _ upd_same (fun _ z => nomatch z) (.inr ⟨t, kvs, put_same⟩)
  have le := (f1.trans fr).le rep
  exact ⟨e', (f1.trans fr).unl h trivial, rep'.unl e' (d.mono le), le_unl e' d.nosq⟩
def lockD (c : Addr) (t : Bool) (kvs : List (PV × PV)) (D : PEnds) : PEnds :=
  { nx := fun τ S => S c = some (.fdi t kvs) ∧ D.nx τ (put S c (.dic t kvs)), rt := fun v S => S c = some (.fdi t kvs) ∧ D.rt v (put S c (.dic t kvs)), bk := fun τ S => S c = some (.fdi t kvs) ∧ D.bk τ (put S c (.dic t kvs)), ct := fun τ S => S c = some (.fdi t kvs) ∧ D.ct τ (put S c (.dic t kvs)), ex := D.ex }
/-- a statement, while the dict at c is locked -/
def qLock (q : QTS) : QTS := fun D τ S => ∃ c t kvs, S c = some (.dic t kvs) ∧ q (lockD c t kvs D) τ (put S c (.fdi t kvs))
theorem qs_lock {st : Stmt} {q : QTS} (h : QS X T W st q) : QS X T W st (qLock q) :=
  ps_imp (ps_lock h) fun D σ H ⟨τ, S, PD, r, rep, ⟨c, t, kvs, hc, hq⟩, con⟩ => by
    obtain ⟨u, e, d⟩ := lk_of rep hc
    refine ⟨c, u, e, d.mut, fun od => ?_⟩
    obtain ⟨f1, r1, l1⟩ := lk_in rep hc e d od
    refine ⟨τ, _, _, r.mono l1, r1, hq, ⟨fun σ' τ' H' S' fr rs rp z => ?_, fun v p H' S' fr rl rp z => ?_, fun σ' τ' H' S' fr rs rp z => ?_, fun σ' τ' H' S' fr rs rp z => ?_, fun cc d x σ' τ' H' S' fr rs xr rp z => con.ex cc d x σ' τ' H' S' (f1.trans fr) rs xr rp z⟩⟩
    · obtain ⟨e', fr2, rp2, l2⟩ := lk_out rep hc e d fr rp
      exact ⟨e', con.nx σ' τ' _ _ fr2 (rs.mono l2) rp2 z.2⟩
    · obtain ⟨e', fr2, rp2, l2⟩ := lk_out rep hc e d fr rp
      exact ⟨e', con.rt v p _ _ fr2 (Rl.mono l2 _ _ rl) rp2 z.2⟩
    · obtain ⟨e', fr2, rp2, l2⟩ := lk_out rep hc e d fr rp
      exact ⟨e', con.bk σ' τ' _ _ fr2 (rs.mono l2) rp2 z.2⟩
    · obtain ⟨e', fr2, rp2, l2⟩ := lk_out rep hc e d fr rp
      exact ⟨e', con.ct σ' τ' _ _ fr2 (rs.mono l2) rp2 z.2⟩
/-- a new list, while the dict at c is locked -/
def qLockL (q : QTA) : QTA := fun τ S P EP => ∃ c t kvs, S c = some (.dic t kvs) ∧ q τ (put S c (.fdi t kvs)) (fun xs S' => S' c = some (.fdi t kvs) ∧ P xs (put S' c (.dic t kvs))) EP
theorem ql_lock {q : QTA} (h : QL X T W e q) : QL X T W e (qLockL q) :=
  pe_imp (pe_lock h) fun σ H Q ⟨τ, S, P, EP, rs, rep, ⟨c, t, kvs, hc, hq⟩, k, kx⟩ => by
    obtain ⟨u, e, d⟩ := lk_of rep hc
    refine ⟨c, u, e, d.mut, fun od => ?_⟩
    obtain ⟨f1, r1, l1⟩ := lk_in rep hc e d od
    refine ⟨τ, _, _, EP, rs.mono l1, r1, hq, fun a vs ps H' S' fr e3 n3 nu rl rp z => ?_, fun cc d x H' S' fr xr rp z => kx cc d x H' S' (f1.trans fr) xr rp z⟩
    obtain ⟨e', fr2, rp2, l2⟩ := lk_out rep hc e d fr rp
    have hac : a ≠ c := fun z1 => by subst z1; rw [z.1] at n3; cases n3
    exact ⟨e', k a vs ps _ _ fr2 (by rw [upd_ne hac]; exact e3) (by rw [put_ne hac]; exact n3) (Nu.back f1 nu) (Rls.mono l2 _ _ rl) rp2 z.2⟩
/-- a value, while the dict at c is locked -/
def qLockE (q : QTE) : QTE := fun τ S P EP => ∃ c t kvs, S c = some (.dic t kvs) ∧ q τ (put S c (.fdi t kvs)) (fun x S' => S' c = some (.fdi t kvs) ∧ P x (put S' c (.dic t kvs))) EP
theorem q_lock {q : QTE} (h : QE X T W e q) : QE X T W e (qLockE q) :=
  pe_imp (pe_lock h) fun σ H Q ⟨τ, S, P, EP, rs, rep, ⟨c, t, kvs, hc, hq⟩, k, kx⟩ => by
    obtain ⟨u, e, d⟩ := lk_of rep hc
    refine ⟨c, u, e, d.mut, fun od => ?_⟩
    obtain ⟨f1, r1, l1⟩ := lk_in rep hc e d od
    refine ⟨τ, _, _, EP, rs.mono l1, r1, hq, fun v p H' S' fr rl rp z => ?_, fun cc d x H' S' fr xr rp z => kx cc d x H' S' (f1.trans fr) xr rp z⟩
    obtain ⟨e', fr2, rp2, l2⟩ := lk_out rep hc e d fr rp
    exact ⟨e', k v p _ _ fr2 (Rl.mono l2 _ _ rl) rp2 z.2⟩
/-! ### the keys of a locked dict -/
theorem walkP_keys {c : Addr} {od : Obj} {ks : List (Key × V)} {kvs : List (PV × PV)} (h0 : H0 c = some (.frz od (.dK ks))) (hS : S0 c = some (.fdi false kvs)) (e : ks.map (fun x => kP x.1) = kvs.map Prod.fst) :
    WalkP K T (Itk c od ks) ⟨kvs.map Prod.fst, fun S => S c = some (.fdi false kvs)⟩ S0 H0 := fun S H fr rep kp => by
  obtain ⟨hH, _, _⟩ := fr c _ h0 (fun _ z => nomatch z) (.inr ⟨_, _, hS⟩)
  have len : ks.length = kvs.length := by simpa using congrArg List.length e
  refine ⟨⟨hH, by show ks.length ≤ (kvs.map Prod.fst).length; rw [List.length_map]; omega⟩, fun i p hp => ?_⟩
  have hi : i < ks.length := by
    have := (List.getElem?_eq_some_iff.mp hp).1
    rw [List.length_map] at this; omega
  refine ⟨⟨hH, hi⟩, fun x H' y => ?_⟩
  obtain ⟨rfl, k, v, h1, h2⟩ := y
  refine ⟨Fr.refl, rep, ?_⟩
  have hp : (kvs.map Prod.fst)[i]? = some p := hp
  rw [← e, List.getElem?_map, h1] at hp
  cases hp
  rw [h2]
  cases k with
  | inl i => exact rfl
  | inr z => exact rfl
theorem walkP_keysT {c : Addr} {od : Obj} {ks : List (List Key × V)} {kvs : List (PV × PV)} (h0 : H0 c = some (.frz od (.dT ks))) (hS : S0 c = some (.fdi true kvs)) (e : ks.map (fun x => PV.tup (x.1.map kP)) = kvs.map Prod.fst) :
    WalkP K T (Itkt c od ks) ⟨kvs.map Prod.fst, fun S => S c = some (.fdi true kvs)⟩ S0 H0 := fun S H fr rep kp => by
  obtain ⟨hH, _, _⟩ := fr c _ h0 (fun _ z => nomatch z) (.inr ⟨_, _, hS⟩)
  have len : ks.length = kvs.length := by simpa using congrArg List.length e
  refine ⟨⟨hH, by show ks.length ≤ (kvs.map Prod.fst).length; rw [List.length_map]; omega⟩, fun i p hp => ?_⟩
  have hi : i < ks.length := by
    have := (List.getElem?_eq_some_iff.mp hp).1
    rw [List.length_map] at this; omega
  refine ⟨⟨hH, hi⟩, fun x H' y => ?_⟩
  obtain ⟨rfl, k, v, b, h1, h2, h3⟩ := y
  refine ⟨Fr.refl, rep, ?_⟩
  have hp : (kvs.map Prod.fst)[i]? = some p := hp
  rw [← e, List.getElem?_map, h1] at hp
  cases hp
  exact ⟨b, _, h2, h3, rls_map_kP _⟩
def qiD (q : QTE) : QTI := fun τ S P EP => q τ S (fun x S1 => match x with
  | .ref c => match S1 c with
    | some (.fdi t kvs) => P ⟨kvs.map Prod.fst, fun S => S c = some (.fdi t kvs)⟩ S1
    | _ => False
  | _ => False) EP
theorem qi_d {q : QTE} (h : QE X T W e q) : QI X T W tg e (qiD q) :=
  pi_imp (pi_keys h) fun σ H R ⟨τ, S, P, EP, rs, rep, hq, k, kx⟩ => by
    refine ⟨τ, S, _, EP, rs, rep, hq, fun v x H1 S1 fr rl rep1 hp => ?_, kx⟩
    cases x with
    | ref c =>
      have e1 : v = .ref c := rl
      subst e1
      simp only at hp
      cases z : S1 c with
      | none => rw [z] at hp; exact hp.elim
      | some ob =>
        rw [z] at hp
        cases ob with
        | fdi t kvs =>
          obtain ⟨od, u, e2, d⟩ := rep1.ob c _ z
          cases t with
          | false =>
            obtain ⟨ks, rfl, e3, _⟩ := d
            exact ⟨c, od, rfl, .inl ⟨ks, e2, k _ _ H1 S1 fr (walkP_keys e2 z e3) z rep1 hp⟩⟩
          | true =>
            obtain ⟨ks, rfl, e3, _⟩ := d
            exact ⟨c, od, rfl, .inr ⟨ks, e2, k _ _ H1 S1 fr (walkP_keysT e2 z e3) z rep1 hp⟩⟩
        | _ => exact hp.elim
    | _ => exact hp.elim
end
end Mp

set_option Elab.async false
set_option linter.all false
set_option maxRecDepth 100000
theorem L2.Fun.kbn {K : PySem.W.Frag} {x qual : PySem.Str} {st : PySem.Stmt} {f : PySem.Addr} {fd : PySem.FuncData} {ks : List PySem.Str} {m j : Nat} {ix : List Nat} (F : L2.Fun K x qual st f fd) (hj : ks.length = j)
    (h : ∀ (kV doc pm : PySem.Value) (an : Option PySem.Addr) (cdv ct : PySem.Value) (us ws : List PySem.Value), us.length = m → ws.length = j →
      PySem.bindArgs (PySem.W.fnOf x qual (L2.defArgs st) (L2.defBody st) (L2.defScope st) .none kV doc pm an cdv ct) ⟨us, ks.zip ws⟩ = pure (((L2.defArgs st).args.map (·.arg)).zip (Mp.kwG m j ix us ws))) :
    L2.KBn K fd ((L2.defArgs st).args.map (·.arg)) m ks (Mp.kwG m j ix) (Mp.kwG m j ix) := by
  obtain ⟨oc, od, kV, doc, pm, an, cdv, ct, osl, rfl, lk, hcd⟩ := F.ex
  exact ⟨fun s us ws _ h1 h2 => .of_eq (h kV doc pm an cdv ct us ws h1 (h2.trans hj)), fun r1 r2 => Mp.vals_kw r1 r2⟩
namespace Mp
open PySem PySem.Spec PyProof.Rows L2
theorem u1 {u c : Nat} (h : u + 65 < c) : u + 1 < c := by omega

section
variable {X : Cx} {T : List (Addr × Str)} {W : WX} {e a b o f tg : Expr} {es : List Expr} {K : PySem.W.Frag} {S S' S0 S1 : Sto} {H H' H0 H1 : Hp} {σ : L2.St} {τ : PSt} {PD : PEnds} {D : Ends} {pos p apos cpos : Pos} {q : QTA}
/-! ### {k: v for .. in .. if ..}, keys ints and texts -/
def dcQ (keep : Sto → Prop) (g : Tg) (t : QTT) (qk qv : QTE) (τ : PSt) (P : List (PV × PV) → Sto → Prop) : List PV → List (PV × PV) → Sto → Prop
  | [], acc, S => P acc S
  | p :: r, acc, S => match g.go p τ with
    | some τ1 => t τ1 S (fun b S1 => iteB b (qk τ1 S1 (fun y S2 => qv τ1 S2 (fun z S3 => kOk false y = true ∧ acc.length < sizeLine ∧ keep S3 ∧ dcQ keep g t qk qv τ P r (putP acc y z) S3) X0) X0) (keep S1 ∧ dcQ keep g t qk qv τ P r acc S1)) X0
    | none => False
def qDc (qi : QTI) (g : Tg) (t : QTT) (qk qv : QTE) : QTE := fun τ S P EP => qi τ S (fun s S1 => dcQ s.keep g t qk qv τ (fun acc S2 => ∀ c, S2 c = none → P (.ref c) (put S2 c (.dic false acc))) s.its [] S1) EP
theorem up_dc {wi : TI} {gt : TG} {tt : TT} {tk tv : TE} {qi : QTI} {g : Tg} {t : QTT} {qk qv : QTE} {Q : VK}
    (hw : ∀ σ H R, upI K T W qi σ H R → wi σ H R) (hg : TgOk K g gt) (ht : ∀ σ H Q, upG K T W0 RB t σ H Q → tt σ H Q) (hk : ∀ σ H Q, upG K T W0 (Rl K) qk σ H Q → tk σ H Q) (hv : ∀ σ H Q, upG K T W0 (Rl K) qv σ H Q → tv σ H Q)
    (h : upG K T W (Rl K) (qDc qi g t qk qv) σ H Q) : tDc wi gt tt tk tv g.vs σ H Q := by
  obtain ⟨τ, S, P, EP, h1, h2, h3, h4, h5⟩ := h
  refine hw σ H _ ⟨τ, S, _, EP, h1, h2, h3, fun J s H1 S1 fr wk kp rp hp D hD => ?_, h5⟩
  have hSD : S1 D = none := rp.free hD
  generalize hP : (fun (acc : List (PV × PV)) (S2 : Sto) => ∀ c, S2 c = none → P (.ref c) (put S2 c (.dic false acc))) = PP at hp
  refine ⟨fun i m H => m = s.its.length - i ∧ i ≤ s.its.length ∧ ∃ S acc ks, Fr S1 H1 S H ∧ Rep K T S H ∧ s.keep S ∧ H D = some (.dK ks) ∧ S D = none ∧ DRel K H false (.dK ks) acc ∧ dcQ s.keep g t qk qv τ PP (s.its.drop i) acc S,
    ⟨_, rfl, Nat.zero_le _, S1, [], [], Fr.hid hD, rp.hid hD, kp, upd_same, hSD, ⟨[], rfl, rfl, rfl⟩, hp⟩, ?_⟩
  rintro i m H2 ⟨rfl, hi, S2, acc, ks, fr2, rp2, kp2, hd2, sd2, rl2, hq2⟩
  obtain ⟨hstop, hgo⟩ := wk S2 H2 fr2 rp2 kp2
  by_cases hl : i < s.its.length
  · obtain ⟨p, hp⟩ : ∃ p, s.its[i]? = some p := ⟨s.its[i], by simp [hl]⟩
    obtain ⟨go, yl⟩ := hgo i p hp
    have hdr : s.its.drop i = p :: s.its.drop (i + 1) := by
      rw [List.drop_eq_getElem_cons hl]
      rw [List.getElem?_eq_getElem hl] at hp
      rw [Option.some.inj hp]
    rw [hdr] at hq2
    unfold dcQ at hq2
    cases zg : g.go p τ with
    | none => rw [zg] at hq2; exact hq2.elim
    | some τ1 =>
      rw [zg] at hq2
      refine .inr ⟨go, fun H3 => ∃ S acc ks, Fr S1 H1 S H3 ∧ Rep K T S H3 ∧ s.keep S ∧ H3 D = some (.dK ks) ∧ S D = none ∧ DRel K H3 false (.dK ks) acc ∧ dcQ s.keep g t qk qv τ PP (s.its.drop (i + 1)) acc S, fun H3 z => ⟨_, by omega, rfl, hl, z⟩, fun x H3 y => ?_⟩
      obtain ⟨fr3, rp3, rl3⟩ := yl x H3 y
      have f3 : Fr S1 H1 S2 H3 := fr2.trans fr3
      refine hg x p σ τ τ1 H3 _ rl3 (h1.mono ((fr.trans f3).le h2)) zg fun σ2 ew rs2 => ⟨ew, ?_⟩
      have d3 := fr3.keep hd2 (fun _ z => nomatch z) sd2
      refine ht σ2 H3 _ ⟨τ1, S2, _, _, rs2, rp3, hq2, fun c c' H4 S4 fr4 ec rp4 hb => ?_, fun _ _ _ _ _ _ _ _ z => z⟩
      have ec : c = c' := ec
      subst ec
      have d4 := fr4.keep d3.1 (fun _ z => nomatch z) d3.2
      have f4 : Fr S1 H1 S4 H4 := f3.trans fr4
      have rl4 : DRel K H4 false (.dK ks) acc := rl2.mono ((fr3.trans fr4).le rp2)
      cases c with
      | false =>
        simp only [Bool.false_eq_true, if_false]
        exact ⟨S4, acc, ks, f4, rp4, hb.1, d4.1, d4.2, rl4, hb.2⟩
      | true =>
        simp only [if_true]
        refine hk σ2 H4 _ ⟨τ1, S4, _, _, rs2.mono (fr4.le rp3), rp4, hb, fun vy y H5 S5 fr5 rl5 rp5 hb5 => ?_, fun _ _ _ _ _ _ _ _ z => z⟩
        refine hv σ2 H5 _ ⟨τ1, S5, _, _, rs2.mono ((fr4.trans fr5).le rp3), rp5, hb5, fun vz z H6 S6 fr6 rl6 rp6 hb6 => ?_, fun _ _ _ _ _ _ _ _ z => z⟩
        obtain ⟨hk1, hk2, hk3, hk4⟩ := hb6
        have d6 := (fr5.trans fr6).keep d4.1 (fun _ z => nomatch z) d4.2
        have rl6a := rl4.mono ((fr5.trans fr6).le rp4)
        obtain ⟨k, hk⟩ := Option.isSome_iff_exists.mp (show (keyP y).isSome = true from hk1)
        have ey := kP_of hk
        subst ey
        obtain ⟨ks', ek, e1, r1⟩ := rl6a
        injection ek with ek
        subst ek
        have len : ks.length = acc.length := by simpa using congrArg List.length e1
        refine ⟨ks, k, rl_kP (Rl.mono (fr6.le rp5) _ _ rl5), d6.1, by omega, S6, putP acc (kP k) z, putK ks k vz, fun c o e1 e2 e3 => ?_, rp6.hidwr d6.2 d6.1 trivial, hk3, upd_same, d6.2, ⟨_, rfl, ?_⟩, hk4⟩
        · obtain ⟨g1, g2⟩ := (f4.trans (fr5.trans fr6)) c o e1 e2 e3
          refine ⟨?_, g2⟩
          by_cases z : c = D
          · subst z
            rw [hD] at e1; cases e1
          · rw [upd_ne z]; exact g1
        · have le := le_chg (o := .dK (putK ks k vz)) d6.1 trivial
          exact rel_put kEq_kP k (Rl.mono le _ _ rl6) e1 (Rls.mono le _ _ r1)
  · have e : i = s.its.length := by omega
    subst e
    rw [List.drop_length] at hq2
    have hq2 : PP acc S2 := hq2
    rw [← hP] at hq2
    refine .inl ⟨hstop, h4 (.ref D) (.ref D) H2 _ ((fr.trans fr2).take (Nu.of fr hD)) rfl (rp2.take (ob := .dic false acc) ⟨_, hd2, rl2⟩) (hq2 D sd2)⟩
theorem q_dc {kx vx iter : Expr} {ifs : List Expr} {scope : Scope} {own : List (Str × Nat)} {qi : QTI} {gt : TG} {g : Tg} {t : QTT} {qk qv : QTE} (hc : X.calm = true) (hN : X.N.Nodup) (hi : QI X T W tg iter qi) (ok : BlkOk X.N X.env.scope scope own) (hv : own.map (·.2) = g.vs) (hok : TgOk X.K g gt)
    (hg : ∀ (s : Shared) (H : Hp) (C : Addr) (cl : List (Str × Addr)) (fp : List Addr), PG (X.blk s H scope (compEnvC scope cl C X.env) fp) tg gt) (ht : ∀ (s : Shared) (H : Hp) (C : Addr) (cl : List (Str × Addr)) (fp : List Addr), QTs (X.blk s H scope (compEnvC scope cl C X.env) fp) T W0 ifs t)
    (hk : ∀ (s : Shared) (H : Hp) (C : Addr) (cl : List (Str × Addr)) (fp : List Addr), QE (X.blk s H scope (compEnvC scope cl C X.env) fp) T W0 kx qk)
    (he : ∀ (s : Shared) (H : Hp) (C : Addr) (cl : List (Str × Addr)) (fp : List Addr), QE (X.blk s H scope (compEnvC scope cl C X.env) fp) T W0 vx qv) (hs : ∀ x, foldedSetIterable iter X.env x = pure x := by intro _; rfl) :
    QE X T W (.DictComp kx vx [⟨tg, iter, ifs, 0⟩] scope pos) (qDc qi g t qk qv) :=
  pe_imp (pe_dc (tt := upG X.K T W0 RB t) (tk := upG X.K T W0 (Rl X.K) qk) (tv := upG X.K T W0 (Rl X.K) qv) hc hN hi ok hg ht hk he hs) fun σ H Q h => by
    rw [hv]
    exact up_dc (fun _ _ _ z => z) hok (fun _ _ _ z => z) (fun _ _ _ z => z) (fun _ _ _ z => z) h
/-! ### del d[k] (keys ints and texts), d.pop(k) -/
def qDel (qd qk : QTE) : QTS := fun D τ S => qd τ S (fun x S1 => match x with
  | .ref _ => qk τ S1 (fun y S2 => match x with
    | .ref c => match S2 c with
      | some (.dic false kvs) => (kOk false y = true ∧ (valP kvs y).isSome = true) ∧ D.nx τ (put S2 c (.dic false (dropP kvs y)))
      | _ => False
    | _ => False) (exAt D τ)
  | _ => False) (exAt D τ)
theorem del_of (rep : Rep K T S H) {c : Addr} {kvs : List (PV × PV)} {y : PV} {w : V} (h : S c = some (.dic false kvs)) (hk : kOk false y = true) (hs : (valP kvs y).isSome = true) (rw_ : Rl K H w y) :
    ∃ ks k v, H c = some (.dK ks) ∧ w = kV k ∧ valV ks k = some v ∧ (∃ p, valP kvs y = some p ∧ Rl K H v p) ∧ Fr S H (put S c (.dic false (dropP kvs y))) (upd H c (.dK (dropK ks k))) ∧ Rep K T (put S c (.dic false (dropP kvs y))) (upd H c (.dK (dropK ks k))) := by
  obtain ⟨u, e0, ks, rfl, e, r⟩ := rep.ob c _ h
  obtain ⟨k, hk⟩ := Option.isSome_iff_exists.mp (show (keyP y).isSome = true from hk)
  have ey := kP_of hk
  subst ey
  obtain ⟨p, hp⟩ := Option.isSome_iff_exists.mp hs
  obtain ⟨v, hv, rv⟩ := (rel_val kEq_kP k e r).1 p hp
  refine ⟨ks, k, v, e0, rl_kP rw_, hv, ⟨p, hp, rv⟩, Fr.wr h, rep.wr h fun le => ⟨_, upd_same, _, rfl, ?_⟩⟩
  exact rel_drop kEq_kP k e (Rls.mono le _ _ r)
theorem qs_del {i : Expr} {tpos : Pos} {qd qk : QTE} (hd : QE X T W o qd) (hk : QE X T W i qk) : QS X T W (.Delete [.Subscript o i tpos] pos) (qDel qd qk) :=
  ps_imp (ps_ddel hd hk) fun D σ H ⟨τ, S, PD, r, rep, hq, con⟩ => by
    refine ⟨τ, S, _, exAt PD τ, r, rep, hq, fun v x H1 S1 fr rl rep1 h1 => ?_, fun c d x H' S' fr xr rp z => con.ex c d x σ τ H' S' fr (r.mono (fr.le rep)) xr rp z⟩
    cases x with
    | ref c =>
      have e1 : v = .ref c := rl
      subst e1
      refine ⟨τ, S1, _, exAt PD τ, r.mono (fr.le rep), rep1, h1, fun w y H2 S2 fr2 r2 rep2 h2 => ?_, fun c d x H' S' f xr rp z => con.ex c d x σ τ H' S' (fr.trans f) (r.mono ((fr.trans f).le rep)) xr rp z⟩
      simp only at h2
      cases z : S2 c with
      | none => rw [z] at h2; exact h2.elim
      | some ob =>
        rw [z] at h2
        cases ob with
        | dic t kvs =>
          cases t with
          | true => exact h2.elim
          | false =>
            obtain ⟨⟨k1, k2⟩, h3⟩ := h2
            obtain ⟨ks, k, v, e0, ew, ev, _, f3, rp3⟩ := del_of rep2 z k1 k2 r2
            refine ⟨c, ks, k, rfl, e0, ew, by rw [ev]; rfl, ?_⟩
            have f4 := (fr.trans fr2).trans f3
            exact con.nx σ τ _ _ f4 (r.mono (f4.le rep)) rp3 h3
        | _ => exact h2.elim
    | _ => exact h1.elim
def qDPop (qd qk : QTE) : QTE := fun τ S P EP => qd τ S (fun x S1 => match x with
  | .ref _ => (match x with | .ref c => (dicAt S1 c).isSome = true | _ => False) ∧ qk τ S1 (fun y S2 => match x with
    | .ref c => match S2 c with
      | some (.dic false kvs) => kOk false y = true ∧ (match valP kvs y with
        | some p => P p (put S2 c (.dic false (dropP kvs y)))
        | none => False)
      | _ => False
    | _ => False) EP
  | _ => False) EP
theorem q_dpop {qd qk : QTE} (hd : QE X T W o qd) (hk : QE X T W e qk) (m : M1 X o "pop" apos e cpos := by exact ⟨rfl, rfl, rfl, rfl⟩) : QE X T W (.Call (.Attribute o "pop" apos) [e] [] cpos) (qDPop qd qk) :=
  pe_imp (pe_dpop1 hd hk m) fun σ H Q ⟨τ, S, P, EP, rs, rep, hq, k, kx⟩ => by
    refine ⟨τ, S, _, EP, rs, rep, hq, fun v x H1 S1 fr rl rep1 h1 => ?_, kx⟩
    cases x with
    | ref c =>
      have e1 : v = .ref c := rl
      subst e1
      refine ⟨c, rfl, isD_of rep1 h1.1, τ, S1, _, EP, rs.mono (fr.le rep), rep1, h1.2, fun w y H2 S2 fr2 r2 rep2 h2 => ?_, fun c d x H' S' f => kx c d x H' S' (fr.trans f)⟩
      simp only at h2
      cases z : S2 c with
      | none => rw [z] at h2; exact h2.elim
      | some ob =>
        rw [z] at h2
        cases ob with
        | dic t kvs =>
          cases t with
          | true => exact h2.elim
          | false =>
            obtain ⟨k1, h3⟩ := h2
            cases zv : valP kvs y with
            | none => rw [zv] at h3; exact h3.elim
            | some p =>
              rw [zv] at h3
              obtain ⟨ks, kk, v, e0, ew, ev, ⟨p2, ep, rv⟩, f3, rp3⟩ := del_of rep2 z k1 (by rw [zv]; rfl) r2
              rw [zv] at ep; cases ep
              refine ⟨ks, kk, v, e0, ew, ev, ?_⟩
              exact k v p _ _ ((fr.trans fr2).trans f3) (Rl.mono (f3.le rep2) _ _ rv) rp3 h3
        | _ => exact h2.elim
    | _ => exact h1.elim
/-! ### o.m(k = v, ..), C(k = v, ..) -/
def qMethK (C n j : Nat) (ix : List Nat) (sp : PSp) (qo : QTE) (qk : QTA) : QTE := fun τ S P EP => qo τ S (fun o S1 => match o with
  | .ref p => match S1 p with
    | some (.ins D _) => D = C ∧ qk τ S1 (fun ys S2 => (kwG 1 j ix [.ref p] ys).length = n ∧ sp (kwG 1 j ix [.ref p] ys) S2 P EP) EP
    | _ => False
  | _ => False) EP
theorem q_methK {k C n : Nat} {m : Str} {st : Stmt} {sp : PSp} {ks : List Str} {j : Nat} {ix : List Nat} {kws : List Keyword} {qo : QTE} {qk : QTA} {pl : Sem Bool} (M : Mt X.prog X.w X.K X.mg X.base T k C m st n sp) (hm : ∀ i < 36, fld i ≠ m) (hr : Room k X.A) (tk : L2N.Takes X W)
    (hb : ∀ (fd : FuncData) (q : Str) (f : Addr), Fun X.K m q st f fd → KBinds X.K fd ((defArgs st).args.map (·.arg)) ks (kwG 1 j ix) (kwG 1 j ix)) (ho : QE X T W o qo) (hkw : QK' X T W kws qk)
    (hall : (backToKw pos (keywordEach kws X.env)).all (·.1.isSome) = true := by rfl) (hks : (backToKw pos (keywordEach kws X.env)).filterMap (·.1) = ks := by rfl)
    (hpl : ((backTo pos (starEach [] X.env)).any (·.1) || (backToKw pos (keywordEach kws X.env)).any (·.1.isNone)) = false := by rfl)
    (ht : eval (.Call (.Attribute o m apos) [] kws pos) X.env = (do
      let ov ← eval o X.env
      standAt apos.atName
      let (f, first) ← holding [ov] (getMethod ov m pl)
      callWith pos f first (backTo pos (starEach [] X.env)) (backToKw pos (keywordEach kws X.env))) := by rfl) : QE X T W (.Call (.Attribute o m apos) [] kws pos) (qMethK C n j ix sp qo qk) := by
  obtain ⟨c, f, fd, ps, h0, h1, h2, h3, ⟨qn, h4⟩, h5, h6, h7, h8⟩ := M.ex
  have kb := hb fd qn f h4
  rw [← h7] at kb
  refine ⟨fun pins s σ H Q I h => ?_⟩
  obtain ⟨τ, S, P, EP, rs, rep, hq, k1, k2⟩ := h
  refine PySem.W.methodCall_KW (pl := pl) (thn (PE.run ho pins s σ H _ I ⟨τ, S, _, EP, rs, rep, hq, fun v x H1 S1 fr rl rep1 hx => (show ∃ a dx fs c2, v = V.ref a ∧ H1 a = some (.ins c2 dx fs) ∧ c2 = c ∧ fs.lookup m = none ∧ ∃ S1, Fr S H S1 H1 ∧ Rep X.K T S1 H1 ∧ qk τ S1 (fun ys S2 => (kwG 1 j ix [.ref a] ys).length = n ∧ sp (kwG 1 j ix [.ref a] ys) S2 P EP) EP from ?_), k2⟩) fun u s1 ⟨x, H1, I1, rx, a, dx, fs, c2, ex, ea, ec, l, S1, fr, rep1, hk⟩ => ?_) ht
  · cases x with
    | ref p =>
      have e1 : v = .ref p := rl
      subst e1
      simp only at hx
      cases z : S1 p with
      | none => simp only [z] at hx
      | some ob =>
        cases ob with
        | ins D fs =>
          simp only [z] at hx
          obtain ⟨rfl, hx⟩ := hx
          obtain ⟨cc, dx, gs, e2, n1, m1, bd, r⟩ := rep1.ob p _ z
          rw [h1] at n1
          cases n1
          exact ⟨p, dx, gs, c, rfl, e2, rfl, lk_no m1 bd hm, S1, fr, rep1, hx⟩
        | _ => simp only [z] at hx
    | _ => exact hx.elim
  · subst ex; subst ec
    obtain rfl : u = Value.ref a := rx
    refine getmeth_ok I1 ea h2 h3 l ?_
    refine PySem.W.callWith_KW0 (first := [.ref a]) (h₀ := X.base) I.ok.mod.kin h3.kp hall (thn (PK.run hkw pos pins s1 σ H1 _ I1 ⟨τ, S1, _, EP, rs.mono (fr.le rep), rep1, hk, fun vs ys H2 S2 fr2 rl2 rep2 hh => (show ∃ ys S2, Fr S1 H1 S2 H2 ∧ Rls X.K H2 vs ys ∧ Rep X.K T S2 H2 ∧ (kwG 1 j ix [.ref a] ys).length = n ∧ sp (kwG 1 j ix [.ref a] ys) S2 P EP from ⟨ys, S2, fr2, rl2, rep2, hh⟩), fun cv d y H3 S3 f3 => k2 cv d y H3 S3 (fr.trans f3)⟩) fun ws s2 ⟨zs, H2, I2, rz, ys, S2, fr2, rl2, rep2, hl, hs⟩ => ⟨I2.kIn, ?_⟩) hpl
    rw [hks, List.append_nil]
    have rk : Rls X.K H2 (kwG 1 j ix [V.ref a] zs) (kwG 1 j ix [PV.ref a] ys) := Rls.kw (us := [V.ref a]) (ps := [PV.ref a]) (Rls.one rfl) rl2
    exact run_kw (vs := [V.ref a]) (us := [Value.ref a]) h8 hr kb tk I2 (.cons (show RelV (V.ref a) (Value.ref a) from rfl) .nil) rz ⟨by rw [Rls.length rk]; exact hl, _, S2, P, EP, rk, rep2, hs, fun w p2 H3 S3 f3 => k1 w p2 H3 S3 ((fr.trans fr2).trans f3), fun cv d y H3 S3 f3 => k2 cv d y H3 S3 ((fr.trans fr2).trans f3)⟩
theorem kbn_mk {fd : FuncData} {ps ks : List Str} {m j : Nat} {ix : List Nat} (hj : ks.length = j) (h : ∀ us ws : List Value, us.length = m → ws.length = j → bindArgs fd ⟨us, ks.zip ws⟩ = pure (ps.zip (kwG m j ix us ws))) : KBn K fd ps m ks (kwG m j ix) (kwG m j ix) :=
  ⟨fun s us ws _ h1 h2 => .of_eq (h us ws h1 (h2.trans hj)), fun r1 r2 => vals_kw r1 r2⟩
def mkInsK (C n j : Nat) (ix : List Nat) (sp : PSp) (ys : List PV) (S : Sto) (P : QK PV) : Prop := ys.length = j ∧ ∀ p, S p = none → (kwG 1 j ix [.ref p] ys).length = n ∧ sp (kwG 1 j ix [.ref p] ys) (put S p (.ins C [])) (fun v S2 => v = .non ∧ P (.ref p) S2) X0
def qMakeK (C n j : Nat) (ix : List Nat) (sp : PSp) (qk : QTA) : QTE := fun τ S P EP => qk τ S (fun ys S1 => mkInsK C n j ix sp ys S1 P) EP
theorem mk_insK {C n j : Nat} {ix : List Nat} {sp : PSp} {zs : List V} {ys : List PV} {c : Addr} {P : QK PV} {Q : VK} (hn : PySem.W.nsIn K mainGlobals (cls C) = some (some (.ref c))) (rl : Rls K H zs ys) (rep : Rep K T S H) (hp : mkInsK C n j ix sp ys S P)
    (k : ∀ v p H' S', Fr S H S' H' → Rl K H' v p → Rep K T S' H' → P p S' → Q v H') (x dx : Addr) (hx : H x = none) (hd : H dx = none) (hne : dx ≠ x) :
    spOf K T n sp (kwG 1 j ix [.ref x] zs) (upd (upd H dx (.own x)) x (.ins c dx [])) (fun v H2 => v = .non ∧ Q (.ref x) H2) (fun _ _ _ => False) := by
  have n1 : upd H dx (.own x) x = none := by rw [upd_ne (Ne.symm hne)]; exact hx
  obtain ⟨hl, hs⟩ := hp.2 x (rep.free hx)
  have f1 : Fr S H S (upd H dx (.own x)) := Fr.hid hd
  have rep1 : Rep K T S (upd H dx (.own x)) := rep.hid hd
  have rep2 : Rep K T (put S x (.ins C [])) (upd (upd H dx (.own x)) x (.ins c dx [])) := rep1.new n1 ⟨c, dx, [], upd_same, hn, rfl, fun _ h => (nomatch h), rfl⟩
  have f2 : Fr S H (put S x (.ins C [])) (upd (upd H dx (.own x)) x (.ins c dx [])) := f1.trans (Fr.new n1)
  have rk : Rls K (upd (upd H dx (.own x)) x (.ins c dx [])) (kwG 1 j ix [V.ref x] zs) (kwG 1 j ix [PV.ref x] ys) := Rls.kw (us := [V.ref x]) (ps := [PV.ref x]) (Rls.one rfl) (Rls.mono (f2.le rep) _ _ rl)
  refine ⟨by rw [Rls.length rk]; exact hl, _, _, _, _, rk, rep2, hs, fun v p H' S' fr rv rp ⟨e, hq⟩ => ?_, fun _ _ _ _ _ _ _ _ z => z.elim⟩
  subst e
  exact ⟨rv, k (.ref x) (.ref x) H' S' (f2.trans fr) rfl rp hq⟩
theorem q_makeK0 {k C n : Nat} {st : Stmt} {sp : PSp} {x : Str} {ks : List Str} {j : Nat} {ix : List Nat} {kws : List Keyword} {qk : QTA} (M : MkC X.prog X.w X.K X.mg X.base T k C st n sp) (hr : Room (k + 1) X.A) (hg : Gl X x) (hj : ks.length = j)
    (hb : ∀ (fd : FuncData) (q : Str) (f : Addr), Fun X.K "__init__" q st f fd → KBn X.K fd ((defArgs st).args.map (·.arg)) 1 ks (kwG 1 j ix) (kwG 1 j ix)) (hkw : QK' X T W kws qk) (hx : cls C = x := by rfl)
    (hall : (backToKw pos (keywordEach kws X.env)).all (·.1.isSome) = true := by rfl) (hks : (backToKw pos (keywordEach kws X.env)).filterMap (·.1) = ks := by rfl) (hdb : (x == ("__debug__" : Str)) = false := by decide)
    (hpl : ((backTo pos (starEach [] X.env)).any (·.1) || (backToKw pos (keywordEach kws X.env)).any (·.1.isNone)) = false := by rfl) : QE X T W (.Call (.Name x p) [] kws pos) (qMakeK C n j ix sp qk) := by
  obtain ⟨c, f, fd, ps, h0, h1, h2, ⟨qn, h4⟩, h5, h6, h7, h8⟩ := M.ex
  have kb := hb fd qn f h4
  rw [← h7] at kb
  rw [hx] at h0
  refine pe_imp (pe_makeK0 (E := fun _ _ _ => False) h2 h8 hr hg h0 kb passes_no hkw hall hks hdb hpl) fun σ H Q ⟨τ, S, P, EP, rs, rep, hq, k1, k2⟩ => ?_
  show upG X.K T W (Rls X.K) qk σ H _
  refine ⟨τ, S, _, EP, rs, rep, hq, fun vs ps H' S' fr rl rep' hp => ?_, k2⟩
  refine ⟨rfl, by rw [Rls.length rl, hj]; exact hp.1, fun x dx nx nd ne => ?_⟩
  exact mk_insK h1 rl rep' hp (fun v p H2 S2 f2 => k1 v p H2 S2 (fr.trans f2)) x dx nx nd ne
end
end Mp

set_option Elab.async false
set_option linter.all false
set_option maxRecDepth 100000
namespace Mp
open PySem PySem.Spec PyProof.Rows L2

/-! ### tuples sorted whose first items are unlike texts -/
def headT : PyData → Option (List Nat)
  | .tuple (.str z :: _) => some z.cps.toList
  | _ => none
theorem headT_inv {d : PyData} {a : List Nat} (h : headT d = some a) : ∃ r, d = .tuple (.str ⟨a.toArray⟩ :: r) := by
  match d, h with
  | .tuple (.str z :: r), h =>
    cases h
    exact ⟨r, by cases z; rfl⟩
open Classical in
noncomputable def rowKind (h : Heap) (ds : List PyData) : PyProof.Rows.KeyKind where
  toKeyOrd := strKind.toKeyOrd
  keyOf v := if q : ∃ d, d ∈ ds ∧ ∃ as, PySem.Reads h v d as then headT q.choose else none
  dflt := ([] : List Nat)
theorem reads_head {h : Heap} {v : Value} {x y : Str} {r r' : List PyData} {as as' : List Addr} (h1 : PySem.Reads h v (.tuple (.str x :: r)) as) (h2 : PySem.Reads h v (.tuple (.str y :: r')) as') : x = y := by
  cases h1 with
  | @tuple a o xs n _ _ ho hc hd hr =>
    cases h2 with
    | @tuple _ o' xs' n' _ _ ho' hc' hd' hr' =>
      rw [ho] at ho'; cases ho'
      rw [hd] at hd'; cases hd'
      generalize xs.toList = l at hr hr'
      cases hr with
      | cons r1 _ =>
        cases hr' with
        | cons r2 _ =>
          cases r1; cases r2; rfl
theorem rowKind_some {h : Heap} {ds : List PyData} (hh : ∀ d ∈ ds, (headT d).isSome = true) {v : Value} {d : PyData} {as : List Addr} (hd : d ∈ ds) (r : PySem.Reads h v d as) : (rowKind h ds).keyOf v = headT d := by
  have q : ∃ d, d ∈ ds ∧ ∃ as, PySem.Reads h v d as := ⟨d, hd, as, r⟩
  have e : (rowKind h ds).keyOf v = headT q.choose := by
    show (open Classical in if q : ∃ d, d ∈ ds ∧ ∃ as, PySem.Reads h v d as then headT q.choose else none) = _
    rw [dif_pos q]
  rw [e]
  obtain ⟨h1, as', h2⟩ := q.choose_spec
  obtain ⟨a, ha⟩ := Option.isSome_iff_exists.mp (hh _ h1)
  obtain ⟨b, hb⟩ := Option.isSome_iff_exists.mp (hh _ hd)
  obtain ⟨ra, ea⟩ := headT_inv ha
  obtain ⟨rb, eb⟩ := headT_inv hb
  rw [ea] at h2
  rw [eb] at r
  have := reads_head h2 r
  rw [ha, hb]
  have e2 : a = b := by
    have := congrArg (fun z : Str => z.cps.toList) this
    simpa using this
  rw [e2]
theorem rowKind_inv {h : Heap} {ds : List PyData} {v : Value} {k : List Nat} (e : (rowKind h ds).keyOf v = some k) : ∃ d as, d ∈ ds ∧ PySem.Reads h v d as ∧ headT d = some k := by
  by_cases q : ∃ d, d ∈ ds ∧ ∃ as, PySem.Reads h v d as
  · have e' : (rowKind h ds).keyOf v = headT q.choose := by
      show (open Classical in if q : ∃ d, d ∈ ds ∧ ∃ as, PySem.Reads h v d as then headT q.choose else none) = _
      rw [dif_pos q]
    obtain ⟨h1, as', h2⟩ := q.choose_spec
    rw [e'] at e
    exact ⟨_, as', h1, h2, e⟩
  · have e' : (rowKind h ds).keyOf v = none := by
      show (open Classical in if q : ∃ d, d ∈ ds ∧ ∃ as, PySem.Reads h v d as then headT q.choose else none) = _
      rw [dif_neg q]
      rfl
    rw [e'] at e
    cases e
section
variable {prog : Program} {w : World} {A : Around} {s : Shared}
theorem row_lt {ds : List PyData} (hh : ∀ d ∈ ds, (headT d).isSome = true) (hn : ∀ d ∈ ds, ∀ d' ∈ ds, headT d = headT d' → d = d') (hal : ∀ d ∈ ds, PySem.W.alike d d = true)
    (hu : ∀ d, d ∈ ds → A.units + d.depth < cLine) (E : Value → Shared → Prop) (x y : Value) (a b : List Nat) {Q : Bool → Shared → Prop} (ha : (rowKind s.heap ds).keyOf x = some a) (hb : (rowKind s.heap ds).keyOf y = some b) (hq : Q (decide (a < b)) s) :
    wpAny (model prog w) A (keyLt' (tuples' true) x y) Q E s := by
  obtain ⟨d, as, hd, ra, ka⟩ := rowKind_inv ha
  obtain ⟨d', as', hd', rb, kb⟩ := rowKind_inv hb
  by_cases hab : a = b
  · subst hab
    have ed := hn d hd d' hd' (ka.trans kb.symm)
    subst ed
    obtain ⟨r1, e1⟩ := headT_inv ka
    have al := hal d hd
    have un := hu d hd
    subst e1
    have hlt : decide (a < a) = false := decide_eq_false (List.lt_irrefl a)
    rw [hlt] at hq
    cases ra with
    | @tuple l o xs n _ _ h1 h2 h3 h4 =>
      cases rb with
      | @tuple l' o' xs' n' _ _ k1 k2 k3 k4 =>
        have n1 : xs.size = (PyData.str ⟨a.toArray⟩ :: r1).length := by simpa using SeqAt.ReadsAll.length _ _ _ h4
        have n2 : xs'.size = (PyData.str ⟨a.toArray⟩ :: r1).length := by simpa using SeqAt.ReadsAll.length _ _ _ k4
        refine PySem.W.kat_lt h1 h3 k1 k3 (PySem.W.katLex_alike (PyData.str ⟨a.toArray⟩ :: r1) (PyData.str ⟨a.toArray⟩ :: r1) 0 _ _ _ _ h4 k4 (by simpa [PySem.W.alike] using al) ?_ (fun _ _ x r t ex => ?_) (by rw [n1, n2]) ?_)
        · rw [Nat.min_self]
          have : (PyData.tuple (PyData.str ⟨a.toArray⟩ :: r1)).depth = PyData.depthAll (PyData.str ⟨a.toArray⟩ :: r1) + 1 := rfl
          omega
        · obtain ⟨rfl, rfl⟩ := List.cons.inj ex
          nofun
        · rw [PyProof.Rows.lex_irrefl]; exact hq
  · obtain ⟨r1, e1⟩ := headT_inv ka
    obtain ⟨r2, e2⟩ := headT_inv kb
    subst e1; subst e2
    cases ra with
    | @tuple l o xs n _ _ h1 h2 h3 h4 =>
      cases rb with
      | @tuple l' o' xs' n' _ _ k1 k2 k3 k4 =>
        refine PySem.W.kat_lt h1 h3 k1 k3 ?_
        generalize decide (xs.size < xs'.size) = fin
        generalize xs.toList = us at h4
        generalize xs'.toList = ws at k4
        cases h4 with
        | cons q1 _ =>
          cases k4 with
          | cons q2 _ =>
            cases q1; cases q2
            rw [List.zip_cons_cons]
            refine PySem.W.kat_cons (wpAny_eqBool_str ?_)
            rw [decide_eq_false (fun z => hab (by have := congrArg (fun z : Str => z.cps.toList) z; simpa using this))]
            exact PySem.W.kat_no (PyProof.Rows.oneLt_str (by simpa using hq))
theorem sortsAt_rows {vs : List Value} {ds : List PyData} (e : PySem.W.EachIs (fun v d => ∃ as, PySem.Reads s.heap v d as) vs ds) (hh : ∀ d ∈ ds, (headT d).isSome = true) (hn : ∀ d ∈ ds, ∀ d' ∈ ds, headT d = headT d' → d = d') (hal : ∀ d ∈ ds, PySem.W.alike d d = true)
    (hu : ∀ d, d ∈ ds → A.units + d.depth < cLine) : PySem.W.SortsAt prog w A s (rowKind s.heap ds) vs := by
  refine ⟨fun v hv => ?_, tuples' true, ?_, fun h2 E Q hq => ?_⟩
  · obtain ⟨d, hd, as, r⟩ := e.left v hv
    obtain ⟨a, ha⟩ := Option.isSome_iff_exists.mp (hh d hd)
    exact ⟨a, (rowKind_some hh hd r).trans ha⟩
  · exact fun E x y a b Q ha hb hq => row_lt hh hn hal hu E x y a b ha hb hq
  · obtain ⟨fs, t1, t2, t3⟩ := PySem.W.each_katTups e fun d hd => by
      obtain ⟨a, ha⟩ := Option.isSome_iff_exists.mp (hh d hd)
      obtain ⟨r, er⟩ := headT_inv ha
      exact ⟨_, r, er⟩
    refine PySem.W.kat_kind (T := .type "str") t1 (by omega) (fun f hf => ?_) (beq_self_eq_true _) hq
    obtain ⟨x, r, as, m1, m2⟩ := t3 f hf
    obtain ⟨a, ha⟩ := Option.isSome_iff_exists.mp (hh _ m1)
    obtain ⟨r', er⟩ := headT_inv ha
    cases er
    exact PySem.W.looks_reads m2
end
section
variable {X : Cx} {T : List (Addr × Str)} {W : WX} {e a b o f tg : Expr} {es : List Expr} {K : PySem.W.Frag} {S S' S0 S1 : Sto} {H H' H0 H1 : Hp} {σ : L2.St} {τ : PSt} {PD : PEnds} {D : Ends} {pos p apos cpos : Pos} {q : QTA}
mutual
theorem alike_self : ∀ {x : PV}, datP x = true → PySem.W.alike (dOf x) (dOf x) = true
  | .non, _ => rfl
  | .bl _, _ => rfl
  | .int _, _ => rfl
  | .str _, _ => rfl
  | .tup xs, h => by
    unfold datP at h
    show PySem.W.alike (.tuple (dsOf xs)) (.tuple (dsOf xs)) = true
    unfold PySem.W.alike
    exact alikes_self h
  | .ref _, h => by cases h
  | .ty _, h => by cases h
  | .lsv _, h => by cases h
  | .exv _ _ _ _ _, h => by cases h
  | .lam _ _ _ _ _, h => by cases h
  | .ktp _, h => by cases h
theorem alikes_self : ∀ {xs : List PV}, datsP xs = true → PySem.W.alikeAll (dsOf xs) (dsOf xs) = true
  | [], _ => rfl
  | x :: xs, h => by
    unfold datsP at h
    rw [Bool.and_eq_true] at h
    show PySem.W.alikeAll (dOf x :: dsOf xs) (dOf x :: dsOf xs) = true
    unfold PySem.W.alikeAll
    rw [alike_self h.1, alikes_self h.2]; rfl
end
def headP : PV → Option (List Nat)
  | .tup (.str a :: _) => some a
  | _ => none
theorem headP_inv {x : PV} {a : List Nat} (h : headP x = some a) : ∃ r, x = .tup (.str a :: r) := by
  match x, h with
  | .tup (.str z :: r), h => cases h; exact ⟨r, rfl⟩
theorem headT_dOf (x : PV) (h : (headP x).isSome = true) : headT (dOf x) = headP x := by
  obtain ⟨a, ha⟩ := Option.isSome_iff_exists.mp h
  obtain ⟨r, rfl⟩ := headP_inv ha
  show some (⟨a.toArray⟩ : Str).cps.toList = some a
  simp
/-- rows by their first items -/
def leT (x y : PV) : Bool := !decide ((headP y).getD [] < (headP x).getD [])
def sortT (xs : List PV) : Prop := (∀ x ∈ xs, datP x = true ∧ (dOf x).depth ≤ 60 ∧ (headP x).isSome = true) ∧ (∀ x ∈ xs, ∀ y ∈ xs, headP x = headP y → x = y) ∧ xs.length ≤ sizeLine
def rSortT (K : PySem.W.Frag) : List V → Hp → VK → Prop := fun vs H Q => ∃ (a : Addr) (us : List V) (xs : List PV), vs = [V.ref a] ∧ SqL K H a us ∧ Rls K H us xs ∧ sortT xs ∧ ∀ ws n, Rls K H ws (xs.mergeSort leT) → H n = none → Q (.ref n) (upd H n (.lst ws))
theorem cr_sortT (hu : X.A.units + 64 < cLine) : CallR X (.builtin "sorted") (rSortT X.K) := by
  intro pins s σ H vs us Q I r h
  obtain ⟨a, ws, xs, rfl, hs, rl, ⟨c1, c2, c3⟩, q⟩ := h
  obtain ⟨its, rv, hl, hz⟩ := I.list hs
  rw [Vals.ref1 r]
  obtain ⟨z1, z2, z3⟩ := rls_zip rl
  have el : (ws.zip xs).length = xs.length := by rw [← List.length_map (f := Prod.snd), z2]
  have lw : ws.length = xs.length := Rls.length rl
  have em : (ws.zip xs).map (fun b => dOf b.2) = xs.map dOf := by
    conv => rhs; rw [← z2]
    rw [List.map_map]; rfl
  have er0 : PySem.W.EachIs (fun v b => ∃ as, PySem.Reads s.heap v (dOf b.2) as) its (ws.zip xs) := vals_each (by rw [z1]; exact rv) fun b hm u r => Dp.reads I _ _ _ (datP_dp (c1 b.2 (z3 b hm).2).1 (z3 b hm).1) r
  have er1 : PySem.W.EachIs (fun v b => ∃ as, PySem.Reads (PySem.W.sortingHeap (PySem.W.copyHeap s.heap its) (s.heap.objs.size + 1) its) v (dOf b.2) as) its (ws.zip xs) := er0.mono fun _ _ ⟨as, r⟩ => ⟨as, PyProof.Rows.Reads.keeps (fun _ _ => PySem.W.sorting_copy_old) r⟩
  have ee : PySem.W.EachIs (fun u b => RelV b.1 u) its (ws.zip xs) := vals_each (by rw [z1]; exact rv) fun b _ u r => r
  have hh : ∀ d ∈ xs.map dOf, (headT d).isSome = true := fun d hd => by
    obtain ⟨x, hx, rfl⟩ := List.mem_map.mp hd
    rw [headT_dOf x (c1 x hx).2.2]; exact (c1 x hx).2.2
  have hn : ∀ d ∈ xs.map dOf, ∀ d' ∈ xs.map dOf, headT d = headT d' → d = d' := fun d hd d' hd' e => by
    obtain ⟨x, hx, rfl⟩ := List.mem_map.mp hd
    obtain ⟨y, hy, rfl⟩ := List.mem_map.mp hd'
    rw [headT_dOf x (c1 x hx).2.2, headT_dOf y (c1 y hy).2.2] at e
    rw [c2 x hx y hy e]
  have hal : ∀ d ∈ xs.map dOf, PySem.W.alike d d = true := fun d hd => by
    obtain ⟨x, hx, rfl⟩ := List.mem_map.mp hd
    exact alike_self (c1 x hx).1
  have ek : PySem.W.EachIs (fun v b => (rowKind (PySem.W.sortingHeap (PySem.W.copyHeap s.heap its) (s.heap.objs.size + 1) its) (xs.map dOf)).keyOf v = some ((headP b.2).getD [])) its (ws.zip xs) :=
    (PySem.W.each_mem er1).mono fun v b ⟨⟨as, r⟩, hb⟩ => by
      have hx := (z3 b hb).2
      rw [rowKind_some hh (List.mem_map.mpr ⟨_, hx, rfl⟩) r, headT_dOf _ (c1 _ hx).2.2]
      obtain ⟨a, ha⟩ := Option.isSome_iff_exists.mp (c1 _ hx).2.2
      rw [ha]; rfl
  refine PySem.W.sorted_vals hl.isList (sortsAt_rows (s := { s with heap := PySem.W.sortingHeap (PySem.W.copyHeap s.heap its) (s.heap.objs.size + 1) its }) (by rw [← em]; exact PySem.W.each_map (R := fun v d => ∃ as, PySem.Reads (PySem.W.sortingHeap (PySem.W.copyHeap s.heap its) (s.heap.objs.size + 1) its) v d as) (fun b : V × PV => dOf b.2) er1) hh hn hal (fun d hd => ?_)) (by rw [← rv.length, lw]; exact c3) ?_
  · obtain ⟨x, hx, rfl⟩ := List.mem_map.mp hd
    have := (c1 x hx).2.1
    exact (show X.A.units + 1 + 1 + (dOf x).depth < cLine by omega)
  · have eo := PySem.W.sortVals_each (R := fun u b => RelV b.1 u) (rev := false) (κ := rowKind (PySem.W.sortingHeap (PySem.W.copyHeap s.heap its) (s.heap.objs.size + 1) its) (xs.map dOf)) (fun b : V × PV => (headP b.2).getD []) ee ek
    generalize PySem.W.sortVals (rowKind (PySem.W.sortingHeap (PySem.W.copyHeap s.heap its) (s.heap.objs.size + 1) its) (xs.map dOf)) false its its = out at eo ⊢
    have rv2 := each_vals eo
    obtain ⟨ep, he'⟩ := PyProof.Rows.sortedAll_at s.heap its out.toArray
    have es2 : ((ws.zip xs).mergeSort (PySem.W.sortLe strKind.toKeyOrd false fun b => (headP b.2).getD [])).map Prod.snd = xs.mergeSort leT := by
      have q := List.map_mergeSort (f := Prod.snd) (r := PySem.W.sortLe strKind.toKeyOrd false fun b : V × PV => (headP b.2).getD []) (s := leT) (l := ws.zip xs) (fun a _ b _ => rfl)
      rw [q, z2]
    have rs : Rls X.K H (((ws.zip xs).mergeSort (PySem.W.sortLe strKind.toKeyOrd false fun b => (headP b.2).getD [])).map Prod.fst) (xs.mergeSort leT) := by
      rw [← es2]
      exact rls_pairs fun b hb => (z3 b (List.mem_mergeSort.mp hb)).1
    have hlen : (((ws.zip xs).mergeSort (PySem.W.sortLe strKind.toKeyOrd false fun b => (headP b.2).getD [])).map Prod.fst).length ≤ sizeLine := by
      rw [List.length_map, List.length_mergeSort, el]; exact c3
    exact ⟨.ref _, upd H (s.heap.objs.size + 1) (.lst (((ws.zip xs).mergeSort (PySem.W.sortLe strKind.toKeyOrd false fun b => (headP b.2).getD [])).map Prod.fst)), I.laid (t' := s.toks) (fun _ _ => PyProof.Rows.sortedAll_old) (Nat.le_succ _) ⟨hlen, out, ep, rv2, he'⟩, rfl, q _ _ rs (I.hok.fresh (Nat.le_succ _))⟩
/-- sorted(x): a list of alike items, a dict, or rows with unlike texts ahead -/
def sortQ3 (x : SH) (S : Sto) (P : QK (List PV)) : Prop := sortQ x S P ∨ match x.its S with
  | some xs => (x.tup = false ∧ sortT xs) ∧ P (xs.mergeSort leT) S
  | none => False
def qSorted3 (qa : QTH) : QTA := fun τ S P EP => qa τ S (fun x S1 => sortQ3 x S1 P) EP
theorem ql_sorted3 {qa : QTH} (hc : X.calm = true) (hu : X.A.units + 64 < cLine) (hg : Gl X "sorted") (hm : X.mg "sorted" = none) (ha : QH X T W e qa) (he : starEach [e] X.env = [(false, eval e X.env)] := by rfl) : QL X T W (.Call (.Name "sorted" p) [e] [] pos) (qSorted3 qa) :=
  pe_imp (pe_callB (CallR.or (CallR.or (cr_sortP (T := T) hu) (cr_sortD (T := T) hc hu)) (cr_sortT hu)) hg hm (by decide +kernel) (pa_cons ha pa_nil he) (he := he)) fun σ H Q ⟨τ, S, P, EP, h1, h2, h3, h4, h5⟩ =>
    ⟨τ, S, _, EP, h1, h2, h3, fun v x H1 S1 fr rl rep hp => by
      rcases hp with hp | hp
      · rcases sort_cases hp with ⟨xs, z, ⟨nt, c1, c2, c3, c4⟩, hp⟩ | ⟨c, t, kvs, rfl, z, hs, hp⟩
        · obtain ⟨a, us, e1, s, t⟩ := rl.lst rep z nt
          subst e1
          obtain ⟨z1, z2, z3⟩ := rls_zip t
          have em : (us.zip xs).map (fun b => dOf b.2) = xs.map dOf := by
            conv => rhs; rw [← z2]
            rw [List.map_map]; rfl
          refine .inl (.inl ⟨a, us.zip xs, rfl, by rw [z1]; exact s, fun b hb => ⟨(z3 b hb).1, c1 _ (z3 b hb).2⟩, by rw [em]; exact c2, by rw [em]; exact c3, ?_, fun n hn => ?_⟩)
          · have e : (us.zip xs).length = xs.length := by rw [← List.length_map (f := Prod.snd), z2]
            rw [e]; exact c4
          · have es : ((us.zip xs).mergeSort (PySem.W.dataLe false fun b => dOf b.2)).map Prod.snd = xs.mergeSort leP := by
              have q := List.map_mergeSort (f := Prod.snd) (r := PySem.W.dataLe false fun b : V × PV => dOf b.2) (s := leP) (l := us.zip xs) (fun a _ b _ => rfl)
              rw [q, z2]
            have rs : Rls X.K H1 (((us.zip xs).mergeSort (PySem.W.dataLe false fun b => dOf b.2)).map Prod.fst) (xs.mergeSort leP) := by
              rw [← es]
              exact rls_pairs fun b hb => (z3 b (List.mem_mergeSort.mp hb)).1
            exact h4 n _ _ _ S1 (fr.trans (Fr.hid hn)) upd_same (rep.free hn) (Nu.of fr hn) (Rls.mono (le_new hn) _ _ rs) (rep.hid hn) hp
        · obtain ⟨u, rd, d⟩ := dicAt_rd rep z
          have e1 : v = .ref c := rl
          subst e1
          exact .inl (.inr ⟨c, u, t, kvs, rfl, rd, d, hs, fun vs n rvs hn => h4 n vs _ _ S1 (fr.trans (Fr.hid hn)) upd_same (rep.free hn) (Nu.of fr hn) (Rls.mono (le_new hn) _ _ rvs) (rep.hid hn) hp⟩)
      · cases z : x.its S1 with
        | none => rw [z] at hp; exact hp.elim
        | some xs =>
          rw [z] at hp
          obtain ⟨⟨nt, st⟩, hp⟩ := hp
          obtain ⟨a, us, e1, s, t⟩ := rl.lst rep z nt
          subst e1
          exact .inr ⟨a, us, xs, rfl, s, t, st, fun vs n rvs hn => h4 n vs _ _ S1 (fr.trans (Fr.hid hn)) upd_same (rep.free hn) (Nu.of fr hn) (Rls.mono (le_new hn) _ _ rvs) (rep.hid hn) hp⟩, h5⟩
end
end Mp

set_option Elab.async false
set_option linter.all false
set_option maxRecDepth 100000
namespace Mp
open PySem PySem.Spec PyProof.Rows L2

abbrev clsL : List (Nat × List Nat) := [(3, [9])]
/-- stretches_of: 0 address, 1 less -/
def r_stretches_of : QTS := (qRet (qTupL (qLc (qiR1 (qaC (qBin fAdd (qC (.int 6)) (qC (.int 1))) qaN)) (tg1 1) qYes (qSl (qVar 0) qoN (qoS (qBin fSub (qC (.int 6)) (qVar 1)))))))
@[irreducible] def sp_stretches_of : PSp := spDef 2 r_stretches_of

/-- _law_box: 0 script, 1 k, 2 cell, 3 great -/
def r__law_box : QTS := (qSeq (qSet 2 (qBin fAdd (qBin fMul (qC (.int 6151)) (qVar 1)) (qC (.int 8929))))
  (qSeq (qIfS (qTst (qBin fLt (qVar 1) (qCal fLenA (qaC (qVar 0) qaN))))
  (qSet 2 (qCal fAbs (qaC (qCal fInt (qaC (qBin fIdxA (qVar 0) (qVar 1)) qaN)) qaN)))
  (qIfS (qTst (qBin fGtA (qCal fLenA (qaC (qVar 0) qaN)) (qC (.int 0))))
  (qSet 2 (qBin fAdd (qVar 2) (qBin fMul (qBin fMod (qCal fInt (qaC (qCal fAbs (qaC (qCal fInt (qaC (qBin fIdxA (qVar 0) (qBin fMod (qCal fInt (qaC (qVar 1) qaN)) (qCal fLenA (qaC (qVar 0) qaN)))) qaN)) qaN)) qaN)) (qC (.int 2147483579))) (qC (.int 50929)))))
  qNext))
  (qSeq (qSet 3 (qIf (qTst (qBin fGe (qVar 2) (qBin fPow (qC (.int 10)) (qC (.int 18))))) (qVar 2) (qC (.int 0))))
  (qRet (qNew (qLst (qaC (qVar 3) (qaC (qBin fAdd (qBin fMod (qCal fInt (qaC (qBin fAdd (qBin fMul (qBin fMod (qCal fInt (qaC (qVar 2) qaN)) (qC (.int 2147483579))) (qC (.int 40692))) (qBin fMul (qC (.int 8929)) (qVar 1))) qaN)) (qC (.int 2147483579))) (qC (.int 1))) qaN))))))))
@[irreducible] def sp__law_box : PSp := spDef 4 r__law_box

/-- _law_take: 0 box, 1 many, 2 digit, 3 raw -/
def r__law_take : QTS := (qSeq (qIfS (qTst (qBin fGtA (qBin fIdxA (qVar 0) (qC (.int 0))) (qC (.int 0))))
  (qSeq (qSet 2 (qBin fMod (qCal fInt (qaC (qBin fIdxA (qVar 0) (qC (.int 0))) qaN)) (qVar 1)))
  (qSeq (qAsg (qBin fDiv (qBin fIdxA (qVar 0) (qC (.int 0))) (qVar 1)) (qgSub (qVar 0) (qC (.int 0)) fSetA))
  (qRet (qVar 2))))
  qNext)
  (qSeq (qSet 3 (qBin fMod (qCal fInt (qaC (qBin fAdd (qBin fMul (qBin fIdxA (qVar 0) (qC (.int 1))) (qC (.int 39373))) (qC (.int 173))) qaN)) (qC (.int 2147483647))))
  (qSeq (qAsg (qBin fAdd (qBin fMod (qCal fInt (qaC (qBin fAdd (qBin fMul (qVar 3) (qC (.int 40014))) (qC (.int 53))) qaN)) (qC (.int 2147483563))) (qC (.int 1))) (qgSub (qVar 0) (qC (.int 1)) fSetA))
  (qRet (qBin fMod (qCal fInt (qaC (qBin fDiv (qBin fAdd (qBin fMul (qVar 3) (qC (.int 2147483629))) (qBin fIdxA (qVar 0) (qC (.int 1)))) (qC (.int 8209))) qaN)) (qVar 1))))))
@[irreducible] def sp__law_take : PSp := spDef 4 r__law_take

/-- _law_pick: 0 box, 1 some -/
def r__law_pick : QTS := (qRet (qBin fIdxA (qVar 1) (qCall 2 sp__law_take (qaC (qVar 0) (qaC (qCal fLenA (qaC (qVar 1) qaN)) qaN)))))
@[irreducible] def sp__law_pick : PSp := spDef 2 r__law_pick

/-- _law_order: 0 box, 1 some, 2 left, 3 found, 4 turn -/
def r__law_order : QTS := (qSeq (qPar 2 3 (qaC (qNew (qListD (qVar 1))) (qaC (qNew (qLst qaN)) qaN)))
  (qSeq (qFor (qiR1 (qaC (qCal fLenA (qaC (qVar 2) qaN)) qaN)) (qgName 4)
  (qDrop (qMl fApp (qVar 3) (qaC (qMl fPopAt (qVar 2) (qaC (qCall 2 sp__law_take (qaC (qVar 0) (qaC (qCal fLenA (qaC (qVar 2) qaN)) qaN))) qaN)) qaN))))
  (qRet (qVar 3))))
@[irreducible] def sp__law_order : PSp := spDef 5 r__law_order

/-- _law_like: 0 one, 1 due, 2 k -/
def r__law_like (sp__law_like : PSp) : QTS := (qSeq (qIfS (qTst (qIsN false (qVar 1)))
  (qRet (qIsN false (qVar 0)))
  qNext)
  (qSeq (qIfS (qTru (qIsi "tuple" (qVar 1)))
  (qSeq (qIfS (qOr (qNot (qTru (qIsi "tuple" (qVar 0)))) (qTst (qBin fNe (qCal fLenA (qaC (qVar 0) qaN)) (qCal fLenA (qaC (qVar 1) qaN)))))
  (qRet (qC (.bl false)))
  qNext)
  (qRet (qAllL (qLc (qiR1 (qaC (qCal fLenA (qaC (qVar 1) qaN)) qaN)) (tg1 2) qYes (qCall 2 sp__law_like (qaC (qBin fIdxA (qVar 0) (qVar 2)) (qaC (qBin fIdxA (qVar 1) (qVar 2)) qaN)))))))
  qNext)
  (qSeq (qIfS (qTru (qIsi "str" (qVar 1)))
  (qRet (qAndV (qIsi "str" (qVar 0)) (qBin fEq (qVar 0) (qVar 1))))
  qNext)
  (qRet (qAndV (qIsi "int" (qVar 0)) (qAndV (qBin fEq (qIsi "bool" (qVar 0)) (qIsi "bool" (qVar 1))) (qBin fEq (qVar 0) (qVar 1))))))))
@[irreducible] def sp__law_like : PSp := spN 3 r__law_like 8

/-- _law_stretches: 0 found, 1 level, 2 turn, 3 stretch -/
def r__law_stretches : QTS := (qSeq (qPar 0 1 (qaC (qNew (qLst qaN)) (qaC (qNew (qLst (qaC (qC (.str [])) qaN))) qaN)))
  (qSeq (qFor (qiR1 (qaC (qC (.int 7)) qaN)) (qgName 2)
  (qSeq (qSet 0 (qBin fAdd (qVar 0) (qVar 1)))
  (qSet 1 (qNew (qCat (qvL (qLc (qiV (qVar 1)) (tg1 3) qYes (qBin fAdd (qVar 3) (qC (.str [48]))))) (qvL (qLc (qiV (qVar 1)) (tg1 3) qYes (qBin fAdd (qVar 3) (qC (.str [49]))))))))))
  (qRet (qVar 0))))
@[irreducible] def sp__law_stretches : PSp := spDef 4 r__law_stretches

/-- _law_to: 0 box, 1 few -/
def r__law_to : QTS := (qRet (qCall 2 sp__law_pick (qaC (qVar 0) (qaC (qNew (qLst (qaC (qC .non) (qaC (qCall 2 sp__law_take (qaC (qVar 0) (qaC (qC (.int 32)) qaN))) (qaC (qCall 2 sp__law_take (qaC (qVar 0) (qaC (qVar 1) qaN))) (qaC (qCall 2 sp__law_take (qaC (qVar 0) (qaC (qVar 1) qaN))) qaN)))))) qaN))))
@[irreducible] def sp__law_to : PSp := spDef 2 r__law_to

/-- _law_rows: 0 box, 1 shape, 2 few, 3 some, 4 address, 5 turn, 6 stretch, 7 many -/
def r__law_rows : QTS := (qSeq (qSet 3 (qNew (qLst qaN)))
  (qSeq (qIfS (qTst (qBin fEq (qVar 1) (qC (.int 0))))
  (qSet 3 (qSl (qCall 2 sp__law_order (qaC (qVar 0) (qaC (qCall0 sp__law_stretches) qaN))) qoN (qoS (qCall 2 sp__law_take (qaC (qVar 0) (qaC (qC (.int 9)) qaN))))))
  (qIfS (qTst (qBin fEq (qVar 1) (qC (.int 1))))
  (qSeq (qSet 4 (qCall 2 sp__law_pick (qaC (qVar 0) (qaC (qSl (qCall0 sp__law_stretches) (qoS (qC (.int 63))) qoN) qaN))))
  (qSeq (qFor (qiR1 (qaC (qC (.int 7)) qaN)) (qgName 5)
  (qSeq (qDrop (qMl fApp (qVar 3) (qaC (qSl (qVar 4) qoN (qoS (qVar 5))) qaN)))
  (qIfS (qAnd (qTst (qBin fGtA (qVar 5) (qC (.int 0)))) (qTst (qBin fEq (qCall 2 sp__law_take (qaC (qVar 0) (qaC (qC (.int 2)) qaN))) (qC (.int 0)))))
  (qDrop (qMl fApp (qVar 3) (qaC (qBin fAdd (qSl (qVar 4) qoN (qoS (qBin fSub (qVar 5) (qC (.int 1))))) (qIf (qTst (qBin fEq (qBin fIdxA (qVar 4) (qBin fSub (qVar 5) (qC (.int 1)))) (qC (.str [48])))) (qC (.str [49])) (qC (.str [48])))) qaN)))
  qNext)))
  (qSet 3 (qNew (qLc (qiV (qVar 3)) (tg1 6) (qTst (qBin fGtA (qCall 2 sp__law_take (qaC (qVar 0) (qaC (qC (.int 4)) qaN))) (qC (.int 0)))) (qVar 6))))))
  (qSeq (qSet 7 (qBin fAdd (qC (.int 2)) (qCall 2 sp__law_take (qaC (qVar 0) (qaC (qC (.int 4)) qaN)))))
  (qSet 3 (qNew (qLc (qiV (qCall0 sp__law_stretches)) (tg1 6) (qOr (qTst (qBin fEq (qVar 1) (qC (.int 3)))) (qTst (qBin fEq (qCall 2 sp__law_take (qaC (qVar 0) (qaC (qVar 7) qaN))) (qC (.int 0))))) (qVar 6)))))))
  (qRet (qNew (qLc (qiV (qVar 3)) (tg1 6) qYes (qTup (qaC (qVar 6) (qaC (qCall 2 sp__law_to (qaC (qVar 0) (qaC (qVar 2) qaN))) qaN))))))))
@[irreducible] def sp__law_rows : PSp := spDef 8 r__law_rows

/-- _law_answers: 0 rows, 1 goes, 2 found, 3 stretch, 4 to, 5 address, 6 less -/
def r__law_answers : QTS := (qSeq (qPar 1 2 (qaC qDNew (qaC qDNew qaN)))
  (qSeq (qFor (qiV (qVar 0)) (qgTup 2 (qgC (qgName 3) (qgC (qgName 4) qgN)))
  (qAsg (qVar 4) (qgSub (qVar 1) (qVar 3) fSetA)))
  (qSeq (qFor (qiV (qSl (qCall0 sp__law_stretches) (qoS (qC (.int 63))) qoN)) (qgName 5)
  (qSeq (qAsg (qC .non) (qgSub (qVar 2) (qVar 5) fSetA))
  (qFor (qiR1 (qaC (qC (.int 7)) qaN)) (qgName 6)
  (qIfS (qTst (qInA false (qSl (qVar 5) qoN (qoS (qBin fSub (qC (.int 6)) (qVar 6)))) (qhE (qVar 1))))
  (qSeq (qAsg (qBin fIdxA (qVar 1) (qSl (qVar 5) qoN (qoS (qBin fSub (qC (.int 6)) (qVar 6))))) (qgSub (qVar 2) (qVar 5) fSetA))
  qBrk)
  qNext))))
  (qRet (qVar 2)))))
@[irreducible] def sp__law_answers : PSp := spDef 7 r__law_answers

/-- Table_longest: 0 self, 1 address, 2 stretch -/
def r_Table_longest : QTS := (qSeq (qFor (qiV (qCall 1 sp_stretches_of (qaC (qVar 1) qaN))) (qgName 2)
  (qIfS (qTst (qInA false (qVar 2) (qhE (qFld clsL 9 (qVar 0)))))
  (qRet (qBin fIdxA (qFld clsL 9 (qVar 0)) (qVar 2)))
  qNext))
  (qRet (qC .non)))
@[irreducible] def sp_Table_longest : PSp := spDef 3 r_Table_longest

/-- Table_listed: 0 self, 1 stretch -/
def r_Table_listed : QTS := (qRet (qTupL (qLc (qiL (qSortedA (qhE (qFld clsL 9 (qVar 0))))) (tg1 1) qYes (qTup (qaC (qVar 1) (qaC (qBin fIdxA (qFld clsL 9 (qVar 0)) (qVar 1)) qaN))))))
@[irreducible] def sp_Table_listed : PSp := spDef 2 r_Table_listed

/-- _law_answers_so: 0 table, 1 rows, 2 due, 3 address -/
def r__law_answers_so : QTS := (qSeq (qIfS (qNot (qTru (qCall 2 sp__law_like (qaC (qMeth 3 1 sp_Table_listed (qVar 0) qaN) (qaC (qTupL (qSorted3 (qhE (qVar 1)))) qaN)))))
  (qRet (qC (.bl false)))
  qNext)
  (qSeq (qSet 2 (qCall 1 sp__law_answers (qaC (qVar 1) qaN)))
  (qRet (qAllL (qLockL (qLc (qiD (qVar 2)) (tg1 3) qYes (qCall 2 sp__law_like (qaC (qMeth 3 2 sp_Table_longest (qVar 0) (qaC (qVar 3) qaN)) (qaC (qBin fIdxA (qVar 2) (qVar 3)) qaN)))))))))
@[irreducible] def sp__law_answers_so : PSp := spDef 4 r__law_answers_so

/-- Table_init: 0 self, 1 rows, 2 stretch, 3 to -/
def r_Table_init : QTS := (qSFld clsL 9 (qVar 0) (qDc (qiV (qVar 1)) (tg2 2 3) qYes (qVar 2) (qVar 3)))
@[irreducible] def sp_Table_init : PSp := spDef 4 r_Table_init

/-- law: 0 script, 1 case, 2 box, 3 rows, 4 others, 5 table, 6 twin, 7 address -/
def r_law : QTS := (qSeq (qFor (qiR1 (qaC (qC (.int 2)) qaN)) (qgName 1)
  (qSeq (qSet 2 (qCall 2 sp__law_box (qaC (qVar 0) (qaC (qBin fMul (qC (.int 2)) (qVar 1)) qaN))))
  (qSeq (qSet 3 (qCall 3 sp__law_rows (qaC (qVar 2) (qaC (qCall 2 sp__law_take (qaC (qVar 2) (qaC (qC (.int 4)) qaN))) (qaC (qBin fAdd (qC (.int 1)) (qCall 2 sp__law_take (qaC (qVar 2) (qaC (qC (.int 6)) qaN)))) qaN)))))
  (qSeq (qSet 2 (qCall 2 sp__law_box (qaC (qVar 0) (qaC (qBin fAdd (qBin fMul (qC (.int 2)) (qVar 1)) (qC (.int 1))) qaN))))
  (qSeq (qSet 4 (qCall 3 sp__law_rows (qaC (qVar 2) (qaC (qCall 2 sp__law_take (qaC (qVar 2) (qaC (qC (.int 2)) qaN))) (qaC (qBin fAdd (qC (.int 1)) (qCall 2 sp__law_take (qaC (qVar 2) (qaC (qC (.int 6)) qaN)))) qaN)))))
  (qSeq (qSet 5 (qMake 3 2 sp_Table_init (qaC (qCal fTup (qaC (qCall 2 sp__law_order (qaC (qVar 2) (qaC (qVar 3) qaN))) qaN)) qaN)))
  (qSeq (qSet 6 (qMakeK 3 2 1 [0, 1] sp_Table_init (qaC (qCal fTup (qaC (qCall 2 sp__law_order (qaC (qVar 2) (qaC (qVar 4) qaN))) qaN)) qaN)))
  (qSeq (qIfS (qOr (qNot (qTru (qCall 2 sp__law_answers_so (qaC (qVar 5) (qaC (qVar 3) qaN))))) (qOr (qNot (qTru (qCall 2 sp__law_answers_so (qaC (qVar 6) (qaC (qVar 4) qaN))))) (qNot (qTru (qCall 2 sp__law_answers_so (qaC (qVar 5) (qaC (qVar 3) qaN)))))))
  (qRet (qC (.bl false)))
  qNext)
  (qFor (qiV (qSl (qCall 2 sp__law_order (qaC (qVar 2) (qaC (qSl (qCall0 sp__law_stretches) (qoS (qC (.int 63))) qoN) qaN))) qoN (qoS (qC (.int 4))))) (qgName 7)
  (qIfS (qNot (qTru (qCall 2 sp__law_like (qaC (qMethK 3 2 1 [0, 1] sp_Table_longest (qVar 6) (qaC (qVar 7) qaN)) (qaC (qBin fIdxA (qCall 1 sp__law_answers (qaC (qVar 4) qaN)) (qVar 7)) qaN)))))
  (qRet (qC (.bl false)))
  qNext))))))))))
  (qRet (qC (.bl true))))
@[irreducible] def sp_law : PSp := spDef 8 r_law

end Mp

set_option Elab.async false
set_option linter.all false
set_option maxRecDepth 100000
namespace Mp
open PySem PySem.Spec PyProof.Rows PySem.HandSPX L2
open LamX (TabB LamS lamS_by)

def topS (i : Nat) : Stmt := PySem.Challenge.pw_maypoint_k63_what_tables_answer.main.body.getD i (.Pass ⟨0, 0, 0, 0⟩)
structure ZT (K : PySem.W.Frag) (mg : Str → Option Value) : Prop where
  z_abs : mg "abs" = none
  z_all : mg "all" = none
  z_bool : mg "bool" = none
  z_int : mg "int" = none
  z_isinstance : mg "isinstance" = none
  z_len : mg "len" = none
  z_list : mg "list" = none
  z_range : mg "range" = none
  z_sorted : mg "sorted" = none
  z_str : mg "str" = none
  z_tuple : mg "tuple" = none
  g_SIGNS : ∃ t, mg "SIGNS" = some (.int 6 t)
  z_cls : InsCs K clsL
theorem nf_listed : ∀ i < 36, fld i ≠ "listed" := by decide +kernel
theorem nf_longest : ∀ i < 36, fld i ≠ "longest" := by decide +kernel
abbrev s_stretches_of : Stmt := topS 2
theorem sc_stretches_of : FnScope ["address", "less"] ["address"] (defScope s_stretches_of) := ⟨rfl, rfl, rfl, by decide +kernel, rfl, by decide +kernel, by decide +kernel⟩
abbrev s__law_box : Stmt := topS 6
theorem sc__law_box : FnScope ["script", "k", "cell", "great"] ["script", "k"] (defScope s__law_box) := ⟨rfl, rfl, rfl, by decide +kernel, rfl, by decide +kernel, by decide +kernel⟩
abbrev s__law_take : Stmt := topS 7
theorem sc__law_take : FnScope ["box", "many", "digit", "raw"] ["box", "many"] (defScope s__law_take) := ⟨rfl, rfl, rfl, by decide +kernel, rfl, by decide +kernel, by decide +kernel⟩
abbrev s__law_pick : Stmt := topS 8
theorem sc__law_pick : FnScope ["box", "some"] ["box", "some"] (defScope s__law_pick) := ⟨rfl, rfl, rfl, by decide +kernel, rfl, by decide +kernel, by decide +kernel⟩
abbrev s__law_order : Stmt := topS 9
theorem sc__law_order : FnScope ["box", "some", "left", "found", "turn"] ["box", "some"] (defScope s__law_order) := ⟨rfl, rfl, rfl, by decide +kernel, rfl, by decide +kernel, by decide +kernel⟩
abbrev s__law_like : Stmt := topS 10
theorem sc__law_like : FnScope ["one", "due", "k"] ["one", "due"] (defScope s__law_like) := ⟨rfl, rfl, rfl, by decide +kernel, rfl, by decide +kernel, by decide +kernel⟩
abbrev s__law_stretches : Stmt := topS 11
theorem sc__law_stretches : FnScope ["found", "level", "turn", "stretch"] [] (defScope s__law_stretches) := ⟨rfl, rfl, rfl, by decide +kernel, rfl, by decide +kernel, by decide +kernel⟩
abbrev s__law_to : Stmt := topS 12
theorem sc__law_to : FnScope ["box", "few"] ["box", "few"] (defScope s__law_to) := ⟨rfl, rfl, rfl, by decide +kernel, rfl, by decide +kernel, by decide +kernel⟩
abbrev s__law_rows : Stmt := topS 13
theorem sc__law_rows : FnScope ["box", "shape", "few", "some", "address", "turn", "stretch", "many"] ["box", "shape", "few"] (defScope s__law_rows) := ⟨rfl, rfl, rfl, by decide +kernel, rfl, by decide +kernel, by decide +kernel⟩
abbrev s__law_answers : Stmt := topS 14
theorem sc__law_answers : FnScope ["rows", "goes", "found", "stretch", "to", "address", "less"] ["rows"] (defScope s__law_answers) := ⟨rfl, rfl, rfl, by decide +kernel, rfl, by decide +kernel, by decide +kernel⟩
abbrev s_Table_longest : Stmt := inClass (topS 4) 1
theorem sc_Table_longest : FnScope ["self", "address", "stretch"] ["self", "address"] (defScope s_Table_longest) := ⟨rfl, rfl, rfl, by decide +kernel, rfl, by decide +kernel, by decide +kernel⟩
abbrev s_Table_listed : Stmt := inClass (topS 4) 2
theorem sc_Table_listed : FnScope ["self", "stretch"] ["self"] (defScope s_Table_listed) := ⟨rfl, rfl, rfl, by decide +kernel, rfl, by decide +kernel, by decide +kernel⟩
abbrev s__law_answers_so : Stmt := topS 15
theorem sc__law_answers_so : FnScope ["table", "rows", "due", "address"] ["table", "rows"] (defScope s__law_answers_so) := ⟨rfl, rfl, rfl, by decide +kernel, rfl, by decide +kernel, by decide +kernel⟩
abbrev s_Table_init : Stmt := inClass (topS 4) 0
theorem sc_Table_init : FnScope ["self", "rows", "stretch", "to"] ["self", "rows"] (defScope s_Table_init) := ⟨rfl, rfl, rfl, by decide +kernel, rfl, by decide +kernel, by decide +kernel⟩
abbrev s_law : Stmt := topS 16
theorem sc_law : FnScope ["script", "case", "box", "rows", "others", "table", "twin", "address"] ["script"] (defScope s_law) := ⟨rfl, rfl, rfl, by decide +kernel, rfl, by decide +kernel, by decide +kernel⟩
section
variable {P : Program} {w : World} {K : PySem.W.Frag} {mg : Str → Option Value} {base : Heap} {T : List (Addr × Str)}
structure C_stretches_of (P : Program) (w : World) (K : PySem.W.Frag) (mg : Str → Option Value) (base : Heap) (T : List (Addr × Str))  : Prop where
  ok : True
theorem o_stretches_of (Z : ZT K mg) (C : C_stretches_of P w K mg base T) {f : Addr} {fd : FuncData} (F : Fun K "stretches_of" "stretches_of" s_stretches_of f fd) : FnOk P w K mg base (L2N.CX P w) 1 f fd ["address"] (spOf K T 1 sp_stretches_of) := by
  unfold sp_stretches_of
  exact
  fnok_mk (N := ["address", "less"]) (ps := ["address"]) F rfl rfl sc_stretches_of fun cdv A outer s H E hr tk hp hu nd =>
  have hu0 := hr.units0
  have hu1 := hr.units1
  ((qss_one (qs_ret (q_tupL (by rfl) Z.z_tuple (ql_lc (g := (tg1 1)) rfl nd (qi_r1 (by rfl) Z.z_range (qa_cons (q_add (q_gint Z.g_SIGNS) q_int) qa_nil)) (blkOk_by (own := [("less", 1)]) (by show blkC ["address", "less"] (defScope s_stretches_of) _ _ = true; decide +kernel)) rfl tg1_ok (fun _ _ _ _ _ => pg_name (i := 1) nd rfl (Or.inl rfl)) (fun _ _ _ _ _ => qts_nil) (fun _ _ _ _ _ => (q_slice (q_var 0) qo_none (qo_some (q_sub (q_gint Z.g_SIGNS) (q_var 1))))))))))
theorem f_stretches_of (Z : ZT K mg) (C : C_stretches_of P w K mg base T) {f : Addr} {fd : FuncData} (hm : mg "stretches_of" = some (.ref f)) (F : Fun K "stretches_of" "stretches_of" s_stretches_of f fd) : Fn P w K mg base T 1 "stretches_of" s_stretches_of 1 sp_stretches_of :=
  fn_mk (ps := ["address"]) hm F (F.binds fun _ _ _ _ _ _ us hl => match us, hl with | [_], _ => rfl) rfl rfl (o_stretches_of Z C F)

structure C__law_box (P : Program) (w : World) (K : PySem.W.Frag) (mg : Str → Option Value) (base : Heap) (T : List (Addr × Str))  : Prop where
  ok : True
theorem o__law_box (Z : ZT K mg) (C : C__law_box P w K mg base T) {f : Addr} {fd : FuncData} (F : Fun K "_law_box" "_law_box" s__law_box f fd) : FnOk P w K mg base (L2N.CX P w) 1 f fd ["script", "k"] (spOf K T 2 sp__law_box) := by
  unfold sp__law_box
  exact
  fnok_mk (N := ["script", "k", "cell", "great"]) (ps := ["script", "k"]) F rfl rfl sc__law_box fun cdv A outer s H E hr tk hp hu nd =>
  have hu0 := hr.units0
  have hu1 := hr.units1
  ((qss_cons (qs_set (i := 2) nd (q_add (q_mul q_int (q_var 1)) q_int))
  (qss_cons (qs_if (qt_lt hu0 (q_var 1) (q_callB (CallR.or call_len cr_lenD) cq_lenA (by rfl) Z.z_len PySem.boot_len (qa_cons (q_var 0) qa_nil)))
  (qss_one (qs_set (i := 2) nd (q_callB call_abs cq_abs (by rfl) Z.z_abs (by decide +kernel) (qa_cons (q_callTy call_int1 cq_int (by rfl) Z.z_int (by decide +kernel) (qa_cons (q_idxA (u1 hu1) (q_var 0) (q_var 1)) qa_nil)) qa_nil))))
  (qss_one (qs_if (qt_gtA hu0 (q_callB (CallR.or call_len cr_lenD) cq_lenA (by rfl) Z.z_len PySem.boot_len (qa_cons (q_var 0) qa_nil)) q_int)
  (qss_one (qs_set (i := 2) nd (q_add (q_var 2) (q_mul (q_mod (q_callTy call_int1 cq_int (by rfl) Z.z_int (by decide +kernel) (qa_cons (q_callB call_abs cq_abs (by rfl) Z.z_abs (by decide +kernel) (qa_cons (q_callTy call_int1 cq_int (by rfl) Z.z_int (by decide +kernel) (qa_cons (q_idxA (u1 hu1) (q_var 0) (q_mod (q_callTy call_int1 cq_int (by rfl) Z.z_int (by decide +kernel) (qa_cons (q_var 1) qa_nil)) (q_callB (CallR.or call_len cr_lenD) cq_lenA (by rfl) Z.z_len PySem.boot_len (qa_cons (q_var 0) qa_nil)))) qa_nil)) qa_nil)) qa_nil)) q_int) q_int))))
  qss_nil)))
  (qss_cons (qs_set (i := 3) nd (qe_if (qt_ge (q_var 2) (q_pow q_int q_int)) (q_var 2) q_int))
  (qss_one (qs_ret (q_new (ql_lst (qa_cons (q_var 3) (qa_cons (q_add (q_mod (q_callTy call_int1 cq_int (by rfl) Z.z_int (by decide +kernel) (qa_cons (q_add (q_mul (q_mod (q_callTy call_int1 cq_int (by rfl) Z.z_int (by decide +kernel) (qa_cons (q_var 2) qa_nil)) q_int) q_int) (q_mul q_int (q_var 1))) qa_nil)) q_int) q_int) qa_nil))))))))))
theorem f__law_box (Z : ZT K mg) (C : C__law_box P w K mg base T) {f : Addr} {fd : FuncData} (hm : mg "_law_box" = some (.ref f)) (F : Fun K "_law_box" "_law_box" s__law_box f fd) : Fn P w K mg base T 1 "_law_box" s__law_box 2 sp__law_box :=
  fn_mk (ps := ["script", "k"]) hm F (F.binds fun _ _ _ _ _ _ us hl => match us, hl with | [_, _], _ => rfl) rfl rfl (o__law_box Z C F)

structure C__law_take (P : Program) (w : World) (K : PySem.W.Frag) (mg : Str → Option Value) (base : Heap) (T : List (Addr × Str))  : Prop where
  ok : True
theorem o__law_take (Z : ZT K mg) (C : C__law_take P w K mg base T) {f : Addr} {fd : FuncData} (F : Fun K "_law_take" "_law_take" s__law_take f fd) : FnOk P w K mg base (L2N.CX P w) 1 f fd ["box", "many"] (spOf K T 2 sp__law_take) := by
  unfold sp__law_take
  exact
  fnok_mk (N := ["box", "many", "digit", "raw"]) (ps := ["box", "many"]) F rfl rfl sc__law_take fun cdv A outer s H E hr tk hp hu nd =>
  have hu0 := hr.units0
  have hu1 := hr.units1
  ((qss_cons (qs_if (qt_gtA hu0 (q_idxA (u1 hu1) (q_var 0) q_int) q_int)
  (qss_cons (qs_set (i := 2) nd (q_mod (q_callTy call_int1 cq_int (by rfl) Z.z_int (by decide +kernel) (qa_cons (q_idxA (u1 hu1) (q_var 0) q_int) qa_nil)) (q_var 1)))
  (qss_cons (qs_asg (q_div (q_idxA (u1 hu1) (q_var 0) q_int) (q_var 1)) (qg_idxA (u1 hu1) (q_var 0) q_int))
  (qss_one (qs_ret (q_var 2)))))
  qss_nil)
  (qss_cons (qs_set (i := 3) nd (q_mod (q_callTy call_int1 cq_int (by rfl) Z.z_int (by decide +kernel) (qa_cons (q_add (q_mul (q_idxA (u1 hu1) (q_var 0) q_int) q_int) q_int) qa_nil)) q_int))
  (qss_cons (qs_asg (q_add (q_mod (q_callTy call_int1 cq_int (by rfl) Z.z_int (by decide +kernel) (qa_cons (q_add (q_mul (q_var 3) q_int) q_int) qa_nil)) q_int) q_int) (qg_idxA (u1 hu1) (q_var 0) q_int))
  (qss_one (qs_ret (q_mod (q_callTy call_int1 cq_int (by rfl) Z.z_int (by decide +kernel) (qa_cons (q_div (q_add (q_mul (q_var 3) q_int) (q_idxA (u1 hu1) (q_var 0) q_int)) q_int) qa_nil)) (q_var 1))))))))
theorem f__law_take (Z : ZT K mg) (C : C__law_take P w K mg base T) {f : Addr} {fd : FuncData} (hm : mg "_law_take" = some (.ref f)) (F : Fun K "_law_take" "_law_take" s__law_take f fd) : Fn P w K mg base T 1 "_law_take" s__law_take 2 sp__law_take :=
  fn_mk (ps := ["box", "many"]) hm F (F.binds fun _ _ _ _ _ _ us hl => match us, hl with | [_, _], _ => rfl) rfl rfl (o__law_take Z C F)

structure C__law_pick (P : Program) (w : World) (K : PySem.W.Frag) (mg : Str → Option Value) (base : Heap) (T : List (Addr × Str))  : Prop where
  c__law_take : Fn P w K mg base T 1 "_law_take" s__law_take 2 sp__law_take
theorem o__law_pick (Z : ZT K mg) (C : C__law_pick P w K mg base T) {f : Addr} {fd : FuncData} (F : Fun K "_law_pick" "_law_pick" s__law_pick f fd) : FnOk P w K mg base (L2N.CX P w) 2 f fd ["box", "some"] (spOf K T 2 sp__law_pick) := by
  unfold sp__law_pick
  exact
  fnok_mk (N := ["box", "some"]) (ps := ["box", "some"]) F rfl rfl sc__law_pick fun cdv A outer s H E hr tk hp hu nd =>
  have hu0 := hr.units0
  have hu1 := hr.units1
  ((qss_one (qs_ret (q_idxA (u1 hu1) (q_var 1) (q_call C.c__law_take hr tk (by rfl) (qa_cons (q_var 0) (qa_cons (q_callB (CallR.or call_len cr_lenD) cq_lenA (by rfl) Z.z_len PySem.boot_len (qa_cons (q_var 1) qa_nil)) qa_nil)))))))
theorem f__law_pick (Z : ZT K mg) (C : C__law_pick P w K mg base T) {f : Addr} {fd : FuncData} (hm : mg "_law_pick" = some (.ref f)) (F : Fun K "_law_pick" "_law_pick" s__law_pick f fd) : Fn P w K mg base T 2 "_law_pick" s__law_pick 2 sp__law_pick :=
  fn_mk (ps := ["box", "some"]) hm F (F.binds fun _ _ _ _ _ _ us hl => match us, hl with | [_, _], _ => rfl) rfl rfl (o__law_pick Z C F)

structure C__law_order (P : Program) (w : World) (K : PySem.W.Frag) (mg : Str → Option Value) (base : Heap) (T : List (Addr × Str))  : Prop where
  c__law_take : Fn P w K mg base T 1 "_law_take" s__law_take 2 sp__law_take
theorem o__law_order (Z : ZT K mg) (C : C__law_order P w K mg base T) {f : Addr} {fd : FuncData} (F : Fun K "_law_order" "_law_order" s__law_order f fd) : FnOk P w K mg base (L2N.CX P w) 2 f fd ["box", "some"] (spOf K T 2 sp__law_order) := by
  unfold sp__law_order
  exact
  fnok_mk (N := ["box", "some", "left", "found", "turn"]) (ps := ["box", "some"]) F rfl rfl sc__law_order fun cdv A outer s H E hr tk hp hu nd =>
  have hu0 := hr.units0
  have hu1 := hr.units1
  ((qss_cons (qs_par (i := 2) (j := 3) rfl nd (qa_cons (q_new (ql_listD rfl (by rfl) Z.z_list (q_var 1))) (qa_cons (q_new (ql_lst qa_nil)) qa_nil)))
  (qss_cons (qs_for hp rfl (qi_r1 (by rfl) Z.z_range (qa_cons (q_callB (CallR.or call_len cr_lenD) cq_lenA (by rfl) Z.z_len PySem.boot_len (qa_cons (q_var 2) qa_nil)) qa_nil)) (qg_name (i := 4) nd)
  (qss_one (qs_expr (q_append (q_var 3) (qa_cons (q_popAt (q_var 2) (qa_cons (q_call C.c__law_take hr tk (by rfl) (qa_cons (q_var 0) (qa_cons (q_callB (CallR.or call_len cr_lenD) cq_lenA (by rfl) Z.z_len PySem.boot_len (qa_cons (q_var 2) qa_nil)) qa_nil))) qa_nil)) qa_nil)))))
  (qss_one (qs_ret (q_var 3))))))
theorem f__law_order (Z : ZT K mg) (C : C__law_order P w K mg base T) {f : Addr} {fd : FuncData} (hm : mg "_law_order" = some (.ref f)) (F : Fun K "_law_order" "_law_order" s__law_order f fd) : Fn P w K mg base T 2 "_law_order" s__law_order 2 sp__law_order :=
  fn_mk (ps := ["box", "some"]) hm F (F.binds fun _ _ _ _ _ _ us hl => match us, hl with | [_, _], _ => rfl) rfl rfl (o__law_order Z C F)

structure C__law_like (P : Program) (w : World) (K : PySem.W.Frag) (mg : Str → Option Value) (base : Heap) (T : List (Addr × Str))  : Prop where
  ok : True
theorem o__law_like (Z : ZT K mg) (C : C__law_like P w K mg base T) {f : Addr} {fd : FuncData} (F : Fun K "_law_like" "_law_like" s__law_like f fd) (k : Nat) (sp : PSp) (hk : 0 ≤ k) (rec : Fn P w K mg base T k "_law_like" s__law_like 2 sp) : FnOk P w K mg base (L2N.CX P w) (k + 1) f fd ["one", "due"] (spOf K T 2 (spDef 3 (r__law_like sp))) :=
  fnok_mk (N := ["one", "due", "k"]) (ps := ["one", "due"]) F rfl rfl sc__law_like fun cdv A outer s H E hr tk hp hu nd =>
  have hu0 := hr.units0
  have hu1 := hr.units1
  ((qss_cons (qs_if (qt_isN (q_var 1))
  (qss_one (qs_ret (q_isN (q_var 0))))
  qss_nil)
  (qss_cons (qs_if (qt_tru (q_isi (Ty := "tuple") (by rfl) Z.z_isinstance (by rfl) Z.z_tuple (by decide +kernel) (by decide) (q_var 1)))
  (qss_cons (qs_if (qt_w (qw_or (qt_not (qt_tru (q_isi (Ty := "tuple") (by rfl) Z.z_isinstance (by rfl) Z.z_tuple (by decide +kernel) (by decide) (q_var 0)))) (qw_or1 (qt_ne hu (q_callB (CallR.or call_len cr_lenD) cq_lenA (by rfl) Z.z_len PySem.boot_len (qa_cons (q_var 0) qa_nil)) (q_callB (CallR.or call_len cr_lenD) cq_lenA (by rfl) Z.z_len PySem.boot_len (qa_cons (q_var 1) qa_nil))))))
  (qss_one (qs_ret q_bl))
  qss_nil)
  (qss_one (qs_ret (q_allL rfl (by rfl) Z.z_all (ql_lc (g := (tg1 2)) rfl nd (qi_r1 (by rfl) Z.z_range (qa_cons (q_callB (CallR.or call_len cr_lenD) cq_lenA (by rfl) Z.z_len PySem.boot_len (qa_cons (q_var 1) qa_nil)) qa_nil)) (blkOk_by (own := [("k", 2)]) (by show blkC ["one", "due", "k"] (defScope s__law_like) _ _ = true; decide +kernel)) rfl tg1_ok (fun _ _ _ _ _ => pg_name (i := 2) nd rfl (Or.inl rfl)) (fun _ _ _ _ _ => qts_nil) (fun _ _ _ _ _ => (q_call rec hr tk0 (by rfl) (qa_cons (q_idxA (u1 hu1) (q_var 0) (q_var 2)) (qa_cons (q_idxA (u1 hu1) (q_var 1) (q_var 2)) qa_nil)))))))))
  qss_nil)
  (qss_cons (qs_if (qt_tru (q_isi (Ty := "str") (by rfl) Z.z_isinstance (by rfl) Z.z_str (by decide +kernel) (by decide) (q_var 1)))
  (qss_one (qs_ret (qe_and (q_isi (Ty := "str") (by rfl) Z.z_isinstance (by rfl) Z.z_str (by decide +kernel) (by decide) (q_var 0)) (qe_one (q_eq hu (q_var 0) (q_var 1))))))
  qss_nil)
  (qss_one (qs_ret (qe_and (q_isi (Ty := "int") (by rfl) Z.z_isinstance (by rfl) Z.z_int (by decide +kernel) (by decide) (q_var 0)) (qe_and (q_eq hu (q_isi (Ty := "bool") (by rfl) Z.z_isinstance (by rfl) Z.z_bool (by decide +kernel) (by decide) (q_var 0)) (q_isi (Ty := "bool") (by rfl) Z.z_isinstance (by rfl) Z.z_bool (by decide +kernel) (by decide) (q_var 1))) (qe_one (q_eq hu (q_var 0) (q_var 1)))))))))))
theorem f__law_like (Z : ZT K mg) (C : C__law_like P w K mg base T) {f : Addr} {fd : FuncData} (hm : mg "_law_like" = some (.ref f)) (F : Fun K "_law_like" "_law_like" s__law_like f fd) : Fn P w K mg base T 8 "_law_like" s__law_like 2 sp__law_like := by
  unfold sp__law_like
  exact fn_rec (L0 := 0) (ps := ["one", "due"]) hm F (F.binds fun _ _ _ _ _ _ us hl => match us, hl with | [_, _], _ => rfl) rfl rfl (o__law_like Z C F) 8

structure C__law_stretches (P : Program) (w : World) (K : PySem.W.Frag) (mg : Str → Option Value) (base : Heap) (T : List (Addr × Str))  : Prop where
  ok : True
theorem o__law_stretches (Z : ZT K mg) (C : C__law_stretches P w K mg base T) {f : Addr} {fd : FuncData} (F : Fun K "_law_stretches" "_law_stretches" s__law_stretches f fd) : FnOk P w K mg base (L2N.CX P w) 1 f fd [] (spOf K T 0 sp__law_stretches) := by
  unfold sp__law_stretches
  exact
  fnok_mk (N := ["found", "level", "turn", "stretch"]) (ps := []) F rfl rfl sc__law_stretches fun cdv A outer s H E hr tk hp hu nd =>
  have hu0 := hr.units0
  have hu1 := hr.units1
  ((qss_cons (qs_par (i := 0) (j := 1) rfl nd (qa_cons (q_new (ql_lst qa_nil)) (qa_cons (q_new (ql_lst (qa_cons (q_str (by decide +kernel)) qa_nil))) qa_nil)))
  (qss_cons (qs_for hp rfl (qi_r1 (by rfl) Z.z_range (qa_cons q_int qa_nil)) (qg_name (i := 2) nd)
  (qss_cons (qs_set (i := 0) nd (q_add (q_var 0) (q_var 1)))
  (qss_one (qs_set (i := 1) nd (q_new (ql_cat (qv_l (ql_lc (g := (tg1 3)) rfl nd (qi_v (q_var 1)) (blkOk_by (own := [("stretch", 3)]) (by show blkC ["found", "level", "turn", "stretch"] (defScope s__law_stretches) _ _ = true; decide +kernel)) rfl tg1_ok (fun _ _ _ _ _ => pg_name (i := 3) nd rfl (Or.inl rfl)) (fun _ _ _ _ _ => qts_nil) (fun _ _ _ _ _ => (q_add (q_var 3) (q_str (by decide +kernel)))))) (qv_l (ql_lc (g := (tg1 3)) rfl nd (qi_v (q_var 1)) (blkOk_by (own := [("stretch", 3)]) (by show blkC ["found", "level", "turn", "stretch"] (defScope s__law_stretches) _ _ = true; decide +kernel)) rfl tg1_ok (fun _ _ _ _ _ => pg_name (i := 3) nd rfl (Or.inl rfl)) (fun _ _ _ _ _ => qts_nil) (fun _ _ _ _ _ => (q_add (q_var 3) (q_str (by decide +kernel))))))))))))
  (qss_one (qs_ret (q_var 0))))))
theorem f__law_stretches (Z : ZT K mg) (C : C__law_stretches P w K mg base T) {f : Addr} {fd : FuncData} (hm : mg "_law_stretches" = some (.ref f)) (F : Fun K "_law_stretches" "_law_stretches" s__law_stretches f fd) : Fn P w K mg base T 1 "_law_stretches" s__law_stretches 0 sp__law_stretches :=
  fn_mk (ps := []) hm F (F.binds fun _ _ _ _ _ _ us hl => match us, hl with | [], _ => rfl) rfl rfl (o__law_stretches Z C F)

structure C__law_to (P : Program) (w : World) (K : PySem.W.Frag) (mg : Str → Option Value) (base : Heap) (T : List (Addr × Str))  : Prop where
  c__law_take : Fn P w K mg base T 2 "_law_take" s__law_take 2 sp__law_take
  c__law_pick : Fn P w K mg base T 2 "_law_pick" s__law_pick 2 sp__law_pick
theorem o__law_to (Z : ZT K mg) (C : C__law_to P w K mg base T) {f : Addr} {fd : FuncData} (F : Fun K "_law_to" "_law_to" s__law_to f fd) : FnOk P w K mg base (L2N.CX P w) 3 f fd ["box", "few"] (spOf K T 2 sp__law_to) := by
  unfold sp__law_to
  exact
  fnok_mk (N := ["box", "few"]) (ps := ["box", "few"]) F rfl rfl sc__law_to fun cdv A outer s H E hr tk hp hu nd =>
  have hu0 := hr.units0
  have hu1 := hr.units1
  ((qss_one (qs_ret (q_call C.c__law_pick hr tk (by rfl) (qa_cons (q_var 0) (qa_cons (q_new (ql_lst (qa_cons q_non (qa_cons (q_call C.c__law_take hr tk (by rfl) (qa_cons (q_var 0) (qa_cons q_int qa_nil))) (qa_cons (q_call C.c__law_take hr tk (by rfl) (qa_cons (q_var 0) (qa_cons (q_var 1) qa_nil))) (qa_cons (q_call C.c__law_take hr tk (by rfl) (qa_cons (q_var 0) (qa_cons (q_var 1) qa_nil))) qa_nil)))))) qa_nil))))))
theorem f__law_to (Z : ZT K mg) (C : C__law_to P w K mg base T) {f : Addr} {fd : FuncData} (hm : mg "_law_to" = some (.ref f)) (F : Fun K "_law_to" "_law_to" s__law_to f fd) : Fn P w K mg base T 3 "_law_to" s__law_to 2 sp__law_to :=
  fn_mk (ps := ["box", "few"]) hm F (F.binds fun _ _ _ _ _ _ us hl => match us, hl with | [_, _], _ => rfl) rfl rfl (o__law_to Z C F)

structure C__law_rows (P : Program) (w : World) (K : PySem.W.Frag) (mg : Str → Option Value) (base : Heap) (T : List (Addr × Str))  : Prop where
  c__law_take : Fn P w K mg base T 3 "_law_take" s__law_take 2 sp__law_take
  c__law_pick : Fn P w K mg base T 3 "_law_pick" s__law_pick 2 sp__law_pick
  c__law_order : Fn P w K mg base T 3 "_law_order" s__law_order 2 sp__law_order
  c__law_stretches : Fn P w K mg base T 3 "_law_stretches" s__law_stretches 0 sp__law_stretches
  c__law_to : Fn P w K mg base T 3 "_law_to" s__law_to 2 sp__law_to
theorem o__law_rows (Z : ZT K mg) (C : C__law_rows P w K mg base T) {f : Addr} {fd : FuncData} (F : Fun K "_law_rows" "_law_rows" s__law_rows f fd) : FnOk P w K mg base (L2N.CX P w) 4 f fd ["box", "shape", "few"] (spOf K T 3 sp__law_rows) := by
  unfold sp__law_rows
  exact
  fnok_mk (N := ["box", "shape", "few", "some", "address", "turn", "stretch", "many"]) (ps := ["box", "shape", "few"]) F rfl rfl sc__law_rows fun cdv A outer s H E hr tk hp hu nd =>
  have hu0 := hr.units0
  have hu1 := hr.units1
  ((qss_cons (qs_set (i := 3) nd (q_new (ql_lst qa_nil)))
  (qss_cons (qs_if (qt_eq hu (q_var 1) q_int)
  (qss_one (qs_set (i := 3) nd (q_slice (q_call C.c__law_order hr tk (by rfl) (qa_cons (q_var 0) (qa_cons (q_call0 C.c__law_stretches hr tk (by rfl)) qa_nil))) qo_none (qo_some (q_call C.c__law_take hr tk (by rfl) (qa_cons (q_var 0) (qa_cons q_int qa_nil)))))))
  (qss_one (qs_if (qt_eq hu (q_var 1) q_int)
  (qss_cons (qs_set (i := 4) nd (q_call C.c__law_pick hr tk (by rfl) (qa_cons (q_var 0) (qa_cons (q_slice (q_call0 C.c__law_stretches hr tk (by rfl)) (qo_some q_int) qo_none) qa_nil))))
  (qss_cons (qs_for hp rfl (qi_r1 (by rfl) Z.z_range (qa_cons q_int qa_nil)) (qg_name (i := 5) nd)
  (qss_cons (qs_expr (q_append (q_var 3) (qa_cons (q_slice (q_var 4) qo_none (qo_some (q_var 5))) qa_nil)))
  (qss_one (qs_if (qt_w (qw_and (qt_gtA hu0 (q_var 5) q_int) (qw_and1 (qt_eq hu (q_call C.c__law_take hr tk (by rfl) (qa_cons (q_var 0) (qa_cons q_int qa_nil))) q_int))))
  (qss_one (qs_expr (q_append (q_var 3) (qa_cons (q_add (q_slice (q_var 4) qo_none (qo_some (q_sub (q_var 5) q_int))) (qe_if (qt_eq hu (q_idxA (u1 hu1) (q_var 4) (q_sub (q_var 5) q_int)) (q_str (by decide +kernel))) (q_str (by decide +kernel)) (q_str (by decide +kernel)))) qa_nil))))
  qss_nil))))
  (qss_one (qs_setLc (i := 3) (g := (tg1 6)) rfl nd (qi_v (q_var 3)) (blkOk_by (own := [("stretch", 6)]) (by show blkC ["box", "shape", "few", "some", "address", "turn", "stretch", "many"] (defScope s__law_rows) _ _ = true; decide +kernel)) rfl tg1_ok (fun _ _ _ _ _ => pg_name (i := 6) nd rfl (Or.inl rfl)) (fun _ _ _ _ _ => (qts_one (qt_gtA hu0 (q_call C.c__law_take hr tk0 (by rfl) (qa_cons (q_var 0) (qa_cons q_int qa_nil))) q_int))) (fun _ _ _ _ _ => (q_var 6))))))
  (qss_cons (qs_set (i := 7) nd (q_add q_int (q_call C.c__law_take hr tk (by rfl) (qa_cons (q_var 0) (qa_cons q_int qa_nil)))))
  (qss_one (qs_setLc (i := 3) (g := (tg1 6)) rfl nd (qi_v (q_call0 C.c__law_stretches hr tk (by rfl))) (blkOk_by (own := [("stretch", 6)]) (by show blkC ["box", "shape", "few", "some", "address", "turn", "stretch", "many"] (defScope s__law_rows) _ _ = true; decide +kernel)) rfl tg1_ok (fun _ _ _ _ _ => pg_name (i := 6) nd rfl (Or.inl rfl)) (fun _ _ _ _ _ => (qts_one (qt_w (qw_or (qt_eq hu (q_var 1) q_int) (qw_or1 (qt_eq hu (q_call C.c__law_take hr tk0 (by rfl) (qa_cons (q_var 0) (qa_cons (q_var 7) qa_nil))) q_int)))))) (fun _ _ _ _ _ => (q_var 6))))))))
  (qss_one (qs_ret (q_new (ql_lc (g := (tg1 6)) rfl nd (qi_v (q_var 3)) (blkOk_by (own := [("stretch", 6)]) (by show blkC ["box", "shape", "few", "some", "address", "turn", "stretch", "many"] (defScope s__law_rows) _ _ = true; decide +kernel)) rfl tg1_ok (fun _ _ _ _ _ => pg_name (i := 6) nd rfl (Or.inl rfl)) (fun _ _ _ _ _ => qts_nil) (fun _ _ _ _ _ => (q_tup (qa_cons (q_var 6) (qa_cons (q_call C.c__law_to hr tk0 (by rfl) (qa_cons (q_var 0) (qa_cons (q_var 2) qa_nil))) qa_nil)))))))))))
theorem f__law_rows (Z : ZT K mg) (C : C__law_rows P w K mg base T) {f : Addr} {fd : FuncData} (hm : mg "_law_rows" = some (.ref f)) (F : Fun K "_law_rows" "_law_rows" s__law_rows f fd) : Fn P w K mg base T 4 "_law_rows" s__law_rows 3 sp__law_rows :=
  fn_mk (ps := ["box", "shape", "few"]) hm F (F.binds fun _ _ _ _ _ _ us hl => match us, hl with | [_, _, _], _ => rfl) rfl rfl (o__law_rows Z C F)

structure C__law_answers (P : Program) (w : World) (K : PySem.W.Frag) (mg : Str → Option Value) (base : Heap) (T : List (Addr × Str))  : Prop where
  c__law_stretches : Fn P w K mg base T 1 "_law_stretches" s__law_stretches 0 sp__law_stretches
theorem o__law_answers (Z : ZT K mg) (C : C__law_answers P w K mg base T) {f : Addr} {fd : FuncData} (F : Fun K "_law_answers" "_law_answers" s__law_answers f fd) : FnOk P w K mg base (L2N.CX P w) 2 f fd ["rows"] (spOf K T 1 sp__law_answers) := by
  unfold sp__law_answers
  exact
  fnok_mk (N := ["rows", "goes", "found", "stretch", "to", "address", "less"]) (ps := ["rows"]) F rfl rfl sc__law_answers fun cdv A outer s H E hr tk hp hu nd =>
  have hu0 := hr.units0
  have hu1 := hr.units1
  ((qss_cons (qs_par (i := 1) (j := 2) rfl nd (qa_cons q_dnew (qa_cons q_dnew qa_nil)))
  (qss_cons (qs_for hp rfl (qi_v (q_var 0)) (qg_tup rfl (qgs_cons (qg_name (i := 3) nd) (qgs_cons (qg_name (i := 4) nd) qgs_nil)))
  (qss_one (qs_asg (q_var 4) (qg_idxA (u1 hu1) (q_var 1) (q_var 3)))))
  (qss_cons (qs_for hp rfl (qi_v (q_slice (q_call0 C.c__law_stretches hr tk (by rfl)) (qo_some q_int) qo_none)) (qg_name (i := 5) nd)
  (qss_cons (qs_asg q_non (qg_idxA (u1 hu1) (q_var 2) (q_var 5)))
  (qss_one (qs_for hp rfl (qi_r1 (by rfl) Z.z_range (qa_cons q_int qa_nil)) (qg_name (i := 6) nd)
  (qss_one (qs_if (qt_inA hu1 (q_slice (q_var 5) qo_none (qo_some (q_sub q_int (q_var 6)))) (qh_e (q_var 1)))
  (qss_cons (qs_asg (q_idxA (u1 hu1) (q_var 1) (q_slice (q_var 5) qo_none (qo_some (q_sub q_int (q_var 6))))) (qg_idxA (u1 hu1) (q_var 2) (q_var 5)))
  (qss_one qs_brk))
  qss_nil))))))
  (qss_one (qs_ret (q_var 2)))))))
theorem f__law_answers (Z : ZT K mg) (C : C__law_answers P w K mg base T) {f : Addr} {fd : FuncData} (hm : mg "_law_answers" = some (.ref f)) (F : Fun K "_law_answers" "_law_answers" s__law_answers f fd) : Fn P w K mg base T 2 "_law_answers" s__law_answers 1 sp__law_answers :=
  fn_mk (ps := ["rows"]) hm F (F.binds fun _ _ _ _ _ _ us hl => match us, hl with | [_], _ => rfl) rfl rfl (o__law_answers Z C F)

structure C_Table_longest (P : Program) (w : World) (K : PySem.W.Frag) (mg : Str → Option Value) (base : Heap) (T : List (Addr × Str))  : Prop where
  c_stretches_of : Fn P w K mg base T 1 "stretches_of" s_stretches_of 1 sp_stretches_of
theorem o_Table_longest (Z : ZT K mg) (C : C_Table_longest P w K mg base T) {f : Addr} {fd : FuncData} (F : Fun K "longest" "Table.longest" s_Table_longest f fd) : FnOk P w K mg base (L2N.CX P w) 2 f fd ["self", "address"] (spOf K T 2 sp_Table_longest) := by
  unfold sp_Table_longest
  exact
  fnok_mk (N := ["self", "address", "stretch"]) (ps := ["self", "address"]) F rfl rfl sc_Table_longest fun cdv A outer s H E hr tk hp hu nd =>
  have hu0 := hr.units0
  have hu1 := hr.units1
  ((qss_cons (qs_for hp rfl (qi_v (q_call C.c_stretches_of hr tk (by rfl) (qa_cons (q_var 1) qa_nil))) (qg_name (i := 2) nd)
  (qss_one (qs_if (qt_inA hu1 (q_var 2) (qh_e (q_fld Z.z_cls (q_var 0))))
  (qss_one (qs_ret (q_idxA (u1 hu1) (q_fld Z.z_cls (q_var 0)) (q_var 2))))
  qss_nil)))
  (qss_one (qs_ret q_non))))
theorem f_Table_longest (Z : ZT K mg) (C : C_Table_longest P w K mg base T) {c f : Addr} {fd : FuncData} (hm : mg (cls 3) = some (.ref c)) (hn : PySem.W.nsIn K mainGlobals (cls 3) = some (some (.ref c))) (cc : Cls K c) (M : Meth K c "longest" f) (F : Fun K "longest" "Table.longest" s_Table_longest f fd) : Mt P w K mg base T 2 3 "longest" s_Table_longest 2 sp_Table_longest :=
  ⟨c, f, fd, ["self", "address"], hm, hn, cc, M, ⟨_, F⟩, (F.binds fun _ _ _ _ _ _ us hl => match us, hl with | [_, _], _ => rfl), rfl, rfl, o_Table_longest Z C F⟩

structure C_Table_listed (P : Program) (w : World) (K : PySem.W.Frag) (mg : Str → Option Value) (base : Heap) (T : List (Addr × Str))  : Prop where
  ok : True
theorem o_Table_listed (Z : ZT K mg) (C : C_Table_listed P w K mg base T) {f : Addr} {fd : FuncData} (F : Fun K "listed" "Table.listed" s_Table_listed f fd) : FnOk P w K mg base (L2N.CX P w) 1 f fd ["self"] (spOf K T 1 sp_Table_listed) := by
  unfold sp_Table_listed
  exact
  fnok_mk (N := ["self", "stretch"]) (ps := ["self"]) F rfl rfl sc_Table_listed fun cdv A outer s H E hr tk hp hu nd =>
  have hu0 := hr.units0
  have hu1 := hr.units1
  ((qss_one (qs_ret (q_tupL (by rfl) Z.z_tuple (ql_lc (g := (tg1 1)) rfl nd (qi_l (ql_sortedA rfl hu (by rfl) Z.z_sorted (qh_e (q_fld Z.z_cls (q_var 0))))) (blkOk_by (own := [("stretch", 1)]) (by show blkC ["self", "stretch"] (defScope s_Table_listed) _ _ = true; decide +kernel)) rfl tg1_ok (fun _ _ _ _ _ => pg_name (i := 1) nd rfl (Or.inl rfl)) (fun _ _ _ _ _ => qts_nil) (fun _ _ _ _ _ => (q_tup (qa_cons (q_var 1) (qa_cons (q_idxA (u1 hu1) (q_fld Z.z_cls (q_var 0)) (q_var 1)) qa_nil)))))))))
theorem f_Table_listed (Z : ZT K mg) (C : C_Table_listed P w K mg base T) {c f : Addr} {fd : FuncData} (hm : mg (cls 3) = some (.ref c)) (hn : PySem.W.nsIn K mainGlobals (cls 3) = some (some (.ref c))) (cc : Cls K c) (M : Meth K c "listed" f) (F : Fun K "listed" "Table.listed" s_Table_listed f fd) : Mt P w K mg base T 1 3 "listed" s_Table_listed 1 sp_Table_listed :=
  ⟨c, f, fd, ["self"], hm, hn, cc, M, ⟨_, F⟩, (F.binds fun _ _ _ _ _ _ us hl => match us, hl with | [_], _ => rfl), rfl, rfl, o_Table_listed Z C F⟩

structure C__law_answers_so (P : Program) (w : World) (K : PySem.W.Frag) (mg : Str → Option Value) (base : Heap) (T : List (Addr × Str))  : Prop where
  c__law_like : Fn P w K mg base T 8 "_law_like" s__law_like 2 sp__law_like
  c__law_answers : Fn P w K mg base T 8 "_law_answers" s__law_answers 1 sp__law_answers
  m_Table_longest : Mt P w K mg base T 8 3 "longest" s_Table_longest 2 sp_Table_longest
  m_Table_listed : Mt P w K mg base T 8 3 "listed" s_Table_listed 1 sp_Table_listed
theorem o__law_answers_so (Z : ZT K mg) (C : C__law_answers_so P w K mg base T) {f : Addr} {fd : FuncData} (F : Fun K "_law_answers_so" "_law_answers_so" s__law_answers_so f fd) : FnOk P w K mg base (L2N.CX P w) 9 f fd ["table", "rows"] (spOf K T 2 sp__law_answers_so) := by
  unfold sp__law_answers_so
  exact
  fnok_mk (N := ["table", "rows", "due", "address"]) (ps := ["table", "rows"]) F rfl rfl sc__law_answers_so fun cdv A outer s H E hr tk hp hu nd =>
  have hu0 := hr.units0
  have hu1 := hr.units1
  ((qss_cons (qs_if (qt_not (qt_tru (q_call C.c__law_like hr tk (by rfl) (qa_cons (q_meth0 C.m_Table_listed nf_listed hr tk (q_var 0)) (qa_cons (q_tupL (by rfl) Z.z_tuple (ql_sorted3 rfl hu (by rfl) Z.z_sorted (qh_e (q_var 1)))) qa_nil)))))
  (qss_one (qs_ret q_bl))
  qss_nil)
  (qss_cons (qs_set (i := 2) nd (q_call C.c__law_answers hr tk (by rfl) (qa_cons (q_var 1) qa_nil)))
  (qss_one (qs_ret (q_allL rfl (by rfl) Z.z_all (ql_lock (ql_lc (g := (tg1 3)) rfl nd (qi_d (q_var 2)) (blkOk_by (own := [("address", 3)]) (by show blkC ["table", "rows", "due", "address"] (defScope s__law_answers_so) _ _ = true; decide +kernel)) rfl tg1_ok (fun _ _ _ _ _ => pg_name (i := 3) nd rfl (Or.inl rfl)) (fun _ _ _ _ _ => qts_nil) (fun _ _ _ _ _ => (q_call C.c__law_like hr tk0 (by rfl) (qa_cons (q_meth C.m_Table_longest nf_longest hr tk0 (q_var 0) (qa_cons (q_var 3) qa_nil)) (qa_cons (q_idxA (u1 hu1) (q_var 2) (q_var 3)) qa_nil))))))))))))
theorem f__law_answers_so (Z : ZT K mg) (C : C__law_answers_so P w K mg base T) {f : Addr} {fd : FuncData} (hm : mg "_law_answers_so" = some (.ref f)) (F : Fun K "_law_answers_so" "_law_answers_so" s__law_answers_so f fd) : Fn P w K mg base T 9 "_law_answers_so" s__law_answers_so 2 sp__law_answers_so :=
  fn_mk (ps := ["table", "rows"]) hm F (F.binds fun _ _ _ _ _ _ us hl => match us, hl with | [_, _], _ => rfl) rfl rfl (o__law_answers_so Z C F)

structure C_Table_init (P : Program) (w : World) (K : PySem.W.Frag) (mg : Str → Option Value) (base : Heap) (T : List (Addr × Str))  : Prop where
  ok : True
theorem o_Table_init (Z : ZT K mg) (C : C_Table_init P w K mg base T) {f : Addr} {fd : FuncData} (F : Fun K "__init__" "Table.__init__" s_Table_init f fd) : FnOk P w K mg base (L2N.CX P w) 1 f fd ["self", "rows"] (spOf K T 2 sp_Table_init) := by
  unfold sp_Table_init
  exact
  fnok_mk (N := ["self", "rows", "stretch", "to"]) (ps := ["self", "rows"]) F rfl rfl sc_Table_init fun cdv A outer s H E hr tk hp hu nd =>
  have hu0 := hr.units0
  have hu1 := hr.units1
  ((qss_one (qs_fld Z.z_cls (q_var 0) (q_dc (g := (tg2 2 3)) rfl nd (qi_v (q_var 1)) (blkOk_by (own := [("stretch", 2), ("to", 3)]) (by show blkC ["self", "rows", "stretch", "to"] (defScope s_Table_init) _ _ = true; decide +kernel)) rfl tg2_ok (fun _ _ _ _ _ => pg_tup rfl (pgs_cons (pg_name (i := 2) nd rfl (Or.inl rfl)) (pgs_cons (pg_name (i := 3) nd rfl (Or.inl rfl)) pgs_nil))) (fun _ _ _ _ _ => qts_nil) (fun _ _ _ _ _ => (q_var 2)) (fun _ _ _ _ _ => (q_var 3))))))
theorem f_Table_init (Z : ZT K mg) (C : C_Table_init P w K mg base T) {c f : Addr} {fd : FuncData} (hm : mg (cls 3) = some (.ref c)) (hn : PySem.W.nsIn K mainGlobals (cls 3) = some (some (.ref c))) (M : Mk K c f) (F : Fun K "__init__" "Table.__init__" s_Table_init f fd) : MkC P w K mg base T 1 3 s_Table_init 2 sp_Table_init :=
  ⟨c, f, fd, ["self", "rows"], hm, hn, M, ⟨_, F⟩, (F.binds fun _ _ _ _ _ _ us hl => match us, hl with | [_, _], _ => rfl), rfl, rfl, o_Table_init Z C F⟩

structure C_law (P : Program) (w : World) (K : PySem.W.Frag) (mg : Str → Option Value) (base : Heap) (T : List (Addr × Str))  : Prop where
  c__law_box : Fn P w K mg base T 9 "_law_box" s__law_box 2 sp__law_box
  c__law_take : Fn P w K mg base T 9 "_law_take" s__law_take 2 sp__law_take
  c__law_order : Fn P w K mg base T 9 "_law_order" s__law_order 2 sp__law_order
  c__law_like : Fn P w K mg base T 9 "_law_like" s__law_like 2 sp__law_like
  c__law_stretches : Fn P w K mg base T 9 "_law_stretches" s__law_stretches 0 sp__law_stretches
  c__law_rows : Fn P w K mg base T 9 "_law_rows" s__law_rows 3 sp__law_rows
  c__law_answers : Fn P w K mg base T 9 "_law_answers" s__law_answers 1 sp__law_answers
  m_Table_longest : Mt P w K mg base T 9 3 "longest" s_Table_longest 2 sp_Table_longest
  c__law_answers_so : Fn P w K mg base T 9 "_law_answers_so" s__law_answers_so 2 sp__law_answers_so
  k_Table_init : MkC P w K mg base T 8 3 s_Table_init 2 sp_Table_init
theorem o_law (Z : ZT K mg) (C : C_law P w K mg base T) {f : Addr} {fd : FuncData} (F : Fun K "law" "law" s_law f fd) : FnOk P w K mg base (L2N.CX P w) 10 f fd ["script"] (spOf K T 1 sp_law) := by
  unfold sp_law
  exact
  fnok_mk (N := ["script", "case", "box", "rows", "others", "table", "twin", "address"]) (ps := ["script"]) F rfl rfl sc_law fun cdv A outer s H E hr tk hp hu nd =>
  have hu0 := hr.units0
  have hu1 := hr.units1
  ((qss_cons (qs_for hp rfl (qi_r1 (by rfl) Z.z_range (qa_cons q_int qa_nil)) (qg_name (i := 1) nd)
  (qss_cons (qs_set (i := 2) nd (q_call C.c__law_box hr tk (by rfl) (qa_cons (q_var 0) (qa_cons (q_mul q_int (q_var 1)) qa_nil))))
  (qss_cons (qs_set (i := 3) nd (q_call C.c__law_rows hr tk (by rfl) (qa_cons (q_var 2) (qa_cons (q_call C.c__law_take hr tk (by rfl) (qa_cons (q_var 2) (qa_cons q_int qa_nil))) (qa_cons (q_add q_int (q_call C.c__law_take hr tk (by rfl) (qa_cons (q_var 2) (qa_cons q_int qa_nil)))) qa_nil)))))
  (qss_cons (qs_set (i := 2) nd (q_call C.c__law_box hr tk (by rfl) (qa_cons (q_var 0) (qa_cons (q_add (q_mul q_int (q_var 1)) q_int) qa_nil))))
  (qss_cons (qs_set (i := 4) nd (q_call C.c__law_rows hr tk (by rfl) (qa_cons (q_var 2) (qa_cons (q_call C.c__law_take hr tk (by rfl) (qa_cons (q_var 2) (qa_cons q_int qa_nil))) (qa_cons (q_add q_int (q_call C.c__law_take hr tk (by rfl) (qa_cons (q_var 2) (qa_cons q_int qa_nil)))) qa_nil)))))
  (qss_cons (qs_set (i := 5) nd (q_make C.k_Table_init hr (by rfl) (qa_cons (q_callTy call_tuple_of cq_tup (by rfl) Z.z_tuple (by decide +kernel) (qa_cons (q_call C.c__law_order hr tk (by rfl) (qa_cons (q_var 2) (qa_cons (q_var 3) qa_nil))) qa_nil)) qa_nil)))
  (qss_cons (qs_set (i := 6) nd (q_makeK0 (ks := ["rows"]) C.k_Table_init hr (by rfl) rfl (fun fd q f F => F.kbn (ks := ["rows"]) (m := 1) (j := 1) (ix := [0, 1]) rfl fun _ _ _ _ _ _ us ws h1 h2 => match us, ws, h1, h2 with | [_], [_], _, _ => rfl) (qk_cons (q_callTy call_tuple_of cq_tup (by rfl) Z.z_tuple (by decide +kernel) (qa_cons (q_call C.c__law_order hr tk (by rfl) (qa_cons (q_var 2) (qa_cons (q_var 4) qa_nil))) qa_nil)) qk_nil)))
  (qss_cons (qs_if (qt_w (qw_or (qt_not (qt_tru (q_call C.c__law_answers_so hr tk (by rfl) (qa_cons (q_var 5) (qa_cons (q_var 3) qa_nil))))) (qw_or (qt_not (qt_tru (q_call C.c__law_answers_so hr tk (by rfl) (qa_cons (q_var 6) (qa_cons (q_var 4) qa_nil))))) (qw_or1 (qt_not (qt_tru (q_call C.c__law_answers_so hr tk (by rfl) (qa_cons (q_var 5) (qa_cons (q_var 3) qa_nil)))))))))
  (qss_one (qs_ret q_bl))
  qss_nil)
  (qss_one (qs_for hp rfl (qi_v (q_slice (q_call C.c__law_order hr tk (by rfl) (qa_cons (q_var 2) (qa_cons (q_slice (q_call0 C.c__law_stretches hr tk (by rfl)) (qo_some q_int) qo_none) qa_nil))) qo_none (qo_some q_int))) (qg_name (i := 7) nd)
  (qss_one (qs_if (qt_not (qt_tru (q_call C.c__law_like hr tk (by rfl) (qa_cons (q_methK (ks := ["address"]) C.m_Table_longest nf_longest hr tk (fun fd q f F => F.kb (ks := ["address"]) (m := 1) (j := 1) (ix := [0, 1]) (by decide) fun _ _ _ _ _ _ us ws h1 h2 => match us, ws, h1, h2 with | [_], [_], _, _ => rfl) (q_var 6) (qk_cons (q_var 7) qk_nil)) (qa_cons (q_idxA (u1 hu1) (q_call C.c__law_answers hr tk (by rfl) (qa_cons (q_var 4) qa_nil)) (q_var 7)) qa_nil)))))
  (qss_one (qs_ret q_bl))
  qss_nil))))))))))))
  (qss_one (qs_ret q_bl))))
theorem f_law (Z : ZT K mg) (C : C_law P w K mg base T) {f : Addr} {fd : FuncData} (hm : mg "law" = some (.ref f)) (F : Fun K "law" "law" s_law f fd) : Fn P w K mg base T 10 "law" s_law 1 sp_law :=
  fn_mk (ps := ["script"]) hm F (F.binds fun _ _ _ _ _ _ us hl => match us, hl with | [_], _ => rfl) rfl rfl (o_law Z C F)

end
theorem all_mk {l : PySem.W.OpenLaw} {w : World} {K : PySem.W.Frag} {h : Heap} {mg : Str → Option Value} {fa : Addr} (X : K.In h) (G : h.Ns mainGlobals mg) (hfa : mg "law" = some (.ref fa))
    {f0 : Addr} {od0 an0 : Option Addr} {sl0 : Array (Option Value)} {oc0 kV0 dc0 pm0 cd0 ct0 : Value}
    (a0 : PySem.W.nsIn K mainGlobals "_law_box" = some (some (.ref f0)))
    (l0 : K.lookup f0 = some ⟨oc0, od0, .func (PySem.W.fnOf "_law_box" "_law_box" (defArgs s__law_box) (defBody s__law_box) (defScope s__law_box) .none kV0 dc0 pm0 an0 cd0 ct0), sl0⟩)
    (c0 : PySem.W.codeIn K cd0 "_law_box" = true)
    (k0 : PySem.W.keepIn K (.ref f0) = true)
    {f1 : Addr} {od1 an1 : Option Addr} {sl1 : Array (Option Value)} {oc1 kV1 dc1 pm1 cd1 ct1 : Value}
    (a1 : PySem.W.nsIn K mainGlobals "_law_take" = some (some (.ref f1)))
    (l1 : K.lookup f1 = some ⟨oc1, od1, .func (PySem.W.fnOf "_law_take" "_law_take" (defArgs s__law_take) (defBody s__law_take) (defScope s__law_take) .none kV1 dc1 pm1 an1 cd1 ct1), sl1⟩)
    (c1 : PySem.W.codeIn K cd1 "_law_take" = true)
    (k1 : PySem.W.keepIn K (.ref f1) = true)
    {f2 : Addr} {od2 an2 : Option Addr} {sl2 : Array (Option Value)} {oc2 kV2 dc2 pm2 cd2 ct2 : Value}
    (a2 : PySem.W.nsIn K mainGlobals "_law_order" = some (some (.ref f2)))
    (l2 : K.lookup f2 = some ⟨oc2, od2, .func (PySem.W.fnOf "_law_order" "_law_order" (defArgs s__law_order) (defBody s__law_order) (defScope s__law_order) .none kV2 dc2 pm2 an2 cd2 ct2), sl2⟩)
    (c2 : PySem.W.codeIn K cd2 "_law_order" = true)
    (k2 : PySem.W.keepIn K (.ref f2) = true)
    {f3 : Addr} {od3 an3 : Option Addr} {sl3 : Array (Option Value)} {oc3 kV3 dc3 pm3 cd3 ct3 : Value}
    (a3 : PySem.W.nsIn K mainGlobals "_law_like" = some (some (.ref f3)))
    (l3 : K.lookup f3 = some ⟨oc3, od3, .func (PySem.W.fnOf "_law_like" "_law_like" (defArgs s__law_like) (defBody s__law_like) (defScope s__law_like) .none kV3 dc3 pm3 an3 cd3 ct3), sl3⟩)
    (c3 : PySem.W.codeIn K cd3 "_law_like" = true)
    (k3 : PySem.W.keepIn K (.ref f3) = true)
    {f4 : Addr} {od4 an4 : Option Addr} {sl4 : Array (Option Value)} {oc4 kV4 dc4 pm4 cd4 ct4 : Value}
    (a4 : PySem.W.nsIn K mainGlobals "_law_stretches" = some (some (.ref f4)))
    (l4 : K.lookup f4 = some ⟨oc4, od4, .func (PySem.W.fnOf "_law_stretches" "_law_stretches" (defArgs s__law_stretches) (defBody s__law_stretches) (defScope s__law_stretches) .none kV4 dc4 pm4 an4 cd4 ct4), sl4⟩)
    (c4 : PySem.W.codeIn K cd4 "_law_stretches" = true)
    (k4 : PySem.W.keepIn K (.ref f4) = true)
    {f5 : Addr} {od5 an5 : Option Addr} {sl5 : Array (Option Value)} {oc5 kV5 dc5 pm5 cd5 ct5 : Value}
    (a5 : PySem.W.nsIn K mainGlobals "_law_pick" = some (some (.ref f5)))
    (l5 : K.lookup f5 = some ⟨oc5, od5, .func (PySem.W.fnOf "_law_pick" "_law_pick" (defArgs s__law_pick) (defBody s__law_pick) (defScope s__law_pick) .none kV5 dc5 pm5 an5 cd5 ct5), sl5⟩)
    (c5 : PySem.W.codeIn K cd5 "_law_pick" = true)
    (k5 : PySem.W.keepIn K (.ref f5) = true)
    {f6 : Addr} {od6 an6 : Option Addr} {sl6 : Array (Option Value)} {oc6 kV6 dc6 pm6 cd6 ct6 : Value}
    (a6 : PySem.W.nsIn K mainGlobals "_law_to" = some (some (.ref f6)))
    (l6 : K.lookup f6 = some ⟨oc6, od6, .func (PySem.W.fnOf "_law_to" "_law_to" (defArgs s__law_to) (defBody s__law_to) (defScope s__law_to) .none kV6 dc6 pm6 an6 cd6 ct6), sl6⟩)
    (c6 : PySem.W.codeIn K cd6 "_law_to" = true)
    (k6 : PySem.W.keepIn K (.ref f6) = true)
    {f7 : Addr} {od7 an7 : Option Addr} {sl7 : Array (Option Value)} {oc7 kV7 dc7 pm7 cd7 ct7 : Value}
    (a7 : PySem.W.nsIn K mainGlobals "_law_rows" = some (some (.ref f7)))
    (l7 : K.lookup f7 = some ⟨oc7, od7, .func (PySem.W.fnOf "_law_rows" "_law_rows" (defArgs s__law_rows) (defBody s__law_rows) (defScope s__law_rows) .none kV7 dc7 pm7 an7 cd7 ct7), sl7⟩)
    (c7 : PySem.W.codeIn K cd7 "_law_rows" = true)
    (k7 : PySem.W.keepIn K (.ref f7) = true)
    {f8 : Addr} {od8 an8 : Option Addr} {sl8 : Array (Option Value)} {oc8 kV8 dc8 pm8 cd8 ct8 : Value}
    (a8 : PySem.W.nsIn K mainGlobals "_law_answers" = some (some (.ref f8)))
    (l8 : K.lookup f8 = some ⟨oc8, od8, .func (PySem.W.fnOf "_law_answers" "_law_answers" (defArgs s__law_answers) (defBody s__law_answers) (defScope s__law_answers) .none kV8 dc8 pm8 an8 cd8 ct8), sl8⟩)
    (c8 : PySem.W.codeIn K cd8 "_law_answers" = true)
    (k8 : PySem.W.keepIn K (.ref f8) = true)
    {f9 : Addr} {od9 an9 : Option Addr} {sl9 : Array (Option Value)} {oc9 kV9 dc9 pm9 cd9 ct9 : Value}
    (a9 : PySem.W.nsIn K mainGlobals "stretches_of" = some (some (.ref f9)))
    (l9 : K.lookup f9 = some ⟨oc9, od9, .func (PySem.W.fnOf "stretches_of" "stretches_of" (defArgs s_stretches_of) (defBody s_stretches_of) (defScope s_stretches_of) .none kV9 dc9 pm9 an9 cd9 ct9), sl9⟩)
    (c9 : PySem.W.codeIn K cd9 "stretches_of" = true)
    (k9 : PySem.W.keepIn K (.ref f9) = true)
    {f10 : Addr} {od10 an10 : Option Addr} {sl10 : Array (Option Value)} {oc10 kV10 dc10 pm10 cd10 ct10 : Value}
    {C_Table : Addr}
    (aC_Table : PySem.W.nsIn K mainGlobals "Table" = some (some (.ref C_Table)))
    (pg_Table : PySem.W.plainGet K C_Table Str.empty = true)
    (hd_Table : PySem.W.hasDictIn K C_Table = true)
    (po_Table : PySem.W.plainOver K C_Table = true)
    (sa_Table : PySem.W.findIn K (.ref C_Table) "__setattr__" = some (some (.builtin "object.__setattr__")))
    (nf_Table_goes_by : PySem.W.findIn K (.ref C_Table) "goes_by" = some none)
    (a10 : PySem.W.findIn K (.ref C_Table) "longest" = some (some (.ref f10)))
    (i10 : PySem.W.isFn K (.ref f10) = true)
    (l10 : K.lookup f10 = some ⟨oc10, od10, .func (PySem.W.fnOf "longest" "Table.longest" (defArgs s_Table_longest) (defBody s_Table_longest) (defScope s_Table_longest) .none kV10 dc10 pm10 an10 cd10 ct10), sl10⟩)
    (c10 : PySem.W.codeIn K cd10 "Table.longest" = true)
    (k10 : PySem.W.keepIn K (.ref f10) = true)
    {f11 : Addr} {od11 an11 : Option Addr} {sl11 : Array (Option Value)} {oc11 kV11 dc11 pm11 cd11 ct11 : Value}
    (a11 : PySem.W.findIn K (.ref C_Table) "listed" = some (some (.ref f11)))
    (i11 : PySem.W.isFn K (.ref f11) = true)
    (l11 : K.lookup f11 = some ⟨oc11, od11, .func (PySem.W.fnOf "listed" "Table.listed" (defArgs s_Table_listed) (defBody s_Table_listed) (defScope s_Table_listed) .none kV11 dc11 pm11 an11 cd11 ct11), sl11⟩)
    (c11 : PySem.W.codeIn K cd11 "Table.listed" = true)
    (k11 : PySem.W.keepIn K (.ref f11) = true)
    {f12 : Addr} {od12 an12 : Option Addr} {sl12 : Array (Option Value)} {oc12 kV12 dc12 pm12 cd12 ct12 : Value}
    (a12 : PySem.W.nsIn K mainGlobals "_law_answers_so" = some (some (.ref f12)))
    (l12 : K.lookup f12 = some ⟨oc12, od12, .func (PySem.W.fnOf "_law_answers_so" "_law_answers_so" (defArgs s__law_answers_so) (defBody s__law_answers_so) (defScope s__law_answers_so) .none kV12 dc12 pm12 an12 cd12 ct12), sl12⟩)
    (c12 : PySem.W.codeIn K cd12 "_law_answers_so" = true)
    (k12 : PySem.W.keepIn K (.ref f12) = true)
    {f13 : Addr} {od13 an13 : Option Addr} {sl13 : Array (Option Value)} {oc13 kV13 dc13 pm13 cd13 ct13 : Value}
    (a13 : PySem.W.findIn K (.ref C_Table) "__init__" = some (some (.ref f13)))
    (i13 : PySem.W.isFn K (.ref f13) = true)
    (mk_Table : PySem.W.makesIn K C_Table = true)
    (kc_Table : PySem.W.keepIn K (.ref C_Table) = true)
    (l13 : K.lookup f13 = some ⟨oc13, od13, .func (PySem.W.fnOf "__init__" "Table.__init__" (defArgs s_Table_init) (defBody s_Table_init) (defScope s_Table_init) .none kV13 dc13 pm13 an13 cd13 ct13), sl13⟩)
    (c13 : PySem.W.codeIn K cd13 "Table.__init__" = true)
    (k13 : PySem.W.keepIn K (.ref f13) = true)
    {f14 : Addr} {od14 an14 : Option Addr} {sl14 : Array (Option Value)} {oc14 kV14 dc14 pm14 cd14 ct14 : Value}
    (a14 : PySem.W.nsIn K mainGlobals "law" = some (some (.ref f14)))
    (l14 : K.lookup f14 = some ⟨oc14, od14, .func (PySem.W.fnOf "law" "law" (defArgs s_law) (defBody s_law) (defScope s_law) .none kV14 dc14 pm14 an14 cd14 ct14), sl14⟩)
    (c14 : PySem.W.codeIn K cd14 "law" = true)
    (k14 : PySem.W.keepIn K (.ref f14) = true)
    (z_abs : PySem.W.nsIn K mainGlobals "abs" = some none)
    (z_all : PySem.W.nsIn K mainGlobals "all" = some none)
    (z_bool : PySem.W.nsIn K mainGlobals "bool" = some none)
    (z_int : PySem.W.nsIn K mainGlobals "int" = some none)
    (z_isinstance : PySem.W.nsIn K mainGlobals "isinstance" = some none)
    (z_len : PySem.W.nsIn K mainGlobals "len" = some none)
    (z_list : PySem.W.nsIn K mainGlobals "list" = some none)
    (z_range : PySem.W.nsIn K mainGlobals "range" = some none)
    (z_sorted : PySem.W.nsIn K mainGlobals "sorted" = some none)
    (z_str : PySem.W.nsIn K mainGlobals "str" = some none)
    (z_tuple : PySem.W.nsIn K mainGlobals "tuple" = some none)
    {t_SIGNS : Tok}
    (g_SIGNS : PySem.W.nsIn K mainGlobals "SIGNS" = some (some (.int 6 t_SIGNS))) :
    ∃ fd : FuncData, (∀ (s : Shared) (v : Value), BindsTo s fd ⟨[v], []⟩ [("script", v)]) ∧ ∀ base : Heap, K.In base → base.Ns mainGlobals mg → FnOk l.prog w K mg base (L2N.CX l.prog w) 10 fa fd ["script"] (spOf K [] 1 sp_law) := by
  have e := hfa.symm.trans (PySem.W.mg_of X G a14)
  cases e
  have cl_Table : Cls K C_Table := ⟨pg_Table, hd_Table, po_Table, sa_Table⟩
  have ic_Table : InsC K 3 [9] := insC_mk (a := C_Table) aC_Table cl_Table (List.forall_mem_cons.mpr ⟨nf_Table_goes_by, (fun _ z => nomatch z)⟩)
  have zcls : InsCs K clsL := (List.forall_mem_cons.mpr ⟨ic_Table, (fun _ z => nomatch z)⟩)
  have Z : ZT K mg := ⟨PySem.W.mg_none_of X G z_abs, PySem.W.mg_none_of X G z_all, PySem.W.mg_none_of X G z_bool, PySem.W.mg_none_of X G z_int, PySem.W.mg_none_of X G z_isinstance, PySem.W.mg_none_of X G z_len, PySem.W.mg_none_of X G z_list, PySem.W.mg_none_of X G z_range, PySem.W.mg_none_of X G z_sorted, PySem.W.mg_none_of X G z_str, PySem.W.mg_none_of X G z_tuple, ⟨_, PySem.W.mg_of X G g_SIGNS⟩, zcls⟩
  refine ⟨PySem.W.fnOf "law" "law" (defArgs s_law) (defBody s_law) (defScope s_law) .none kV14 dc14 pm14 an14 cd14 ct14, fun s v => .of_eq rfl, fun base _ _ => ?_⟩
  have h__law_box := f__law_box (P := l.prog) (w := w) (base := base) (T := []) Z ⟨trivial⟩ (PySem.W.mg_of X G a0) (fun_mk (st := s__law_box) l0 c0 k0)
  have h__law_take := f__law_take (P := l.prog) (w := w) (base := base) (T := []) Z ⟨trivial⟩ (PySem.W.mg_of X G a1) (fun_mk (st := s__law_take) l1 c1 k1)
  have h__law_order := f__law_order (P := l.prog) (w := w) (base := base) (T := []) Z ⟨h__law_take⟩ (PySem.W.mg_of X G a2) (fun_mk (st := s__law_order) l2 c2 k2)
  have h__law_like := f__law_like (P := l.prog) (w := w) (base := base) (T := []) Z ⟨trivial⟩ (PySem.W.mg_of X G a3) (fun_mk (st := s__law_like) l3 c3 k3)
  have h__law_stretches := f__law_stretches (P := l.prog) (w := w) (base := base) (T := []) Z ⟨trivial⟩ (PySem.W.mg_of X G a4) (fun_mk (st := s__law_stretches) l4 c4 k4)
  have h__law_pick := f__law_pick (P := l.prog) (w := w) (base := base) (T := []) Z ⟨h__law_take⟩ (PySem.W.mg_of X G a5) (fun_mk (st := s__law_pick) l5 c5 k5)
  have h__law_to := f__law_to (P := l.prog) (w := w) (base := base) (T := []) Z ⟨h__law_take.mono (by decide), h__law_pick⟩ (PySem.W.mg_of X G a6) (fun_mk (st := s__law_to) l6 c6 k6)
  have h__law_rows := f__law_rows (P := l.prog) (w := w) (base := base) (T := []) Z ⟨h__law_take.mono (by decide), h__law_pick.mono (by decide), h__law_order.mono (by decide), h__law_stretches.mono (by decide), h__law_to⟩ (PySem.W.mg_of X G a7) (fun_mk (st := s__law_rows) l7 c7 k7)
  have h__law_answers := f__law_answers (P := l.prog) (w := w) (base := base) (T := []) Z ⟨h__law_stretches⟩ (PySem.W.mg_of X G a8) (fun_mk (st := s__law_answers) l8 c8 k8)
  have h_stretches_of := f_stretches_of (P := l.prog) (w := w) (base := base) (T := []) Z ⟨trivial⟩ (PySem.W.mg_of X G a9) (fun_mk (st := s_stretches_of) l9 c9 k9)
  have h_Table_longest := f_Table_longest (P := l.prog) (w := w) (base := base) (T := []) Z ⟨h_stretches_of⟩ (PySem.W.mg_of X G aC_Table) aC_Table cl_Table ⟨a10, i10, k10⟩ (fun_mk (st := s_Table_longest) l10 c10 k10)
  have h_Table_listed := f_Table_listed (P := l.prog) (w := w) (base := base) (T := []) Z ⟨trivial⟩ (PySem.W.mg_of X G aC_Table) aC_Table cl_Table ⟨a11, i11, k11⟩ (fun_mk (st := s_Table_listed) l11 c11 k11)
  have h__law_answers_so := f__law_answers_so (P := l.prog) (w := w) (base := base) (T := []) Z ⟨h__law_like, h__law_answers.mono (by decide), h_Table_longest.mono (by decide), h_Table_listed.mono (by decide)⟩ (PySem.W.mg_of X G a12) (fun_mk (st := s__law_answers_so) l12 c12 k12)
  have h_Table_init := f_Table_init (P := l.prog) (w := w) (base := base) (T := []) Z ⟨trivial⟩ (PySem.W.mg_of X G aC_Table) aC_Table ⟨mk_Table, a13, i13, kc_Table⟩ (fun_mk (st := s_Table_init) l13 c13 k13)
  exact o_law (P := l.prog) (w := w) (base := base) (T := []) Z ⟨h__law_box.mono (by decide), h__law_take.mono (by decide), h__law_order.mono (by decide), h__law_like.mono (by decide), h__law_stretches.mono (by decide), h__law_rows.mono (by decide), h__law_answers.mono (by decide), h_Table_longest.mono (by decide), h__law_answers_so, h_Table_init.mono (by decide)⟩ (fun_mk (st := s_law) l14 c14 k14)
end Mp

set_option Elab.async false
set_option maxRecDepth 100000
set_option maxHeartbeats 4000000
set_option pp.deepTerms.threshold 6
set_option pp.maxSteps 3000
namespace Mp
open PySem PySem.Spec PyProof.Rows L2

local macro_rules | `(tactic| walk_at "sd") => `(tactic| first | (exact Eq.refl _) | (exact True.intro) | omega | decide | assumption | (exact le_line (Nat.le_of_ble_eq_true rfl)) | (exact le_line (by omega)) | (exact le_line (by simp; omega)) | (exact lt_line (by omega)) | (exact ⟨lt_line (by omega), trivial, by omega⟩) | (exact ⟨lt_line (by omega), by omega, by omega⟩) | (exact Or.inl ⟨by omega, by omega⟩) | (exact Or.inr ⟨by omega, by omega⟩) | (exact ⟨by omega, by omega⟩) | (exact ⟨by omega, log_small (by omega) (by omega)⟩) | (exact ⟨by omega, by decide⟩))
local macro_rules | `(tactic| walk_at "go") => `(tactic| (repeat ((conv => whnf); first | refine And.intro (by walk_at "sd") ?_ | simp only [put_apply, if_true, if_false, LH.its, SH.its, seqOf, dicAt, *])); try (conv => whnf))

abbrev tI (l : List Int) : PV := .tup (l.map PV.int)
mutual
def deepP : PV → Nat
  | .tup xs => deepsP xs + 1
  | _ => 0
def deepsP : List PV → Nat
  | [] => 0
  | x :: xs => max (deepP x) (deepsP xs)
end
theorem deep_mem : ∀ {xs : List PV} {x : PV}, x ∈ xs → deepP x ≤ deepsP xs
  | y :: ys, x, h => by
    unfold deepsP
    rcases List.mem_cons.mp h with e | h
    · subst e; exact Nat.le_max_left _ _
    · exact Nat.le_trans (deep_mem h) (Nat.le_max_right _ _)
theorem datsP_mem {xs : List PV} {x : PV} (h : datsP xs = true) (m : x ∈ xs) : datP x = true := by
  rw [datsP_all, List.all_eq_true] at h
  exact h x m
theorem intsOf_tI (l : List Int) : intsOf (l.map PV.int) = some l := by
  induction l with
  | nil => rfl
  | cons x l ih =>
    show (intsOf (l.map PV.int)).map (x :: ·) = _
    rw [ih]; rfl

theorem t_take {b : Addr} {m : Int} {S : Sto} {P : QK PV} {E : QX} (hb : Bx S b) (h0 : 0 < m) (hm : m < 2 ^ 64) (k : ∀ d S', 0 ≤ d → d < m → Ext b S S' → Bx S' b → P (.int d) S') : sp__law_take [.ref b, .int m] S P E := by
  obtain ⟨x, y, hb, hx, hy, hz⟩ := hb
  unfold sp__law_take
  walk_at "go"
  refine iteB_dec (fun h => ?_) (fun h => ?_)
  · walk_at "go"
    exact Dr.self (k _ _ (Int.emod_nonneg _ (by omega)) (Int.emod_lt_of_pos _ h0) Ext.put ⟨x / m, y, put_same, Int.ediv_nonneg hx (by omega), hy, hz⟩)
  · walk_at "go"
    exact Dr.self (k _ _ (Int.emod_nonneg _ (by omega)) (Int.emod_lt_of_pos _ h0) Ext.put ⟨x, _, put_same, hx, by omega, by omega⟩)
theorem at_pick {xs : List PV} {d : Int} (h1 : 0 ≤ d) (h2 : d < xs.length) : atI xs d = some (xs[d.toNat]'(by omega)) := by
  unfold atI ixN
  rw [if_pos h1, if_pos h2]
  simp [show d.toNat < xs.length by omega]
theorem t_pick {b p : Addr} {xs : List PV} {S : Sto} {P : QK PV} {E : QX} (hb : Bx S b) (hp : S p = some (.lst xs)) (hn : p ≠ b) (h0 : 0 < xs.length) (hm : xs.length < 2 ^ 64) (k : ∀ v S', v ∈ xs → Ext b S S' → Bx S' b → P v S') : sp__law_pick [.ref b, .ref p] S P E := by
  unfold sp__law_pick
  walk_at "go"
  refine t_take hb (by omega) (by omega) fun d S' h1 h2 ex hb' => ?_
  have hp' := ex _ _ hn hp
  walk_at "go"
  rw [at_pick h1 h2]
  exact Dr.self (k _ _ (List.getElem_mem _) ex hb')
/-- of a new list: what was there stands -/
theorem t_pickN {b p : Addr} {xs : List PV} {S : Sto} {P : QK PV} {E : QX} (hb : Bx S b) (hp : S p = none) (h0 : 0 < xs.length) (hm : xs.length < 2 ^ 64) (k : ∀ v S', v ∈ xs → Ext b S S' → Bx S' b → P v S') : sp__law_pick [.ref b, .ref p] (put S p (.lst xs)) P E :=
  t_pick (hb.sub (Sub.new hp)) put_same (hb.ne hp).symm h0 hm fun v S' hv x hb' => k v S' hv ((Ext.new hp).trans x) hb'
theorem at_int {ns : List Int} {k : Int} (h0 : 0 ≤ k) (h1 : k < (ns.map PV.int).length) : ∃ z, atI (ns.map PV.int) k = some (.int z) := by
  have h2 : k.toNat < ns.length := by rw [List.length_map] at h1; omega
  refine ⟨ns[k.toNat], ?_⟩
  unfold atI ixN
  rw [if_pos h0, if_pos h1]
  simp [h2]
theorem t_box {ns : List Int} {k : Int} {S : Sto} {P : QK PV} {E : QX} (h0 : 0 ≤ k) (h1 : k ≤ 1000000) (h : ∀ p S', S p = none → Sub S S' → Bx S' p → P (.ref p) S') : sp__law_box [.lsv (ns.map PV.int), .int k] S P E := by
  have fin : ∀ c : Int, 0 ≤ c → ∀ g : Int, (g = c ∨ g = 0) → ∀ p, S p = none → P (.ref p) (put S p (.lst [.int g, .int ((c % 2147483579 * 40692 + 8929 * k) % 2147483579 + 1)])) := fun c hc g hg p hp =>
    h p _ hp (Sub.new hp) ⟨g, _, put_same, by omega, by omega, by omega⟩
  unfold sp__law_box
  walk_at "go"
  refine iteB_dec (fun hk => ?_) (fun hk => ?_)
  · walk_at "go"
    obtain ⟨z, hz⟩ := at_int h0 hk
    rw [hz]
    walk_at "go"
    refine iteB_dec (fun hg => ?_) (fun hg => ?_)
    · walk_at "go"
      intro p hp
      exact Dr.self (fin (if z < 0 then -z else z) (by split <;> omega) _ (.inl rfl) p hp)
    · walk_at "go"
      intro p hp
      exact Dr.self (fin (if z < 0 then -z else z) (by split <;> omega) _ (.inr rfl) p hp)
  · walk_at "go"
    refine iteB_dec (fun hl => ?_) (fun hl => ?_)
    · walk_at "go"
      obtain ⟨z, hz⟩ := at_int (ns := ns) (k := k % ((ns.map PV.int).length : Nat)) (Int.emod_nonneg _ (by omega)) (Int.emod_lt_of_pos _ hl)
      rw [hz]
      walk_at "go"
      have hc : 0 ≤ 6151 * k + 8929 + (if z < 0 then -z else z) % 2147483579 * 50929 := by omega
      refine iteB_dec (fun hg => ?_) (fun hg => ?_)
      · walk_at "go"
        intro p hp
        exact Dr.self (fin _ hc _ (.inl rfl) p hp)
      · walk_at "go"
        intro p hp
        exact Dr.self (fin _ hc _ (.inr rfl) p hp)
    · walk_at "go"
      have hc : 0 ≤ 6151 * k + 8929 := by omega
      refine iteB_dec (fun hg => ?_) (fun hg => ?_)
      · walk_at "go"
        intro p hp
        exact Dr.self (fin _ hc _ (.inl rfl) p hp)
      · walk_at "go"
        intro p hp
        exact Dr.self (fin _ hc _ (.inr rfl) p hp)
end Mp

set_option Elab.async false
set_option linter.all false
set_option maxRecDepth 100000
set_option maxHeartbeats 4000000
set_option pp.deepTerms.threshold 6
set_option pp.maxSteps 3000
namespace Mp
open PySem PySem.Spec PyProof.Rows L2

local macro_rules | `(tactic| walk_at "sd") => `(tactic| first | (exact Eq.refl _) | (exact True.intro) | omega | decide | assumption | (exact le_line (Nat.le_of_ble_eq_true rfl)) | (exact le_line (by omega)) | (exact le_line (by simp; omega)) | (exact lt_line (by omega)) | (exact ⟨lt_line (by omega), trivial, by omega⟩) | (exact ⟨lt_line (by omega), by omega, by omega⟩) | (exact Or.inl ⟨by omega, by omega⟩) | (exact Or.inr ⟨by omega, by omega⟩) | (exact ⟨by omega, by omega⟩) | (exact ⟨by omega, log_small (by omega) (by omega)⟩) | (exact ⟨by omega, by decide⟩) | (exact ⟨Eq.refl _, by simp⟩) | (exact ⟨Eq.refl _, (by decide : (3 : Nat) < 1000)⟩))
local macro_rules | `(tactic| walk_at "go") => `(tactic| (repeat ((conv => whnf); first | refine And.intro (by walk_at "sd") ?_ | simp only [put_apply, if_true, if_false, LH.its, SH.its, seqOf, dicAt, *])); try (conv => whnf))

/-! ### stores -/
theorem Sub.wr {S S' : Sto} {p : Addr} {o : Ob} (s : Sub S S') (n : S p = Option.none) : Sub S (put S' p o) := fun a u h => by
  rw [put_ne (new_ne h n)]
  exact s a u h
theorem Sub.nw {S S' : Sto} {p : Addr} {o : Ob} (s : Sub S S') (n : S' p = Option.none) : Sub S (put S' p o) := s.trans (Sub.new n)
/-! ### words of signs -/
def gens : Nat → List (List Nat)
  | 0 => [[]]
  | n + 1 => (gens n).map (· ++ [48]) ++ (gens n).map (· ++ [49])
def upto : Nat → List (List Nat)
  | 0 => []
  | n + 1 => upto n ++ gens n
theorem gens_len : ∀ n, (gens n).length = 2 ^ n
  | 0 => rfl
  | n + 1 => by rw [gens, List.length_append, List.length_map, List.length_map, gens_len n, Nat.pow_succ]; omega
theorem gens_mem : ∀ {n : Nat}, ∀ o ∈ gens n, o.length = n
  | 0, o, h => by
    have e : o = [] := by simpa [gens] using h
    subst e; rfl
  | n + 1, o, h => by
    rw [gens] at h
    rcases List.mem_append.mp h with h | h <;> (obtain ⟨u, h1, rfl⟩ := List.mem_map.mp h; rw [List.length_append, gens_mem u h1]; rfl)
def addS (c : Nat) : PV → PV
  | .str o => .str (o ++ [c])
  | x => x
theorem upto_len : ∀ n, (upto n).length < 2 ^ n
  | 0 => by decide
  | n + 1 => by
    have h1 := upto_len n
    rw [upto, List.length_append, gens_len n, Nat.pow_succ]
    omega
/-- a stretch -/
def okS (s : List Nat) : Prop := s.length ≤ 6 ∧ ∀ c ∈ s, c = 48 ∨ c = 49
theorem upto_okB : (upto 7).all (fun s => decide (s.length ≤ 6) && s.all fun c => decide (c = 48) || decide (c = 49)) = true := by decide +kernel
theorem upto_ok {s : List Nat} (h : s ∈ upto 7) : okS s := by
  have q := List.all_eq_true.mp upto_okB s h
  simp only [Bool.and_eq_true, decide_eq_true_eq, List.all_eq_true, Bool.or_eq_true] at q
  exact q
def nodupB : List (List Nat) → Bool
  | [] => true
  | x :: xs => xs.all (fun y => decide (x ≠ y)) && nodupB xs
theorem nodup_of : ∀ {l : List (List Nat)}, nodupB l = true → l.Nodup
  | [], _ => List.nodup_nil
  | x :: xs, h => by
    unfold nodupB at h
    rw [Bool.and_eq_true, List.all_eq_true] at h
    refine List.nodup_cons.mpr ⟨fun hx => ?_, nodup_of h.2⟩
    have := h.1 x hx
    simp at this
theorem upto_nodup : (upto 7).Nodup := nodup_of (by decide +kernel)
theorem gens6_nodup : (gens 6).Nodup := nodup_of (by decide +kernel)
theorem upto_drop : (upto 7).drop 63 = gens 6 := by decide +kernel
theorem gens_okB : (gens 6).all (fun s => decide (s.length = 6) && s.all fun c => decide (c = 48) || decide (c = 49)) = true := by decide +kernel
theorem t_stretches {S : Sto} {P : QK PV} {E : QX} (k : ∀ p S', S p = none → Sub S S' → S' p = some (.lst ((upto 7).map PV.str)) → P (.ref p) S') : sp__law_stretches [] S P E := by
  unfold sp__law_stretches
  walk_at "go"
  intro p hp
  walk_at "go"
  intro q hq
  have hq : put S p (.lst []) q = none := hq
  have hpq : q ≠ p := fun e => by rw [e, put_same] at hq; cases hq
  have hq0 : S q = none := by rw [put_ne hpq] at hq; exact hq
  walk_at "go"
  refine forQ_range (fun i τ S' => ∃ p q v2 v3, q ≠ p ∧ S p = none ∧ τ = [some (.ref p), some (.ref q), v2, v3] ∧ S' q = some (.lst ((gens i).map PV.str)) ∧ S' p = some (.lst ((upto i).map PV.str)) ∧ Sub S S')
    ⟨p, q, none, none, hpq, hp, rfl, put_same, by rw [put_ne hpq.symm, put_same]; rfl, (Sub.new hp).nw hq⟩ (fun i hi τ S' N ⟨p, q, v2, v3, hpq, hp, e1, e2, e3, x1⟩ hN => ?_) fun τ S' ⟨p, q, v2, v3, hpq, hp, e1, e2, e3, x1⟩ => ?_
  · subst e1
    have hi : i < 7 := hi
    have hl := gens_len i
    have hz : (gens i).length ≤ 64 := by rw [hl]; exact Nat.le_trans (Nat.pow_le_pow_right (by decide) (show i ≤ 6 by omega)) (by decide)
    have ha : (upto i).length ≤ 128 := Nat.le_trans (Nat.le_of_lt (upto_len i)) (Nat.le_trans (Nat.pow_le_pow_right (by decide) (show i ≤ 7 by omega)) (by decide))
    have step : ∀ S' (c : Nat) (x : PV) (N : PV → Sto → Prop), x ∈ (gens i).map PV.str → N (addS c x) S' → ∃ o, x = .str o ∧ o.length ≤ 900 ∧ N (.str (o ++ [c])) S' := fun S' c x N hm h => by
      obtain ⟨o, m1, e⟩ := List.mem_map.mp hm
      subst e
      exact ⟨o, rfl, by have := gens_mem o m1; omega, h⟩
    clear hl
    walk_at "go"
    refine ⟨_, _, rfl, rfl, le_line (by simp; omega), fun p2 hp2 => ?_⟩
    have hne := new_ne e2 hp2
    have e5 : put S' p2 (.lst ((upto i).map PV.str ++ (gens i).map PV.str)) p2 = some (.lst ((upto (i + 1)).map PV.str)) := by rw [put_same, upto, List.map_append]
    have e6 : put S' p2 (.lst ((upto i).map PV.str ++ (gens i).map PV.str)) q = some (.lst ((gens i).map PV.str)) := by rw [put_ne hne]; exact e2
    have x2 : Sub S (put S' p2 (.lst ((upto i).map PV.str ++ (gens i).map PV.str))) := x1.nw hp2
    have np : S p2 = none := x1.none hp2
    generalize put S' p2 (.lst ((upto i).map PV.str ++ (gens i).map PV.str)) = S1 at e5 e6 x2 ⊢
    clear e2 e3 x1 hp2
    walk_at "go"
    refine lcQ_map (addS 48) (by rw [List.length_map]; exact le_line (by omega)) e6 (fun x N hm h => ?_) ?_
    · obtain ⟨o, e, ol, h⟩ := step S1 48 x N hm h
      subst e
      refine ⟨_, rfl, ?_⟩
      walk_at "go"
    · intro a
      walk_at "go"
      refine lcQ_map (addS 49) (by rw [List.length_map]; exact le_line (by omega)) e6 (fun x N hm h => ?_) ?_
      · obtain ⟨o, e, ol, h⟩ := step S1 49 x N hm h
        subst e
        refine ⟨_, rfl, ?_⟩
        walk_at "go"
      · intro a2
        have em : ((gens i).map PV.str).map (addS 48) ++ ((gens i).map PV.str).map (addS 49) = (gens (i + 1)).map PV.str := by
          rw [gens, List.map_append, List.map_map, List.map_map, List.map_map, List.map_map]
          rfl
        walk_at "go"
        intro q2 hq2
        have n2 := new_ne e5 hq2
        exact hN _ _ ⟨p2, q2, _, _, n2.symm, np, rfl, put_same, by rw [put_ne n2]; exact e5, x2.nw hq2⟩ trivial
  · subst e1
    walk_at "go"
    exact Dr.self (k p S' hp x1 e3)
/-! ### like, order -/
theorem t_likeF : ∀ (f : Nat) {x : PV} {S : Sto} {P : QK PV} {E : QX}, datP x = true → deepP x < f → (∀ xs, x = .tup xs → xs.length ≤ 900 ∧ ∀ y ∈ xs, ∀ ys, y = .tup ys → ys.length ≤ 900 ∧ ∀ z ∈ ys, ∀ zs, z ≠ .tup zs) → P (.bl true) S → spN 3 r__law_like f [x, x] S P E
  | 0, _, _, _, _, _, h, _, _ => by omega
  | f + 1, .non, S, P, E, _, _, _, h => by
    rw [spN_succ]
    walk_at "go"
    exact Dr.self h
  | f + 1, .bl c, S, P, E, _, _, _, h => by
    rw [spN_succ]
    walk_at "go"
    exact Dr.self (by simpa using h)
  | f + 1, .int i, S, P, E, _, _, _, h => by
    rw [spN_succ]
    walk_at "go"
    exact Dr.self (by simpa using h)
  | f + 1, .str cs, S, P, E, _, _, _, h => by
    rw [spN_succ]
    walk_at "go"
    exact Dr.self (by simpa using h)
  | f + 1, .tup xs, S, P, E, hd, hf, hl, h => by
    have hd : datsP xs = true := by unfold datP at hd; exact hd
    have hf : deepsP xs + 1 < f + 1 := by unfold deepP at hf; exact hf
    obtain ⟨l1, l2⟩ := hl xs rfl
    rw [spN_succ]
    walk_at "go"
    refine lcQ_map (fun _ => .bl true) (by rw [rangeP_length]; exact le_line (by omega)) trivial (fun p N hm hN => ?_) ?_
    · obtain ⟨j, hj, e⟩ := List.mem_iff_getElem.mp hm
      obtain ⟨g1, g2⟩ := rangeP_at (List.getElem?_eq_some_iff.mpr ⟨hj, e⟩)
      subst g1
      have g2 : j < xs.length := by simpa using g2
      have ax : atI xs (j : Int) = some xs[j] := atI_of (by omega) (by simp [g2])
      have hm2 : xs[j] ∈ xs := List.getElem_mem _
      generalize xs[j] = y at ax hm2
      refine ⟨_, rfl, ?_⟩
      clear hm hj e h
      walk_at "go"
      refine t_likeF f (datsP_mem hd hm2) (by have := deep_mem hm2; omega) (fun ys e => ?_) hN
      obtain ⟨a1, a2⟩ := l2 y hm2 ys e
      exact ⟨a1, fun z hz zs e => absurd e (a2 z hz zs)⟩
    · rw [allP_map]
      rw [show ((rangeP 0 (Int.toNat ↑xs.length)).all fun _ => true) = true from List.all_eq_true.mpr fun _ _ => rfl]
      exact Dr.self h
theorem t_like {x y : PV} {S : Sto} {P : QK PV} {E : QX} (e : x = y) (hd : datP y = true) (hf : deepP y < 8) (hl : ∀ xs, y = .tup xs → xs.length ≤ 900 ∧ ∀ y ∈ xs, ∀ ys, y = .tup ys → ys.length ≤ 900 ∧ ∀ z ∈ ys, ∀ zs, z ≠ .tup zs) (h : P (.bl true) S) : sp__law_like [x, y] S P E := by
  subst e
  unfold sp__law_like
  exact t_likeF 8 hd hf hl h
theorem nodup1 {α : Type} (x : α) : [x].Nodup := by simp
theorem perm_erase {α : Type} : ∀ {l : List α} {j : Nat} (h : j < l.length), (l[j] :: l.eraseIdx j).Perm l
  | x :: l, 0, _ => List.Perm.refl _
  | x :: l, j + 1, h => (List.Perm.swap x _ _).trans ((perm_erase (l := l) (by simpa using h)).cons x)
theorem t_order {b p : Addr} {xs : List PV} {S : Sto} {P : QK PV} {E : QX} (hb : Bx S b) (hp : S p = some (.lst xs)) (hl : xs.length ≤ 900) (k : ∀ q ys S', ys.Perm xs → S' q = some (.lst ys) → S q = none → Ext b S S' → Bx S' b → P (.ref q) S') : sp__law_order [.ref b, .ref p] S P E := by
  unfold sp__law_order
  walk_at "go"
  intro l hl1
  walk_at "go"
  intro f hf
  have hf : put S l (.lst xs) f = none := hf
  have nlf : l ≠ f := fun e => by rw [← e, put_same] at hf; cases hf
  have hf0 : S f = none := by have := hf; rw [put_ne nlf.symm] at this; exact this
  have hbl := hb.ne hl1
  have hbf := hb.ne hf0
  walk_at "go"
  refine forQ_range (fun i τ S' => ∃ us vs v4, τ = [some (.ref b), some (.ref p), some (.ref l), some (.ref f), v4] ∧ Bx S' b ∧ Ext b S S' ∧ S' l = some (.lst us) ∧ S' f = some (.lst vs) ∧ (vs ++ us).Perm xs ∧ vs.length = i)
    ⟨xs, [], none, rfl, (hb.put hbl).put hbf, (Ext.new hl1).trans (Ext.new hf), by rw [put_ne nlf, put_same], put_same, List.Perm.refl _, rfl⟩ (fun i hi τ S' N ⟨us, vs, v4, e1, hb1, x1, e2, e3, e4, e5⟩ hN => ?_) fun τ S' ⟨us, vs, v4, e1, hb1, x1, e2, e3, e4, e5⟩ => ?_
  · subst e1
    have hN := fun us vs v4 S1 h1 h2 h3 h4 h5 h6 => hN [some (.ref b), some (.ref p), some (.ref l), some (.ref f), v4] S1 ⟨us, vs, v4, rfl, h1, h2, h3, h4, h5, h6⟩ trivial
    have hlen := e4.length_eq
    rw [List.length_append] at hlen
    have hi : i < xs.length := by simpa using hi
    walk_at "go"
    refine t_take hb1 (by omega) (by omega) fun d S1 d0 d1 x2 hb2 => ?_
    have g2 := x2.at hbl.symm e2
    have g3 := x2.at hbf.symm e3
    obtain ⟨j, rfl⟩ : ∃ j : Nat, d = (j : Int) := ⟨d.toNat, by omega⟩
    have hj : j < us.length := by omega
    have hx : ixN us.length (j : Int) = some j := by rw [ixN_of (by omega) (by omega)]; simp
    have hy : us[j]? = some us[j] := by simp [hj]
    have hp4 : ((vs ++ [us[j]]) ++ us.eraseIdx j).Perm xs := by
      refine List.Perm.trans ?_ e4
      rw [List.append_assoc]
      refine List.Perm.append_left _ ?_
      exact perm_erase hj
    generalize us[j] = y at hy hp4
    have hu : us.length ≤ 900 := by omega
    clear e2 e3 hlen
    have nfl := nlf.symm
    walk_at "go"
    refine hN (us.eraseIdx j) (vs ++ [y]) _ _ ((hb2.put hbl).put hbf) ?_ (by rw [put_ne nlf, put_same]) put_same hp4 (by simp; omega)
    exact ((x1.trans x2).wr hl1).wr hf0
  · subst e1
    walk_at "go"
    have hlen := e4.length_eq
    rw [List.length_append] at hlen
    have e5 : vs.length = xs.length := by simpa using e5
    have eu : us = [] := List.eq_nil_of_length_eq_zero (by omega)
    subst eu
    rw [List.append_nil] at e4
    exact Dr.self (k f vs S' e4 e3 hf0 x1 hb1)
/-! ### rows, drawn -/
abbrev Rw := List Nat × PV
def rP (r : Rw) : PV := .tup [.str r.1, r.2]
def okTo (v : PV) : Prop := v = .non ∨ ∃ i, v = .int i
theorem t_to {b : Addr} {few : Int} {S : Sto} {P : QK PV} {E : QX} (hb : Bx S b) (h0 : 0 < few) (h1 : few ≤ 100) (k : ∀ v S', okTo v → Ext b S S' → Bx S' b → P v S') : sp__law_to [.ref b, .int few] S P E := by
  unfold sp__law_to
  walk_at "go"
  refine t_take hb (by decide) (by decide) fun d1 S1 _ _ x1 hb1 => ?_
  walk_at "go"
  refine t_take hb1 h0 (by omega) fun d2 S2 _ _ x2 hb2 => ?_
  walk_at "go"
  refine t_take hb2 h0 (by omega) fun d3 S3 _ _ x3 hb3 => ?_
  walk_at "go"
  intro p hp
  walk_at "go"
  refine t_pickN hb3 hp (by simp) (by simp) fun v S4 hv x4 hb4 => ?_
  refine Dr.self (k v S4 ?_ (((x1.trans x2).trans x3).trans x4) hb4)
  simp only [List.mem_cons, List.not_mem_nil, or_false] at hv
  rcases hv with h | h | h | h
  · exact .inl h
  · exact .inr ⟨_, h⟩
  · exact .inr ⟨_, h⟩
  · exact .inr ⟨_, h⟩
structure okT (T : List (List Nat)) : Prop where
  nd : T.Nodup
  ok : ∀ s ∈ T, okS s
  le : T.length ≤ 127
theorem okT.sub {T U : List (List Nat)} (h : okT T) (s : U.Sublist T) : okT U := ⟨h.nd.sublist s, fun x hx => h.ok x (s.subset hx), Nat.le_trans s.length_le h.le⟩
theorem okT.perm {T U : List (List Nat)} (h : okT T) (s : U.Perm T) : okT U := ⟨s.nodup_iff.mpr h.nd, fun x hx => h.ok x (s.mem_iff.mp hx), by rw [s.length_eq]; exact h.le⟩
theorem okT_upto : okT (upto 7) := ⟨upto_nodup, fun _ => upto_ok, by have := upto_len 7; omega⟩
/-- a block that leaves some out, by draws -/
theorem sub_str {xs : List PV} {T : List (List Nat)} (h : xs.Perm (T.map PV.str)) : ∃ U : List (List Nat), xs = U.map PV.str ∧ U.Perm T := by
  have hx : ∀ x ∈ xs, ∃ s, x = PV.str s := fun x hx => by
    obtain ⟨s, _, e⟩ := List.mem_map.mp (h.mem_iff.mp hx)
    exact ⟨s, e.symm⟩
  let g : PV → List Nat := fun x => match x with | .str s => s | _ => []
  refine ⟨xs.map g, ?_, ?_⟩
  · rw [List.map_map]
    conv => lhs; rw [← List.map_id xs]
    refine List.map_congr_left fun x hm => ?_
    obtain ⟨s, rfl⟩ := hx x hm
    rfl
  · have := h.map g
    rw [List.map_map] at this
    have e : (T.map (g ∘ PV.str)) = T := by
      conv => rhs; rw [← List.map_id T]
      exact List.map_congr_left fun _ _ => rfl
    rwa [e] at this
theorem rows_end {b q : Addr} {few : Int} {T : List (List Nat)} {S : Sto} {P : QK PV} {v0 v1 v4 v5 v6 v7 : Option PV} (hb : Bx S b) (h0 : 0 < few) (h1 : few ≤ 100) (hq : S q = some (.lst (T.map PV.str))) (hqb : q ≠ b) (ok : okT T)
    (k : ∀ r (L : List Rw) S', L.map Prod.fst = T → (∀ x ∈ L, okTo x.2) → S' r = some (.lst (L.map rP)) → S r = none → Ext b S S' → Bx S' b → P (.ref r) S') {D : PEnds} (hD : D.rt = Dr P) :
    qRet (qNew (qLc (qiV (qVar 3)) (tg1 6) qYes (qTup (qaC (qVar 6) (qaC (qCall 2 sp__law_to (qaC (qVar 0) (qaC (qVar 2) qaN))) qaN))))) D [some (.ref b), v1, some (.int few), some (.ref q), v4, v5, v6, v7] S := by
  walk_at "go"
  refine lcQ_inv (fun i acc S' => ∃ L : List Rw, acc = L.map rP ∧ L.map Prod.fst = T.take i ∧ (∀ x ∈ L, okTo x.2) ∧ Ext b S S' ∧ Bx S' b) (by rw [List.length_map]; exact le_line (by have := ok.le; omega)) ⟨[], rfl, rfl, fun _ h => (nomatch h), Ext.refl, hb⟩ (fun i x acc S' N M hx ⟨L, e1, e2, e3, x1, hb1⟩ hN _ => ?_) (fun acc S' ⟨L, e1, e2, e3, x1, hb1⟩ => ?_)
  · subst e1
    rw [List.getElem?_map] at hx
    obtain ⟨s, hs, rfl⟩ := Option.map_eq_some_iff.mp hx
    refine ⟨_, rfl, ?_⟩
    have g := x1.at hqb hq
    clear hx hq k
    walk_at "go"
    refine t_to hb1 h0 h1 fun v S2 hv x2 hb2 => ?_
    walk_at "go"
    refine hN _ _ (x2.at hqb g) ⟨L ++ [(s, v)], by simp [rP], ?_, fun y hy => ?_, x1.trans x2, hb2⟩
    · rw [List.map_append, e2, List.take_add_one, hs]; rfl
    · rcases List.mem_append.mp hy with hy | hy
      · exact e3 y hy
      · rw [List.mem_singleton] at hy; subst hy; exact hv
  · subst e1
    rw [List.length_map, List.take_length] at e2
    intro r hr
    refine Dr.self (k r L _ e2 e3 put_same ?_ (x1.trans (Ext.new hr)) (hb1.put (hb1.ne hr)))
    exact x1.none (hb1.ne hr).symm hr
theorem t_rows {b : Addr} {shape few : Int} {S : Sto} {P : QK PV} {E : QX} (hb : Bx S b) (h0 : 0 < few) (h1 : few ≤ 100) (k : ∀ r (L : List Rw) S', okT (L.map Prod.fst) → (∀ x ∈ L, okTo x.2) → S' r = some (.lst (L.map rP)) → S r = none → Ext b S S' → Bx S' b → P (.ref r) S') : sp__law_rows [.ref b, .int shape, .int few] S P E := by
  unfold sp__law_rows
  refine seq_join (fun τ S' => ∃ q, τ = [some (.ref b), some (.int shape), some (.int few), some (.ref q), none, none, none, none] ∧ Bx S' b ∧ Ext b S S' ∧ S' q = some (.lst []) ∧ q ≠ b ∧ S q = none) (fun N h5 => ?_) (fun τ S1 ⟨q, e1, hb1, x1, e2, hqb, hq0⟩ => ?_)
  · have h5 := fun q S' h1 h2 h3 h4 h6 => h5 _ S' ⟨q, rfl, h1, h2, h3, h4, h6⟩
    clear k
    walk_at "go"
    intro q hq
    exact h5 q _ (hb.put (hb.ne hq)) (Ext.new hq) put_same (hb.ne hq).symm hq
  subst e1
  refine seq_join (fun τ S' => ∃ q T v4 v5 v6 v7, τ = [some (.ref b), some (.int shape), some (.int few), some (.ref q), v4, v5, v6, v7] ∧ Bx S' b ∧ Ext b S S' ∧ S' q = some (.lst (T.map PV.str)) ∧ q ≠ b ∧ okT T) (fun N h5 => ?_) (fun τ S1 ⟨q, T, v4, v5, v6, v7, e1, hb1, x1, e2, hqb, ok⟩ => ?_)
  · have h5 := fun q T v4 v5 v6 v7 S' h1 h2 h3 h4 h6 => h5 _ S' ⟨q, T, v4, v5, v6, v7, rfl, h1, h2, h3, h4, h6⟩
    clear k
    walk_at "go"
    show iteB (decide (shape = 0)) _ _
    refine iteB_dec (fun z => ?_) (fun z => ?_)
    · clear z
      walk_at "go"
      refine t_stretches fun p S2 hp x2 h2 => ?_
      have hb2 := hb1.sub x2
      have hpb : p ≠ b := (hb1.ne hp).symm
      walk_at "go"
      refine t_order hb2 h2 (by rw [List.length_map]; have := okT_upto.le; omega) fun r ys S3 hy h3 hr x3 hb3 => ?_
      obtain ⟨U, rfl, hU⟩ := sub_str hy
      walk_at "go"
      refine t_take hb3 (by decide) (by decide) fun d S4 d0 d1 x4 hb4 => ?_
      have hrb : r ≠ b := (hb2.ne hr).symm
      have g4 := x4.at hrb h3
      walk_at "go"
      rw [cut_to d0, ← List.map_take]
      intro n hn
      exact h5 n _ _ _ _ _ _ (hb4.put (hb4.ne hn)) (((x1.trans x2.ext).trans (x3.trans x4)).trans (Ext.new hn)) put_same (hb4.ne hn).symm ((okT_upto.perm hU).sub (List.take_sublist _ _))
    · clear z
      walk_at "go"
      show iteB (decide (shape = 1)) _ _
      refine iteB_dec (fun z => ?_) (fun z => ?_)
      · clear z
        show qSeq _ _ _ _ _
        refine seq_join (fun τ S' => ∃ a, τ = [some (.ref b), some (.int shape), some (.int few), some (.ref q), some (.str a), none, none, none] ∧ Bx S' b ∧ Ext b S S' ∧ S' q = some (.lst []) ∧ a.length = 6 ∧ ∀ c ∈ a, c = 48 ∨ c = 49) (fun N h6 => ?_) (fun τ S2 ⟨a, e3, hb2, x2, e4, al, ab⟩ => ?_)
        · have h6 := fun a S' h1 h2 h3 h4 h7 => h6 _ S' ⟨a, rfl, h1, h2, h3, h4, h7⟩
          clear h5
          walk_at "go"
          refine t_stretches fun p S2 hp x2 h2 => ?_
          have hb2 := hb1.sub x2
          have g2 := x2 _ _ e2
          clear e2
          walk_at "go"
          rw [cut_from (by decide), ← List.map_drop]
          intro n hn
          have e63 : (upto 7).drop (Int.toNat 63) = gens 6 := upto_drop
          rw [e63]
          walk_at "go"
          refine t_pickN hb2 hn (by decide +kernel) (by decide +kernel) fun v S3 hv x3 hb3 => ?_
          obtain ⟨a, ha, rfl⟩ := List.mem_map.mp hv
          have q := List.all_eq_true.mp gens_okB a ha
          simp only [Bool.and_eq_true, decide_eq_true_eq, List.all_eq_true, Bool.or_eq_true] at q
          exact h6 a S3 hb3 ((x1.trans x2.ext).trans x3) (x3.at hqb g2) q.1 q.2
        subst e3
        refine seq_join (fun τ S' => ∃ T v5 v6 v7, τ = [some (.ref b), some (.int shape), some (.int few), some (.ref q), some (.str a), v5, v6, v7] ∧ Bx S' b ∧ Ext b S S' ∧ S' q = some (.lst (T.map PV.str)) ∧ okT T) (fun N h6 => ?_) (fun τ S3 ⟨T, v5, v6, v7, e3, hb3, x3, e5, ok⟩ => ?_)
        · have h6 := fun T v5 v6 v7 S' h1 h2 h3 h4 => h6 _ S' ⟨T, v5, v6, v7, rfl, h1, h2, h3, h4⟩
          clear h5
          walk_at "go"
          refine forQ_range (fun i τ S' => ∃ T v5 v6 v7, τ = [some (.ref b), some (.int shape), some (.int few), some (.ref q), some (.str a), v5, v6, v7] ∧ Bx S' b ∧ Ext b S S' ∧ S' q = some (.lst (T.map PV.str)) ∧ T.Nodup ∧ (∀ s ∈ T, s.length < i ∧ ∀ c ∈ s, c = 48 ∨ c = 49) ∧ T.length ≤ 2 * i)
            ⟨[], none, none, none, rfl, hb2, x2, e4, List.nodup_nil, fun _ h => (nomatch h), Nat.le_refl _⟩ (fun i hi τ S' N ⟨T, v5, v6, v7, e1, hb3, x3, e5, nd, okT', le⟩ hN => ?_) fun τ S' ⟨T, v5, v6, v7, e1, hb3, x3, e5, nd, okT', le⟩ => ?_
          · subst e1
            have hN := fun T v5 v6 v7 S1 h1 h2 h3 h4 h5 h6 => hN [some (.ref b), some (.int shape), some (.int few), some (.ref q), some (.str a), v5, v6, v7] S1 ⟨T, v5, v6, v7, rfl, h1, h2, h3, h4, h5, h6⟩ trivial
            have hi : i < 7 := hi
            clear h6 e4 hb2
            have tk : ∀ n, ∀ c ∈ a.take n, c = 48 ∨ c = 49 := fun n c hc => ab c (List.mem_of_mem_take hc)
            have nd1 : (T ++ [a.take i]).Nodup := List.nodup_append.mpr ⟨nd, nodup1 _, fun x hx y hy e => by
              rw [List.mem_singleton] at hy
              have := (okT' x hx).1
              rw [e, hy, List.length_take] at this
              omega⟩
            have ok1 : ∀ s ∈ T ++ [a.take i], s.length < i + 1 ∧ ∀ c ∈ s, c = 48 ∨ c = 49 := fun s hs => by
              rcases List.mem_append.mp hs with hs | hs
              · have := okT' s hs
                exact ⟨by omega, this.2⟩
              · rw [List.mem_singleton] at hs; subst hs
                exact ⟨by rw [List.length_take]; omega, tk i⟩
            walk_at "go"
            rw [cut_nat]
            walk_at "go"
            have e7 : put S' q (.lst (T.map PV.str ++ [.str (a.take i)])) q = some (.lst ((T ++ [a.take i]).map PV.str)) := by rw [put_same, List.map_append]; rfl
            have hb4 := hb3.put (o := .lst (T.map PV.str ++ [.str (a.take i)])) hqb.symm
            have x4 := x3.wr (o := .lst (T.map PV.str ++ [.str (a.take i)])) hq0
            have g := hN _ none v6 v7 _ hb4 x4 e7 nd1 ok1 (by simp; omega)
            by_cases z : i = 0
            · subst z
              walk_at "go"
              exact hN _ _ _ _ _ hb4 x4 e7 nd1 ok1 (by simp; omega)
            · have zp : (0 : Int) < (i : Int) := by omega
              obtain ⟨j, rfl⟩ : ∃ j, i = j + 1 := ⟨i - 1, by omega⟩
              generalize put S' q (.lst (T.map PV.str ++ [.str (a.take (j + 1))])) = S5 at e7 hb4 x4 ⊢
              clear g e5 hb3 x3
              walk_at "go"
              refine t_take hb4 (by decide) (by decide) fun d S6 d0 d1 x6 hb6 => ?_
              have e8 := x6.at hqb e7
              have hN2 := hN (T ++ [a.take (j + 1)]) (some (.int ((j + 1 : Nat) : Int))) v6 v7 S6 hb6 (x4.trans x6) e8 nd1 ok1 (by simp; omega)
              walk_at "go"
              show iteB (decide (d = 0)) _ _
              refine iteB_dec (fun z2 => ?_) (fun _ => hN2)
              clear z2 hN2
              obtain ⟨c, hc⟩ : ∃ c, a[j]? = some c := ⟨a[j]'(by omega), by simp [show j < a.length by omega]⟩
              have cm := ab c (List.mem_of_getElem? hc)
              have ac : atI a (((j + 1 : Nat) : Int) - 1) = some c := atI_of (by omega) (by rw [show (((j + 1 : Nat) : Int) - 1).toNat = j by omega]; exact hc)
              have cj : cut a none (some (((j + 1 : Nat) : Int) - 1)) = a.take j := by rw [cut_to (by omega)]; congr 1; omega
              have done : ∀ w : Nat, w ≠ c → (w = 48 ∨ w = 49) → N [some (.ref b), some (.int shape), some (.int few), some (.ref q), some (.str a), some (.int ((j + 1 : Nat) : Int)), v6, v7] (put S6 q (.lst ((T ++ [a.take (j + 1)]).map PV.str ++ [.str (a.take j ++ [w])]))) := fun w hw hw2 => by
                refine hN (T ++ [a.take (j + 1)] ++ [a.take j ++ [w]]) _ _ _ _ (hb6.put hqb.symm) ((x4.trans x6).wr hq0) (by rw [put_same]; simp) ?_ ?_ (by simp; omega)
                · refine List.nodup_append.mpr ⟨nd1, nodup1 _, fun x hx y hy e => ?_⟩
                  rw [List.mem_singleton] at hy; subst hy
                  rcases List.mem_append.mp hx with hx | hx
                  · have := (okT' x hx).1
                    rw [e] at this
                    simp at this
                    omega
                  · rw [List.mem_singleton] at hx
                    rw [e, List.take_add_one, hc] at hx
                    have := List.append_cancel_left hx
                    simp at this
                    exact hw this
                · intro s hs
                  rcases List.mem_append.mp hs with hs | hs
                  · exact ok1 s hs
                  · rw [List.mem_singleton] at hs; subst hs
                    refine ⟨by simp; omega, fun x hx => ?_⟩
                    rcases List.mem_append.mp hx with hx | hx
                    · exact tk j x hx
                    · rw [List.mem_singleton] at hx; subst hx; exact hw2
              clear hN ok1 nd1 okT' nd tk ab hc
              have hc48 : c = 48 → decide ([c] = ([48] : List Nat)) = true := fun e => by rw [e]; rfl
              have hc49 : c = 49 → decide ([c] = ([48] : List Nat)) = false := fun e => by rw [e]; rfl
              rcases cm with e | e
              · have hd := hc48 e
                have done := done 49 (by omega) (.inr rfl)
                clear e hc48 hc49
                walk_at "go"
                exact done
              · have hd := hc49 e
                have done := done 48 (by omega) (.inl rfl)
                clear e hc48 hc49
                walk_at "go"
                exact done
          · subst e1
            exact h6 T _ _ _ S' hb3 x3 e5 ⟨nd, fun s hs => ⟨by have := (okT' s hs).1; omega, (okT' s hs).2⟩, by omega⟩
        · subst e3
          walk_at "go"
          refine lcQ_inv (fun i acc S' => ∃ U : List (List Nat), acc = U.map PV.str ∧ U.Sublist (T.take i) ∧ Ext b S S' ∧ Bx S' b ∧ S' q = some (.lst (T.map PV.str))) (by rw [List.length_map]; exact le_line (by have := ok.le; omega)) ⟨[], rfl, List.nil_sublist _, x3, hb3, e5⟩ (fun i x acc S' N M hx ⟨U, e1, e2, x4, hb4, e6⟩ hN hM => ?_) (fun acc S' ⟨U, e1, e2, x4, hb4, e6⟩ => ?_)
          · subst e1
            rw [List.getElem?_map] at hx
            obtain ⟨s, hs, rfl⟩ := Option.map_eq_some_iff.mp hx
            have ts : T.take (i + 1) = T.take i ++ [s] := by rw [List.take_add_one, hs]; rfl
            refine ⟨_, rfl, ?_⟩
            clear hx h5
            walk_at "go"
            refine t_take hb4 (by decide) (by decide) fun d S2 d0 d1 x5 hb5 => ?_
            have e7 := x5.at hqb e6
            walk_at "go"
            refine iteB_dec (fun z => ?_) (fun z => ?_)
            · walk_at "go"
              exact hN _ _ e7 ⟨U ++ [s], by simp, by rw [ts]; exact e2.append (List.Sublist.refl _), x4.trans x5, hb5, e7⟩
            · exact hM _ e7 ⟨U, rfl, by rw [ts]; exact e2.trans (List.sublist_append_left _ _), x4.trans x5, hb5, e7⟩
          · subst e1
            rw [List.length_map, List.take_length] at e2
            intro n hn
            exact h5 n U _ _ _ _ _ (hb4.put (hb4.ne hn)) (x4.trans (Ext.new hn)) put_same (hb4.ne hn).symm (ok.sub e2)
      · clear z
        walk_at "go"
        refine t_take hb1 (by decide) (by decide) fun d S2 d0 d1 x2 hb2 => ?_
        walk_at "go"
        refine t_stretches fun p S3 hp x3 h3 => ?_
        obtain ⟨A, hA⟩ : ∃ A, upto 7 = A := ⟨_, rfl⟩
        have okA : okT A := hA ▸ okT_upto
        rw [hA] at h3
        clear hA
        have hb3 := hb2.sub x3
        have hpb : p ≠ b := (hb2.ne hp).symm
        walk_at "go"
        refine lcQ_inv (fun i acc S' => ∃ U : List (List Nat), acc = U.map PV.str ∧ U.Sublist ((A).take i) ∧ Ext b S S' ∧ Bx S' b ∧ S' p = some (.lst ((A).map PV.str))) (by rw [List.length_map]; exact le_line (by have := okA.le; omega)) ⟨[], rfl, List.nil_sublist _, (x1.trans x2).trans x3.ext, hb3, h3⟩ (fun i x acc S' N M hx ⟨U, e1, e2, x4, hb4, e6⟩ hN hM => ?_) (fun acc S' ⟨U, e1, e2, x4, hb4, e6⟩ => ?_)
        · subst e1
          rw [List.getElem?_map] at hx
          obtain ⟨s, hs, rfl⟩ := Option.map_eq_some_iff.mp hx
          have ts : (A).take (i + 1) = (A).take i ++ [s] := by rw [List.take_add_one, hs]; rfl
          refine ⟨_, rfl, ?_⟩
          have hN := fun S2 x5 hb5 e7 => hN (.str s) S2 e7 ⟨U ++ [s], by simp, by rw [ts]; exact e2.append (List.Sublist.refl _), x5, hb5, e7⟩
          have hM := fun S2 x5 hb5 e7 => hM S2 e7 ⟨U, rfl, by rw [ts]; exact e2.trans (List.sublist_append_left _ _), x5, hb5, e7⟩
          clear hx h5 ts hs e2
          walk_at "go"
          show iteB (decide (shape = 3)) _ _
          refine iteB_dec (fun z => ?_) (fun z => ?_)
          · exact hN S' x4 hb4 e6
          · clear z
            walk_at "go"
            refine t_take hb4 (by omega) (by omega) fun d2 S4 d0' d1' x5 hb5 => ?_
            have e7 := x5.at hpb e6
            walk_at "go"
            show iteB (decide (d2 = 0)) _ _
            refine iteB_dec (fun z => ?_) (fun z => ?_)
            · exact hN S4 (x4.trans x5) hb5 e7
            · exact hM S4 (x4.trans x5) hb5 e7
        · subst e1
          rw [List.length_map, List.take_length] at e2
          intro n hn
          exact h5 n U _ _ _ _ _ (hb4.put (hb4.ne hn)) (x4.trans (Ext.new hn)) put_same (hb4.ne hn).symm (okA.sub e2)
  subst e1
  refine rows_end (v0 := none) hb1 h0 h1 e2 hqb ok (fun r L S2 e3 e4 e5 e6 x2 hb2 => k r L S2 (by rw [e3]; exact ok) e4 e5 (x1.none (hb1.ne e6).symm e6) (x1.trans x2) hb2) rfl
/-! ### tables -/
def kvR (r : Rw) : PV × PV := (.str r.1, r.2)
def lkR (R : List Rw) (s : List Nat) : Option PV := (R.find? fun r => decide (r.1 = s)).map Prod.snd
theorem valP_R (R : List Rw) (s : List Nat) : valP (R.map kvR) (.str s) = lkR R s := by
  unfold valP lkR
  induction R with
  | nil => rfl
  | cons r R ih =>
    rw [List.map_cons, List.find?_cons, List.find?_cons]
    have e : kEq (kvR r).1 (.str s) = decide (r.1 = s) := rfl
    rw [e]
    cases decide (r.1 = s) with
    | true => rfl
    | false => exact ih
theorem lkR_mem {R : List Rw} (nd : (R.map Prod.fst).Nodup) {s : List Nat} {v : PV} : lkR R s = some v ↔ (s, v) ∈ R := by
  induction R with
  | nil => simp [lkR]
  | cons r R ih =>
    rw [List.map_cons, List.nodup_cons] at nd
    have ih := ih nd.2
    unfold lkR at ih ⊢
    rw [List.find?_cons]
    by_cases h : r.1 = s
    · rw [decide_eq_true h]
      constructor
      · intro e
        have e : r.2 = v := by simpa using e
        rw [← h, ← e]; exact List.mem_cons_self
      · intro m
        rcases List.mem_cons.mp m with e | m
        · rw [← e]; rfl
        · exact absurd (List.mem_map.mpr ⟨(s, v), m, rfl⟩) (by rw [← h]; exact nd.1)
    · rw [decide_eq_false h]
      change (List.find? (fun r => decide (r.1 = s)) R).map Prod.snd = some v ↔ _
      rw [ih]
      constructor
      · exact fun m => List.mem_cons_of_mem _ m
      · intro m
        rcases List.mem_cons.mp m with e | m
        · exact absurd (by rw [← e]) h
        · exact m
theorem lkR_perm {R L : List Rw} (nd : (L.map Prod.fst).Nodup) (h : R.Perm L) (s : List Nat) : lkR R s = lkR L s := by
  have nr : (R.map Prod.fst).Nodup := (h.map Prod.fst).nodup_iff.mpr nd
  cases e : lkR L s with
  | some v => exact (lkR_mem nr).mpr (h.mem_iff.mpr ((lkR_mem nd).mp e))
  | none =>
    cases e2 : lkR R s with
    | none => rfl
    | some v =>
      rw [(lkR_mem nd).mpr (h.mem_iff.mp ((lkR_mem nr).mp e2))] at e
      cases e
def ansF (R : List Rw) (a : List Nat) : Nat → PV
  | 0 => (lkR R (a.take 0)).getD .non
  | n + 1 => match lkR R (a.take (n + 1)) with
    | some v => v
    | none => ansF R a n
theorem ansF_perm {R L : List Rw} (nd : (L.map Prod.fst).Nodup) (h : R.Perm L) (a : List Nat) : ∀ n, ansF R a n = ansF L a n
  | 0 => by rw [ansF, ansF, lkR_perm nd h]
  | n + 1 => by rw [ansF, ansF, lkR_perm nd h, ansF_perm nd h a n]
theorem lk_ok {R : List Rw} (ok : ∀ x ∈ R, okTo x.2) {s : List Nat} {v : PV} (h : lkR R s = some v) : okTo v := by
  unfold lkR at h
  obtain ⟨r, h1, h2⟩ := Option.map_eq_some_iff.mp h
  rw [← h2]
  exact ok r (List.mem_of_find?_eq_some h1)
theorem ansF_ok {R : List Rw} (ok : ∀ x ∈ R, okTo x.2) (a : List Nat) : ∀ n, okTo (ansF R a n)
  | 0 => by
    unfold ansF
    cases e : lkR R (a.take 0) with
    | none => exact .inl rfl
    | some v => exact lk_ok ok e
  | n + 1 => by
    unfold ansF
    cases e : lkR R (a.take (n + 1)) with
    | none => exact ansF_ok ok a n
    | some v => exact lk_ok ok e
/-- what a table is in the store -/
structure Tb (S : Sto) (p d : Addr) (R : List Rw) : Prop where
  p : S p = some (.ins 3 [(9, .ref d)])
  d : S d = some (.dic false (R.map kvR))
theorem Tb.sub {S S' : Sto} {p d : Addr} {R : List Rw} (h : Tb S p d R) (s : Sub S S') : Tb S' p d R := ⟨s _ _ h.p, s _ _ h.d⟩
theorem putP_new {kvs : List (PV × PV)} {k v : PV} (h : ∀ x ∈ kvs, kEq x.1 k = false) : putP kvs k v = kvs ++ [(k, v)] := by
  unfold putP
  rw [if_neg]
  intro z
  obtain ⟨x, hx, hk⟩ := List.any_eq_true.mp z
  rw [h x hx] at hk; cases hk
theorem t_tinit {p : Addr} {R : List Rw} {S : Sto} {P : QK PV} {E : QX} (hp : S p = some (.ins 3 [])) (ok : okT (R.map Prod.fst)) (k : ∀ d S', S d = none → Tb S' p d R → Ext p S S' → P .non S') : sp_Table_init [.ref p, .tup (R.map rP)] S P E := by
  unfold sp_Table_init
  have nd := ok.nd
  have le := ok.le
  rw [List.length_map] at le
  walk_at "go"
  have main : ∀ (L D : List Rw) (S : Sto) (PP : List (PV × PV) → Sto → Prop), (D ++ L = R) → PP (R.map kvR) S → dcQ kT (tg2 2 3) qYes (qVar 2) (qVar 3) [some (.ref p), some (.tup (R.map rP)), none, none] PP (L.map rP) (D.map kvR) S := by
    intro L
    induction L with
    | nil =>
      intro D S PP e h
      rw [List.append_nil] at e
      subst e
      exact h
    | cons r L ih =>
      intro D S PP e h
      have ih := ih (D ++ [r]) S PP (by rw [List.append_assoc]; exact e) h
      have hd : D.length ≤ 127 := by rw [← e] at le; simp at le; omega
      have hn : putP (D.map kvR) (.str r.1) r.2 = (D ++ [r]).map kvR := by
        rw [putP_new]
        · simp [kvR]
        · intro x hx
          obtain ⟨y, hy, rfl⟩ := List.mem_map.mp hx
          show decide (y.1 = r.1) = false
          refine decide_eq_false fun z => ?_
          rw [← e, List.map_append, List.nodup_append] at nd
          exact nd.2.2 y.1 (List.mem_map.mpr ⟨y, hy, rfl⟩) r.1 (by simp) z
      have hz : (D.map kvR).length < sizeLine := by rw [List.length_map]; exact lt_line (by omega)
      clear h e nd le
      rw [List.map_cons]
      unfold rP at ih ⊢
      walk_at "go"
  refine main R [] S _ rfl ?_
  intro d hd
  have hpd := new_ne hp hd
  clear main
  walk_at "go"
  refine Dr.self (k d _ hd ⟨put_same, by rw [put_ne hpd.symm, put_same]⟩ ?_)
  exact (Ext.new hd).trans Ext.put
/-! ### sorted -/
abbrev leS : List Nat → List Nat → Bool := fun a b => decide (a ≤ b)
theorem leP_str (a b : List Nat) : leP (.str a) (.str b) = decide (a ≤ b) := by
  have h := congrFun (congrFun (PySem.W.dataLe_str (β := List Nat) (fun c => (⟨c.toArray⟩ : Str))) a) b
  exact h
theorem leS_sorted (l : List (List Nat)) : (l.mergeSort leS).Pairwise fun a b => leS a b = true :=
  List.pairwise_mergeSort (le := leS) (fun a b c h1 h2 => decide_eq_true (List.le_trans (of_decide_eq_true h1) (of_decide_eq_true h2))) (fun (a b : List Nat) => by
      rcases List.le_total a b with h | h
      · simp [leS, h]
      · simp [leS, h]) l
theorem sort_perm {l m : List (List Nat)} (h : l.Perm m) : l.mergeSort leS = m.mergeSort leS :=
  List.Perm.eq_of_pairwise (le := fun a b => leS a b = true) (fun a b _ _ h1 h2 => List.le_antisymm (of_decide_eq_true h1) (of_decide_eq_true h2)) (leS_sorted l) (leS_sorted m) ((List.mergeSort_perm _ _).trans (h.trans (List.mergeSort_perm _ _).symm))
def rowG (R : List Rw) (s : List Nat) : PV := .tup [.str s, (lkR R s).getD .non]
theorem leT_row (x y : Rw) : leT (rP x) (rP y) = leS x.1 y.1 := by
  show (!decide (y.1 < x.1)) = decide (x.1 ≤ y.1)
  by_cases h : x.1 ≤ y.1
  · rw [decide_eq_true h, decide_eq_false (List.not_lt.mpr h)]; rfl
  · rw [decide_eq_false h, decide_eq_true (List.not_le.mp h)]; rfl
theorem rows_sorted {R L : List Rw} (nd : (L.map Prod.fst).Nodup) (h : R.Perm L) : (L.map rP).mergeSort leT = ((R.map Prod.fst).mergeSort leS).map (rowG R) := by
  have e1 := List.map_mergeSort (f := rP) (r := fun x y => leS x.1 y.1) (s := leT) (l := L) (fun a _ b _ => (leT_row a b).symm)
  have e2 := List.map_mergeSort (f := Prod.fst) (r := fun x y : Rw => leS x.1 y.1) (s := leS) (l := L) (fun a _ b _ => rfl)
  rw [sort_perm (h.map Prod.fst), ← e1, ← e2, List.map_map]
  refine List.map_congr_left fun x hx => ?_
  have hx := List.mem_mergeSort.mp hx
  show PV.tup [.str x.1, x.2] = PV.tup [.str x.1, (lkR R x.1).getD .non]
  rw [lkR_perm nd h, (lkR_mem nd).mpr (show (x.1, x.2) ∈ L from hx)]
  rfl
theorem rows_sortT {L : List Rw} (ok : okT (L.map Prod.fst)) (okv : ∀ x ∈ L, okTo x.2) : sortT (L.map rP) := by
  refine ⟨fun x hx => ?_, fun x hx y hy e => ?_, by have := ok.le; rw [List.length_map] at this ⊢; exact le_line (by omega)⟩
  · obtain ⟨r, hr, rfl⟩ := List.mem_map.mp hx
    rcases okv r hr with e | ⟨i, e⟩
    · unfold rP; rw [e]; exact ⟨rfl, by show max 0 (max 0 0) + 1 ≤ 60; decide, rfl⟩
    · unfold rP; rw [e]; exact ⟨rfl, by show max 0 (max 0 0) + 1 ≤ 60; decide, rfl⟩
  · obtain ⟨r, hr, rfl⟩ := List.mem_map.mp hx
    obtain ⟨q, hq, rfl⟩ := List.mem_map.mp hy
    have e : some r.1 = some q.1 := e
    injection e with e
    have h1 := (lkR_mem ok.nd).mpr (show (r.1, r.2) ∈ L from hr)
    have h2 := (lkR_mem ok.nd).mpr (show (q.1, q.2) ∈ L from hq)
    rw [e, h2] at h1
    injection h1 with h1
    unfold rP
    rw [e, h1]
/-! ### tables, walked -/
def takeP (a : List Nat) : PV → PV
  | .int i => .str (a.take (6 - i).toNat)
  | x => x
theorem range_seven : rangeP 0 7 = [.int 0, .int 1, .int 2, .int 3, .int 4, .int 5, .int 6] := by unfold rangeP; rfl
def downs (a : List Nat) : Nat → List PV
  | 0 => [.str (a.take 0)]
  | n + 1 => .str (a.take (n + 1)) :: downs a n
theorem t_of {a : List Nat} {D : List PV} {S : Sto} {P : QK PV} {E : QX} (h2 : a.length = 6) (hD : downs a 6 = D) (h : P (.tup D) S) : sp_stretches_of [.str a] S P E := by
  unfold sp_stretches_of
  walk_at "go"
  refine lcQ_map (takeP a) (rangeP_len (by decide)) trivial (fun p N hm hN => ?_) ?_
  · obtain ⟨j, hj, e⟩ := List.mem_iff_getElem.mp hm
    obtain ⟨g1, g2⟩ := rangeP_at (show (rangeP 0 (Int.toNat 7))[j]? = some p by rw [← e]; simp [hj])
    subst g1
    have g2 : j < 7 := g2
    refine ⟨_, rfl, ?_⟩
    clear hm hj e h
    walk_at "go"
    rw [cut_to (by omega)]
    exact hN
  · have e : (rangeP 0 (6 + 1 : Int).toNat).map (takeP a) = D := by
      rw [show (6 + 1 : Int).toNat = 7 from rfl, range_seven, ← hD]; rfl
    rw [e]
    exact Dr.self h
theorem t_longest {p d : Addr} {R : List Rw} {a : List Nat} {S : Sto} {P : QK PV} {E : QX} (h : Tb S p d R) (ha : a.length = 6) (k : P (ansF R a 6) S) : sp_Table_longest [.ref p, .str a] S P E := by
  unfold sp_Table_longest
  have hp := h.p
  have hd := h.d
  walk_at "go"
  obtain ⟨D6, hD6⟩ : ∃ D6, downs a 6 = D6 := ⟨_, rfl⟩
  refine t_of ha hD6 ?_
  walk_at "go"
  refine forQ_at (fun r τ S' => S' = S ∧ ∃ v, τ = [some (.ref p), some (.str a), v] ∧ ((r = [] ∧ P .non S) ∨ ∃ n, r = downs a n ∧ P (ansF R a n) S)) ⟨rfl, none, rfl, .inr ⟨6, hD6.symm, k⟩⟩ (fun x r τ S' N ⟨e1, v, e2, e3⟩ hN => ?_) fun τ S' ⟨e1, v, e2, e3⟩ => ?_
  · subst e1; subst e2
    have step : ∃ n, x = .str (a.take n) ∧ (∀ v, lkR R (a.take n) = some v → P v S') ∧ (lkR R (a.take n) = none → (r = [] ∧ P .non S') ∨ ∃ m, r = downs a m ∧ P (ansF R a m) S') := by
      rcases e3 with ⟨e, _⟩ | ⟨n, e, k⟩
      · cases e
      · cases n with
        | zero =>
          have e : x :: r = [.str (a.take 0)] := e
          injection e with e1 e2
          refine ⟨0, e1, fun v hv => ?_, fun hv => .inl ⟨e2, ?_⟩⟩
          · unfold ansF at k; rw [hv] at k; exact k
          · unfold ansF at k; rw [hv] at k; exact k
        | succ n =>
          have e : x :: r = .str (a.take (n + 1)) :: downs a n := e
          injection e with e1 e2
          refine ⟨n + 1, e1, fun v hv => ?_, fun hv => .inr ⟨n, e2, ?_⟩⟩
          · unfold ansF at k; rw [hv] at k; exact k
          · unfold ansF at k; rw [hv] at k; exact k
    obtain ⟨n, rfl, s1, s2⟩ := step
    have hv := valP_R R (a.take n)
    clear e3 k hD6
    cases hl : lkR R (a.take n) with
    | none =>
      have hN := fun v => hN [some (.ref p), some (.str a), v] S' ⟨rfl, v, rfl, s2 hl⟩ trivial
      rw [hl] at hv
      clear s1 s2 hl
      walk_at "go"
      exact hN _
    | some v =>
      have s1 := s1 v hl
      rw [hl] at hv
      clear s2 hl hN
      walk_at "go"
      exact Dr.self s1
  · subst e1; subst e2
    rcases e3 with ⟨_, k⟩ | ⟨n, e, _⟩
    · walk_at "go"
      exact Dr.self k
    · cases n <;> cases e
theorem kvR_fst (R : List Rw) : (R.map kvR).map Prod.fst = (R.map Prod.fst).map PV.str := by
  rw [List.map_map, List.map_map]; rfl
theorem t_listed {p d : Addr} {R : List Rw} {S : Sto} {P : QK PV} {E : QX} (h : Tb S p d R) (ok : okT (R.map Prod.fst)) (k : P (.tup (((R.map Prod.fst).mergeSort leS).map (rowG R))) S) : sp_Table_listed [.ref p] S P E := by
  unfold sp_Table_listed
  have hp := h.p
  have hd := h.d
  have hle := ok.le
  walk_at "go"
  rw [kvR_fst]
  refine And.intro (sortC_str (le_line (by omega))) ?_
  rw [← List.map_mergeSort (f := PV.str) (r := leS) (s := leP) (l := R.map Prod.fst) (fun a _ b _ => (leP_str a b).symm)]
  refine lcQ_enc (enc := PV.str) (fun _ => true) (rowG R) (le_line (by rw [List.length_mergeSort]; omega)) trivial (fun s N M hs h1 _ => ?_) ?_
  · have h1 := h1 rfl
    have hs := List.mem_mergeSort.mp hs
    obtain ⟨r, hr, rfl⟩ := List.mem_map.mp hs
    have hl := (lkR_mem ok.nd).mpr (show (r.1, r.2) ∈ R from hr)
    have hv := valP_R R r.1
    unfold rowG at h1
    rw [hl] at hv h1
    rw [Option.getD_some] at h1
    refine ⟨_, rfl, ?_⟩
    clear k hl hs hr
    walk_at "go"
  · rw [List.filter_eq_self.mpr fun _ _ => rfl]
    exact Dr.self k
theorem ansF_some {R : List Rw} {a : List Nat} {v : PV} : ∀ {n}, lkR R (a.take n) = some v → ansF R a n = v
  | 0, h => by unfold ansF; rw [h]; rfl
  | n + 1, h => by unfold ansF; rw [h]
theorem ansF_none {R : List Rw} {a : List Nat} {n : Nat} (h : lkR R (a.take (n + 1)) = none) : ansF R a (n + 1) = ansF R a n := by
  conv => lhs; unfold ansF
  rw [h]
theorem ansF_zero {R : List Rw} {a : List Nat} (h : lkR R (a.take 0) = none) : ansF R a 0 = .non := by
  unfold ansF; rw [h]; rfl
/-- the answers, by address -/
def kvA (L : List Rw) (a : List Nat) : PV × PV := (.str a, ansF L a 6)
theorem putP_last {kvs : List (PV × PV)} {k x v : PV} (h : ∀ y ∈ kvs, kEq y.1 k = false) (hk : kEq k k = true) : putP (kvs ++ [(k, x)]) k v = kvs ++ [(k, v)] := by
  unfold putP
  rw [if_pos (by rw [List.any_append]; simp [hk]), List.map_append]
  congr 1
  · conv => rhs; rw [← List.map_id kvs]
    refine List.map_congr_left fun y hy => ?_
    rw [h y hy]; rfl
  · simp [hk]
theorem t_answers {q : Addr} {L : List Rw} {S : Sto} {P : QK PV} {E : QX} (hq : S q = some (.lst (L.map rP))) (ok : okT (L.map Prod.fst)) (k : ∀ r S', S' r = some (.dic false ((gens 6).map (kvA L))) → S r = none → Sub S S' → P (.ref r) S') : sp__law_answers [.ref q] S P E := by
  unfold sp__law_answers
  have nd := ok.nd
  have le := ok.le
  rw [List.length_map] at le
  walk_at "go"
  refine ⟨false, fun g hg => ?_⟩
  walk_at "go"
  refine ⟨false, fun f hf => ?_⟩
  have hf : put S g (.dic false []) f = none := hf
  have ngf : f ≠ g := fun e => by rw [e, put_same] at hf; cases hf
  have hf0 : S f = none := by rw [put_ne ngf] at hf; exact hf
  have hqg := new_ne hq hg
  have hqf := new_ne hq hf0
  have hgf := ngf.symm
  walk_at "go"
  refine forQ_ix (fun i τ S' => ∃ v3 v4, τ = [some (.ref q), some (.ref g), some (.ref f), v3, v4, none, none] ∧ S' q = some (.lst (L.map rP)) ∧ S' g = some (.dic false ((L.take i).map kvR)) ∧ S' f = some (.dic false []) ∧ Sub S S')
    ⟨none, none, rfl, by rw [put_ne hqf, put_ne hqg]; exact hq, by rw [put_ne hgf, put_same]; rfl, put_same, (Sub.new hg).nw hf⟩ (fun i x hx τ S' N ⟨v3, v4, e1, e2, e3, e4, x1⟩ hN => ?_) fun τ S' ⟨v3, v4, e1, e2, e3, e4, x1⟩ => ?_
  · subst e1
    rw [List.getElem?_map] at hx
    obtain ⟨r, hr, rfl⟩ := Option.map_eq_some_iff.mp hx
    have tr : L.take (i + 1) = L.take i ++ [r] := by rw [List.take_add_one, hr]; rfl
    have hn : putP ((L.take i).map kvR) (.str r.1) r.2 = (L.take (i + 1)).map kvR := by
      rw [putP_new, tr, List.map_append]
      · rfl
      · intro x hx
        obtain ⟨y, hy, rfl⟩ := List.mem_map.mp hx
        show decide (y.1 = r.1) = false
        refine decide_eq_false fun z => ?_
        have h3 : (L.take (i + 1)).Sublist L := List.take_sublist _ _
        have := nd.sublist (h3.map Prod.fst)
        rw [tr, List.map_append, List.nodup_append] at this
        exact this.2.2 y.1 (List.mem_map.mpr ⟨y, hy, rfl⟩) r.1 (by simp) z
    have hz : ((L.take i).map kvR).length < sizeLine := by rw [List.length_map, List.length_take]; exact lt_line (by omega)
    have hN := hN [some (.ref q), some (.ref g), some (.ref f), some (.str r.1), some r.2, none, none] (put S' g (.dic false ((L.take (i + 1)).map kvR))) ⟨_, _, rfl, by rw [put_ne hqg]; exact e2, put_same, by rw [put_ne ngf]; exact e4, x1.wr hg⟩
    clear k hx hr tr nd hq
    unfold rP
    unfold rP at hN e2
    walk_at "go"
    exact hN (by rw [put_ne hqg]; exact e2)
  · subst e1
    rw [List.length_map, List.take_length] at e3
    walk_at "go"
    refine t_stretches fun p S2 hp x2 h2 => ?_
    have e3 := x2 _ _ e3
    have e4 := x2 _ _ e4
    have x1 := x1.trans x2
    clear e2 hp x2 hq hqg hqf
    have go := upto_drop
    obtain ⟨G, hG⟩ : ∃ G, gens 6 = G := ⟨_, rfl⟩
    have gN : G.Nodup := hG ▸ gens6_nodup
    have gl : ∀ a ∈ G, a.length = 6 := fun a ha => gens_mem a (by rw [hG]; exact ha)
    have gz : G.length ≤ 64 := by rw [← hG, gens_len]; decide
    obtain ⟨U, hU⟩ : ∃ U, upto 7 = U := ⟨_, rfl⟩
    rw [hG] at k go
    rw [hU] at h2 go
    clear hG hU
    walk_at "go"
    rw [cut_from (by decide), ← List.map_drop]
    have go : U.drop (Int.toNat 63) = G := go
    rw [go]
    clear go
    intro n hn
    have hgn := new_ne e3 hn
    have hfn := new_ne e4 hn
    have x1 : Sub S (put S2 n (.lst (G.map PV.str))) := x1.nw hn
    have e3 : put S2 n (.lst (G.map PV.str)) g = some _ := (put_ne hgn).trans e3
    have e4 : put S2 n (.lst (G.map PV.str)) f = some _ := (put_ne hfn).trans e4
    have e5 : put S2 n (.lst (G.map PV.str)) n = some (.lst (G.map PV.str)) := put_same
    generalize put S2 n (.lst (G.map PV.str)) = S3 at x1 e3 e4 e5 ⊢
    clear hn h2
    walk_at "go"
    refine forQ_ix (fun i τ S' => ∃ v3 v4 v5 v6, τ = [some (.ref q), some (.ref g), some (.ref f), v3, v4, v5, v6] ∧ S' n = some (.lst (G.map PV.str)) ∧ S' g = some (.dic false (L.map kvR)) ∧ S' f = some (.dic false ((G.take i).map (kvA L))) ∧ Sub S S')
      ⟨_, _, _, _, rfl, e5, e3, e4, x1⟩ (fun i x hx τ S' N ⟨v3, v4, v5, v6, e1, e5, e3, e4, x1⟩ hN => ?_) fun τ S' ⟨v3, v4, v5, v6, e1, e5, e3, e4, x1⟩ => ?_
    · subst e1
      rw [List.getElem?_map] at hx
      obtain ⟨a, ha, rfl⟩ := Option.map_eq_some_iff.mp hx
      have tr : G.take (i + 1) = G.take i ++ [a] := by rw [List.take_add_one, ha]; rfl
      have al := gl a (List.mem_of_getElem? ha)
      have fresh : ∀ y ∈ (G.take i).map (kvA L), kEq y.1 (.str a) = false := fun y hy => by
        obtain ⟨b, hb, rfl⟩ := List.mem_map.mp hy
        show decide (b = a) = false
        refine decide_eq_false fun z => ?_
        have h3 : (G.take (i + 1)).Sublist G := List.take_sublist _ _
        have := gN.sublist h3
        rw [tr, List.nodup_append] at this
        exact this.2.2 b hb a (by simp) z
      have hn1 : putP ((G.take i).map (kvA L)) (.str a) .non = (G.take i).map (kvA L) ++ [(.str a, .non)] := putP_new fresh
      have hn2 : ∀ v, putP ((G.take i).map (kvA L) ++ [(.str a, .non)]) (.str a) v = (G.take i).map (kvA L) ++ [(.str a, v)] := fun v => putP_last fresh (decide_eq_true rfl)
      have hz : ((G.take i).map (kvA L)).length < sizeLine := by rw [List.length_map, List.length_take]; exact lt_line (by omega)
      have hz2 : ((G.take i).map (kvA L) ++ [(PV.str a, PV.non)]).length < sizeLine := by simp; exact lt_line (by omega)
      have hN := fun v3 v4 v5 v6 S' h1 h2 h3 h4 => hN [some (.ref q), some (.ref g), some (.ref f), v3, v4, v5, v6] S' ⟨v3, v4, v5, v6, rfl, h1, h2, h3, h4⟩
      rw [tr, List.map_append] at hN
      have hkv : ∀ v, ansF L a 6 = v → ∀ M, some (Ob.dic false (M ++ [(PV.str a, v)])) = some (Ob.dic false (M ++ [a].map (kvA L))) := fun v h M => by subst h; rfl
      generalize hM : (G.take i).map (kvA L) = M at e4 fresh hn1 hn2 hz hz2 hN
      clear hM tr hx ha k nd gN gl hg hf
      walk_at "go"
      have e3 : put S' f (.dic false (M ++ [(.str a, .non)])) g = some (.dic false (L.map kvR)) := (put_ne hgf).trans e3
      have e5 : put S' f (.dic false (M ++ [(.str a, .non)])) n = some (.lst (G.map PV.str)) := (put_ne (fun e => hfn e.symm)).trans e5
      have e4 : put S' f (.dic false (M ++ [(.str a, .non)])) f = some (.dic false (M ++ [(.str a, .non)])) := put_same
      have x1 : Sub S (put S' f (.dic false (M ++ [(.str a, .non)]))) := x1.wr hf0
      generalize put S' f (.dic false (M ++ [(.str a, .non)])) = S4 at e3 e5 e4 x1 ⊢
      refine forQ_ix (fun j τ S' => (∃ v6, τ = [some (.ref q), some (.ref g), some (.ref f), v3, v4, some (.str a), v6]) ∧ S' = S4 ∧ ((j ≤ 6 ∧ ansF L a 6 = ansF L a (6 - j)) ∨ (j = 7 ∧ ansF L a 6 = .non)))
        ⟨⟨_, rfl⟩, rfl, .inl ⟨Nat.zero_le _, rfl⟩⟩ (fun j x hj τ S5 N2 ⟨⟨v6, h1⟩, h2, h3⟩ hN2 => ?_) fun τ S5 ⟨⟨v6, h1⟩, h2, h3⟩ => ?_
      · subst h1; subst h2
        obtain ⟨g1, g2⟩ := rangeP_at hj
        subst g1
        have g2 : j < 7 := g2
        clear hj
        have hA : ansF L a 6 = ansF L a (6 - j) := by
          rcases h3 with h | h
          · exact h.2
          · omega
        clear h3
        have hc : cut a none (some ((6 : Int) - (j : Int))) = a.take (6 - j) := by rw [cut_to (by omega)]; congr 1; omega
        have hv := valP_R L (a.take (6 - j))
        cases hl : lkR L (a.take (6 - j)) with
        | none =>
          rw [hl] at hv
          have hA2 : (j + 1 ≤ 6 ∧ ansF L a 6 = ansF L a (6 - (j + 1))) ∨ (j + 1 = 7 ∧ ansF L a 6 = .non) := by
            by_cases h6 : j = 6
            · refine .inr ⟨by omega, ?_⟩
              subst h6
              rw [hA]
              exact ansF_zero hl
            · refine .inl ⟨by omega, ?_⟩
              obtain ⟨m, hm⟩ : ∃ m, 6 - j = m + 1 := ⟨5 - j, by omega⟩
              rw [show 6 - (j + 1) = m by omega, hA, hm]
              rw [hm] at hl
              exact ansF_none hl
          have hN2 := fun v6 => hN2 [some (.ref q), some (.ref g), some (.ref f), v3, v4, some (.str a), v6] S5 ⟨⟨v6, rfl⟩, rfl, hA2⟩
          clear hN hA hA2 hl
          walk_at "go"
          exact hN2 _ trivial
        | some v =>
          rw [hl] at hv
          have hA2 : ansF L a 6 = v := by
            rw [hA]
            exact ansF_some hl
          have hN := fun v6 => hN v3 v4 (some (.str a)) v6 (put S5 f (.dic false (M ++ [(.str a, v)]))) ((put_ne (fun e => hfn e.symm)).trans e5) ((put_ne hgf).trans e3) (put_same.trans (hkv v hA2 _)) (x1.wr hf0)
          have hn2 := hn2 v
          clear hN2 hA hA2 hl
          walk_at "go"
          exact hN _ ((put_ne (fun e => hfn e.symm)).trans e5)
      · subst h1; subst h2
        have hA : ansF L a 6 = .non := by
          rcases h3 with h | h
          · have h1 := h.1
            rw [show Int.toNat 7 = 7 from rfl, range_seven] at h1
            exact absurd h1 (by decide)
          · exact h.2
        have hN := hN v3 v4 (some (.str a)) v6 S5 e5 e3 (e4.trans (hkv _ hA _)) x1
        walk_at "go"
    · subst e1
      rw [List.length_map, List.take_length] at e4
      walk_at "go"
      exact Dr.self (k f S' e4 hf0 x1)
/-! ### answers, alike -/
theorem rowG_ok {R : List Rw} (ok : ∀ x ∈ R, okTo x.2) (s : List Nat) : okTo ((lkR R s).getD .non) := by
  cases e : lkR R s with
  | none => exact .inl rfl
  | some v => exact lk_ok ok e
theorem rowsG_data {R : List Rw} (ok : ∀ x ∈ R, okTo x.2) : ∀ l : List (List Nat), datsP (l.map (rowG R)) = true ∧ deepsP (l.map (rowG R)) ≤ 2
  | [] => ⟨rfl, by rw [List.map_nil]; unfold deepsP; omega⟩
  | s :: l => by
    obtain ⟨h1, h2⟩ := rowsG_data ok l
    rw [List.map_cons]
    have : datP (rowG R s) = true ∧ deepP (rowG R s) ≤ 1 := by
      unfold rowG
      rcases rowG_ok ok s with e | ⟨i, e⟩
      · rw [e]; exact ⟨rfl, by show max 0 (max 0 0) + 1 ≤ 1; decide⟩
      · rw [e]; exact ⟨rfl, by show max 0 (max 0 0) + 1 ≤ 1; decide⟩
    refine ⟨?_, ?_⟩
    · unfold datsP; rw [this.1, h1]; rfl
    · unfold deepsP; omega
theorem valP_A (L : List Rw) {a : List Nat} : ∀ {G : List (List Nat)}, a ∈ G → valP (G.map (kvA L)) (.str a) = some (ansF L a 6)
  | b :: G, h => by
    by_cases e : b = a
    · subst e
      unfold valP
      rw [List.map_cons, List.find?_cons_of_pos (p := fun x : PV × PV => kEq x.1 (.str b)) (show kEq (kvA L b).1 (.str b) = true from decide_eq_true rfl)]; rfl
    · have ih := valP_A L (G := G) (a := a) (by rcases List.mem_cons.mp h with e1 | e1; exact absurd e1.symm e; exact e1)
      unfold valP at ih ⊢
      rw [List.map_cons, List.find?_cons_of_neg (p := fun x : PV × PV => kEq x.1 (.str a)) (show ¬ kEq (kvA L b).1 (.str a) = true from fun z => e (of_decide_eq_true z))]
      exact ih
theorem keysA (L : List Rw) (G : List (List Nat)) : (G.map (kvA L)).map Prod.fst = G.map PV.str := by rw [List.map_map]; rfl
theorem okTo_like {v : PV} {S : Sto} {P : QK PV} {E : QX} (h : okTo v) (k : P (.bl true) S) : sp__law_like [v, v] S P E := by
  rcases h with e | ⟨i, e⟩
  · subst e
    exact t_like rfl rfl (by show 0 < 8; decide) (fun xs e => nomatch e) k
  · subst e
    exact t_like rfl rfl (by show 0 < 8; decide) (fun xs e => nomatch e) k
theorem t_so {p d q : Addr} {R L : List Rw} {S : Sto} {P : QK PV} {E : QX} (h : Tb S p d R) (hq : S q = some (.lst (L.map rP))) (hp : R.Perm L) (ok : okT (L.map Prod.fst)) (okv : ∀ x ∈ L, okTo x.2) (k : ∀ S', Sub S S' → P (.bl true) S') : sp__law_answers_so [.ref p, .ref q] S P E := by
  unfold sp__law_answers_so
  have okR := ok.perm (hp.map Prod.fst)
  have okw : ∀ x ∈ R, okTo x.2 := fun x hx => okv x (hp.mem_iff.mp hx)
  have lR := okR.le
  rw [List.length_map] at lR
  have hp0 := h.p
  walk_at "go"
  refine t_listed h okR ?_
  walk_at "go"
  refine .inr (And.intro (And.intro rfl (rows_sortT ok okv)) ?_)
  rw [rows_sorted ok.nd hp]
  obtain ⟨d1, d2⟩ := rowsG_data okw ((R.map Prod.fst).mergeSort leS)
  have len : (((R.map Prod.fst).mergeSort leS).map (rowG R)).length ≤ 900 := by rw [List.length_map, List.length_mergeSort, List.length_map]; omega
  have hrow : ∀ y ∈ ((R.map Prod.fst).mergeSort leS).map (rowG R), ∃ a b, y = .tup [a, b] ∧ (∀ zs, a ≠ .tup zs) ∧ ∀ zs, b ≠ .tup zs := fun y hy => by
    obtain ⟨s, _, rfl⟩ := List.mem_map.mp hy
    refine ⟨_, _, rfl, fun zs => (fun z => nomatch z), fun zs z => ?_⟩
    rcases rowG_ok okw s with e | ⟨i, e⟩
    · rw [e] at z; cases z
    · rw [e] at z; cases z
  generalize ((R.map Prod.fst).mergeSort leS).map (rowG R) = Y at d1 d2 len hrow
  walk_at "go"
  refine t_like rfl (by unfold datP; exact d1) (by unfold deepP; omega) (fun xs e => ?_) ?_
  · injection e with e
    subst e
    refine ⟨len, fun y hy ys e => ?_⟩
    obtain ⟨a, b, e1, h1, h2⟩ := hrow y hy
    rw [e1] at e
    injection e with e
    subst e
    refine ⟨by simp, fun z hz => ?_⟩
    simp only [List.mem_cons, List.not_mem_nil, or_false] at hz
    rcases hz with rfl | rfl
    · exact h1
    · exact h2
  clear d1 d2 len hrow
  walk_at "go"
  refine t_answers hq ok fun r S' hr hr0 x1 => ?_
  have hpr := new_ne hp0 hr0
  have hdr := new_ne h.d hr0
  have h := h.sub x1
  obtain ⟨G, hG⟩ : ∃ G, gens 6 = G := ⟨_, rfl⟩
  have gl : ∀ a ∈ G, a.length = 6 := fun a ha => gens_mem a (by rw [hG]; exact ha)
  have gz : G.length ≤ sizeLine := by rw [← hG]; exact le_line (by rw [gens_len]; decide)
  rw [hG] at hr
  clear hG
  have hv := fun a => @valP_A L a G
  have hk := keysA L G
  generalize G.map (kvA L) = V at hr hv hk
  have h2 : Tb (put S' r (.fdi false V)) p d R := ⟨(put_ne hpr).trans h.p, (put_ne hdr).trans h.d⟩
  have hr2 : put S' r (.fdi false V) r = some (.fdi false V) := put_same
  have hpp : put (put S' r (.fdi false V)) r (.dic false V) = S' := by
    rw [put_put]
    funext b
    by_cases e : b = r
    · subst e; rw [put_same, hr]
    · rw [put_ne e]
  have ea := fun a => ansF_perm (R := R) (L := L) ok.nd hp a 6
  have ew := fun a => ansF_ok okw a 6
  have k := k S' x1
  clear x1 h hq okR okw lR ok okv hp hr0
  walk_at "go"
  refine ⟨r, false, V, hr, ?_⟩
  have hp2 := h2.p
  generalize put S' r (.fdi false V) = S2 at h2 hr2 hpp hp2 ⊢
  walk_at "go"
  refine lcQ_enc (enc := PV.str) (fun _ => true) (fun _ => .bl true) gz hr2 (fun a N M hs h1 _ => ?_) ?_
  · have h1 := h1 rfl
    have al := gl a hs
    have hv := hv a hs
    refine ⟨_, rfl, ?_⟩
    clear k hs gl gz hk
    walk_at "go"
    refine t_longest h2 al ?_
    rw [ea a] at *
    have ew := ew a
    rw [ea a] at ew
    generalize ansF L a 6 = v at ew hv ⊢
    clear ea
    walk_at "go"
    exact okTo_like ew h1
  · rw [List.filter_eq_self.mpr fun _ _ => rfl]
    walk_at "go"
    rw [allP_map (fun _ : List Nat => true) G, show (G.all fun _ => true) = true from List.all_eq_true.mpr fun _ _ => rfl]
    exact Dr.self k
/-! ### the law -/
def unP : PV → Rw
  | .tup [.str s, v] => (s, v)
  | _ => ([], .non)
theorem perm_rows {ys : List PV} {L : List Rw} (h : ys.Perm (L.map rP)) : ∃ R : List Rw, ys = R.map rP ∧ R.Perm L := by
  refine ⟨ys.map unP, ?_, ?_⟩
  · rw [List.map_map]
    conv => lhs; rw [← List.map_id ys]
    refine List.map_congr_left fun y hy => ?_
    obtain ⟨r, _, rfl⟩ := List.mem_map.mp (h.mem_iff.mp hy)
    rfl
  · have := h.map unP
    rw [List.map_map] at this
    rwa [show (unP ∘ rP) = id from rfl, List.map_id] at this
theorem Bx.through {b t : Addr} {S S' : Sto} {o : Ob} (h : Bx S b) (n : b ≠ t) (x : Ext t (Mp.put S t o) S') : Bx S' b := let ⟨u, v, e, r⟩ := h; ⟨u, v, x.at n ((put_ne n).trans e), r⟩
theorem seq_call2 {sp : PSp} {i : Nat} {qa : QTA} {rest : QTS} {D : PEnds} {τ : PSt} {S : Sto} (h : qa τ S (fun xs S1 => xs.length = 2 ∧ sp xs S1 (fun v S2 => rest D (τ.set i (some v)) S2) (exAt { D with nx := fun τ1 S1 => rest D τ1 S1 } τ)) (exAt { D with nx := fun τ1 S1 => rest D τ1 S1 } τ)) : qSeq (qSet i (qCall 2 sp qa)) rest D τ S := h
theorem law_true : LawTrue sp_law := fun ns hn hz => by
  unfold sp_law
  walk_at "go"
  refine forQ_range (fun i τ S => ∃ (v1 v2 v3 v4 v5 v6 v7 : Option PV), τ = [some (.lsv (ns.map PV.int)), v1, v2, v3, v4, v5, v6, v7]) ⟨_, _, _, _, _, _, _, rfl⟩
    (fun c hc τ S N ⟨v1, v2, v3, v4, v5, v6, v7, e⟩ hN => ?_) fun τ S ⟨v1, v2, v3, v4, v5, v6, v7, e⟩ => ?_
  · subst e
    have hN := fun v1 v2 v3 v4 v5 v6 v7 S => hN [some (.lsv (ns.map PV.int)), v1, v2, v3, v4, v5, v6, v7] S ⟨v1, v2, v3, v4, v5, v6, v7, rfl⟩ trivial
    have hc : c < 2 := hc
    show qSeq _ _ _ _ _
    refine seq_call2 ?_
    walk_at "go"
    refine t_box (by omega) (by omega) fun b S1 hb x1 hb1 => ?_
    clear hb x1
    walk_at "go"
    refine t_take hb1 (by decide) (by decide) fun sh S2 _ _ x1 hb1 => ?_
    clear x1
    walk_at "go"
    refine t_take hb1 (by decide) (by decide) fun few S3 f0 f1 x1 hb1 => ?_
    clear x1
    walk_at "go"
    refine t_rows hb1 (by omega) (by omega) fun r L S4 ok okv hr _ _ _ => ?_
    clear f0 f1 hb1
    refine seq_call2 ?_
    walk_at "go"
    refine t_box (by omega) (by omega) fun b2 S5 hb x1 hb1 => ?_
    have nrb := new_ne hr hb
    have hr := x1 _ _ hr
    clear hb x1
    walk_at "go"
    refine t_take hb1 (by decide) (by decide) fun sh2 S6 _ _ x1 hb1 => ?_
    have hr := x1.at nrb hr
    clear x1
    walk_at "go"
    refine t_take hb1 (by decide) (by decide) fun few2 S7 f0 f1 x1 hb1 => ?_
    have hr := x1.at nrb hr
    clear x1
    walk_at "go"
    refine t_rows hb1 (by omega) (by omega) fun r2 L2 S8 ok2 okv2 hr2 hr20 x1 hb3 => ?_
    have nrb2 := hb1.ne hr20
    have nrr := new_ne hr hr20
    have hr := x1.at nrb hr
    clear f0 f1 hb1 x1
    have hb1 := hb3
    clear hb3 hr20
    show qSeq _ _ _ _ _
    have l1 := ok.le
    rw [List.length_map] at l1
    have l2 := ok2.le
    rw [List.length_map] at l2
    walk_at "go"
    refine t_order hb1 hr (by rw [List.length_map]; omega) fun q ys S9 hpy hq _ x1 hb3 => ?_
    have hr := x1.at nrb hr
    have hr2 := x1.at nrb2.symm hr2
    obtain ⟨R, rfl, hp⟩ := perm_rows hpy
    clear hb1 x1 hpy
    have hb1 := hb3
    clear hb3
    walk_at "go"
    intro t ht
    have nrt := new_ne hr ht
    have nrt2 := new_ne hr2 ht
    have nbt := hb1.ne ht
    refine And.intro rfl (t_tinit put_same (ok.perm (hp.map Prod.fst)) fun d S10 hd T1 x1 => And.intro rfl ?_)
    have hr := x1.at nrt ((put_ne nrt).trans hr)
    have hr2 := x1.at nrt2 ((put_ne nrt2).trans hr2)
    have hb3 := hb1.through nbt x1
    clear hb1 x1 hq nrt nrt2 nbt hd ht
    have hb1 := hb3
    clear hb3
    have tb0 : t ≠ b2 := fun e => by
      obtain ⟨u, v, e1, _⟩ := hb1
      have := T1.p
      rw [e, e1] at this; cases this
    have db0 : d ≠ b2 := fun e => by
      obtain ⟨u, v, e1, _⟩ := hb1
      have := T1.d
      rw [e, e1] at this; cases this
    show qSeq _ _ _ _ _
    walk_at "go"
    refine t_order hb1 hr2 (by rw [List.length_map]; omega) fun q ys S11 hpy hq _ x1 hb3 => ?_
    have hr := x1.at nrb hr
    have hr2 := x1.at nrb2.symm hr2
    have T1 : Tb S11 t d R := ⟨x1.at tb0 T1.p, x1.at db0 T1.d⟩
    obtain ⟨R2, rfl, hp2⟩ := perm_rows hpy
    clear hb1 x1 hpy
    have hb1 := hb3
    clear hb3
    walk_at "go"
    intro t2 ht
    have nrt := new_ne hr ht
    have nrt2 := new_ne hr2 ht
    have nbt := hb1.ne ht
    have ntt := new_ne T1.p ht
    have ndt := new_ne T1.d ht
    refine And.intro rfl (t_tinit put_same (ok2.perm (hp2.map Prod.fst)) fun d2 S12 hd T2 x1 => And.intro rfl ?_)
    have hr := x1.at nrt ((put_ne nrt).trans hr)
    have hr2 := x1.at nrt2 ((put_ne nrt2).trans hr2)
    have T1 : Tb S12 t d R := ⟨x1.at ntt ((put_ne ntt).trans T1.p), x1.at ndt ((put_ne ndt).trans T1.d)⟩
    have hb3 := hb1.through nbt x1
    clear hb1 x1 hq nrt nrt2 nbt hd ht ntt ndt tb0 db0
    have hb1 := hb3
    clear hb3
    show qSeq _ _ _ _ _
    clear nrb nrr l1
    walk_at "go"
    refine t_so T1 hr hp ok okv fun S13 x1 => ?_
    have hr := x1 _ _ hr
    have hr2 := x1 _ _ hr2
    have T1 := T1.sub x1
    have T2 := T2.sub x1
    have hb3 := hb1.sub x1
    clear hb1 x1
    walk_at "go"
    refine t_so T2 hr2 hp2 ok2 okv2 fun S14 x1 => ?_
    have hr := x1 _ _ hr
    have hr2 := x1 _ _ hr2
    have T1 := T1.sub x1
    have T2 := T2.sub x1
    have hb1 := hb3.sub x1
    clear hb3 x1
    walk_at "go"
    refine t_so T1 hr hp ok okv fun S15 x1 => ?_
    have hr2 := x1 _ _ hr2
    have T2 := T2.sub x1
    have hb3 := hb1.sub x1
    clear hb1 x1 hr T1 ok okv hp
    walk_at "go"
    refine t_stretches fun p S16 _ x1 h2 => ?_
    have hr2 := x1 _ _ hr2
    have T2 := T2.sub x1
    have hb1 := hb3.sub x1
    clear hb3 x1
    have go := upto_drop
    obtain ⟨G, hG⟩ : ∃ G, gens 6 = G := ⟨_, rfl⟩
    have gl : ∀ a ∈ G, a.length = 6 := fun a ha => gens_mem a (by rw [hG]; exact ha)
    have gz : G.length ≤ 64 := by rw [← hG, gens_len]; decide
    have tA := fun {q L S P E} => @t_answers q L S P E
    obtain ⟨U, hU⟩ : ∃ U, upto 7 = U := ⟨_, rfl⟩
    rw [hG] at go tA
    rw [hU] at h2 go
    clear hG hU
    walk_at "go"
    rw [cut_from (by decide), ← List.map_drop]
    have go : U.drop (Int.toNat 63) = G := go
    rw [go]
    clear go
    intro n hn
    have hr2 := (put_ne (o := .lst (G.map PV.str)) (new_ne hr2 hn)).trans hr2
    have T2 := T2.sub (Sub.new (o := .lst (G.map PV.str)) hn)
    have hb3 := hb1.sub (Sub.new (o := .lst (G.map PV.str)) hn)
    have e5 : put S16 n (.lst (G.map PV.str)) n = some (.lst (G.map PV.str)) := put_same
    clear hb1 h2
    generalize put S16 n (.lst (G.map PV.str)) = S17 at hr2 T2 hb3 e5 ⊢
    have tb0 : t2 ≠ b2 := fun e => by
      obtain ⟨u, v, e1, _⟩ := hb3
      have := T2.p
      rw [e, e1] at this; cases this
    have db0 : d2 ≠ b2 := fun e => by
      obtain ⟨u, v, e1, _⟩ := hb3
      have := T2.d
      rw [e, e1] at this; cases this
    walk_at "go"
    refine t_order hb3 e5 (by rw [List.length_map]; omega) fun q ys S18 hpy hq _ x1 _ => ?_
    have hr2 := x1.at nrb2.symm hr2
    have T2 : Tb S18 t2 d2 R2 := ⟨x1.at tb0 T2.p, x1.at db0 T2.d⟩
    obtain ⟨V, rfl, hpV⟩ := sub_str hpy
    have gv : ∀ a ∈ V, a ∈ G := fun a h => hpV.mem_iff.mp h
    clear hb3 x1 hpy hpV tb0 db0 hr T1 go hn e5
    walk_at "go"
    rw [cut_to (by decide), ← List.map_take]
    have gv : ∀ a ∈ V.take (Int.toNat 4), a ∈ G := fun a h => gv a (List.mem_of_mem_take h)
    generalize V.take (Int.toNat 4) = V4 at gv ⊢
    intro n2 hn
    have hr2 := (put_ne (o := .lst (V4.map PV.str)) (new_ne hr2 hn)).trans hr2
    have T2 := T2.sub (Sub.new (o := .lst (V4.map PV.str)) hn)
    have e5 : put S18 n2 (.lst (V4.map PV.str)) n2 = some (.lst (V4.map PV.str)) := put_same
    generalize put S18 n2 (.lst (V4.map PV.str)) = S19 at hr2 T2 e5 ⊢
    clear hn hq
    walk_at "go"
    refine forQ_ix (fun i τ S' => (∃ v7, τ = [some (.lsv (ns.map PV.int)), some (.int c), some (.ref b2), some (.ref r), some (.ref r2), some (.ref t), some (.ref t2), v7]) ∧ S' r2 = some (.lst (L2.map rP)) ∧ Tb S' t2 d2 R2 ∧ S' n2 = some (.lst (V4.map PV.str)))
      ⟨⟨_, rfl⟩, hr2, T2, e5⟩ (fun i x hx τ S' N2 ⟨⟨v7, e1⟩, hr2, T2, e5⟩ hN2 => ?_) fun τ S' ⟨⟨v7, e1⟩, hr2, T2, e5⟩ => ?_
    · subst e1
      have hN2 := fun v7 S' a b c => hN2 _ S' ⟨⟨v7, rfl⟩, a, b, c⟩
      clear hN
      rw [List.getElem?_map] at hx
      obtain ⟨a, ha, rfl⟩ := Option.map_eq_some_iff.mp hx
      have ag := gv a (List.mem_of_getElem? ha)
      have al := gl a ag
      clear hx ha gv
      have T2p := T2.p
      walk_at "go"
      refine t_longest T2 al ?_
      walk_at "go"
      refine tA hr2 ok2 fun f S20 hf _ x1 => ?_
      have hr2 := x1 _ _ hr2
      have T2 := T2.sub x1
      have e5 := x1 _ _ e5
      have hv := valP_A L2 ag
      rw [ansF_perm ok2.nd hp2 a 6]
      have ew := ansF_ok okv2 a 6
      generalize ansF L2 a 6 = v at ew hv ⊢
      generalize G.map (kvA L2) = M at hf hv
      clear tA T2p x1 gl gz ag
      walk_at "go"
      refine okTo_like ew ?_
      walk_at "go"
      exact hN2 _ _ hr2 T2 e5 e5
    · subst e1
      exact hN _ _ _ _ _ _ _ _
  · subst e
    walk_at "go"
    exact Dr.self rfl
end Mp

open PySem PySem.W PyProof.Rows in
set_option maxRecDepth 100000 in
set_option maxHeartbeats 0 in
theorem PySem.Challenge.cw_maypoint_k63_what_tables_answer_holds : PySem.Challenge.rw_maypoint_k63_what_tables_answer.Holds := by
  w_on; o_law; k_head; (case hw => w_witness2)
  k_fill
  refine Mp.walk_law (sp := Mp.sp_law) (l := PySem.Challenge.rw_maypoint_k63_what_tables_answer) (lv := 10) rfl rfl (by decide) (fun w h Y => PySem.W.kIn_of Y) ?F Mp.law_true
  case F =>
    intro w mg fa h KX G hmg
    refine' Mp.all_mk KX G hmg ?a0 ?l0 ?c0 ?k0 ?a1 ?l1 ?c1 ?k1 ?a2 ?l2 ?c2 ?k2 ?a3 ?l3 ?c3 ?k3 ?a4 ?l4 ?c4 ?k4 ?a5 ?l5 ?c5 ?k5 ?a6 ?l6 ?c6 ?k6 ?a7 ?l7 ?c7 ?k7 ?a8 ?l8 ?c8 ?k8 ?a9 ?l9 ?c9 ?k9 ?aC_Table ?pg_Table ?hd_Table ?po_Table ?sa_Table ?nf_Table_goes_by ?a10 ?i10 ?l10 ?c10 ?k10 ?a11 ?i11 ?l11 ?c11 ?k11 ?a12 ?l12 ?c12 ?k12 ?a13 ?i13 ?mk_Table ?kc_Table ?l13 ?c13 ?k13 ?a14 ?l14 ?c14 ?k14 ?z_abs ?z_all ?z_bool ?z_int ?z_isinstance ?z_len ?z_list ?z_range ?z_sorted ?z_str ?z_tuple ?g_SIGNS
    (case a0 => k_is)
    (case l0 => k_is)
    (case c0 => k_is)
    (case k0 => k_is)
    (case a1 => k_is)
    (case l1 => k_is)
    (case c1 => k_is)
    (case k1 => k_is)
    (case a2 => k_is)
    (case l2 => k_is)
    (case c2 => k_is)
    (case k2 => k_is)
    (case a3 => k_is)
    (case l3 => k_is)
    (case c3 => k_is)
    (case k3 => k_is)
    (case a4 => k_is)
    (case l4 => k_is)
    (case c4 => k_is)
    (case k4 => k_is)
    (case a5 => k_is)
    (case l5 => k_is)
    (case c5 => k_is)
    (case k5 => k_is)
    (case a6 => k_is)
    (case l6 => k_is)
    (case c6 => k_is)
    (case k6 => k_is)
    (case a7 => k_is)
    (case l7 => k_is)
    (case c7 => k_is)
    (case k7 => k_is)
    (case a8 => k_is)
    (case l8 => k_is)
    (case c8 => k_is)
    (case k8 => k_is)
    (case a9 => k_is)
    (case l9 => k_is)
    (case c9 => k_is)
    (case k9 => k_is)
    (case aC_Table => k_is)
    (case pg_Table => k_is)
    (case hd_Table => k_is)
    (case po_Table => k_is)
    (case sa_Table => k_is)
    (case nf_Table_goes_by => k_is)
    (case a10 => k_is)
    (case i10 => k_is)
    (case l10 => k_is)
    (case c10 => k_is)
    (case k10 => k_is)
    (case a11 => k_is)
    (case i11 => k_is)
    (case l11 => k_is)
    (case c11 => k_is)
    (case k11 => k_is)
    (case a12 => k_is)
    (case l12 => k_is)
    (case c12 => k_is)
    (case k12 => k_is)
    (case a13 => k_is)
    (case i13 => k_is)
    (case mk_Table => k_is)
    (case kc_Table => k_is)
    (case l13 => k_is)
    (case c13 => k_is)
    (case k13 => k_is)
    (case a14 => k_is)
    (case l14 => k_is)
    (case c14 => k_is)
    (case k14 => k_is)
    (case z_abs => k_is)
    (case z_all => k_is)
    (case z_bool => k_is)
    (case z_int => k_is)
    (case z_isinstance => k_is)
    (case z_len => k_is)
    (case z_list => k_is)
    (case z_range => k_is)
    (case z_sorted => k_is)
    (case z_str => k_is)
    (case z_tuple => k_is)
    (case g_SIGNS => k_is)
#print axioms PySem.Challenge.cw_maypoint_k63_what_tables_answer_holds

