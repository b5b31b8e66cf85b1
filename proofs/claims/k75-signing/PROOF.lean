import PyProof.Rows.All
import Wide.All
import OpenK.AllK
import Wide.FinOn
import KE.KStateDown
import Lean
import HandS.ForMost
import HandS.Defaults
import HandS.IsInst
import HandS.Wide
import HandS.HeadHook1
import HandS.HeadHook3
import HandS.Style
import HandS.SortInts
import HandS.WideMore
import HandS.HeadHook4
import HandS.HeadEnd
import PySem.Challenge.RW_oneheadeach_k75_signing_sayings
import HandS.Head0
import HandS.Head1
import HandS.Head2
import HandS.HeadHook2
set_option Elab.async false
set_option linter.all false
set_option maxRecDepth 100000
noncomputable section
section
set_option maxHeartbeats 1000000
/-! FL0: data D in place of heap objects; what represents what; ownership. -/
namespace FL
open PySem PySem.Spec PyProof.Rows L2

/-- the written part, the world -/
structure KW where
  F : PySem.W.Frag
  w : World
abbrev _root_.L2.Cx.kw (X : Cx) : KW := ⟨X.K, X.w⟩

inductive D where
  | und | non | bl (b : Bool) | int (i : Int) | str (x : Str)
  | lst (xs : List D) | flst (xs : List D) | tup (xs : List D) | own (xs : List D)
  | ins (C : Str) (ks : List Str) (xs : List D) | oins (C : Str) (ks : List Str) (xs : List D)
  | ty (n : String) | cls (C : Str)
  | kd (x : Str) (kvs : List (Str × D))

mutual
/-- the same, no more to be changed -/
def D.sh : D → D
  | .own xs => .lst (D.shs xs)
  | .oins C ks xs => .ins C ks (D.shs xs)
  | .und => .und
  | .non => .non
  | .bl b => .bl b
  | .int i => .int i
  | .str x => .str x
  | .lst xs => .lst xs
  | .flst xs => .flst xs
  | .tup xs => .tup xs
  | .ins C ks xs => .ins C ks xs
  | .ty n => .ty n
  | .cls C => .cls C
  | .kd x kvs => .kd x kvs
def D.shs : List D → List D
  | [] => []
  | d :: r => d.sh :: D.shs r
end
def Ex (H H' : Hp) : Prop := ∀ a o, H a = some o → H' a = some o
theorem Ex.refl (H : Hp) : Ex H H := fun _ _ h => h
theorem Ex.trans {H H1 H2 : Hp} (a : Ex H H1) (b : Ex H1 H2) : Ex H H2 := fun x o h => b x o (a x o h)
theorem Ex.new {H : Hp} {p : Addr} {o : HO} (h : H p = none) : Ex H (upd H p o) := fun a u e => by
  rw [upd_ne (ne_of_none e h)]
  exact e
/-- an object that B does not know may change -/
theorem Ex.mut {B H : Hp} {p : Addr} {o : HO} (e : Ex B H) (h : B p = none) : Ex B (upd H p o) := fun a u ha => by
  rw [upd_ne (ne_of_none ha h)]
  exact e a u ha
theorem ex_rd {H H' : Hp} {a : Addr} {u : HO} (e : Ex H H') (h : Rd H a u) : Rd H' a u := by
  rcases h with h | ⟨o, h⟩
  · exact Or.inl (e a _ h)
  · exact Or.inr ⟨o, e a _ h⟩
theorem ex_l {K : KW} {H H' : Hp} {a : Addr} {xs : List V} (e : Ex H H') (h : SqL K.F H a xs) : SqL K.F H' a xs := by
  rcases h with h | h
  · exact Or.inl (ex_rd e h)
  · exact Or.inr h
theorem ex_t {K : KW} {H H' : Hp} {a : Addr} {xs : List V} (e : Ex H H') (h : SqT K.F H a xs) : SqT K.F H' a xs := by
  rcases h with h | h
  · exact Or.inl (ex_rd e h)
  · exact Or.inr h

/-- a tuple: tracked, or of the top -/
def TQ (K : PySem.W.Frag) (H : Hp) (a : Addr) (xs : List V) : Prop := H a = some (.tup xs) ∨
    ∃ (o : Obj) (its : Array Value) (n : Nat), K.lookup a = some o ∧ o.cls = .type "tuple" ∧ o.data = .seq its n ∧ its.size ≤ sizeLine ∧ Vals xs its.toList
theorem TQ.sq {K : PySem.W.Frag} {H : Hp} {a : Addr} {xs : List V} (h : TQ K H a xs) : SqT K H a xs := h.elim (fun h => .of h) .inr
theorem ex_tq {K : PySem.W.Frag} {H H' : Hp} {a : Addr} {xs : List V} (e : Ex H H') (h : TQ K H a xs) : TQ K H' a xs := h.elim (fun h => .inl (e _ _ h)) .inr
/-- the entries of a dict of the top -/
def KD (K : KW) (x : Str) (kvs : List (Str × D)) (vs : List V) : Prop := vs.length = kvs.length ∧ ∀ z : Str, match (kvs.map (·.1)).findIdx? (· == z) with
  | none => PySem.W.nsIn K.F (He.ga K.F x) z = some none
  | some i => ∃ u v, PySem.W.nsIn K.F (He.ga K.F x) z = some (some u) ∧ vs[i]? = some v ∧ RelV v u
mutual
/-- v is d, for ever -/
inductive Rep (K : KW) (H : Hp) : V → D → Prop
  | und {v} : Rep K H v .und
  | non : Rep K H .non .non
  | bl {b} : Rep K H (.bl b) (.bl b)
  | int {i} : Rep K H (.int i) (.int i)
  | str {x} : Rep K H (.str x) (.str x)
  | ty {n} : Rep K H (.ty n) (.ty n)
  | cls {C} : Rep K H (.ref (He.ga K.F C)) (.cls C)
  | kd {x kvs es n vs} : KDict K.F K.w (He.ga K.F x) es n → KD K x kvs vs → Reps K H vs (kvs.map (·.2)) → Rep K H (.ref (He.ga K.F x)) (.kd x kvs)
  | lst {a vs ds} : H a = some (.lst vs) → Reps K H vs ds → Rep K H (.ref a) (.lst ds)
  | flst {a vs ds} : SqL K.F H a vs → Reps K H vs ds → Rep K H (.ref a) (.flst ds)
  | tup {a vs ds} : TQ K.F H a vs → Reps K H vs ds → Rep K H (.ref a) (.tup ds)
  | ins {a C dx fs ks vs ds} : H a = some (.ins (He.ga K.F C) dx fs) → fs.map (·.1) = ks → fs.map (·.2) = vs → Reps K H vs ds → Rep K H (.ref a) (.ins C ks ds)
inductive Reps (K : KW) (H : Hp) : List V → List D → Prop
  | nil : Reps K H [] []
  | cons {v d vs ds} : Rep K H v d → Reps K H vs ds → Reps K H (v :: vs) (d :: ds)
end
mutual
theorem Rep.mono {K : KW} {H H' : Hp} {v : V} {d : D} (e : Ex H H') (h : Rep K H v d) : Rep K H' v d := match h with
  | .und => .und
  | .non => .non
  | .bl => .bl
  | .int => .int
  | .str => .str
  | .ty => .ty
  | .cls => .cls
  | .kd a b r => .kd a b (Reps.mono e r)
  | .lst s r => .lst (e _ _ s) (Reps.mono e r)
  | .flst s r => .flst (ex_l e s) (Reps.mono e r)
  | .tup s r => .tup (ex_tq e s) (Reps.mono e r)
  | .ins s k u r => .ins (e _ _ s) k u (Reps.mono e r)
theorem Reps.mono {K : KW} {H H' : Hp} {vs : List V} {ds : List D} (e : Ex H H') (h : Reps K H vs ds) : Reps K H' vs ds := match h with
  | .nil => .nil
  | .cons a b => .cons (Rep.mono e a) (Reps.mono e b)
end
theorem Reps.length {K : KW} {H : Hp} : ∀ {vs : List V} {ds : List D}, Reps K H vs ds → vs.length = ds.length
  | _, _, .nil => rfl
  | _, _, .cons _ r => by rw [List.length_cons, List.length_cons, Reps.length r]
theorem Reps.get {K : KW} {H : Hp} : ∀ {vs : List V} {ds : List D} {i : Nat} {d : D}, Reps K H vs ds → ds[i]? = some d → ∃ v, vs[i]? = some v ∧ Rep K H v d
  | _, _, _, _, .nil, e => by simp at e
  | _, _, 0, _, .cons r _, e => by simp at e; subst e; exact ⟨_, rfl, r⟩
  | _, _, i + 1, d, .cons _ t, e => by
    obtain ⟨u, h1, h2⟩ := Reps.get (i := i) (d := d) t (by simpa using e)
    exact ⟨u, by simpa using h1, h2⟩

mutual
/-- the slot o holds d; fp: the objects that nobody else knows -/
inductive OS (K : KW) (B H : Hp) : Option V → D → List Addr → Prop
  | und {o} : OS K B H o .und []
  | sh {v d} : Rep K B v d → OS K B H (some v) d []
  | own {p vs os ds fp} : B p = none → H p = some (.lst vs) → vs.map some = os → OSs K B H os ds fp → OS K B H (some (.ref p)) (.own ds) (p :: fp)
  | oins {p C dx fs ks os ds fp} : B p = none → H p = some (.ins (He.ga K.F C) dx fs) → fs.map (·.1) = ks → (fs.map fun q => some q.2) = os → OSs K B H os ds fp → OS K B H (some (.ref p)) (.oins C ks ds) (p :: fp)
inductive OSs (K : KW) (B H : Hp) : List (Option V) → List D → List Addr → Prop
  | nil : OSs K B H [] [] []
  | cons {o d os ds f1 f2 fp} : OS K B H o d f1 → OSs K B H os ds f2 → fp = f1 ++ f2 → OSs K B H (o :: os) (d :: ds) fp
end
mutual
theorem OS.frame {K : KW} {B H B' H' : Hp} {o : Option V} {d : D} {fp : List Addr} (e : Ex B B') (hB : ∀ q ∈ fp, B' q = none) (hH : ∀ q ∈ fp, H' q = H q) (h : OS K B H o d fp) : OS K B' H' o d fp := match h with
  | .und => .und
  | .sh r => .sh (r.mono e)
  | .own (p := p) (fp := f) _ l m r => .own (hB p List.mem_cons_self) ((hH p List.mem_cons_self).trans l) m (OSs.frame e (fun q hq => hB q (List.mem_cons_of_mem _ hq)) (fun q hq => hH q (List.mem_cons_of_mem _ hq)) r)
  | .oins (p := p) (fp := f) _ l k m r => .oins (hB p List.mem_cons_self) ((hH p List.mem_cons_self).trans l) k m (OSs.frame e (fun q hq => hB q (List.mem_cons_of_mem _ hq)) (fun q hq => hH q (List.mem_cons_of_mem _ hq)) r)
theorem OSs.frame {K : KW} {B H B' H' : Hp} {os : List (Option V)} {ds : List D} {fp : List Addr} (e : Ex B B') (hB : ∀ q ∈ fp, B' q = none) (hH : ∀ q ∈ fp, H' q = H q) (h : OSs K B H os ds fp) : OSs K B' H' os ds fp := match h with
  | .nil => .nil
  | .cons (f1 := f1) (f2 := f2) a b z => .cons (OS.frame e (fun q hq => hB q (z ▸ List.mem_append_left _ hq)) (fun q hq => hH q (z ▸ List.mem_append_left _ hq)) a)
      (OSs.frame e (fun q hq => hB q (z ▸ List.mem_append_right _ hq)) (fun q hq => hH q (z ▸ List.mem_append_right _ hq)) b) z
end
mutual
theorem OS.there {K : KW} {B H : Hp} {o : Option V} {d : D} {fp : List Addr} (h : OS K B H o d fp) : ∀ q ∈ fp, B q = none ∧ ∃ u, H q = some u := match h with
  | .und => fun _ hq => nomatch hq
  | .sh _ => fun _ hq => nomatch hq
  | .own b l _ r => fun q hq => (List.mem_cons.mp hq).elim (fun e => e ▸ ⟨b, _, l⟩) (OSs.there r q)
  | .oins b l _ _ r => fun q hq => (List.mem_cons.mp hq).elim (fun e => e ▸ ⟨b, _, l⟩) (OSs.there r q)
theorem OSs.there {K : KW} {B H : Hp} {os : List (Option V)} {ds : List D} {fp : List Addr} (h : OSs K B H os ds fp) : ∀ q ∈ fp, B q = none ∧ ∃ u, H q = some u := match h with
  | .nil => fun _ hq => nomatch hq
  | .cons a b z => fun q hq => by
    rw [z] at hq
    exact (List.mem_append.mp hq).elim (OS.there a q) (OSs.there b q)
end
theorem OSs.len {K : KW} {B H : Hp} : ∀ {os : List (Option V)} {ds : List D} {fp : List Addr}, OSs K B H os ds fp → os.length = ds.length
  | _, _, _, .nil => rfl
  | _, _, _, .cons _ r _ => by rw [List.length_cons, List.length_cons, OSs.len r]

/-- B with what stands at fp -/
def kn (B H : Hp) (fp : List Addr) : Hp := fun q => if q ∈ fp then H q else B q
theorem kn_in {B H : Hp} {fp : List Addr} {q : Addr} (h : q ∈ fp) : kn B H fp q = H q := if_pos h
theorem kn_out {B H : Hp} {fp : List Addr} {q : Addr} (h : q ∉ fp) : kn B H fp q = B q := if_neg h
theorem kn_ex {B H : Hp} {fp : List Addr} (hB : ∀ q ∈ fp, B q = none) : Ex B (kn B H fp) := fun a o h => by
  have n : a ∉ fp := fun z => by rw [hB a z] at h; cases h
  rw [kn_out n]; exact h
theorem kn_le {B H : Hp} {fp : List Addr} (e : Ex B H) : Ex (kn B H fp) H := fun a o h => by
  by_cases z : a ∈ fp
  · rw [kn_in z] at h; exact h
  · rw [kn_out z] at h; exact e a o h

theorem Rep.sh {K : KW} {B : Hp} {v : V} {d : D} (h : Rep K B v d) : d.sh = d := by cases h <;> rfl
mutual
theorem OS.share {K : KW} {B H B' : Hp} {v : V} {d : D} {fp : List Addr} (e : Ex B B') (hk : ∀ q ∈ fp, B' q = H q) (h : OS K B H (some v) d fp) : Rep K B' v d.sh := match h with
  | .und => .und
  | .sh r => by rw [r.sh]; exact r.mono e
  | .own (p := p) (fp := f) b l m r => .lst ((hk p List.mem_cons_self).trans l) (OSs.share e (fun q hq => hk q (List.mem_cons_of_mem _ hq)) m r)
  | .oins (p := p) (fs := fs) (fp := f) b l k m r => .ins ((hk p List.mem_cons_self).trans l) k rfl (OSs.share e (fun q hq => hk q (List.mem_cons_of_mem _ hq)) (by rw [← m, List.map_map]; rfl) r)
theorem OSs.share {K : KW} {B H B' : Hp} {vs : List V} {os : List (Option V)} {ds : List D} {fp : List Addr} (e : Ex B B') (hk : ∀ q ∈ fp, B' q = H q) (m : vs.map some = os) (h : OSs K B H os ds fp) : Reps K B' vs (D.shs ds) := match h with
  | .nil => by
    have z : vs = [] := by simpa using m
    subst z
    exact .nil
  | .cons (o := o) (os := os2) (f1 := f1) (f2 := f2) a b z => by
    cases vs with
    | nil => cases m
    | cons v vs =>
      have m1 : some v = o := (List.cons.inj m).1
      have m2 : vs.map some = os2 := (List.cons.inj m).2
      subst m1
      exact .cons (OS.share e (fun q hq => hk q (z ▸ List.mem_append_left _ hq)) a) (OSs.share e (fun q hq => hk q (z ▸ List.mem_append_right _ hq)) m2 b)
end
/-- one slot taken out; what it holds may be put back, or anything else -/
theorem OSs.split {K : KW} {B H : Hp} : ∀ {os : List (Option V)} {ds : List D} {fp : List Addr} {i : Nat} {d : D}, OSs K B H os ds fp → ds[i]? = some d →
    ∃ o fi fr, os[i]? = some o ∧ OS K B H o d fi ∧ fp.Perm (fi ++ fr) ∧ ∀ {B' H' : Hp} {o' : Option V} {d' : D} {f' : List Addr}, Ex B B' → (∀ q ∈ fr, B' q = none) → (∀ q ∈ fr, H' q = H q) → OS K B' H' o' d' f' → ∃ fp', OSs K B' H' (os.set i o') (ds.set i d') fp' ∧ fp'.Perm (f' ++ fr)
  | _, _, _, _, _, .nil, e => by simp at e
  | _, _, _, 0, d, .cons (o := o) (os := os) (ds := ds) (f1 := f1) (f2 := f2) a b z, e => by
    have e1 : _ = d := Option.some.inj e
    subst e1
    refine ⟨o, f1, f2, rfl, a, z ▸ List.Perm.refl _, fun {B' H' o' d' f'} eB hB hH n => ⟨f' ++ f2, .cons n (b.frame eB hB hH) rfl, List.Perm.refl _⟩⟩
  | _, _, _, i + 1, d, .cons (o := o) (os := os) (ds := ds) (f1 := f1) (f2 := f2) a b z, e => by
    obtain ⟨o1, fi, fr, h1, h2, h3, h4⟩ := OSs.split (i := i) (d := d) b (by simpa using e)
    refine ⟨o1, fi, f1 ++ fr, by simpa using h1, h2, ?_, fun {B' H' o' d' f'} eB hB hH n => ?_⟩
    · rw [z]
      exact (List.Perm.append_left f1 h3).trans (by
        rw [← List.append_assoc, ← List.append_assoc]
        exact List.Perm.append_right fr List.perm_append_comm)
    · obtain ⟨fp', g1, g2⟩ := h4 eB (fun q hq => hB q (List.mem_append_right _ hq)) (fun q hq => hH q (List.mem_append_right _ hq)) n
      refine ⟨f1 ++ fp', .cons (a.frame eB (fun q hq => hB q (List.mem_append_left _ hq)) (fun q hq => hH q (List.mem_append_left _ hq))) g1 rfl, ?_⟩
      exact (List.Perm.append_left f1 g2).trans (by
        rw [← List.append_assoc, ← List.append_assoc]
        exact List.Perm.append_right fr List.perm_append_comm)
/-- the whole: what is known, the slots, their own objects -/
structure W (K : KW) (B H : Hp) (os : List (Option V)) (ds : List D) (fp : List Addr) : Prop where
  ex : Ex B H
  os : OSs K B H os ds fp
  nd : fp.Nodup
/-- from B, H to B', H': M may change, new things may come -/
structure Tr (B H : Hp) (M : List Addr) (B' H' : Hp) : Prop where
  bb : Ex B B'
  keep : ∀ q o, H q = some o → q ∉ M → H' q = some o
  bnew : ∀ q o, B' q = some o → B q = some o ∨ q ∈ M ∨ H q = none
def Sub (H : Hp) (M fp : List Addr) : Prop := ∀ q ∈ fp, q ∈ M ∨ H q = none
theorem Tr.refl {B H : Hp} {M : List Addr} : Tr B H M B H := ⟨Ex.refl _, fun _ _ h _ => h, fun _ _ h => .inl h⟩
theorem Sub.refl {H : Hp} {M : List Addr} : Sub H M M := fun _ h => .inl h
theorem Tr.trans {B H B1 H1 B2 H2 : Hp} {M M1 : List Addr} (a : Tr B H M B1 H1) (s : Sub H M M1) (b : Tr B1 H1 M1 B2 H2) : Tr B H M B2 H2 where
  bb := a.bb.trans b.bb
  keep := fun q o h n => b.keep q o (a.keep q o h n) fun z => (s q z).elim n fun e => by rw [h] at e; cases e
  bnew := fun q o h => by
    rcases b.bnew q o h with z | z | z
    · exact a.bnew q o z
    · exact .inr (s q z)
    · by_cases hm : q ∈ M
      · exact .inr (.inl hm)
      · cases e : H q with
        | none => exact .inr (.inr rfl)
        | some u => rw [a.keep q u e hm] at z; cases z
theorem Sub.trans {B H B1 H1 : Hp} {M M1 fp : List Addr} (a : Tr B H M B1 H1) (s : Sub H M M1) (t : Sub H1 M1 fp) : Sub H M fp := fun q hq => by
  rcases t q hq with z | z
  · exact s q z
  · by_cases hm : q ∈ M
    · exact .inl hm
    · cases e : H q with
      | none => exact .inr rfl
      | some u => rw [a.keep q u e hm] at z; cases z
/-- what stands aside of M stays -/
theorem OSs.aside {K : KW} {B H B' H' : Hp} {os : List (Option V)} {ds : List D} {fp M : List Addr} (h : OSs K B H os ds fp) (t : Tr B H M B' H') (n : ∀ q ∈ fp, q ∉ M) : OSs K B' H' os ds fp := by
  have th := h.there
  refine h.frame t.bb (fun q hq => ?_) fun q hq => ?_
  · cases e : B' q with
    | none => rfl
    | some u =>
      obtain ⟨b, u', hu⟩ := th q hq
      rcases t.bnew q u e with z | z | z
      · rw [b] at z; cases z
      · exact absurd z (n q hq)
      · rw [hu] at z; cases z
  · obtain ⟨b, u', hu⟩ := th q hq
    rw [hu, t.keep q u' hu (n q hq)]
theorem OS.aside {K : KW} {B H B' H' : Hp} {o : Option V} {d : D} {fp M : List Addr} (h : OS K B H o d fp) (t : Tr B H M B' H') (n : ∀ q ∈ fp, q ∉ M) : OS K B' H' o d fp := by
  have z : OSs K B H [o] [d] fp := .cons h .nil (by simp)
  cases z.aside t n with
  | cons a b e =>
    cases b
    rw [e]
    simpa using a
end FL

end
section
set_option maxHeartbeats 1000000
/-! FL1: weakest preconditions over data; the judgements; variables, arguments, operations by contents. -/
namespace FL
open PySem PySem.Spec PyProof.Rows L2
abbrev St := L2.St

inductive R where
  | val (d : D) | slot (i : Nat)
/-- an error: its class, its fields -/
structure Exc where
  cls : Str
  ks : List Str
  ds : List D
abbrev XD := Exc → List D → Prop
abbrev WE := XD → List D → (R → List D → Prop) → Prop
abbrev WA := XD → List D → (List R → List D → Prop) → Prop
abbrev WT := XD → List D → (Bool → List D → Prop) → Prop
structure WEnds where
  nx : List D → Prop
  rt : D → List D → Prop
  bk : List D → Prop
  ct : List D → Prop
abbrev WS := XD → WEnds → List D → Prop

def D.known : D → Bool
  | .und => false
  | _ => true
/-- not one's own -/
def D.pl : D → Bool
  | .own _ => false
  | .oins _ _ _ => false
  | _ => true
def dAt (ρ : List D) (i : Nat) : D := ρ.getD i .und
/-- what a result holds -/
def R.get (ρ : List D) : R → D
  | .val d => d
  | .slot i => dAt ρ i
/-- a result as a value: a slot's is shared from now on -/
def R.tk (ρ : List D) : R → D
  | .val d => d
  | .slot i => (dAt ρ i).sh
def R.en (ρ : List D) : R → List D
  | .val _ => ρ
  | .slot i => ρ.set i (dAt ρ i).sh

section
variable {K : KW} {B H B' H' : Hp} {σ : St} {ρ ρ' : List D} {fp : List Addr}
/-- results and their values -/
inductive ROs (K : KW) (B H : Hp) (σ : St) : List V → List R → List Addr → Prop
  | nil : ROs K B H σ [] [] []
  | val {v d vs rs f1 f2 fp} : OS K B H (some v) d f1 → ROs K B H σ vs rs f2 → fp = f1 ++ f2 → ROs K B H σ (v :: vs) (.val d :: rs) fp
  | slot {v i vs rs fp} : σ[i]? = some (some v) → ROs K B H σ vs rs fp → ROs K B H σ (v :: vs) (.slot i :: rs) fp
theorem ROs.there {vs : List V} {rs : List R} (h : ROs K B H σ vs rs fp) : ∀ q ∈ fp, B q = none ∧ ∃ u, H q = some u := by
  induction h with
  | nil => exact fun _ hq => nomatch hq
  | val a _ z ih =>
    intro q hq
    rw [z] at hq
    exact (List.mem_append.mp hq).elim (a.there q) (ih q)
  | slot _ _ ih => exact ih
theorem ROs.aside {vs : List V} {rs : List R} {M : List Addr} (h : ROs K B H σ vs rs fp) (t : Tr B H M B' H') (n : ∀ q ∈ fp, q ∉ M) : ROs K B' H' σ vs rs fp := by
  induction h with
  | nil => exact .nil
  | val a _ z ih => exact .val (a.aside t fun q hq => n q (z ▸ List.mem_append_left _ hq)) (ih fun q hq => n q (z ▸ List.mem_append_right _ hq)) z
  | slot e _ ih => exact .slot e (ih n)
theorem ROs.append {vs vs2 : List V} {rs rs2 : List R} {f1 f2 : List Addr} (h : ROs K B H σ vs rs f1) (h2 : ROs K B H σ vs2 rs2 f2) : ROs K B H σ (vs ++ vs2) (rs ++ rs2) (f1 ++ f2) := by
  induction h with
  | nil => exact h2
  | val a _ z ih => exact .val a ih (by rw [z, List.append_assoc])
  | slot e _ ih => exact .slot e ih
theorem ROs.length {vs : List V} {rs : List R} (h : ROs K B H σ vs rs fp) : vs.length = rs.length := by
  induction h with
  | nil => rfl
  | val _ _ _ ih => simp [ih]
  | slot _ _ ih => simp [ih]

theorem OSs.at {os : List (Option V)} {ds : List D} {i : Nat} {v : V} (h : OSs K B H os ds fp) (e : os[i]? = some (some v)) : ∃ f, OS K B H (some v) (dAt ds i) f := by
  have hl : i < ds.length := by
    rw [← h.len]
    exact (List.getElem?_eq_some_iff.mp e).1
  obtain ⟨o, fi, fr, h1, h2, _⟩ := h.split (i := i) (d := ds[i]) (List.getElem?_eq_getElem hl)
  rw [e] at h1
  cases h1
  refine ⟨fi, ?_⟩
  unfold dAt
  rw [List.getD_eq_getElem?_getD, List.getElem?_eq_getElem hl]
  exact h2
theorem OS.plain {v : V} {d : D} (h : OS K B H (some v) d fp) (p : d.pl = true) : Rep K B v d := by
  cases h with
  | und => exact .und
  | sh r => exact r
  | own => cases p
  | oins => cases p

theorem OS.some_of {o : Option V} {d : D} (h : OS K B H o d fp) (k : d.known = true) : ∃ v, o = some v := by
  cases h with
  | und => cases k
  | sh r => exact ⟨_, rfl⟩
  | own => exact ⟨_, rfl⟩
  | oins => exact ⟨_, rfl⟩
/-- values and what they hold, loosely -/
inductive Cont (K : KW) (B H : Hp) : List V → List D → Prop
  | nil : Cont K B H [] []
  | cons {v d vs ds f} : OS K B H (some v) d f → Cont K B H vs ds → Cont K B H (v :: vs) (d :: ds)
theorem ROs.cont {vs : List V} {rs : List R} {fp2 : List Addr} (h : ROs K B H σ vs rs fp) (g : OSs K B H σ ρ fp2) : Cont K B H vs (rs.map (R.get ρ)) := by
  induction h with
  | nil => exact .nil
  | val a _ z ih => exact .cons a ih
  | slot e _ ih =>
    obtain ⟨f, q⟩ := g.at e
    exact .cons q ih

structure PostRs (K : KW) (σ : St) (B H : Hp) (fp : List Addr) (rs : List R) (ρ' : List D) (vs : List V) (B' H' : Hp) : Prop where
  tr : Tr B H fp B' H'
  ex : Ex B' H'
  rep : ∃ fd fs, ROs K B' H' σ vs rs fd ∧ OSs K B' H' σ ρ' fs ∧ (fd ++ fs).Nodup ∧ Sub H fp (fd ++ fs)
/-- an error that leaves -/
structure PostX (K : KW) (σ : St) (B H : Hp) (fp : List Addr) (x : Exc) (ρ' : List D) (c : Value) (d : Option Addr) (B' H' : Hp) : Prop where
  tr : Tr B H fp B' H'
  ex : Ex B' H'
  rep : ∃ fs, OSs K B' H' σ ρ' fs ∧ fs.Nodup ∧ Sub H fp fs
  obj : ∃ a fl, c = .ref (He.ga K.F x.cls) ∧ d = some a ∧ H' a = some (.xd fl) ∧ fl.map (·.1) = x.ks ∧ Reps K B' (fl.map (·.2)) x.ds

theorem W.refl {os : List (Option V)} {ds : List D} (w : W K B H os ds fp) : PostRs K os B H fp [] ds [] B H := ⟨Tr.refl, w.ex, [], fp, .nil, w.os, w.nd, Sub.refl⟩
/-- what comes next starts here; then both are one -/
theorem PostRs.step {B1 H1 : Hp} {rs : List R} {ρ1 : List D} {vs : List V} (a : PostRs K σ B H fp rs ρ1 vs B1 H1) : ∃ f1, W K B1 H1 σ ρ1 f1 ∧
    (∀ {rs2 : List R} {ρ2 : List D} {vs2 : List V} {B2 H2 : Hp}, PostRs K σ B1 H1 f1 rs2 ρ2 vs2 B2 H2 → PostRs K σ B H fp (rs ++ rs2) ρ2 (vs ++ vs2) B2 H2) ∧
    (∀ {ρ2 : List D} {x : Exc} {c : Value} {d : Option Addr} {B2 H2 : Hp}, PostX K σ B1 H1 f1 x ρ2 c d B2 H2 → PostX K σ B H fp x ρ2 c d B2 H2) := by
  obtain ⟨t1, e1, fd, fs, r1, o1, n1, s1⟩ := a
  have nfs : fs.Nodup := (List.nodup_append.mp n1).2.1
  have dis : ∀ q ∈ fd, q ∉ fs := fun q h1 h2 => (List.nodup_append.mp n1).2.2 q h1 q h2 rfl
  have sfs : Sub H fp fs := fun q hq => s1 q (List.mem_append_right _ hq)
  refine ⟨fs, ⟨e1, o1, nfs⟩, fun {rs2 ρ2 vs2 B2 H2} p2 => ?_, fun {ρ2 x c d B2 H2} p2 => ?_⟩
  · obtain ⟨t2, e2, fd2, fs2, r2, o2, n2, s2⟩ := p2
    refine ⟨t1.trans sfs t2, e2, fd ++ fd2, fs2, (r1.aside t2 dis).append r2, o2, ?_, ?_⟩
    · rw [List.append_assoc]
      refine List.nodup_append.mpr ⟨(List.nodup_append.mp n1).1, n2, fun q hq q' hq' e => ?_⟩
      subst e
      rcases s2 q hq' with z | z
      · exact dis q hq z
      · obtain ⟨_, u, hu⟩ := r1.there q hq
        rw [z] at hu; cases hu
    · intro q hq
      rw [List.append_assoc] at hq
      rcases List.mem_append.mp hq with z | z
      · exact s1 q (List.mem_append_left _ z)
      · exact Sub.trans t1 sfs s2 q z
  · obtain ⟨t2, e2, ⟨fs2, o2, n2, s2⟩, ob⟩ := p2
    exact ⟨t1.trans sfs t2, e2, ⟨fs2, o2, n2, Sub.trans t1 sfs s2⟩, ob⟩
end

/-! ### the judgements -/
def tE (K : KW) (Wx : WX) (f : WE) : TE := fun σ H Q => ∃ B ρ fp X P, W K B H σ ρ fp ∧ f X ρ P ∧
  (∀ r ρ' v B' H', P r ρ' → PostRs K σ B H fp [r] ρ' [v] B' H' → Q v H') ∧ (∀ x ρ' c d B' H', X x ρ' → PostX K σ B H fp x ρ' c d B' H' → Wx c d σ H')
def tA (K : KW) (Wx : WX) (f : WA) : TA := fun σ H Q => ∃ B ρ fp X P, W K B H σ ρ fp ∧ f X ρ P ∧
  (∀ rs ρ' vs B' H', P rs ρ' → PostRs K σ B H fp rs ρ' vs B' H' → Q vs H') ∧ (∀ x ρ' c d B' H', X x ρ' → PostX K σ B H fp x ρ' c d B' H' → Wx c d σ H')
def tT (K : KW) (Wx : WX) (f : WT) : TT := fun σ H Q => ∃ B ρ fp X P, W K B H σ ρ fp ∧ f X ρ P ∧
  (∀ b ρ' B' H', P b ρ' → PostRs K σ B H fp [] ρ' [] B' H' → Q b H') ∧ (∀ x ρ' c d B' H', X x ρ' → PostX K σ B H fp x ρ' c d B' H' → Wx c d σ H')
abbrev PF (X : Cx) (Wx : WX) (e : Expr) (f : WE) : Prop := PE X e (tE X.kw Wx f)
abbrev PFA (X : Cx) (Wx : WX) (es : List Expr) (f : WA) : Prop := PA X es (tA X.kw Wx f)
abbrev PFT (X : Cx) (Wx : WX) (e : Expr) (f : WT) : Prop := PT X e (tT X.kw Wx f)

section
variable {X : Cx} {Wx : WX}
theorem pe_imp {e : Expr} {t t' : TE} (h : PE X e t) (i : ∀ σ H Q, t' σ H Q → t σ H Q) : PE X e t' := ⟨fun pins s σ H Q I hw => h.run pins s σ H Q I (i _ _ _ hw)⟩
theorem pa_imp {e : List Expr} {t t' : TA} (h : PA X e t) (i : ∀ σ H Q, t' σ H Q → t σ H Q) : PA X e t' := ⟨fun pos pins s σ H Q I hw => h.run pos pins s σ H Q I (i _ _ _ hw)⟩
theorem pt_imp {e : Expr} {t t' : TT} (h : PT X e t) (i : ∀ σ H Q, t' σ H Q → t σ H Q) : PT X e t' := ⟨fun pins s σ H Q I hw => h.run pins s σ H Q I (i _ _ _ hw)⟩
theorem pw_imp {e : Expr} {t t' : TT} (h : PW X e t) (i : ∀ σ H Q, t' σ H Q → t σ H Q) : PW X e t' := ⟨fun w pins s σ H Q I hw => h.run w pins s σ H Q I (i _ _ _ hw)⟩

/-! ### names, constants -/
def wVar (i : Nat) : WE := fun _ ρ P => (dAt ρ i).known = true ∧ P (.slot i) ρ
theorem pf_var {i : Nat} {e : Expr} (h : PE X e (tVar i)) : PF X Wx e (wVar i) := pe_imp h fun σ H Q => by
  rintro ⟨B, ρ, fp, Xd, P, w, ⟨hk, hP⟩, hQ, _⟩
  have hi : i < ρ.length := by
    unfold dAt at hk
    rw [List.getD_eq_getElem?_getD] at hk
    cases e : ρ[i]? with
    | none => rw [e] at hk; cases hk
    | some d => exact (List.getElem?_eq_some_iff.mp e).1
  obtain ⟨o, fi, fr, h1, h2, _⟩ := w.os.split (i := i) (d := ρ[i]) (List.getElem?_eq_getElem hi)
  have hd : dAt ρ i = ρ[i] := by
    unfold dAt
    rw [List.getD_eq_getElem?_getD, List.getElem?_eq_getElem hi]
    rfl
  rw [hd] at hk
  have hv : ∃ v, o = some v := h2.some_of hk
  obtain ⟨v, rfl⟩ := hv
  refine ⟨v, h1, hQ (.slot i) ρ v B H hP ⟨Tr.refl, w.ex, [], fp, .slot h1 .nil, w.os, w.nd, Sub.refl⟩⟩
def wC (d : D) : WE := fun _ ρ P => P (.val d) ρ
theorem pf_c {v : V} {d : D} {e : Expr} (h : PE X e (tC v)) (r : ∀ B, Rep X.kw B v d) : PF X Wx e (wC d) := pe_imp h fun σ H Q => by
  rintro ⟨B, ρ, fp, Xd, P, w, hP, hQ, _⟩
  exact hQ (.val d) ρ v B H hP ⟨Tr.refl, w.ex, [], fp, .val (f2 := []) (.sh (r B)) .nil rfl, w.os, w.nd, Sub.refl⟩

/-! ### arguments -/
def wNil : WA := fun _ ρ P => P [] ρ
def wCons (f : WE) (g : WA) : WA := fun X ρ P => f X ρ fun r ρ1 => g X ρ1 fun rs ρ2 => P (r :: rs) ρ2
theorem pfa_nil : PFA X Wx [] wNil := pa_imp pa_nil fun σ H Q => by
  rintro ⟨B, ρ, fp, Xd, P, w, hP, hQ, _⟩
  exact hQ [] ρ [] B H hP w.refl
theorem pfa_cons {e : Expr} {es : List Expr} {f : WE} {g : WA} (he : PF X Wx e f) (hs : PFA X Wx es g) (na : starEach (e :: es) X.env = (false, eval e X.env) :: starEach es X.env) : PFA X Wx (e :: es) (wCons f g) := pa_imp (pa_cons he hs na) fun σ H Q => by
  rintro ⟨B, ρ, fp, Xd, P, w, hP, hQ, hX⟩
  refine ⟨B, ρ, fp, Xd, _, w, hP, fun r ρ1 v B1 H1 h1 p1 => ?_, hX⟩
  obtain ⟨f1, w1, k, kx⟩ := p1.step
  exact ⟨B1, ρ1, f1, Xd, _, w1, h1, fun rs ρ2 vs B2 H2 h2 p2 => hQ _ ρ2 _ B2 H2 h2 (k p2), fun x ρ' c d B' H' hx px => hX x ρ' c d B' H' hx (kx px)⟩
end

/-! ### what an operation makes -/
structure New (K : KW) (B H : Hp) (d : D) (v : V) (B' H' : Hp) (fd : List Addr) : Prop where
  hh : Ex H H'
  bb : Ex B B'
  ex : Ex B' H'
  bnew : ∀ q o, B' q = some o → B q = some o ∨ H q = none
  os : OS K B' H' (some v) d fd
  nd : fd.Nodup
  new : ∀ q ∈ fd, H q = none
section
variable {K : KW} {B H B' H' : Hp} {σ : St} {ρ ρ' : List D} {fp : List Addr}
theorem New.same {d : D} {v : V} (e : Ex B H) (r : Rep K B v d) : New K B H d v B H [] := ⟨Ex.refl _, Ex.refl _, e, fun _ _ h => .inl h, .sh r, List.nodup_nil, fun _ h => nomatch h⟩
theorem Reps.oss {vs : List V} {ds : List D} (h : Reps K B vs ds) : OSs K B H (vs.map some) ds [] := match h with
  | .nil => .nil
  | .cons a b => .cons (.sh a) (Reps.oss b) rfl
theorem New.own {p : Addr} {vs : List V} {ds : List D} (e : Ex B H) (n : H p = none) (r : Reps K B vs ds) : New K B H (.own ds) (.ref p) B (upd H p (.lst vs)) [p] := by
  have bn : B p = none := by
    cases z : B p with
    | none => rfl
    | some o => rw [e p o z] at n; cases n
  exact ⟨Ex.new n, Ex.refl _, e.trans (Ex.new n), fun _ _ h => .inl h, .own bn upd_same rfl r.oss, by simp, fun q hq => by
    have z : q = p := by simpa using hq
    rw [z]; exact n⟩
theorem Ex.upd2 {p : Addr} {o : HO} (e : Ex B H) : Ex (upd B p o) (upd H p o) := fun a u h => by
  by_cases z : a = p
  · subst z; rw [upd_same] at h ⊢; exact h
  · rw [upd_ne z] at h ⊢; exact e a u h
theorem New.tup {p : Addr} {vs : List V} {ds : List D} (e : Ex B H) (n : H p = none) (r : Reps K B vs ds) : New K B H (.tup ds) (.ref p) (upd B p (.tup vs)) (upd H p (.tup vs)) [] := by
  have bn : B p = none := by
    cases z : B p with
    | none => rfl
    | some o => rw [e p o z] at n; cases n
  refine ⟨Ex.new n, Ex.new bn, e.upd2, fun q o h => ?_, .sh (.tup (.inl upd_same) (r.mono (Ex.new bn))), List.nodup_nil, fun _ h => nomatch h⟩
  by_cases z : q = p
  · rw [z]; exact .inr n
  · rw [upd_ne z] at h; exact .inl h
theorem New.tr {d : D} {v : V} {fd M : List Addr} (n : New K B H d v B' H' fd) : Tr B H M B' H' := ⟨n.bb, fun q o h _ => n.hh q o h, fun q o h => (n.bnew q o h).elim .inl fun z => .inr (.inr z)⟩
theorem OSs.grow {os : List (Option V)} {ds : List D} {d : D} {v : V} {fd : List Addr} (h : OSs K B H os ds fp) (n : New K B H d v B' H' fd) : OSs K B' H' os ds fp := h.aside (n.tr (M := [])) (fun _ _ => by simp)
/-- the results are used up, this is what comes -/
theorem PostRs.new {B1 H1 B2 H2 : Hp} {rs : List R} {ρ1 : List D} {vs : List V} {d : D} {v : V} {fd : List Addr} (a : PostRs K σ B H fp rs ρ1 vs B1 H1) (n : New K B1 H1 d v B2 H2 fd) : PostRs K σ B H fp [.val d] ρ1 [v] B2 H2 := by
  obtain ⟨t1, e1, f1, fs, r1, o1, n1, s1⟩ := a
  have nfs : fs.Nodup := (List.nodup_append.mp n1).2.1
  have sfs : Sub H fp fs := fun q hq => s1 q (List.mem_append_right _ hq)
  have t2 : Tr B1 H1 fs B2 H2 := n.tr
  refine ⟨t1.trans sfs t2, n.ex, fd, fs, .val (f2 := []) n.os .nil (by simp), o1.grow n, ?_, ?_⟩
  · refine List.nodup_append.mpr ⟨n.nd, nfs, fun q hq q' hq' e => ?_⟩
    subst e
    obtain ⟨_, u, hu⟩ := o1.there q hq'
    rw [n.new q hq] at hu; cases hu
  · intro q hq
    rcases List.mem_append.mp hq with z | z
    · exact Sub.trans t1 sfs (fun q hq => .inr (n.new q hq)) q z
    · exact sfs q z
theorem PostRs.cont {rs : List R} {vs : List V} (a : PostRs K σ B H fp rs ρ' vs B' H') : Cont K B' H' vs (rs.map (R.get ρ')) := by
  obtain ⟨_, _, _, _, r1, o1, _⟩ := a
  exact r1.cont o1
/-- the results are used up -/
theorem PostRs.drop {rs : List R} {vs : List V} (a : PostRs K σ B H fp rs ρ' vs B' H') : PostRs K σ B H fp [] ρ' [] B' H' := by
  obtain ⟨t1, e1, f1, fs, r1, o1, n1, s1⟩ := a
  exact ⟨t1, e1, [], fs, .nil, o1, (List.nodup_append.mp n1).2.1, fun q hq => s1 q (List.mem_append_right _ hq)⟩
theorem Cont.one {v : V} {d : D} (h : Cont K B H [v] [d]) : ∃ f, OS K B H (some v) d f := by
  cases h with
  | cons a _ => exact ⟨_, a⟩
theorem Cont.two {v v2 : V} {d d2 : D} (h : Cont K B H [v, v2] [d, d2]) : (∃ f, OS K B H (some v) d f) ∧ ∃ f, OS K B H (some v2) d2 f := by
  cases h with
  | cons a b => exact ⟨⟨_, a⟩, b.one⟩
end

/-! ### operations by contents -/
def OpD (K : KW) (r : R2) (op : D → D → (D → Prop) → Prop) : Prop := ∀ (B H : Hp) (x y : V) (d e : D) (f g : List Addr) (P : D → Prop) (Q : VK), Ex B H → OS K B H (some x) d f → OS K B H (some y) e g → op d e P →
  (∀ z v B' H' fd, P z → New K B H z v B' H' fd → Q v H') → r x y H Q
def UnD (K : KW) (r : V → Hp → VK → Prop) (op : D → (D → Prop) → Prop) : Prop := ∀ (B H : Hp) (x : V) (d : D) (f : List Addr) (P : D → Prop) (Q : VK), Ex B H → OS K B H (some x) d f → op d P →
  (∀ z v B' H' fd, P z → New K B H z v B' H' fd → Q v H') → r x H Q
def CallD (K : KW) (r : List V → Hp → VK → Prop) (op : List D → (D → Prop) → Prop) : Prop := ∀ (B H : Hp) (vs : List V) (ds : List D) (P : D → Prop) (Q : VK), Ex B H → Cont K B H vs ds → op ds P →
  (∀ z v B' H' fd, P z → New K B H z v B' H' fd → Q v H') → r vs H Q
def wBin (op : D → D → (D → Prop) → Prop) (f g : WE) : WE := fun X ρ P => f X ρ fun r1 ρ1 => g X ρ1 fun r2 ρ2 => op (r1.get ρ2) (r2.get ρ2) fun d => P (.val d) ρ2
def wUn (op : D → (D → Prop) → Prop) (f : WE) : WE := fun X ρ P => f X ρ fun r ρ1 => op (r.get ρ1) fun d => P (.val d) ρ1
def wCB (op : List D → (D → Prop) → Prop) (f : WA) : WE := fun X ρ P => f X ρ fun rs ρ1 => op (rs.map (R.get ρ1)) fun d => P (.val d) ρ1
section
variable {K : KW} {Wx : WX}
theorem imp_bin {r : R2} {op : D → D → (D → Prop) → Prop} {f g : WE} (o : OpD K r op) (σ : St) (H : Hp) (Q : VK) (h : tE K Wx (wBin op f g) σ H Q) : tOp r (tE K Wx f) (tE K Wx g) σ H Q := by
  obtain ⟨B, ρ, fp, Xd, P, w, hP, hQ, hX⟩ := h
  refine ⟨B, ρ, fp, Xd, _, w, hP, fun r1 ρ1 v B1 H1 h1 p1 => ?_, hX⟩
  obtain ⟨f1, w1, k, kx⟩ := p1.step
  refine ⟨B1, ρ1, f1, Xd, _, w1, h1, fun r2 ρ2 v2 B2 H2 h2 p2 => ?_, fun x ρ' c d B' H' hx px => hX x ρ' c d B' H' hx (kx px)⟩
  have p12 := k p2
  obtain ⟨⟨fa, oa⟩, fb, ob⟩ := p12.cont.two
  exact o B2 H2 v v2 _ _ fa fb _ Q p12.ex oa ob h2 fun z u B' H' fd hz n => hQ _ ρ2 u B' H' hz (p12.new n)
theorem imp_un {r : V → Hp → VK → Prop} {op : D → (D → Prop) → Prop} {f : WE} (o : UnD K r op) (σ : St) (H : Hp) (Q : VK) (h : tE K Wx (wUn op f) σ H Q) : tUn r (tE K Wx f) σ H Q := by
  obtain ⟨B, ρ, fp, Xd, P, w, hP, hQ, hX⟩ := h
  refine ⟨B, ρ, fp, Xd, _, w, hP, fun r1 ρ1 v B1 H1 h1 p1 => ?_, hX⟩
  obtain ⟨fa, oa⟩ := p1.cont.one
  exact o B1 H1 v _ fa _ Q p1.ex oa h1 fun z u B' H' fd hz n => hQ _ ρ1 u B' H' hz (p1.new n)
theorem imp_cb {r : List V → Hp → VK → Prop} {op : List D → (D → Prop) → Prop} {f : WA} (o : CallD K r op) (σ : St) (H : Hp) (Q : VK) (h : tE K Wx (wCB op f) σ H Q) : tCB r (tA K Wx f) σ H Q := by
  obtain ⟨B, ρ, fp, Xd, P, w, hP, hQ, hX⟩ := h
  refine ⟨B, ρ, fp, Xd, _, w, hP, fun rs ρ1 vs B1 H1 h1 p1 => ?_, hX⟩
  exact o B1 H1 vs _ _ Q p1.ex p1.cont h1 fun z u B' H' fd hz n => hQ _ ρ1 u B' H' hz (p1.new n)
end

/-! ### tests -/
def wTest (f : WE) : WT := fun X ρ P => f X ρ fun r ρ1 => ∃ b, r.get ρ1 = .bl b ∧ P b ρ1
section
variable {X : Cx} {Wx : WX}
theorem OS.bl_of {K : KW} {B H : Hp} {v : V} {b : Bool} {f : List Addr} (h : OS K B H (some v) (.bl b) f) : v = .bl b := by
  cases h with
  | sh r => cases r; rfl
theorem pft_test {e : Expr} {te : TE} {f : WE} (h : PT X e (tTest te)) (i : ∀ σ H Q, tE X.kw Wx f σ H Q → te σ H Q) : PFT X Wx e (wTest f) := pt_imp h fun σ H Q => by
  rintro ⟨B, ρ, fp, Xd, P, w, hP, hQ, hX⟩
  refine i σ H _ ⟨B, ρ, fp, Xd, _, w, hP, fun r ρ1 v B1 H1 ⟨b, e1, h1⟩ p1 => ?_, hX⟩
  obtain ⟨fa, oa⟩ := p1.cont.one
  rw [e1] at oa
  exact ⟨b, oa.bl_of, hQ b ρ1 B1 H1 h1 p1.drop⟩
def wAndT (f g : WT) : WT := fun X ρ P => f X ρ fun b ρ1 => if b = true then g X ρ1 P else P false ρ1
def wOrT (f g : WT) : WT := fun X ρ P => f X ρ fun b ρ1 => if b = true then P true ρ1 else g X ρ1 P
def wNotT (f : WT) : WT := fun X ρ P => f X ρ fun b ρ1 => P (!b) ρ1
theorem imp_seqT {K : KW} {f g : WT} {c : Bool} (σ : St) (H : Hp) (Q : Bool → Hp → Prop)
    (h : tT K Wx (fun X ρ P => f X ρ fun b ρ1 => if b = c then g X ρ1 P else P b ρ1) σ H Q) : tT K Wx f σ H fun b H1 => if b = c then tT K Wx g σ H1 Q else Q b H1 := by
  obtain ⟨B, ρ, fp, Xd, P, w, hP, hQ, hX⟩ := h
  refine ⟨B, ρ, fp, Xd, _, w, hP, fun b ρ1 B1 H1 h1 p1 => ?_, hX⟩
  by_cases e : b = c
  · rw [if_pos e] at h1 ⊢
    obtain ⟨f1, w1, k, kx⟩ := p1.step
    exact ⟨B1, ρ1, f1, Xd, _, w1, h1, fun b2 ρ2 B2 H2 h2 p2 => hQ b2 ρ2 B2 H2 h2 (k p2), fun x ρ' c d B' H' hx px => hX x ρ' c d B' H' hx (kx px)⟩
  · rw [if_neg e] at h1 ⊢
    exact hQ b ρ1 B1 H1 h1 p1
theorem imp_and {K : KW} {f g : WT} (σ : St) (H : Hp) (Q : Bool → Hp → Prop) (h : tT K Wx (wAndT f g) σ H Q) : tAnd (tT K Wx f) (tT K Wx g) σ H Q := by
  have e : (wAndT f g) = (fun X ρ P => f X ρ fun b ρ1 => if b = true then g X ρ1 P else P b ρ1) := by
    funext X ρ P
    unfold wAndT
    congr 1
    funext b ρ1
    cases b <;> rfl
  rw [e] at h
  have z := imp_seqT σ H Q h
  unfold tAnd
  have e2 : (fun (c : Bool) H1 => if c = true then tT K Wx g σ H1 Q else Q false H1) = (fun (b : Bool) H1 => if b = true then tT K Wx g σ H1 Q else Q b H1) := by
    funext b H1
    cases b <;> rfl
  rw [e2]
  exact z
theorem imp_or {K : KW} {f g : WT} (σ : St) (H : Hp) (Q : Bool → Hp → Prop) (h : tT K Wx (wOrT f g) σ H Q) : tOr (tT K Wx f) (tT K Wx g) σ H Q := by
  have e : (wOrT f g) = (fun X ρ P => f X ρ fun b ρ1 => if b = false then g X ρ1 P else P b ρ1) := by
    funext X ρ P
    unfold wOrT
    congr 1
    funext b ρ1
    cases b <;> simp
  rw [e] at h
  have z := imp_seqT σ H Q h
  unfold tOr
  have e2 : (fun (c : Bool) H1 => if c = true then Q true H1 else tT K Wx g σ H1 Q) = (fun (b : Bool) H1 => if b = false then tT K Wx g σ H1 Q else Q b H1) := by
    funext b H1
    cases b <;> simp
  rw [e2]
  exact z
theorem pft_not {a : Expr} {pos : Pos} {f : WT} (h : PFT X Wx a f) : PFT X Wx (.UnaryOp .Not a pos) (wNotT f) := pt_imp (pt_not h) fun σ H Q => by
  rintro ⟨B, ρ, fp, Xd, P, w, hP, hQ, hX⟩
  exact ⟨B, ρ, fp, Xd, _, w, hP, fun b ρ1 B1 H1 h1 p1 => hQ (!b) ρ1 B1 H1 h1 p1, hX⟩
end
end FL

end
section
set_option maxHeartbeats 1000000
/-! FL2: the operations. -/
namespace FL
open PySem PySem.Spec PyProof.Rows L2

/-- a list's items, where nothing of them is one's own -/
def D.lsq : D → Option (List D)
  | .own xs => if xs.all D.pl = true then some xs else none
  | .lst xs => some xs
  | .flst xs => some xs
  | _ => none
/-- .. of a list that may be laid beside another -/
def D.mlst : D → Option (List D)
  | .own xs => if xs.all D.pl = true then some xs else none
  | .lst xs => some xs
  | _ => none
def D.tsq : D → Option (List D)
  | .tup xs => some xs
  | _ => none
/-- a sequence's items -/
def D.sq : D → Option (List D)
  | .own xs => if xs.all D.pl = true then some xs else none
  | .lst xs => some xs
  | .flst xs => some xs
  | .tup xs => some xs
  | _ => none
def D.flat : D → Bool
  | .non => true
  | .bl _ => true
  | .int _ => true
  | .str _ => true
  | _ => false

section
variable {K : KW} {B H : Hp} {v : V} {d : D} {f : List Addr}
theorem OSs.plain : ∀ {vs : List V} {os : List (Option V)} {ds : List D} {fp : List Addr}, OSs K B H os ds fp → vs.map some = os → ds.all D.pl = true → Reps K B vs ds
  | vs, _, _, _, .nil, m, _ => by
    have z : vs = [] := by simpa using m
    subst z
    exact .nil
  | vs, _, _, _, .cons a b _, m, p => by
    cases vs with
    | nil => cases m
    | cons v vs =>
      have m1 := (List.cons.inj m).1
      have m2 := (List.cons.inj m).2
      subst m1
      rw [List.all_cons, Bool.and_eq_true] at p
      exact .cons (a.plain p.1) (OSs.plain b m2 p.2)
theorem OS.lsq {xs : List D} (e : Ex B H) (h : OS K B H (some v) d f) (z : d.lsq = some xs) : ∃ p vs, v = .ref p ∧ SqL K.F H p vs ∧ Reps K B vs xs := by
  cases h with
  | und => cases z
  | sh r => cases r <;> first
    | (cases z <;> done)
    | (rename_i a vs ds hl r; cases z; exact ⟨a, vs, rfl, .of (e _ _ hl), r⟩)
    | (rename_i a vs ds hl r; cases z; exact ⟨a, vs, rfl, ex_l e hl, r⟩)
  | @own p vs os ds fp b l m r =>
    have z : (if ds.all D.pl = true then some ds else none) = some xs := z
    split at z
    · rename_i hp
      cases z
      exact ⟨_, _, rfl, .of l, r.plain m (by assumption)⟩
    · cases z
  | oins => cases z
theorem OS.mlst {xs : List D} (e : Ex B H) (h : OS K B H (some v) d f) (z : d.mlst = some xs) : ∃ p vs, v = .ref p ∧ H p = some (.lst vs) ∧ Reps K B vs xs := by
  cases h with
  | und => cases z
  | sh r => cases r <;> first
    | (cases z <;> done)
    | (rename_i a vs ds hl r; cases z; exact ⟨a, vs, rfl, e _ _ hl, r⟩)
  | @own p vs os ds fp b l m r =>
    have z : (if ds.all D.pl = true then some ds else none) = some xs := z
    split at z
    · rename_i hp
      cases z
      exact ⟨_, _, rfl, l, r.plain m (by assumption)⟩
    · cases z
  | oins => cases z
theorem OS.tq {xs : List D} (e : Ex B H) (h : OS K B H (some v) d f) (z : d.tsq = some xs) : ∃ p vs, v = .ref p ∧ TQ K.F H p vs ∧ Reps K B vs xs := by
  cases h with
  | und => cases z
  | sh r => cases r <;> first
    | (cases z <;> done)
    | (rename_i a vs ds hl r; cases z; exact ⟨a, vs, rfl, ex_tq e hl, r⟩)
  | own => cases z
  | oins => cases z
theorem OS.tsq {xs : List D} (e : Ex B H) (h : OS K B H (some v) d f) (z : d.tsq = some xs) : ∃ p vs, v = .ref p ∧ SqT K.F H p vs ∧ Reps K B vs xs := by
  obtain ⟨p, vs, h1, h2, h3⟩ := h.tq e z
  exact ⟨p, vs, h1, h2.sq, h3⟩
theorem D.sq_or {xs : List D} (z : d.sq = some xs) : d.lsq = some xs ∨ d.tsq = some xs := by
  cases d <;> first
    | exact .inl z
    | exact .inr z
    | cases z
theorem OS.int_of {i : Int} (h : OS K B H (some v) (.int i) f) : v = .int i := by
  cases h with
  | sh r => cases r; rfl
theorem OS.str_of {x : Str} (h : OS K B H (some v) (.str x) f) : v = .str x := by
  cases h with
  | sh r => cases r; rfl
theorem OS.non_of (h : OS K B H (some v) .non f) : v = .non := by
  cases h with
  | sh r => cases r; rfl
theorem OS.ty_of {n : String} (h : OS K B H (some v) (.ty n) f) : v = .ty n := by
  cases h with
  | sh r => cases r; rfl
theorem OS.cls_of {C : Str} (h : OS K B H (some v) (.cls C) f) : v = .ref (He.ga K.F C) := by
  cases h with
  | sh r => cases r; rfl
theorem Rep.int_of {i : Int} (h : Rep K B v (.int i)) : v = .int i := by cases h; rfl
theorem Rep.str_of {x : Str} (h : Rep K B v (.str x)) : v = .str x := by cases h; rfl
theorem Rep.bl_of {b : Bool} (h : Rep K B v (.bl b)) : v = .bl b := by cases h; rfl
theorem Reps.ints : ∀ {vs : List V} {ns : List Int}, Reps K B vs (ns.map D.int) → vs = ns.map V.int
  | vs, [], h => by cases h; rfl
  | vs, n :: ns, h => by
    cases h with
    | cons a b => rw [a.int_of, Reps.ints b]; rfl
theorem Reps.strs : ∀ {vs : List V} {ns : List Str}, Reps K B vs (ns.map D.str) → vs = ns.map V.str
  | vs, [], h => by cases h; rfl
  | vs, n :: ns, h => by
    cases h with
    | cons a b => rw [a.str_of, Reps.strs b]; rfl
theorem Reps.bls : ∀ {vs : List V} {ns : List Bool}, Reps K B vs (ns.map D.bl) → vs = ns.map V.bl
  | vs, [], h => by cases h; rfl
  | vs, n :: ns, h => by
    cases h with
    | cons a b => rw [a.bl_of, Reps.bls b]; rfl
theorem Reps.of_ints : ∀ ns : List Int, Reps K B (ns.map V.int) (ns.map D.int)
  | [] => .nil
  | _ :: ns => .cons .int (Reps.of_ints ns)
theorem Reps.of_strs : ∀ ns : List Str, Reps K B (ns.map V.str) (ns.map D.str)
  | [] => .nil
  | _ :: ns => .cons .str (Reps.of_strs ns)
theorem Reps.append {vs vs2 : List V} {ds ds2 : List D} (h : Reps K B vs ds) (h2 : Reps K B vs2 ds2) : Reps K B (vs ++ vs2) (ds ++ ds2) := match h with
  | .nil => h2
  | .cons a b => .cons a (Reps.append b h2)
theorem Reps.take {vs : List V} {ds : List D} (n : Nat) (h : Reps K B vs ds) : Reps K B (vs.take n) (ds.take n) := match n, h with
  | 0, _ => .nil
  | _ + 1, .nil => .nil
  | n + 1, .cons a b => .cons a (Reps.take n b)
theorem Reps.drop {vs : List V} {ds : List D} (n : Nat) (h : Reps K B vs ds) : Reps K B (vs.drop n) (ds.drop n) := match n, h with
  | 0, h => h
  | _ + 1, .nil => .nil
  | n + 1, .cons _ b => Reps.drop n b
theorem Reps.rep {vs : List V} {ds : List D} (h : Reps K B vs ds) : ∀ n : Nat, Reps K B (List.replicate n vs).flatten (List.replicate n ds).flatten
  | 0 => .nil
  | n + 1 => by
    rw [List.replicate_succ, List.replicate_succ, List.flatten_cons, List.flatten_cons]
    exact h.append (Reps.rep h n)
end

/-! ### + - * // % ** -/
def opAdd (d e : D) (P : D → Prop) : Prop := match d, e with
  | .int i, .int j => P (.int (i + j))
  | .str a, .str b => a.length + b.length ≤ sizeLine ∧ P (.str (a ++ b))
  | .tup xs, .tup ys => xs ≠ [] ∧ xs.length + ys.length ≤ sizeLine ∧ P (.tup (xs ++ ys))
  | d, e => ∃ xs ys, d.mlst = some xs ∧ e.mlst = some ys ∧ xs.length + ys.length ≤ sizeLine ∧ P (.own (xs ++ ys))
def opSub (d e : D) (P : D → Prop) : Prop := match d, e with
  | .int i, .int j => P (.int (i - j))
  | _, _ => False
def opMul (d e : D) (P : D → Prop) : Prop := match d, e with
  | .int i, .int j => CMulW i j ∧ P (.int (i * j))
  | d, .int k => ∃ xs, d.mlst = some xs ∧ -(2 ^ 63) ≤ k ∧ k < 2 ^ 63 ∧ xs.length * k.toNat ≤ sizeLine ∧ P (.own (List.replicate k.toNat xs).flatten)
  | _, _ => False
def opFDiv (d e : D) (P : D → Prop) : Prop := match d, e with
  | .int i, .int j => CDivW i j ∧ P (.int (i / j))
  | _, _ => False
def opMod (d e : D) (P : D → Prop) : Prop := match d, e with
  | .int i, .int j => 0 < j ∧ P (.int (i % j))
  | _, _ => False
def opPow (d e : D) (P : D → Prop) : Prop := match d, e with
  | .int i, .int j => CPow i j ∧ P (.int (i ^ j.toNat))
  | _, _ => False
def opNeg (d : D) (P : D → Prop) : Prop := match d with
  | .int i => P (.int (-i))
  | _ => False
/-- an operation on two ints -/
def opI (C : Int → Int → Prop) (g : Int → Int → D) (d e : D) (P : D → Prop) : Prop := match d, e with
  | .int i, .int j => C i j ∧ P (g i j)
  | _, _ => False

def rAddD (K : KW) : R2 := fun x y H Q => (rI0 fun i j => .int (i + j)) x y H Q ∨ (∃ i j, x = .str i ∧ y = .str j ∧ i.length + j.length ≤ sizeLine ∧ Q (.str (i ++ j)) H) ∨ rCatT K.F x y H Q ∨ rCat x y H Q
def rMulD : R2 := fun x y H Q => (rI CMulW fun i j => .int (i * j)) x y H Q ∨ rRep x y H Q
section
variable {X : Cx} {K : KW}
theorem op_addD : OpR X (binaryOp .Add) (rAddD X.kw) := op_add.or (op_add_str.or (op_catT.or op_cat))
theorem op_mulD : OpR X (binaryOp .Mult) rMulD := op_mulW.or op_rep
theorem od_add : OpD K (rAddD K) opAdd := by
  intro B H x y d e f g P Q ex hx hy h k
  unfold opAdd at h
  split at h
  · exact .inl ⟨_, _, hx.int_of, hy.int_of, k _ _ B H [] h (.same ex .int)⟩
  · exact .inr (.inl ⟨_, _, hx.str_of, hy.str_of, h.1, k _ _ B H [] h.2 (.same ex .str)⟩)
  · obtain ⟨p, vs, rfl, s1, r1⟩ := hx.tsq ex rfl
    obtain ⟨q, ws, rfl, s2, r2⟩ := hy.tsq ex rfl
    obtain ⟨h1, h2, h3⟩ := h
    refine .inr (.inr (.inl ⟨p, q, vs, ws, rfl, rfl, s1, s2, fun z => ?_, by rw [r1.length, r2.length]; exact h2, fun z => ?_, fun z p hp => k _ _ _ _ [] h3 (.tup ex hp (r1.append r2))⟩))
    · subst z
      cases r1
      exact h1 rfl
    · subst z
      cases r2
      rw [List.append_nil] at h3
      cases hx with
      | sh r => exact k _ _ B H [] h3 (.same ex r)
  · obtain ⟨xs, ys, z1, z2, hl, hP⟩ := h
    obtain ⟨p, vs, rfl, s1, r1⟩ := hx.mlst ex z1
    obtain ⟨q, ws, rfl, s2, r2⟩ := hy.mlst ex z2
    exact .inr (.inr (.inr ⟨p, q, vs, ws, rfl, rfl, s1, s2, by rw [r1.length, r2.length]; exact hl, fun p hp => k _ _ _ _ [p] hP (.own ex hp (r1.append r2))⟩))
theorem od_sub : OpD K (rI0 fun i j => .int (i - j)) opSub := by
  intro B H x y d e f g P Q ex hx hy h k
  unfold opSub at h
  split at h
  · exact ⟨_, _, hx.int_of, hy.int_of, k _ _ B H [] h (.same ex .int)⟩
  · exact h.elim
theorem od_mul : OpD K rMulD opMul := by
  intro B H x y d e f g P Q ex hx hy h k
  unfold opMul at h
  split at h
  · exact .inl ⟨_, _, hx.int_of, hy.int_of, h.1, k _ _ B H [] h.2 (.same ex .int)⟩
  · obtain ⟨xs, z1, h1, h2, h3, hP⟩ := h
    obtain ⟨p, vs, rfl, s1, r1⟩ := hx.mlst ex z1
    exact .inr ⟨p, _, vs, rfl, hy.int_of, s1, h1, h2, by rw [r1.length]; exact h3, fun p hp => k _ _ _ _ [p] hP (.own ex hp (r1.rep _))⟩
  · exact h.elim
theorem od_fdiv : OpD K (rI CDivW fun i j => .int (i / j)) opFDiv := by
  intro B H x y d e f g P Q ex hx hy h k
  unfold opFDiv at h
  split at h
  · exact ⟨_, _, hx.int_of, hy.int_of, h.1, k _ _ B H [] h.2 (.same ex .int)⟩
  · exact h.elim
theorem od_mod : OpD K (rI (fun _ j => 0 < j) fun i j => .int (i % j)) opMod := by
  intro B H x y d e f g P Q ex hx hy h k
  unfold opMod at h
  split at h
  · exact ⟨_, _, hx.int_of, hy.int_of, h.1, k _ _ B H [] h.2 (.same ex .int)⟩
  · exact h.elim
theorem od_pow : OpD K (rI CPow fun i j => .int (i ^ j.toNat)) opPow := by
  intro B H x y d e f g P Q ex hx hy h k
  unfold opPow at h
  split at h
  · exact ⟨_, _, hx.int_of, hy.int_of, h.1, k _ _ B H [] h.2 (.same ex .int)⟩
  · exact h.elim
theorem ud_neg : UnD K (rU fun i => .int (-i)) opNeg := by
  intro B H x d f P Q ex hx h k
  unfold opNeg at h
  split at h
  · exact ⟨_, hx.int_of, k _ _ B H [] h (.same ex .int)⟩
  · exact h.elim
end

/-! ### < <= > >= -/
def rCmpI (p : Int → Int → Bool) : R2 := rI0 fun i j => .bl (p i j)
def opCmp (p : Int → Int → Bool) (d e : D) (P : D → Prop) : Prop := match d, e with
  | .int i, .int j => P (.bl (p i j))
  | _, _ => False
theorem od_cmp {K : KW} {p : Int → Int → Bool} : OpD K (rI0 fun i j => .bl (p i j)) (opCmp p) := by
  intro B H x y d e f g P Q ex hx hy h k
  unfold opCmp at h
  split at h
  · exact ⟨_, _, hx.int_of, hy.int_of, k _ _ B H [] h (.same ex .bl)⟩
  · exact h.elim

end FL

end
section
set_option maxHeartbeats 1000000
/-! FL3: == and in, is, subscripts, built-in functions. -/
namespace FL
open PySem PySem.Spec PyProof.Rows L2

/-! ### == -/
mutual
def D.py : D → PyData
  | .non => .none
  | .bl b => .bool b
  | .int i => .int i
  | .str x => .str x
  | .lst xs => .list (D.pys xs)
  | .flst xs => .list (D.pys xs)
  | .own xs => .list (D.pys xs)
  | .tup xs => .tuple (D.pys xs)
  | .und => .none
  | .ins _ _ _ => .none
  | .oins _ _ _ => .none
  | .ty _ => .none
  | .cls _ => .none
  | .kd _ _ => .none
def D.pys : List D → List PyData
  | [] => []
  | d :: r => d.py :: D.pys r
end
mutual
/-- none, bools, ints, texts, lists and tuples of such -/
def D.dat : D → Bool
  | .non => true
  | .bl _ => true
  | .int _ => true
  | .str _ => true
  | .lst xs => D.dats xs
  | .flst xs => D.dats xs
  | .own xs => D.dats xs
  | .tup xs => D.dats xs
  | .und => false
  | .ins _ _ _ => false
  | .oins _ _ _ => false
  | .ty _ => false
  | .cls _ => false
  | .kd _ _ => false
def D.dats : List D → Bool
  | [] => true
  | d :: r => d.dat && D.dats r
end
def D.eqv (d e : D) : Bool := PyData.eqv d.py e.py
section
variable {K : KW} {B H : Hp}
mutual
theorem Rep.dp {v : V} {d : D} (e : Ex B H) (h : Rep K B v d) (p : d.dat = true) : Dp K.F H v d.py := match h with
  | .non => .non
  | .bl (b := b) => .bl b
  | .int (i := i) => .int i
  | .str (x := x) => .str x
  | .lst s r => .lst (.of (e _ _ s)) (Reps.dp e r p)
  | .flst s r => .lst (ex_l e s) (Reps.dp e r p)
  | .tup s r => .tup (ex_t e s.sq) (Reps.dp e r p)
  | .und => by cases p
  | .ins _ _ _ _ => by cases p
  | .ty => by cases p
  | .cls => by cases p
  | .kd _ _ _ => by cases p
theorem Reps.dp {vs : List V} {ds : List D} (e : Ex B H) (h : Reps K B vs ds) (p : D.dats ds = true) : DpAll K.F H vs (D.pys ds) := match h with
  | .nil => .nil
  | .cons a b => by
    have q : _ ∧ _ := Bool.and_eq_true_iff.mp p
    exact .cons (Rep.dp e a q.1) (Reps.dp e b q.2)
end
mutual
theorem OS.dp {o : Option V} {v : V} {d : D} {f : List Addr} (e : Ex B H) (z : o = some v) (h : OS K B H o d f) (p : d.dat = true) : Dp K.F H v d.py := match h with
  | .und => by cases p
  | .sh r => by cases z; exact r.dp e p
  | .own b l m r => by cases z; exact .lst (.of l) (OSs.dp e m r p)
  | .oins _ _ _ _ _ => by cases p
theorem OSs.dp {os : List (Option V)} {vs : List V} {ds : List D} {f : List Addr} (e : Ex B H) (z : vs.map some = os) (h : OSs K B H os ds f) (p : D.dats ds = true) : DpAll K.F H vs (D.pys ds) := match h with
  | .nil => by
    have y : vs = [] := by simpa using z
    subst y
    exact .nil
  | .cons (o := o) (os := os2) a b _ => by
    have q : _ ∧ _ := Bool.and_eq_true_iff.mp p
    cases vs with
    | nil => cases z
    | cons v vs => exact .cons (OS.dp e (List.cons.inj z).1.symm a q.1) (OSs.dp e (List.cons.inj z).2 b q.2)
end
end
/-- the scalars that are told apart at once -/
def D.scl : D → D → Bool
  | .non, .non => true | .non, .int _ => true | .int _, .non => true | .non, .bl _ => true | .bl _, .non => true | .non, .str _ => true | .str _, .non => true
  | .int _, .int _ => true | .bl _, .bl _ => true | .str _, .str _ => true
  | .int _, .str _ => true | .str _, .int _ => true | .bl _, .str _ => true | .str _, .bl _ => true
  | _, _ => false
def eqOk (d e : D) : Prop := D.scl d e = true ∨ (d.dat = true ∧ e.dat = true ∧ SeqAt.shaped d.py = true ∧ SeqAt.shaped e.py = true)
def opEq (d e : D) (P : D → Prop) : Prop := eqOk d e ∧ P (.bl (D.eqv d e))
def opNe (d e : D) (P : D → Prop) : Prop := eqOk d e ∧ P (.bl (!D.eqv d e))
def rEqU (K : PySem.W.Frag) : R2 := fun x y H Q => rEq x y H Q ∨ rEqD K x y H Q
def rNeU (K : PySem.W.Frag) : R2 := fun x y H Q => rNe x y H Q ∨ rNeD K x y H Q
theorem scl_ok {K : KW} {B H : Hp} {x y : V} {d e : D} {f g : List Addr} (hx : OS K B H (some x) d f) (hy : OS K B H (some y) e g) (h : D.scl d e = true) : scal x y = true ∧ decide (x = y) = D.eqv d e := by
  cases d <;> cases e <;> first
    | (cases h; done)
    | (cases hx with | sh r1 => cases hy with | sh r2 => cases r1; cases r2; exact ⟨rfl, by first | (simp [D.eqv, D.py, PyData.eqv]; done) | (simp [D.eqv, D.py, PyData.eqv, beq_eq_decide]; done) | (unfold D.eqv D.py PyData.eqv; rw [Bool.eq_iff_iff]; simp)⟩)
section
variable {K : KW}
theorem od_eq : OpD K (rEqU K.F) opEq := by
  intro B H x y d e f g P Q ex hx hy h k
  obtain ⟨c | ⟨c1, c2, c3, c4⟩, hP⟩ := h
  · obtain ⟨s1, s2⟩ := scl_ok hx hy c
    exact .inl ⟨s1, by rw [s2]; exact k _ _ B H [] hP (.same ex .bl)⟩
  · exact .inr ⟨_, _, hx.dp ex rfl c1, hy.dp ex rfl c2, c3, c4, k _ _ B H [] hP (.same ex .bl)⟩
theorem od_ne : OpD K (rNeU K.F) opNe := by
  intro B H x y d e f g P Q ex hx hy h k
  obtain ⟨c | ⟨c1, c2, c3, c4⟩, hP⟩ := h
  · obtain ⟨s1, s2⟩ := scl_ok hx hy c
    exact .inl ⟨s1, by rw [s2]; exact k _ _ B H [] hP (.same ex .bl)⟩
  · exact .inr ⟨_, _, hx.dp ex rfl c1, hy.dp ex rfl c2, c3, c4, k _ _ B H [] hP (.same ex .bl)⟩
end
theorem op_eqU {X : Cx} (hu : X.A.units + 64 < cLine) : OpR X (compareOp .Eq) (rEqU X.K) := op_eq.or (op_eqD hu)
theorem op_neU {X : Cx} (hu : X.A.units + 64 < cLine) : OpR X (compareOp .NotEq) (rNeU X.K) := op_ne.or (op_neD hu)

/-! ### is -/
def D.isN : D → Bool
  | .non => true
  | _ => false
def opIs (neg : Bool) (d e : D) (P : D → Prop) : Prop := match e with
  | .non => d.known = true ∧ P (.bl (neg != d.isN))
  | .bl b => ∃ a, d = .bl a ∧ P (.bl (neg != decide (a = b)))
  | _ => False
def rIsU : R2 := fun x y H Q => (y = .non ∧ Q (.bl (decide (x = .non))) H) ∨ rIsB x y H Q
def rIsNotU : R2 := fun x y H Q => (y = .non ∧ Q (.bl (!decide (x = .non))) H) ∨ rNotB x y H Q
theorem op_isU {X : Cx} : OpR X (compareOp .Is) rIsU := op_isN.or op_isBl
theorem op_isNotU {X : Cx} : OpR X (compareOp .IsNot) rIsNotU := op_notN.or op_notBl
theorem isN_ok {K : KW} {B H : Hp} {x : V} {d : D} {f : List Addr} (hx : OS K B H (some x) d f) (k : d.known = true) : decide (x = .non) = d.isN := by
  cases hx with
  | und => cases k
  | sh r => cases r <;> first | rfl | (cases k; done) | simp [D.isN]
  | own => simp [D.isN]
  | oins => simp [D.isN]
theorem od_is {K : KW} : OpD K rIsU (opIs false) := by
  intro B H x y d e f g P Q ex hx hy h k
  cases e with
  | non =>
    obtain ⟨h1, h2⟩ := h
    refine .inl ⟨hy.non_of, ?_⟩
    rw [isN_ok hx h1]
    exact k _ _ B H [] (by simpa using h2) (.same ex .bl)
  | bl b =>
    obtain ⟨a, rfl, h2⟩ := h
    exact .inr ⟨a, b, hx.bl_of, hy.bl_of, k _ _ B H [] (by simpa using h2) (.same ex .bl)⟩
  | _ => exact h.elim
theorem od_isNot {K : KW} : OpD K rIsNotU (opIs true) := by
  intro B H x y d e f g P Q ex hx hy h k
  cases e with
  | non =>
    obtain ⟨h1, h2⟩ := h
    refine .inl ⟨hy.non_of, ?_⟩
    rw [isN_ok hx h1]
    exact k _ _ B H [] (by simpa using h2) (.same ex .bl)
  | bl b =>
    obtain ⟨a, rfl, h2⟩ := h
    exact .inr ⟨a, b, hx.bl_of, hy.bl_of, k _ _ B H [] (by simpa using h2) (.same ex .bl)⟩
  | _ => exact h.elim

/-! ### in -/
def inD (d : D) (xs : List D) : Bool := xs.any fun y => D.eqv y d
theorem flat_ok {K : KW} {B : Hp} {v : V} {d : D} (h : Rep K B v d) (f : d.flat = true) : flatV v = true := by
  cases h <;> first | rfl | cases f
theorem eqV_ok {K : KW} {B : Hp} {v w : V} {d e : D} (h : Rep K B v d) (g : Rep K B w e) (f : d.flat = true) (f2 : e.flat = true) : eqV v w = D.eqv d e := by
  cases h <;> first
    | (cases f; done)
    | (cases g <;> first
        | (cases f2; done)
        | rfl
        | (simp [eqV, D.eqv, D.py, PyData.eqv]; done))
theorem flats_ok {K : KW} {B : Hp} : ∀ {vs : List V} {ds : List D}, Reps K B vs ds → ds.all D.flat = true → vs.all flatV = true
  | _, _, .nil, _ => rfl
  | _, _, .cons a b, h => by
    rw [List.all_cons, Bool.and_eq_true] at h ⊢
    exact ⟨flat_ok a h.1, flats_ok b h.2⟩
theorem inV_ok {K : KW} {B : Hp} {v : V} {d : D} (h : Rep K B v d) (f : d.flat = true) : ∀ {vs : List V} {ds : List D}, Reps K B vs ds → ds.all D.flat = true → inV v vs = inD d ds
  | _, _, .nil, _ => rfl
  | _, _, .cons a b, g => by
    rw [List.all_cons, Bool.and_eq_true] at g
    show (eqV _ v || inV v _) = (D.eqv _ d || inD d _)
    rw [eqV_ok a h g.1 f, inV_ok h f b g.2]
/-- the place of a key in a dict of the top -/
def kdIx (kvs : List (Str × D)) (z : Str) : Option Nat := (kvs.map (·.1)).findIdx? (· == z)
/-- a text within a text -/
def inStr (a b : Str) : Bool := !(Builtin.Str.occurrences b a 0 b.length 1).isEmpty
def rStrIn (neg : Bool) : R2 := fun x y H Q => ∃ i j, x = .str i ∧ y = .str j ∧ Q (.bl (neg != inStr i j)) H
def opIn (neg : Bool) (d e : D) (P : D → Prop) : Prop := match e with
  | .kd _ kvs => ∃ z, d = .str z ∧ P (.bl (neg != (kdIx kvs z).isSome))
  | .str b => ∃ a, d = .str a ∧ P (.bl (neg != inStr a b))
  | e => ∃ xs, e.sq = some xs ∧ d.flat = true ∧ xs.all D.flat = true ∧ P (.bl (neg != inD d xs))
def rKdIn (K : KW) (neg : Bool) : R2 := fun x y H Q => ∃ (a : Addr) (es : Array DictEntry) (n : Nat) (z : Str) (r : Option Value), KDict K.F K.w a es n ∧ x = .str z ∧ y = .ref a ∧ PySem.W.nsIn K.F a z = some r ∧ Q (.bl (neg != r.isSome)) H
def rInU (K : KW) (neg : Bool) : R2 := fun x y H Q => rIn K.F neg x y H Q ∨ rKdIn K neg x y H Q ∨ rStrIn neg x y H Q
theorem op_inU {X : Cx} : OpR X (compareOp .In) (rInU X.kw false) := op_in_seq.or (OpR.or (r := rKdIn X.kw false) (r' := rStrIn false) (fun pins s σ H x y v u Q I rx ry ⟨a, es, n, z, r, D, hx, hy, e, q⟩ =>
  op_in_kd (X := X) D pins s σ H x y v u Q I rx ry ⟨z, r, hx, hy, e, by simpa using q⟩) fun pins s σ H x y v u Q I rx ry ⟨i, j, hx, hy, q⟩ => op_in_str pins s σ H x y v u Q I rx ry ⟨i, j, hx, hy, by simpa [inStr] using q⟩)
theorem op_notInU {X : Cx} : OpR X (compareOp .NotIn) (rInU X.kw true) := op_notIn_seq.or (OpR.or (r := rKdIn X.kw true) (r' := rStrIn true) (fun pins s σ H x y v u Q I rx ry ⟨a, es, n, z, r, D, hx, hy, e, q⟩ =>
  op_notIn_kd (X := X) D pins s σ H x y v u Q I rx ry ⟨z, r, hx, hy, e, by simpa using q⟩) fun pins s σ H x y v u Q I rx ry ⟨i, j, hx, hy, q⟩ => op_notIn_str pins s σ H x y v u Q I rx ry ⟨i, j, hx, hy, by simpa [inStr] using q⟩)
theorem kd_none {K : KW} {x : Str} {kvs : List (Str × D)} {vs : List V} (h : KD K x kvs vs) {z : Str} (e : kdIx kvs z = none) : PySem.W.nsIn K.F (He.ga K.F x) z = some none := by
  have q := h.2 z
  unfold kdIx at e
  rw [e] at q
  exact q
theorem kd_some {K : KW} {x : Str} {kvs : List (Str × D)} {vs : List V} (h : KD K x kvs vs) {z : Str} {i : Nat} (e : kdIx kvs z = some i) : ∃ u v, PySem.W.nsIn K.F (He.ga K.F x) z = some (some u) ∧ vs[i]? = some v ∧ RelV v u := by
  have q := h.2 z
  unfold kdIx at e
  rw [e] at q
  exact q
theorem flat_pl {d : D} (h : d.flat = true) : d.pl = true := by cases d <;> first | rfl | cases h
theorem in_sq {K : KW} {neg : Bool} {B H : Hp} {x y : V} {d e : D} {f g : List Addr} {xs : List D} {Q : VK} (ex : Ex B H) (hx : OS K B H (some x) d f) (hy : OS K B H (some y) e g) (h1 : e.sq = some xs) (h2 : d.flat = true) (h3 : xs.all D.flat = true)
    (h4 : Q (.bl (neg != inD d xs)) H) : rIn K.F neg x y H Q := by
  have rx := hx.plain (flat_pl h2)
  have fin : ∀ vs, Reps K B vs xs → flatV x = true ∧ vs.all flatV = true ∧ Q (.bl (if neg then !inV x vs else inV x vs)) H := fun vs r => by
    refine ⟨flat_ok rx h2, flats_ok r h3, ?_⟩
    rw [inV_ok rx h2 r h3]
    cases neg
    · simpa using h4
    · simpa using h4
  rcases D.sq_or h1 with z | z
  · obtain ⟨p, vs, rfl, s, r⟩ := hy.lsq ex z
    exact ⟨p, vs, rfl, .inl s, fin vs r⟩
  · obtain ⟨p, vs, rfl, s, r⟩ := hy.tsq ex z
    exact ⟨p, vs, rfl, .inr s, fin vs r⟩
theorem od_in {K : KW} (neg : Bool) : OpD K (rInU K neg) (opIn neg) := by
  intro B H x y d e f g P Q ex hx hy h k
  have gen : (∃ xs, e.sq = some xs ∧ d.flat = true ∧ xs.all D.flat = true ∧ P (.bl (neg != inD d xs))) → rInU K neg x y H Q := fun ⟨xs, h1, h2, h3, h4⟩ =>
    .inl (in_sq ex hx hy h1 h2 h3 (k _ _ B H [] h4 (.same ex .bl)))
  cases e with
  | kd nm kvs =>
    obtain ⟨z, rfl, h1⟩ := h
    cases hy with
    | sh r =>
      cases r with
      | kd a b r =>
        refine .inr (.inl ?_)
        cases q : kdIx kvs z with
        | none =>
          rw [q] at h1
          exact ⟨_, _, _, z, none, a, hx.str_of, rfl, kd_none b q, k _ _ B H [] h1 (.same ex .bl)⟩
        | some i =>
          rw [q] at h1
          obtain ⟨u, v, e1, _⟩ := kd_some b q
          exact ⟨_, _, _, z, some u, a, hx.str_of, rfl, e1, k _ _ B H [] h1 (.same ex .bl)⟩
  | str b =>
    obtain ⟨a, rfl, h1⟩ := h
    exact .inr (.inr ⟨a, b, hx.str_of, hy.str_of, k _ _ B H [] h1 (.same ex .bl)⟩)
  | _ => exact gen h
end FL

end
section
set_option maxHeartbeats 1000000
/-! FL4: sharing; subscripts, built-in functions, displays. -/
namespace FL
open PySem PySem.Spec PyProof.Rows L2

/-! ### sharing -/
section
variable {K : KW} {B H B' H' : Hp} {σ : St} {ρ ρ' : List D} {fp : List Addr}
/-- a result is shared from now on -/
theorem PostRs.share {r : R} {v : V} (a : PostRs K σ B H fp [r] ρ' [v] B' H') : ∃ B2, PostRs K σ B H fp [.val (r.tk ρ').sh] (r.en ρ') [v] B2 H' := by
  obtain ⟨t1, e1, fd, fs, r1, o1, n1, s1⟩ := a
  have nfs : fs.Nodup := (List.nodup_append.mp n1).2.1
  have dis : ∀ q ∈ fd, q ∉ fs := fun q h1 h2 => (List.nodup_append.mp n1).2.2 q h1 q h2 rfl
  have trk : ∀ M : List Addr, (∀ q ∈ M, q ∈ fd ++ fs) → Tr B H fp (kn B' H' M) H' := fun M hM => by
    have hn : ∀ q ∈ M, B' q = none := fun q hq => by
      rcases List.mem_append.mp (hM q hq) with z | z
      · exact (r1.there q z).1
      · exact (o1.there q z).1
    refine ⟨t1.bb.trans (kn_ex hn), t1.keep, fun q o h => ?_⟩
    by_cases z : q ∈ M
    · rcases s1 q (hM q z) with y | y
      · exact .inr (.inl y)
      · exact .inr (.inr y)
    · rw [kn_out z] at h
      exact t1.bnew q o h
  cases r1 with
  | @val _ d _ _ f1 f2 _ os rr z =>
    cases rr
    have z1 : fd = f1 := by simpa using z
    subst z1
    have hn : ∀ q ∈ fd, B' q = none := fun q hq => (os.there q hq).1
    refine ⟨kn B' H' fd, trk fd (fun q hq => List.mem_append_left _ hq), kn_le e1, [], fs, .val (f2 := []) (.sh (os.share (kn_ex hn) fun q hq => kn_in hq)) .nil rfl, ?_, by simpa using nfs, fun q hq => s1 q (List.mem_append_right _ (by simpa using hq))⟩
    exact o1.frame (kn_ex hn) (fun q hq => by rw [kn_out fun y => dis q y hq]; exact (o1.there q hq).1) fun _ _ => rfl
  | @slot _ i _ _ _ e rr =>
    cases rr
    have hl : i < ρ'.length := by
      rw [← o1.len]
      exact (List.getElem?_eq_some_iff.mp e).1
    have hd : ρ'[i]? = some (dAt ρ' i) := by
      unfold dAt
      rw [List.getD_eq_getElem?_getD, List.getElem?_eq_getElem hl]
      rfl
    obtain ⟨o, fi, fr, h1, h2, h3, h4⟩ := o1.split hd
    rw [e] at h1
    cases h1
    have nd2 : (fi ++ fr).Nodup := h3.nodup_iff.mp nfs
    have hn : ∀ q ∈ fi, B' q = none := fun q hq => (h2.there q hq).1
    have mem : ∀ q, q ∈ fi ++ fr → q ∈ fs := fun q hq => h3.mem_iff.mpr hq
    have rep : Rep K (kn B' H' fi) v (dAt ρ' i).sh := h2.share (kn_ex hn) fun q hq => kn_in hq
    obtain ⟨fp', g1, g2⟩ := h4 (B' := kn B' H' fi) (H' := H') (o' := some v) (d' := (dAt ρ' i).sh) (f' := []) (kn_ex hn) (fun q hq => by
        rw [kn_out fun y => (List.nodup_append.mp nd2).2.2 q y q hq rfl]
        exact (o1.there q (mem q (List.mem_append_right _ hq))).1) (fun _ _ => rfl) (.sh rep)
    have es : σ.set i (some v) = σ := by
      apply List.ext_getElem?
      intro j
      by_cases hj : i = j
      · subst hj
        rw [List.getElem?_set_self (List.getElem?_eq_some_iff.mp e).1, e]
      · rw [List.getElem?_set_ne hj]
    rw [es] at g1
    have g2' : fp'.Perm fr := by simpa using g2
    refine ⟨kn B' H' fi, trk fi (fun q hq => List.mem_append_right _ (mem q (List.mem_append_left _ hq))), kn_le e1, [], fp', .val (f2 := []) (.sh ?_) .nil rfl, g1, ?_, fun q hq => ?_⟩
    · show Rep K (kn B' H' fi) v (dAt ρ' i).sh.sh
      rw [rep.sh]
      exact rep
    · simpa using g2'.nodup_iff.mpr (List.nodup_append.mp nd2).2.1
    · have q1 : q ∈ fp' := by simpa using hq
      exact s1 q (List.mem_append_right _ (mem q (List.mem_append_right _ (g2'.mem_iff.mp q1))))
/-- a result taken as a value: a temporary stays one's own -/
theorem PostRs.take {r : R} {v : V} (a : PostRs K σ B H fp [r] ρ' [v] B' H') : ∃ B2, PostRs K σ B H fp [.val (r.tk ρ')] (r.en ρ') [v] B2 H' := by
  cases r with
  | val d => exact ⟨B', a⟩
  | slot i =>
    obtain ⟨B2, h⟩ := a.share
    refine ⟨B2, ?_⟩
    have e : ((R.slot i).tk ρ').sh = (R.slot i).tk ρ' := by
      show (dAt ρ' i).sh.sh = (dAt ρ' i).sh
      obtain ⟨_, _, _, _, r1, _⟩ := h
      cases r1 with
      | val os rr z =>
        cases hdd : (dAt ρ' i) <;> rfl
    rw [← e]
    exact h
end
/-- needs sharing before it is looked into -/
def D.deep : D → Bool
  | .own xs => !xs.all D.pl
  | _ => false
def wSh (f : WE) : WE := fun X ρ P => f X ρ fun r ρ1 => P (.val (r.tk ρ1).sh) (r.en ρ1)
def wTk (f : WE) : WE := fun X ρ P => f X ρ fun r ρ1 => P (.val (r.tk ρ1)) (r.en ρ1)
def wFix (f : WE) : WE := fun X ρ P => f X ρ fun r ρ1 => if (r.get ρ1).deep = true then P (.val (r.tk ρ1).sh) (r.en ρ1) else P r ρ1
section
variable {X : Cx} {Wx : WX} {e : Expr} {f : WE}
theorem imp_sh {K : KW} (σ : St) (H : Hp) (Q : VK) (h : tE K Wx (wSh f) σ H Q) : tE K Wx f σ H Q := by
  obtain ⟨B, ρ, fp, Xd, P, w, hP, hQ, hX⟩ := h
  refine ⟨B, ρ, fp, Xd, _, w, hP, fun r ρ1 v B1 H1 h1 p1 => ?_, hX⟩
  obtain ⟨B2, p2⟩ := p1.share
  exact hQ _ _ v B2 H1 h1 p2
theorem imp_tk {K : KW} (σ : St) (H : Hp) (Q : VK) (h : tE K Wx (wTk f) σ H Q) : tE K Wx f σ H Q := by
  obtain ⟨B, ρ, fp, Xd, P, w, hP, hQ, hX⟩ := h
  refine ⟨B, ρ, fp, Xd, _, w, hP, fun r ρ1 v B1 H1 h1 p1 => ?_, hX⟩
  obtain ⟨B2, p2⟩ := p1.take
  exact hQ _ _ v B2 H1 h1 p2
theorem imp_fix {K : KW} (σ : St) (H : Hp) (Q : VK) (h : tE K Wx (wFix f) σ H Q) : tE K Wx f σ H Q := by
  obtain ⟨B, ρ, fp, Xd, P, w, hP, hQ, hX⟩ := h
  refine ⟨B, ρ, fp, Xd, _, w, hP, fun r ρ1 v B1 H1 h1 p1 => ?_, hX⟩
  by_cases c : (r.get ρ1).deep = true
  · rw [if_pos c] at h1
    obtain ⟨B2, p2⟩ := p1.share
    exact hQ _ _ v B2 H1 h1 p2
  · rw [if_neg c] at h1
    exact hQ _ _ v B1 H1 h1 p1
theorem pf_sh (h : PF X Wx e f) : PF X Wx e (wSh f) := pe_imp h imp_sh
theorem pf_tk (h : PF X Wx e f) : PF X Wx e (wTk f) := pe_imp h imp_tk
theorem pf_fix (h : PF X Wx e f) : PF X Wx e (wFix f) := pe_imp h imp_fix
end
end FL

end
section
set_option maxHeartbeats 1000000
/-! FL5: subscripts, built-in functions, displays, fields. -/
namespace FL
open PySem PySem.Spec PyProof.Rows L2

/-! ### a[i] -/
theorem Reps.atI {K : KW} {B : Hp} {vs : List V} {ds : List D} {i : Int} {d : D} (h : Reps K B vs ds) (e : atI ds i = some d) : ∃ v, L2.atI vs i = some v ∧ Rep K B v d := by
  unfold L2.atI at e ⊢
  rw [h.length]
  cases q : ixN ds.length i with
  | none => rw [q] at e; cases e
  | some j =>
    rw [q] at e
    have e2 : ds[j]? = some d := e
    obtain ⟨v, h1, h2⟩ := h.get e2
    exact ⟨v, h1, h2⟩
def opIx (d e : D) (P : D → Prop) : Prop := match d with
  | .str z => ∃ i c, e = .int i ∧ z.length ≤ sizeLine ∧ atI z.cps.toList i = some c ∧ P (.str ⟨#[c]⟩)
  | .kd _ kvs => ∃ z i q, e = .str z ∧ kdIx kvs z = some i ∧ kvs[i]? = some q ∧ P q.2
  | d => ∃ xs i x, d.sq = some xs ∧ e = .int i ∧ atI xs i = some x ∧ P x
def rIxKd (K : KW) : R2 := fun x y H Q => ∃ (a : Addr) (es : Array DictEntry) (n : Nat) (z : Str) (u0 : Value) (v0 : V), KDict K.F K.w a es n ∧ x = .ref a ∧ y = .str z ∧ PySem.W.nsIn K.F a z = some (some u0) ∧ RelV v0 u0 ∧ Q v0 H
def rIxU (K : KW) : R2 := fun x y H Q => rIx K.F x y H Q ∨ rIxKd K x y H Q
theorem ix_kdU {X : Cx} : IxR X (rIxKd X.kw) := by
  intro value slice pins s σ H x y v u Q I rx ry ⟨a, es, n, z, u0, v0, D, hx, hy, e, r, q⟩ hs
  subst hx
  have e1 : v = Value.ref a := rx
  subst e1
  exact tail_any (ops := [.ref a, u]) (kd_type D I) PySem.F.slot_dict_getitem.lookup (op_item_kd (X := X) D pins s σ H (.ref a) y (.ref a) u Q I rfl ry ⟨z, u0, v0, rfl, hy, e, r, q⟩) hs
theorem ix_U {X : Cx} : IxR X (rIxU X.kw) := ix_seq.or ix_kdU
theorem od_ix {K : KW} : OpD K (rIxU K) opIx := by
  intro B H x y d e f g P Q ex hx hy h k
  have gen : (∃ xs i z, d.sq = some xs ∧ e = .int i ∧ atI xs i = some z ∧ P z) → rIxU K x y H Q := fun ⟨xs, i, z, h1, h2, h3, h4⟩ => by
    subst h2
    have ey := hy.int_of
    rcases D.sq_or h1 with q | q
    · obtain ⟨p, vs, rfl, s, r⟩ := hx.lsq ex q
      obtain ⟨v, a1, a2⟩ := r.atI h3
      exact .inl (.inl ⟨p, vs, i, v, rfl, ey, s, a1, k _ _ B H [] h4 (.same ex a2)⟩)
    · obtain ⟨p, vs, rfl, s, r⟩ := hx.tsq ex q
      obtain ⟨v, a1, a2⟩ := r.atI h3
      exact .inl (.inr (.inl ⟨p, vs, i, v, rfl, ey, s, a1, k _ _ B H [] h4 (.same ex a2)⟩))
  cases d with
  | str z =>
    obtain ⟨i, c, rfl, h1, h2, h3⟩ := h
    exact .inl (.inr (.inr ⟨z, i, c, hx.str_of, hy.int_of, h1, h2, k _ _ B H [] h3 (.same ex .str)⟩))
  | kd nm kvs =>
    obtain ⟨z, i, q, rfl, h1, h2, h3⟩ := h
    cases hx with
    | sh r =>
      cases r with
      | kd a b r =>
        obtain ⟨u, v, e1, e2, e3⟩ := kd_some b h1
        obtain ⟨v2, g1, g2⟩ := r.get (i := i) (d := q.2) (by rw [List.getElem?_map, h2]; rfl)
        rw [e2] at g1
        cases g1
        exact .inr ⟨_, _, _, z, u, v, a, rfl, hy.str_of, e1, e3, k _ _ B H [] h3 (.same ex g2)⟩
  | _ => exact gen h
theorem plainIx {b : Expr} (h : (match b with | .Slice _ _ _ _ => false | _ => true) = true) : PlainIx b := by
  intro o i
  cases b <;> first | rfl | cases h

/-! ### displays -/
def opTup (ds : List D) (P : D → Prop) : Prop := ds.all D.pl = true ∧ ds.length ≤ sizeLine ∧ P (.tup ds)
def opLst (ds : List D) (P : D → Prop) : Prop := ds.all D.pl = true ∧ ds.length ≤ sizeLine ∧ P (.own ds)
theorem Cont.plain {K : KW} {B H : Hp} : ∀ {vs : List V} {ds : List D}, Cont K B H vs ds → ds.all D.pl = true → Reps K B vs ds
  | _, _, .nil, _ => .nil
  | _, _, .cons a b, h => by
    rw [List.all_cons, Bool.and_eq_true] at h
    exact .cons (a.plain h.1) (Cont.plain b h.2)
def rTupD : List V → Hp → VK → Prop := fun xs H1 Q => xs.length ≤ sizeLine ∧ ∀ p, H1 p = none → Q (.ref p) (upd H1 p (.tup xs))
def rLstD : List V → Hp → VK → Prop := fun xs H1 Q => xs.length ≤ sizeLine ∧ ∀ p, H1 p = none → Q (.ref p) (upd H1 p (.lst xs))
theorem cd_tup {K : KW} : CallD K rTupD opTup := by
  intro B H vs ds P Q ex c h k
  obtain ⟨h1, h2, h3⟩ := h
  have r := c.plain h1
  exact ⟨by rw [r.length]; exact h2, fun p hp => k _ _ _ _ [] h3 (.tup ex hp r)⟩
theorem cd_lst {K : KW} : CallD K rLstD opLst := by
  intro B H vs ds P Q ex c h k
  obtain ⟨h1, h2, h3⟩ := h
  have r := c.plain h1
  exact ⟨by rw [r.length]; exact h2, fun p hp => k _ _ _ _ [p] h3 (.own ex hp r)⟩

/-! ### built-in functions -/
def D.itemsN : D → Option Nat
  | .own xs => some xs.length
  | .lst xs => some xs.length
  | .flst xs => some xs.length
  | .tup xs => some xs.length
  | _ => none
def opLen (ds : List D) (P : D → Prop) : Prop := match ds with
  | [.str z] => z.length ≤ sizeLine ∧ P (.int z.length)
  | [d] => ∃ n, d.itemsN = some n ∧ P (.int n)
  | _ => False
theorem OS.itemsN {K : KW} {B H : Hp} {v : V} {d : D} {f : List Addr} {n : Nat} (e : Ex B H) (h : OS K B H (some v) d f) (z : d.itemsN = some n) : ∃ p vs, v = .ref p ∧ (SqL K.F H p vs ∨ SqT K.F H p vs) ∧ vs.length = n := by
  cases h with
  | und => cases z
  | sh r => cases r <;> first
    | (cases z <;> done)
    | (rename_i a vs ds hl r; cases z; exact ⟨a, vs, rfl, .inl (.of (e _ _ hl)), r.length⟩)
    | (rename_i a vs ds hl r; cases z; exact ⟨a, vs, rfl, .inl (ex_l e hl), r.length⟩)
    | (rename_i a vs ds hl r; cases z; exact ⟨a, vs, rfl, .inr (ex_tq e hl).sq, r.length⟩)
  | @own p vs os ds fp b l m r =>
    cases z
    refine ⟨p, vs, rfl, .inl (.of l), ?_⟩
    rw [← r.len, ← m, List.length_map]
  | oins => cases z
theorem cd_len {K : KW} : CallD K (fun xs H Q => ∃ x n, xs = [x] ∧ LenV K.F x H n ∧ Q (.int n) H) opLen := by
  intro B H vs ds P Q ex c h k
  unfold opLen at h
  split at h
  · cases c with
    | cons a b =>
      cases b
      have e := a.str_of
      subst e
      exact ⟨_, _, rfl, ⟨h.1, rfl⟩, k _ _ B H [] h.2 (.same ex .int)⟩
  · cases c with
    | cons a b =>
      cases b
      obtain ⟨n, h1, h2⟩ := h
      obtain ⟨p, ws, rfl, s, l⟩ := a.itemsN ex h1
      refine ⟨_, n, rfl, ?_, k _ _ B H [] h2 (.same ex .int)⟩
      rcases s with s | s
      · exact .inl ⟨ws, s, l.symm⟩
      · exact .inr ⟨ws, s, l.symm⟩
  · exact h.elim
def opList (ds : List D) (P : D → Prop) : Prop := match ds with
  | [d] => ∃ xs, d.sq = some xs ∧ P (.own xs)
  | _ => False
def opTuple (ds : List D) (P : D → Prop) : Prop := match ds with
  | [d] => ∃ xs, d.sq = some xs ∧ P (.tup xs)
  | _ => False
theorem D.tsq_eq {d : D} {xs : List D} (h : d.tsq = some xs) : d = .tup xs := by
  cases d <;> first | (cases h; rfl) | cases h
theorem cd_list {K : KW} : CallD K (fun xs H Q => ∃ p ys, xs = [.ref p] ∧ (SqL K.F H p ys ∨ SqT K.F H p ys) ∧ ∀ l, H l = none → Q (.ref l) (upd H l (.lst ys))) opList := by
  intro B H vs ds P Q ex c h k
  unfold opList at h
  split at h
  · cases c with
    | cons a b =>
      cases b
      obtain ⟨xs, h1, h2⟩ := h
      rcases D.sq_or h1 with z | z
      · obtain ⟨p, ws, rfl, s, r⟩ := a.lsq ex z
        exact ⟨p, ws, rfl, .inl s, fun l hl => k _ _ _ _ [l] h2 (.own ex hl r)⟩
      · obtain ⟨p, ws, rfl, s, r⟩ := a.tsq ex z
        exact ⟨p, ws, rfl, .inr s, fun l hl => k _ _ _ _ [l] h2 (.own ex hl r)⟩
  · exact h.elim
theorem cd_tuple {K : KW} : CallD K (fun xs H Q => ∃ p ys, xs = [.ref p] ∧ ((SqL K.F H p ys ∧ ∀ l, H l = none → Q (.ref l) (upd H l (.tup ys))) ∨ (SqT K.F H p ys ∧ Q (.ref p) H))) opTuple := by
  intro B H vs ds P Q ex c h k
  unfold opTuple at h
  split at h
  · cases c with
    | cons a b =>
      cases b
      obtain ⟨xs, h1, h2⟩ := h
      rcases D.sq_or h1 with z | z
      · obtain ⟨p, ws, rfl, s, r⟩ := a.lsq ex z
        exact ⟨p, ws, rfl, .inl ⟨s, fun l hl => k _ _ _ _ [] h2 (.tup ex hl r)⟩⟩
      · obtain ⟨p, ws, rfl, s, r⟩ := a.tq ex z
        have e := D.tsq_eq z
        subst e
        exact ⟨p, ws, rfl, .inr ⟨s.sq, k _ _ B H [] h2 (.same ex (a.plain rfl))⟩⟩
  · exact h.elim
def opInt (ds : List D) (P : D → Prop) : Prop := match ds with
  | [.int i] => P (.int i)
  | [.bl b] => P (.int (if b then 1 else 0))
  | _ => False
theorem cd_int {K : KW} : CallD K (fun xs H Q => (∃ i, xs = [.int i] ∧ Q (.int i) H) ∨ ∃ k, xs = [.bl k] ∧ Q (.int (if k then 1 else 0)) H) opInt := by
  intro B H vs ds P Q ex c h k
  unfold opInt at h
  split at h
  · cases c with
    | cons a b =>
      cases b
      rw [a.int_of]
      exact .inl ⟨_, rfl, k _ _ B H [] h (.same ex .int)⟩
  · cases c with
    | cons a b =>
      cases b
      rw [a.bl_of]
      exact .inr ⟨_, rfl, k _ _ B H [] h (.same ex .int)⟩
  · exact h.elim
def opMax (ds : List D) (P : D → Prop) : Prop := match ds with
  | [.int i, .int j] => P (.int (if j > i then j else i))
  | [d] => ∃ ns : List Int, d.lsq = some (ns.map D.int) ∧ 0 < ns.length ∧ ∀ m, m ∈ ns → (∀ y, y ∈ ns → y ≤ m) → P (.int m)
  | _ => False
def opMin (ds : List D) (P : D → Prop) : Prop := match ds with
  | [.int i, .int j] => P (.int (if j < i then j else i))
  | [d] => ∃ ns : List Int, d.lsq = some (ns.map D.int) ∧ 0 < ns.length ∧ ∀ m, m ∈ ns → (∀ y, y ∈ ns → m ≤ y) → P (.int m)
  | _ => False
def rMaxU (K : PySem.W.Frag) : List V → Hp → VK → Prop := fun xs H Q => (∃ i j, xs = [.int i, .int j] ∧ Q (.int (if j > i then j else i)) H) ∨ rMax K xs H Q
def rMinU (K : PySem.W.Frag) : List V → Hp → VK → Prop := fun xs H Q => (∃ i j, xs = [.int i, .int j] ∧ Q (.int (if j < i then j else i)) H) ∨ rMin K xs H Q
theorem cd_max {K : KW} : CallD K (rMaxU K.F) opMax := by
  intro B H vs ds P Q ex c h k
  unfold opMax at h
  split at h
  · cases c with
    | cons a b =>
      cases b with
      | cons a2 b =>
        cases b
        rw [a.int_of, a2.int_of]
        exact .inl ⟨_, _, rfl, k _ _ B H [] h (.same ex .int)⟩
  · cases c with
    | cons a b =>
      cases b
      obtain ⟨ns, h1, h2, h3⟩ := h
      obtain ⟨p, ws, rfl, s, r⟩ := a.lsq ex h1
      have e := r.ints
      subst e
      exact .inr ⟨p, ns, rfl, s, h2, fun m a b => k _ _ B H [] (h3 m a b) (.same ex .int)⟩
  · exact h.elim
theorem cd_min {K : KW} : CallD K (rMinU K.F) opMin := by
  intro B H vs ds P Q ex c h k
  unfold opMin at h
  split at h
  · cases c with
    | cons a b =>
      cases b with
      | cons a2 b =>
        cases b
        rw [a.int_of, a2.int_of]
        exact .inl ⟨_, _, rfl, k _ _ B H [] h (.same ex .int)⟩
  · cases c with
    | cons a b =>
      cases b
      obtain ⟨ns, h1, h2, h3⟩ := h
      obtain ⟨p, ws, rfl, s, r⟩ := a.lsq ex h1
      have e := r.ints
      subst e
      exact .inr ⟨p, ns, rfl, s, h2, fun m a b => k _ _ B H [] (h3 m a b) (.same ex .int)⟩
  · exact h.elim
def opSum (ds : List D) (P : D → Prop) : Prop := match ds with
  | [d] => ∃ ns : List Int, d.lsq = some (ns.map D.int) ∧ P (.int ns.sum)
  | _ => False
theorem cd_sum {K : KW} : CallD K (rSum K.F) opSum := by
  intro B H vs ds P Q ex c h k
  unfold opSum at h
  split at h
  · cases c with
    | cons a b =>
      cases b
      obtain ⟨ns, h1, h2⟩ := h
      obtain ⟨p, ws, rfl, s, r⟩ := a.lsq ex h1
      have e := r.ints
      subst e
      exact ⟨p, ns, rfl, s, k _ _ B H [] h2 (.same ex .int)⟩
  · exact h.elim
/-- sorted(xs): ints, any number; texts, fewer than 64 -/
def opSorted (ds : List D) (P : D → Prop) : Prop := match ds with
  | [d] => (∃ ns : List Int, d.lsq = some (ns.map D.int) ∧ ∀ ms : List Int, ms.Perm ns → ms.Pairwise (· ≤ ·) → P (.own (ms.map D.int)))
  | _ => False
theorem cd_sorted {K : KW} : CallD K (rSortedI K.F) opSorted := by
  intro B H vs ds P Q ex c h k
  unfold opSorted at h
  split at h
  · cases c with
    | cons a b =>
      cases b
      obtain ⟨ns, h1, h2⟩ := h
      obtain ⟨p, ws, rfl, s, r⟩ := a.lsq ex h1
      have e := r.ints
      subst e
      exact ⟨p, ns, rfl, s, fun ms q a b hq => k _ _ _ _ [q] (h2 ms a b) (.own ex hq (Reps.of_ints ms))⟩
  · exact h.elim

/-! ### isinstance -/
/-- the built-in type of a datum -/
def D.tyN : D → Option String
  | .non => some "NoneType"
  | .bl _ => some "bool"
  | .int _ => some "int"
  | .str _ => some "str"
  | .lst _ => some "list"
  | .flst _ => some "list"
  | .own _ => some "list"
  | .tup _ => some "tuple"
  | _ => none
theorem OS.tyx {K : KW} {B H : Hp} {v : V} {d : D} {f : List Addr} {t : String} (e : Ex B H) (h : OS K B H (some v) d f) (z : d.tyN = some t) : TyX K.F H v (.type t) := by
  cases h with
  | und => cases z
  | sh r =>
    cases r with
    | non => cases z; exact .base .non
    | bl => cases z; exact .base (.bl _)
    | int => cases z; exact .base (.int _)
    | str => cases z; exact .base (.str _)
    | lst l r => cases z; exact .base (.lst (e _ _ l))
    | flst l r =>
      cases z
      rcases ex_l e l with (h | ⟨o, h⟩) | ⟨o, its, n, h1, h2, _⟩
      · exact .base (.lst h)
      · exact .base (.frz h)
      · exact .kList h1 h2
    | tup l r =>
      cases z
      rcases ex_tq e l with h | ⟨o, its, n, h1, h2, _⟩
      · exact .base (.tup h)
      · exact .kTuple h1 h2
    | _ => cases z
  | own b l m r => cases z; exact .base (.lst l)
  | oins => cases z
def kitAnyB (t : String) : List String → Option Bool
  | [] => some false
  | c :: cs => match kitB t c with
    | some true => some true
    | some false => kitAnyB t cs
    | none => none
theorem kitAnyB_ok {K : PySem.W.Frag} {t : String} : ∀ {cs : List String} {b : Bool}, kitAnyB t cs = some b → PySem.W.kitAny K (.type t) (cs.map Value.type) = some b
  | [], b, h => by
    cases h
    exact kitAny_nil
  | c :: cs, b, h => by
    unfold kitAnyB at h
    split at h
    · rename_i q
      cases h
      exact kitAny_cons (kit_ty q) (fun z => nomatch z) fun _ => rfl
    · rename_i q
      exact kitAny_cons (kit_ty q) (fun _ => kitAnyB_ok h) fun z => nomatch z
    · cases h
/-- all of them built-in types -/
def tyNames : List D → Option (List String)
  | [] => some []
  | .ty n :: r => (tyNames r).map (n :: ·)
  | _ :: _ => none
theorem tyNames_ok {K : KW} {B : Hp} : ∀ {vs : List V} {ds : List D} {cs : List String}, Reps K B vs ds → tyNames ds = some cs → Paired ClsV vs (cs.map Value.type)
  | _, [], cs, .nil, h => by cases h; exact .nil
  | _, d :: ds, cs, .cons a b, h => by
    cases d <;> first
      | (cases h; done)
      | (cases hq : tyNames ds with
          | none => simp [tyNames, hq] at h
          | some r =>
            simp [tyNames, hq] at h
            subst h
            cases a
            exact .cons (.ty _) (tyNames_ok b hq))
def opIsi (ds : List D) (P : D → Prop) : Prop := match ds with
  | [d, .ty n] => ∃ t b, d.tyN = some t ∧ kitB t n = some b ∧ P (.bl b)
  | [d, .tup cs] => ∃ t b ns, d.tyN = some t ∧ tyNames cs = some ns ∧ kitAnyB t ns = some b ∧ P (.bl b)
  | _ => False
def rIsiU (K : PySem.W.Frag) : List V → Hp → VK → Prop := fun xs H Q => rIsi K xs H Q ∨ rIsiT K xs H Q ∨ rIsiK K xs H Q
theorem cd_isi {K : KW} : CallD K (rIsiU K.F) opIsi := by
  intro B H vs ds P Q ex c h k
  unfold opIsi at h
  split at h
  · cases c with
    | cons a b =>
      cases b with
      | cons a2 b =>
        cases b
        obtain ⟨t, b, h1, h2, h3⟩ := h
        rw [a2.ty_of]
        exact .inl ⟨_, _, _, _, b, rfl, .ty _, a.tyx ex h1, kit_ty h2, k _ _ B H [] h3 (.same ex .bl)⟩
  · cases c with
    | cons a b =>
      cases b with
      | cons a2 b =>
        cases b
        obtain ⟨t, b, ns, h1, h2, h3, h4⟩ := h
        obtain ⟨p, ws, rfl, s, r⟩ := a2.tq ex rfl
        rcases s with s | s
        · exact .inr (.inl ⟨_, p, ws, _, _, b, rfl, s, tyNames_ok r h2, a.tyx ex h1, kitAnyB_ok h3, k _ _ B H [] h4 (.same ex .bl)⟩)
        · obtain ⟨⟨oc, od, dt, sl⟩, its, n, e1, e2, e3, _, e5⟩ := s
          have e6 := ClsV.all (tyNames_ok r h2) e5
          have e2 : oc = .type "tuple" := e2
          have e3 : dt = .seq its n := e3
          subst e2 e3
          refine .inr (.inr ⟨_, p, od, ns.map Value.type, n, sl, _, b, rfl, ?_, a.tyx ex h1, kitAnyB_ok h3, k _ _ B H [] h4 (.same ex .bl)⟩)
          rw [e1, ← e6]
  · exact h.elim
end FL

end
section
set_option maxHeartbeats 1000000
/-! FL6: statements. -/
namespace FL
open PySem PySem.Spec PyProof.Rows L2

/-- behind a statement: the slots may be others, but those of kp -/
structure PostG (K : KW) (kp : List Nat) (σ : St) (B H : Hp) (fp : List Addr) (σ' : St) (rs : List R) (ρ' : List D) (vs : List V) (B' H' : Hp) : Prop where
  kept : ∀ i ∈ kp, σ'[i]? = σ[i]?
  tr : Tr B H fp B' H'
  ex : Ex B' H'
  rep : ∃ fd fs, ROs K B' H' σ' vs rs fd ∧ OSs K B' H' σ' ρ' fs ∧ (fd ++ fs).Nodup ∧ Sub H fp (fd ++ fs)
structure PostXS (K : KW) (kp : List Nat) (σ : St) (B H : Hp) (fp : List Addr) (σ' : St) (x : Exc) (ρ' : List D) (c : Value) (d : Option Addr) (B' H' : Hp) : Prop where
  kept : ∀ i ∈ kp, σ'[i]? = σ[i]?
  tr : Tr B H fp B' H'
  ex : Ex B' H'
  rep : ∃ fs, OSs K B' H' σ' ρ' fs ∧ fs.Nodup ∧ Sub H fp fs
  obj : ∃ a fl, c = .ref (He.ga K.F x.cls) ∧ d = some a ∧ H' a = some (.xd fl) ∧ fl.map (·.1) = x.ks ∧ Reps K B' (fl.map (·.2)) x.ds
section
variable {K : KW} {kp : List Nat} {B H B' H' : Hp} {σ σ' : St} {ρ ρ' : List D} {fp : List Addr}
theorem PostRs.g {rs : List R} {vs : List V} (a : PostRs K σ B H fp rs ρ' vs B' H') : PostG K kp σ B H fp σ rs ρ' vs B' H' := ⟨fun _ _ => rfl, a.tr, a.ex, a.rep⟩
theorem PostX.xs {x : Exc} {c : Value} {d : Option Addr} (a : PostX K σ B H fp x ρ' c d B' H') : PostXS K kp σ B H fp σ x ρ' c d B' H' := ⟨fun _ _ => rfl, a.tr, a.ex, a.rep, a.obj⟩
theorem W.g (w : W K B H σ ρ fp) : PostG K kp σ B H fp σ [] ρ [] B H := w.refl.g
/-- what comes next starts here; then both are one -/
theorem PostG.step {B1 H1 : Hp} {σ1 : St} {ρ1 : List D} (a : PostG K kp σ B H fp σ1 [] ρ1 [] B1 H1) : ∃ f1, W K B1 H1 σ1 ρ1 f1 ∧
    (∀ {σ2 : St} {rs2 : List R} {ρ2 : List D} {vs2 : List V} {B2 H2 : Hp}, PostG K kp σ1 B1 H1 f1 σ2 rs2 ρ2 vs2 B2 H2 → PostG K kp σ B H fp σ2 rs2 ρ2 vs2 B2 H2) ∧
    (∀ {σ2 : St} {ρ2 : List D} {x : Exc} {c : Value} {d : Option Addr} {B2 H2 : Hp}, PostXS K kp σ1 B1 H1 f1 σ2 x ρ2 c d B2 H2 → PostXS K kp σ B H fp σ2 x ρ2 c d B2 H2) := by
  obtain ⟨k1, t1, e1, fd, fs, r1, o1, n1, s1⟩ := a
  cases r1
  have n1 : fs.Nodup := by simpa using n1
  have s1 : Sub H fp fs := by simpa using s1
  refine ⟨fs, ⟨e1, o1, n1⟩, fun {σ2 rs2 ρ2 vs2 B2 H2} p2 => ?_, fun {σ2 ρ2 x c d B2 H2} p2 => ?_⟩
  · obtain ⟨k2, t2, e2, fd2, fs2, r2, o2, n2, s2⟩ := p2
    exact ⟨fun i hi => (k2 i hi).trans (k1 i hi), t1.trans s1 t2, e2, fd2, fs2, r2, o2, n2, Sub.trans t1 s1 s2⟩
  · obtain ⟨k2, t2, e2, ⟨fs2, o2, n2, s2⟩, ob⟩ := p2
    exact ⟨fun i hi => (k2 i hi).trans (k1 i hi), t1.trans s1 t2, e2, ⟨fs2, o2, n2, Sub.trans t1 s1 s2⟩, ob⟩
/-- from behind an expression -/
theorem PostRs.stepG {B1 H1 : Hp} {rs : List R} {vs : List V} {ρ1 : List D} (a : PostRs K σ B H fp rs ρ1 vs B1 H1) : ∃ f1, W K B1 H1 σ ρ1 f1 ∧
    (∀ {σ2 : St} {rs2 : List R} {ρ2 : List D} {vs2 : List V} {B2 H2 : Hp}, PostG K kp σ B1 H1 f1 σ2 rs2 ρ2 vs2 B2 H2 → PostG K kp σ B H fp σ2 rs2 ρ2 vs2 B2 H2) ∧
    (∀ {σ2 : St} {ρ2 : List D} {x : Exc} {c : Value} {d : Option Addr} {B2 H2 : Hp}, PostXS K kp σ B1 H1 f1 σ2 x ρ2 c d B2 H2 → PostXS K kp σ B H fp σ2 x ρ2 c d B2 H2) := a.drop.g.step

/-- a slot is set to a temporary -/
theorem PostRs.setSlot {B1 H1 : Hp} {ρ1 : List D} {v : V} {d : D} {i : Nat} (a : PostRs K σ B H fp [.val d] ρ1 [v] B1 H1) (hi : i ∉ kp) : PostG K kp σ B H fp (σ.set i (some v)) [] (ρ1.set i d) [] B1 H1 := by
  obtain ⟨t1, e1, fd, fs, r1, o1, n1, s1⟩ := a
  cases r1 with
  | @val _ _ _ _ f1 f2 _ os rr z =>
    cases rr
    have z1 : fd = f1 := by simpa using z
    subst z1
    have kept : ∀ j ∈ kp, (σ.set i (some v))[j]? = σ[j]? := fun j hj => List.getElem?_set_ne fun e => hi (by rw [e]; exact hj)
    by_cases hl : i < ρ1.length
    · obtain ⟨o, fi, fr, h1, h2, h3, h4⟩ := o1.split (List.getElem?_eq_getElem hl)
      have mem : ∀ q ∈ fr, q ∈ fs := fun q hq => h3.mem_iff.mpr (List.mem_append_right _ hq)
      obtain ⟨fp', g1, g2⟩ := h4 (Ex.refl B1) (fun q hq => (o1.there q (mem q hq)).1) (fun _ _ => rfl) os
      refine ⟨kept, t1, e1, [], fp', .nil, g1, ?_, fun q hq => ?_⟩
      · have nfr : fr.Nodup := (List.nodup_append.mp (h3.nodup_iff.mp (List.nodup_append.mp n1).2.1)).2.1
        have : (fd ++ fr).Nodup := List.nodup_append.mpr ⟨(List.nodup_append.mp n1).1, nfr, fun q hq q' hq' e => (List.nodup_append.mp n1).2.2 q hq q' (mem q' hq') e⟩
        simpa using g2.nodup_iff.mpr this
      · have q1 : q ∈ fd ++ fr := g2.mem_iff.mp (by simpa using hq)
        rcases List.mem_append.mp q1 with y | y
        · exact s1 q (List.mem_append_left _ y)
        · exact s1 q (List.mem_append_right _ (mem q y))
    · have hl2 : ¬ i < σ.length := by rw [o1.len]; exact hl
      rw [List.set_eq_of_length_le (by omega), List.set_eq_of_length_le (by omega)]
      exact ⟨fun _ _ => rfl, t1, e1, [], fs, .nil, o1, by simpa using (List.nodup_append.mp n1).2.1, fun q hq => s1 q (List.mem_append_right _ (by simpa using hq))⟩
/-- a slot is given away -/
theorem PostRs.move {B1 H1 : Hp} {ρ1 : List D} {v : V} {i : Nat} (a : PostRs K σ B H fp [.slot i] ρ1 [v] B1 H1) : PostRs K σ B H fp [.val (dAt ρ1 i)] (ρ1.set i .und) [v] B1 H1 := by
  obtain ⟨t1, e1, fd, fs, r1, o1, n1, s1⟩ := a
  cases r1 with
  | @slot _ _ _ _ _ e rr =>
    cases rr
    have hl : i < ρ1.length := by
      rw [← o1.len]
      exact (List.getElem?_eq_some_iff.mp e).1
    have hd : ρ1[i]? = some (dAt ρ1 i) := by
      unfold dAt
      rw [List.getD_eq_getElem?_getD, List.getElem?_eq_getElem hl]
      rfl
    obtain ⟨o, fi, fr, h1, h2, h3, h4⟩ := o1.split hd
    rw [e] at h1
    cases h1
    have n2 : (fi ++ fr).Nodup := h3.nodup_iff.mp (by simpa using n1)
    have mem : ∀ q ∈ fr, q ∈ fs := fun q hq => h3.mem_iff.mpr (List.mem_append_right _ hq)
    obtain ⟨fp', g1, g2⟩ := h4 (o' := some v) (d' := .und) (Ex.refl B1) (fun q hq => (o1.there q (mem q hq)).1) (fun _ _ => rfl) .und
    have es : σ.set i (some v) = σ := by
      apply List.ext_getElem?
      intro j
      by_cases hj : i = j
      · subst hj
        rw [List.getElem?_set_self (List.getElem?_eq_some_iff.mp e).1, e]
      · rw [List.getElem?_set_ne hj]
    rw [es] at g1
    have g2 : fp'.Perm fr := by simpa using g2
    refine ⟨t1, e1, fi, fp', .val (f2 := []) h2 .nil (by simp), g1, ?_, fun q hq => s1 q ?_⟩
    · exact (List.Perm.append_left fi g2).nodup_iff.mpr n2
    · have : q ∈ fi ++ fr := (List.Perm.append_left fi g2).mem_iff.mp hq
      simpa using h3.mem_iff.mpr this
end

/-! ### the judgements -/
def tS (K : KW) (Wx : WX) (kp : List Nat) (f : WS) : TS := fun D σ H => ∃ B ρ fp X E, W K B H σ ρ fp ∧ f X E ρ ∧
  (∀ σ' ρ' B' H', E.nx ρ' → PostG K kp σ B H fp σ' [] ρ' [] B' H' → D.nx σ' H') ∧
  (∀ d σ' ρ' v B' H', E.rt d ρ' → PostG K kp σ B H fp σ' [.val d] ρ' [v] B' H' → D.rt v H') ∧
  (∀ σ' ρ' B' H', E.bk ρ' → PostG K kp σ B H fp σ' [] ρ' [] B' H' → D.bk σ' H') ∧
  (∀ σ' ρ' B' H', E.ct ρ' → PostG K kp σ B H fp σ' [] ρ' [] B' H' → D.ct σ' H') ∧
  (∀ x σ' ρ' c d B' H', X x ρ' → PostXS K kp σ B H fp σ' x ρ' c d B' H' → Wx c d σ' H')
abbrev PFS (X : Cx) (Wx : WX) (kp : List Nat) (st : Stmt) (f : WS) : Prop := PS X st (tS X.kw Wx kp f)
abbrev PFSs (X : Cx) (Wx : WX) (kp : List Nat) (st : List Stmt) (f : WS) : Prop := PSs X st (tS X.kw Wx kp f)
theorem ps_imp {X : Cx} {st : Stmt} {t t' : TS} (h : PS X st t) (i : ∀ D σ H, t' D σ H → t D σ H) : PS X st t' := ⟨fun pins s σ H D I hw => h.run pins s σ H D I (i _ _ _ hw)⟩
theorem pss_imp {X : Cx} {st : List Stmt} {t t' : TS} (h : PSs X st t) (i : ∀ D σ H, t' D σ H → t D σ H) : PSs X st t' := ⟨fun pins s σ H D I hw => h.run pins s σ H D I (i _ _ _ hw)⟩

/-- the wish of an expression within a statement: the slots as they stand -/
def wNext : WS := fun _ E ρ => E.nx ρ
def wSeq (f g : WS) : WS := fun X E ρ => f X { E with nx := g X E } ρ
def wBreak : WS := fun _ E ρ => E.bk ρ
def wCont : WS := fun _ E ρ => E.ct ρ
def wNever : WS := fun _ _ _ => False
def wAsg (i : Nat) (f : WE) : WS := fun X E ρ => f X ρ fun r ρ1 => E.nx ((r.en ρ1).set i (r.tk ρ1))
def wExpr (f : WE) : WS := fun X E ρ => f X ρ fun _ ρ1 => E.nx ρ1
def wIf (c : WT) (f g : WS) : WS := fun X E ρ => c X ρ fun b ρ1 => if b = true then f X E ρ1 else g X E ρ1
def wRet (kp : List Nat) (f : WE) : WS := fun X E ρ => f X ρ fun r ρ1 => match r with
  | .val d => E.rt d ρ1
  | .slot i => if i ∈ kp then E.rt (dAt ρ1 i).sh (ρ1.set i (dAt ρ1 i).sh) else E.rt (dAt ρ1 i) (ρ1.set i .und)
def wRetN : WS := fun _ E ρ => E.rt .non ρ
section
variable {X : Cx} {Wx : WX} {kp : List Nat}
theorem imp_next {K : KW} (D : Ends) (σ : St) (H : Hp) (h : tS K Wx kp wNext D σ H) : tNext D σ H := by
  obtain ⟨B, ρ, fp, Xd, E, w, hf, hn, _⟩ := h
  exact hn σ ρ B H hf w.g
theorem imp_break {K : KW} (D : Ends) (σ : St) (H : Hp) (h : tS K Wx kp wBreak D σ H) : tBreak D σ H := by
  obtain ⟨B, ρ, fp, Xd, E, w, hf, _, _, hn, _⟩ := h
  exact hn σ ρ B H hf w.g
theorem imp_cont {K : KW} (D : Ends) (σ : St) (H : Hp) (h : tS K Wx kp wCont D σ H) : tCont D σ H := by
  obtain ⟨B, ρ, fp, Xd, E, w, hf, _, _, _, hn, _⟩ := h
  exact hn σ ρ B H hf w.g
theorem imp_never {K : KW} (D : Ends) (σ : St) (H : Hp) (h : tS K Wx kp wNever D σ H) : tNever D σ H := by
  obtain ⟨B, ρ, fp, Xd, E, w, hf, _⟩ := h
  exact hf
theorem imp_seq {K : KW} {f g : WS} (D : Ends) (σ : St) (H : Hp) (h : tS K Wx kp (wSeq f g) D σ H) : tSeq (tS K Wx kp f) (tS K Wx kp g) D σ H := by
  obtain ⟨B, ρ, fp, Xd, E, w, hf, hn, hr, hb, hc, hx⟩ := h
  refine ⟨B, ρ, fp, Xd, { E with nx := g Xd E }, w, hf, fun σ1 ρ1 B1 H1 h1 p1 => ?_, hr, hb, hc, hx⟩
  obtain ⟨f1, w1, k, kx⟩ := p1.step
  exact ⟨B1, ρ1, f1, Xd, E, w1, h1, fun σ' ρ' B' H' h p => hn σ' ρ' B' H' h (k p), fun d σ' ρ' v B' H' h p => hr d σ' ρ' v B' H' h (k p),
    fun σ' ρ' B' H' h p => hb σ' ρ' B' H' h (k p), fun σ' ρ' B' H' h p => hc σ' ρ' B' H' h (k p), fun x σ' ρ' c d B' H' h p => hx x σ' ρ' c d B' H' h (kx p)⟩
theorem imp_asg {K : KW} {i : Nat} {f : WE} (hi : i ∉ kp) (D : Ends) (σ : St) (H : Hp) (h : tS K Wx kp (wAsg i f) D σ H) : tAsg (tE K Wx f) (gName i) D σ H := by
  obtain ⟨B, ρ, fp, Xd, E, w, hf, hn, hr, hb, hc, hx⟩ := h
  refine ⟨B, ρ, fp, Xd, _, w, hf, fun r ρ1 v B1 H1 h1 p1 => ?_, fun x ρ' c d B' H' h p => hx x σ ρ' c d B' H' h p.xs⟩
  obtain ⟨B2, p2⟩ := p1.take
  exact hn _ _ B2 H1 h1 (p2.setSlot hi)
theorem imp_expr {K : KW} {f : WE} (D : Ends) (σ : St) (H : Hp) (h : tS K Wx kp (wExpr f) D σ H) : tDrop (tE K Wx f) D σ H := by
  obtain ⟨B, ρ, fp, Xd, E, w, hf, hn, hr, hb, hc, hx⟩ := h
  exact ⟨B, ρ, fp, Xd, _, w, hf, fun r ρ1 v B1 H1 h1 p1 => hn _ _ B1 H1 h1 p1.drop.g, fun x ρ' c d B' H' h p => hx x σ ρ' c d B' H' h p.xs⟩
theorem imp_if {K : KW} {c : WT} {f g : WS} (D : Ends) (σ : St) (H : Hp) (h : tS K Wx kp (wIf c f g) D σ H) : tIfS (tT K Wx c) (tS K Wx kp f) (tS K Wx kp g) D σ H := by
  obtain ⟨B, ρ, fp, Xd, E, w, hf, hn, hr, hb, hc, hx⟩ := h
  refine ⟨B, ρ, fp, Xd, _, w, hf, fun b ρ1 B1 H1 h1 p1 => ?_, fun x ρ' c d B' H' h p => hx x σ ρ' c d B' H' h p.xs⟩
  obtain ⟨f1, w1, k, kx⟩ := p1.stepG (kp := kp)
  have fin : ∀ u : WS, u Xd E ρ1 → tS K Wx kp u D σ H1 := fun u hu => ⟨B1, ρ1, f1, Xd, E, w1, hu, fun σ' ρ' B' H' h p => hn σ' ρ' B' H' h (k p), fun d σ' ρ' v B' H' h p => hr d σ' ρ' v B' H' h (k p),
    fun σ' ρ' B' H' h p => hb σ' ρ' B' H' h (k p), fun σ' ρ' B' H' h p => hc σ' ρ' B' H' h (k p), fun x σ' ρ' c d B' H' h p => hx x σ' ρ' c d B' H' h (kx p)⟩
  cases b with
  | true => exact fin f h1
  | false => exact fin g h1
theorem imp_ret {K : KW} {f : WE} (D : Ends) (σ : St) (H : Hp) (h : tS K Wx kp (wRet kp f) D σ H) : tRet (tE K Wx f) D σ H := by
  obtain ⟨B, ρ, fp, Xd, E, w, hf, hn, hr, hb, hc, hx⟩ := h
  refine ⟨B, ρ, fp, Xd, _, w, hf, fun r ρ1 v B1 H1 h1 p1 => ?_, fun x ρ' c d B' H' h p => hx x σ ρ' c d B' H' h p.xs⟩
  cases r with
  | val d => exact hr d σ ρ1 v B1 H1 h1 p1.g
  | slot i =>
    by_cases c : i ∈ kp
    · have h1 : (if i ∈ kp then E.rt (dAt ρ1 i).sh (ρ1.set i (dAt ρ1 i).sh) else E.rt (dAt ρ1 i) (ρ1.set i .und)) := h1
      rw [if_pos c] at h1
      obtain ⟨B2, p2⟩ := p1.take
      exact hr _ σ _ v B2 H1 h1 p2.g
    · have h1 : (if i ∈ kp then E.rt (dAt ρ1 i).sh (ρ1.set i (dAt ρ1 i).sh) else E.rt (dAt ρ1 i) (ρ1.set i .und)) := h1
      rw [if_neg c] at h1
      exact hr _ σ _ v B1 H1 h1 p1.move.g
theorem imp_retN {K : KW} (D : Ends) (σ : St) (H : Hp) (h : tS K Wx kp wRetN D σ H) : tRetN D σ H := by
  obtain ⟨B, ρ, fp, Xd, E, w, hf, hn, hr, hb, hc, hx⟩ := h
  exact hr .non σ ρ .non B H hf ⟨fun _ _ => rfl, Tr.refl, w.ex, [], fp, .val (f1 := []) (f2 := []) (.sh .non) .nil rfl, w.os, w.nd, Sub.refl⟩
end

/-! ### loops -/
def wWhile (c : WT) (f : WS) : WS := fun X E ρ => ∃ I : Nat → List D → Prop, (∃ m, I m ρ) ∧ ∀ m ρ, I m ρ →
  c X ρ fun b ρ1 => if b = true then f X { E with nx := fun ρ' => ∃ m', m' < m ∧ I m' ρ', ct := fun ρ' => ∃ m', m' < m ∧ I m' ρ', bk := E.nx } ρ1 else E.nx ρ1
/-- what a target does with a datum -/
abbrev WG := D → List D → (List D → Prop) → Prop
def gN (i : Nat) : WG := fun d ρ P => P (ρ.set i d)
def wForL (g : WG) (f : WS) (X : XD) (E : WEnds) : List D → List D → Prop
  | [], ρ => E.nx ρ
  | d :: ds, ρ => g d ρ fun ρ1 => f X { E with nx := wForL g f X E ds, ct := wForL g f X E ds, bk := E.nx } ρ1
def wForR (i : Nat) (f : WS) (X : XD) (E : WEnds) (lo : Int) : Nat → Nat → List D → Prop
  | _, 0, ρ => E.nx ρ
  | k, n + 1, ρ => f X { E with nx := wForR i f X E lo (k + 1) n, ct := wForR i f X E lo (k + 1) n, bk := E.nx } (ρ.set i (.int (lo + k)))
section
variable {X : Cx} {Wx : WX} {kp : List Nat}
theorem imp_while {K : KW} {c : WT} {f : WS} (D : Ends) (σ : St) (H : Hp) (h : tS K Wx kp (wWhile c f) D σ H) : tWhile (tT K Wx c) (tS K Wx kp f) D σ H := by
  obtain ⟨B, ρ, fp, Xd, E, w, ⟨I, ⟨m0, hm0⟩, hI⟩, hn, hr, hb, hc, hx⟩ := h
  refine ⟨fun m σ1 H1 => ∃ B1 ρ1, I m ρ1 ∧ PostG K kp σ B H fp σ1 [] ρ1 [] B1 H1, ⟨m0, B, ρ, hm0, w.g⟩, fun m σ1 H1 ⟨B1, ρ1, i1, p1⟩ => ?_⟩
  obtain ⟨f1, w1, k, kx⟩ := p1.step
  have z := hI m ρ1 i1
  refine ⟨B1, ρ1, f1, Xd, _, w1, z, fun b ρ2 B2 H2 h2 p2 => ?_, fun x ρ' c d B' H' h p => hx x σ1 ρ' c d B' H' h (kx p.xs)⟩
  cases b with
  | false => exact hn σ1 ρ2 B2 H2 h2 (k p2.g)
  | true =>
    obtain ⟨f2, w2, k2, kx2⟩ := p2.stepG (kp := kp)
    refine ⟨fun σ' H' => ∃ B' ρ', (∃ m', m' < m ∧ I m' ρ') ∧ PostG K kp σ B H fp σ' [] ρ' [] B' H', fun σ' H' ⟨B', ρ', ⟨m', lt, i'⟩, p'⟩ => ⟨m', lt, B', ρ', i', p'⟩, ?_⟩
    exact ⟨B2, ρ2, f2, Xd, _, w2, h2, fun σ' ρ' B' H' h p => ⟨B', ρ', h, k (k2 p)⟩, fun d σ' ρ' v B' H' h p => hr d σ' ρ' v B' H' h (k (k2 p)),
      fun σ' ρ' B' H' h p => hn σ' ρ' B' H' h (k (k2 p)), fun σ' ρ' B' H' h p => ⟨B', ρ', h, k (k2 p)⟩, fun x σ' ρ' c d B' H' h p => hx x σ' ρ' c d B' H' h (kx (kx2 p))⟩
end
end FL

end
section
set_option maxHeartbeats 1000000
/-! FL7: for loops, comprehensions. -/
namespace FL
open PySem PySem.Spec PyProof.Rows L2

/-- what is walked: a list or a tuple -/
def iSeq (K : PySem.W.Frag) (tl : TE) : TI := fun σ H R => tl σ H fun x H1 => (∃ a, x = .ref a ∧ (∃ xs, SqL K H1 a xs) ∧ R (Itl K a) H1) ∨ (∃ a, x = .ref a ∧ (∃ xs, SqT K H1 a xs) ∧ R (Itt K a) H1)
theorem pi_seq {X : Cx} {tg l : Expr} {tl : TE} (hl : PE X l tl) : PI X tg l (iSeq X.K tl) := ⟨fun pins s σ H R I h =>
  thn (hl.run pins s σ H _ I h) fun v s1 ⟨x, H1, I1, r1, q1⟩ => by
    have fok : ∀ b ∈ [s1.heap.objs.size], FpOk X pins H1 b := fun b hb => by
      rw [List.mem_singleton.mp hb]
      exact I1.fpOk (Nat.le_refl _) (I1.hok.fresh (Nat.le_refl _))
    rcases q1 with ⟨a, rfl, ⟨xs, hq⟩, q⟩ | ⟨a, rfl, ⟨xs, hq⟩, q⟩
    · cases r1
      obtain ⟨its, _, p, _⟩ := I1.list hq
      exact wpAny_pyIter_list p.isList ⟨_, [s1.heap.objs.size], _, _, H1, rfl, I1.kept (t' := s1.toks) (fun _ _ e => Heap.get?_push_of_some _ e), turn_list a _, ⟨_, Heap.get?_push_size _ rfl, rfl, rfl⟩, fok, q⟩
    · cases r1
      obtain ⟨its, _, p, _⟩ := I1.tuple hq
      exact wpAny_pyIter_tuple (show s1.heap.IsTuple a its.toArray from p) ⟨_, [s1.heap.objs.size], _, _, H1, rfl, I1.kept (t' := s1.toks) (fun _ _ e => Heap.get?_push_of_some _ e), turn_tuple a _, ⟨_, Heap.get?_push_size _ rfl, rfl, rfl⟩, fok, q⟩⟩

/-- a target by data: what it stores -/
def GOk (K : KW) (kp : List Nat) (t : TG) (g : WG) : Prop := ∀ (σ : St) (B H : Hp) (ρ : List D) (fp : List Addr) (v : V) (d : D) (P : List D → Prop) (Q : St → Hp → Prop), W K B H σ ρ fp → Rep K B v d → g d ρ P →
  (∀ σ' ρ', P ρ' → PostG K kp σ B H fp σ' [] ρ' [] B H → Q σ' H) → t v σ H Q
theorem gok_name {K : KW} {kp : List Nat} {i : Nat} (hi : i ∉ kp) : GOk K kp (gName i) (gN i) := by
  intro σ B H ρ fp v d P Q w r h k
  have p : PostRs K σ B H fp [.val d] ρ [v] B H := ⟨Tr.refl, w.ex, [], fp, .val (f1 := []) (f2 := []) (.sh r) .nil rfl, w.os, w.nd, Sub.refl⟩
  exact k _ _ h (p.setSlot hi)
/-- (a, b, ..): plain targets -/
def gNs : List Nat → List D → List D → (List D → Prop) → Prop
  | [], [], ρ, P => P ρ
  | i :: is, d :: ds, ρ, P => gNs is ds (ρ.set i d) P
  | _, _, _, _ => False
def gT (is : List Nat) : WG := fun d ρ P => ∃ xs, d.tsq = some xs ∧ gNs is xs ρ P
def gNsT : List Nat → TGs
  | [] => gNil
  | i :: is => gCons (gName i) (gNsT is)
theorem gns_ok {K : KW} {kp : List Nat} : ∀ {is : List Nat} (hi : ∀ i ∈ is, i ∉ kp) {σ : St} {B H : Hp} {ρ : List D} {fp : List Addr} {vs : List V} {ds : List D} {P : List D → Prop} {Q : St → Hp → Prop}, W K B H σ ρ fp → Reps K B vs ds → gNs is ds ρ P →
    (∀ σ' ρ', P ρ' → PostG K kp σ B H fp σ' [] ρ' [] B H → Q σ' H) → gNsT is vs σ H Q
  | [], _, σ, B, H, ρ, fp, vs, ds, P, Q, w, r, h, k => by
    cases r with
    | nil => exact ⟨rfl, k σ ρ h w.g⟩
    | cons => exact h.elim
  | i :: is, hi, σ, B, H, ρ, fp, vs, ds, P, Q, w, r, h, k => by
    cases r with
    | nil => exact h.elim
    | @cons v d vs ds a b =>
      have p : PostRs K σ B H fp [.val d] ρ [v] B H := ⟨Tr.refl, w.ex, [], fp, .val (f1 := []) (f2 := []) (.sh a) .nil rfl, w.os, w.nd, Sub.refl⟩
      obtain ⟨f1, w1, k1, _⟩ := (p.setSlot (kp := kp) (hi i List.mem_cons_self)).step
      exact ⟨v, vs, rfl, gns_ok (fun j hj => hi j (List.mem_cons_of_mem _ hj)) w1 b h fun σ' ρ' hp pg => k σ' ρ' hp (k1 pg)⟩
theorem gns_len : ∀ {is : List Nat} {ds ρ : List D} {P : List D → Prop}, gNs is ds ρ P → ds.length = is.length
  | [], [], _, _, _ => rfl
  | [], _ :: _, _, _, h => h.elim
  | _ :: _, [], _, _, h => h.elim
  | i :: is, d :: ds, ρ, P, h => by
    rw [List.length_cons, List.length_cons, gns_len (is := is) (ds := ds) (ρ := ρ.set i d) (P := P) h]
theorem gok_tup {K : KW} {kp : List Nat} {is : List Nat} (hi : ∀ i ∈ is, i ∉ kp) : GOk K kp (gTup K.F is.length (gNsT is)) (gT is) := by
  intro σ B H ρ fp v d P Q w r h k
  obtain ⟨xs, h1, h2⟩ := h
  obtain ⟨p, vs, rfl, s, r2⟩ := (OS.sh (H := H) r).tsq w.ex h1
  exact ⟨p, vs, rfl, s, by rw [r2.length]; exact gns_len h2, gns_ok hi w r2 h2 k⟩

theorem sh_pl (d : D) : d.sh.pl = true := by cases d <;> rfl
def wFor (f : WE) (g : WG) (b : WS) : WS := fun X E ρ => f X ρ fun r ρ1 => ∃ xs, ((r.tk ρ1).sh).sq = some xs ∧ wForL g b X E xs (r.en ρ1)
section
variable {X : Cx} {Wx : WX} {kp : List Nat}
/-- the walk over a sequence that stands -/
theorem for_core {K : KW} {tg : TG} {g : WG} {b : WS} (hg : GOk K kp tg g) {Dn : Ends} {σ : St} {B H B1 H1 : Hp} {fp : List Addr} {ρ1 : List FL.D} {Xd : XD} {E : WEnds} {J : It} {vs : List V} {ds : List FL.D}
    (p1 : PostG K kp σ B H fp σ [] ρ1 [] B1 H1) (r : Reps K B1 vs ds) (hw : wForL g b Xd E ds ρ1)
    (go : ∀ i H', Ex B1 H' → i < vs.length → J.go i H') (stop : ∀ H', Ex B1 H' → J.stop vs.length H') (yld : ∀ i H' x H'', Ex B1 H' → J.yld i H' x H'' → H'' = H' ∧ (∀ v, vs[i]? = some v → x = v))
    (hn : ∀ σ' ρ' B' H', E.nx ρ' → PostG K kp σ B H fp σ' [] ρ' [] B' H' → Dn.nx σ' H')
    (hr : ∀ d σ' ρ' v B' H', E.rt d ρ' → PostG K kp σ B H fp σ' [.val d] ρ' [v] B' H' → Dn.rt v H')
    (hx : ∀ x σ' ρ' c d B' H', Xd x ρ' → PostXS K kp σ B H fp σ' x ρ' c d B' H' → Wx c d σ' H') :
    ∃ W : Nat → Nat → St → Hp → Prop, (∃ m, W 0 m σ H1) ∧ ∀ i m σ H, W i m σ H →
      (J.stop i H ∧ Dn.nx σ H) ∨ (J.go i H ∧ ∃ N : St → Hp → Prop, (∀ σ' H', N σ' H' → ∃ m', m' < m ∧ W (i + 1) m' σ' H') ∧ ∀ x H', J.yld i H x H' → tg x σ H' fun σ2 H2 => tS K Wx kp b { Dn with nx := N, ct := N, bk := Dn.nx } σ2 H2) := by
  have inv : ∀ i m σ2 H2, (m = vs.length - i ∧ i ≤ vs.length ∧ ∃ B2 ρ2, wForL g b Xd E (ds.drop i) ρ2 ∧ PostG K kp σ B H fp σ2 [] ρ2 [] B2 H2 ∧ Ex B1 B2) → (J.stop i H2 ∧ Dn.nx σ2 H2) ∨ (J.go i H2 ∧ ∃ N : St → Hp → Prop, (∀ σ' H', N σ' H' → ∃ m', m' < m ∧
      (m' = vs.length - (i + 1) ∧ i + 1 ≤ vs.length ∧ ∃ B2 ρ2, wForL g b Xd E (ds.drop (i + 1)) ρ2 ∧ PostG K kp σ B H fp σ' [] ρ2 [] B2 H' ∧ Ex B1 B2)) ∧ ∀ x H', J.yld i H2 x H' → tg x σ2 H' fun σ3 H3 => tS K Wx kp b { Dn with nx := N, ct := N, bk := Dn.nx } σ3 H3) := by
    rintro i m σ2 H2 ⟨hm, hi, B2, ρ2, hwi, p2, e2⟩
    have ex2 : Ex B1 H2 := e2.trans p2.ex
    by_cases hlt : i < vs.length
    · have hd : i < ds.length := by rw [← r.length]; exact hlt
      rw [List.drop_eq_getElem_cons hd] at hwi
      refine .inr ⟨go i H2 ex2 hlt, fun σ' H' => ∃ B3 ρ3, wForL g b Xd E (ds.drop (i + 1)) ρ3 ∧ PostG K kp σ B H fp σ' [] ρ3 [] B3 H' ∧ Ex B1 B3, fun σ' H' ⟨B3, ρ3, q1, q2, q3⟩ => ⟨_, by omega, rfl, hlt, B3, ρ3, q1, q2, q3⟩, fun x H' hy => ?_⟩
      obtain ⟨rfl, hv⟩ := yld i H2 x H' ex2 hy
      obtain ⟨v, a1, a2⟩ := r.get (List.getElem?_eq_getElem hd)
      have ev := hv v a1
      subst ev
      obtain ⟨f2, w2, k2, kx2⟩ := p2.step
      refine hg σ2 B2 H' ρ2 f2 x _ _ _ w2 (a2.mono e2) hwi fun σ3 ρ3 h3 p3 => ?_
      obtain ⟨f3, w3, k3, kx3⟩ := p3.step
      exact ⟨B2, ρ3, f3, Xd, _, w3, h3, fun σ' ρ' B' H' h p => ⟨B', ρ', h, k2 (k3 p), e2.trans p.tr.bb⟩, fun d σ' ρ' v B' H' h p => hr d σ' ρ' v B' H' h (k2 (k3 p)),
        fun σ' ρ' B' H' h p => hn σ' ρ' B' H' h (k2 (k3 p)), fun σ' ρ' B' H' h p => ⟨B', ρ', h, k2 (k3 p), e2.trans p.tr.bb⟩, fun x σ' ρ' c d B' H' h p => hx x σ' ρ' c d B' H' h (kx2 (kx3 p))⟩
    · have ei : i = vs.length := by omega
      subst ei
      rw [List.drop_eq_nil_of_le (by rw [r.length]; exact Nat.le_refl _)] at hwi
      exact .inl ⟨stop H2 ex2, hn σ2 ρ2 B2 H2 hwi p2⟩
  exact ⟨_, ⟨_, rfl, Nat.zero_le _, B1, ρ1, by rw [List.drop_zero]; exact hw, p1, Ex.refl B1⟩, inv⟩
theorem imp_for {K : KW} {f : WE} {tg : TG} {g : WG} {b : WS} (hg : GOk K kp tg g) (Dn : Ends) (σ : St) (H : Hp) (h : tS K Wx kp (wFor f g b) Dn σ H) : tFor (iSeq K.F (tE K Wx f)) tg (tS K Wx kp b) Dn σ H := by
  obtain ⟨B, ρ, fp, Xd, E, w, hf, hn, hr, hb, hc, hx⟩ := h
  refine ⟨B, ρ, fp, Xd, _, w, hf, fun r ρ1 v B1 H1 ⟨xs, h1, h2⟩ p1 => ?_, fun x ρ' c d B' H' h p => hx x σ ρ' c d B' H' h p.xs⟩
  obtain ⟨B2, p2⟩ := p1.share
  obtain ⟨fa, oa⟩ := p2.cont.one
  have p2' : PostG K kp σ B H fp σ [] (r.en ρ1) [] B2 H1 := p2.drop.g
  have rep : Rep K B2 v (r.tk ρ1).sh := oa.plain (sh_pl _)
  rcases D.sq_or h1 with z | z
  · obtain ⟨p, vs, rfl, s, rr⟩ := (OS.sh (H := B2) rep).lsq (Ex.refl B2) z
    exact .inl ⟨p, rfl, ⟨vs, ex_l p2.ex s⟩, for_core hg p2' rr h2 (fun i H' e hi => ⟨vs, vs[i], ex_l e s, List.getElem?_eq_getElem hi⟩) (fun H' e => ⟨vs, ex_l e s, Nat.le_refl _⟩)
      (fun i H' x H'' e ⟨y1, y2⟩ => ⟨y1, fun v hv => by have q := y2 vs (ex_l e s); rw [hv] at q; exact (Option.some.inj q).symm⟩) hn hr hx⟩
  · obtain ⟨p, vs, rfl, s, rr⟩ := (OS.sh (H := B2) rep).tsq (Ex.refl B2) z
    exact .inr ⟨p, rfl, ⟨vs, ex_t p2.ex s⟩, for_core hg p2' rr h2 (fun i H' e hi => ⟨vs, vs[i], ex_t e s, List.getElem?_eq_getElem hi⟩) (fun H' e => ⟨vs, ex_t e s, Nat.le_refl _⟩)
      (fun i H' x H'' e ⟨y1, y2⟩ => ⟨y1, fun v hv => by have q := y2 vs (ex_t e s); rw [hv] at q; exact (Option.some.inj q).symm⟩) hn hr hx⟩
/-- for i in range(n), range(a, b) -/
def rgOk (j : Int) : Prop := -(2 ^ 62) ≤ j ∧ j < 2 ^ 62
def wRng1 (f : WA) (i : Nat) (b : WS) : WS := fun X E ρ => f X ρ fun rs ρ1 => ∃ j : Int, rs.map (R.get ρ1) = [.int j] ∧ rgOk j ∧ wForR i b X E 0 0 j.toNat ρ1
def wRng2 (f : WA) (i : Nat) (b : WS) : WS := fun X E ρ => f X ρ fun rs ρ1 => ∃ a j : Int, rs.map (R.get ρ1) = [.int a, .int j] ∧ rgOk a ∧ rgOk j ∧ wForR i b X E a 0 (j - a).toNat ρ1
theorem rng_core {K : KW} {ix : Nat} {b : WS} (hi : ix ∉ kp) {Dn : Ends} {σ : St} {B H B1 H1 : Hp} {fp : List Addr} {ρ1 : List FL.D} {Xd : XD} {E : WEnds} {lo : Int} {n : Nat}
    (p1 : PostG K kp σ B H fp σ [] ρ1 [] B1 H1) (hw : wForR ix b Xd E lo 0 n ρ1)
    (hn : ∀ σ' ρ' B' H', E.nx ρ' → PostG K kp σ B H fp σ' [] ρ' [] B' H' → Dn.nx σ' H')
    (hr : ∀ d σ' ρ' v B' H', E.rt d ρ' → PostG K kp σ B H fp σ' [.val d] ρ' [v] B' H' → Dn.rt v H')
    (hx : ∀ x σ' ρ' c d B' H', Xd x ρ' → PostXS K kp σ B H fp σ' x ρ' c d B' H' → Wx c d σ' H') :
    ∃ W : Nat → Nat → St → Hp → Prop, (∃ m, W 0 m σ H1) ∧ ∀ i m σ H, W i m σ H →
      ((Itr lo n).stop i H ∧ Dn.nx σ H) ∨ ((Itr lo n).go i H ∧ ∃ N : St → Hp → Prop, (∀ σ' H', N σ' H' → ∃ m', m' < m ∧ W (i + 1) m' σ' H') ∧ ∀ x H', (Itr lo n).yld i H x H' → gName ix x σ H' fun σ2 H2 => tS K Wx kp b { Dn with nx := N, ct := N, bk := Dn.nx } σ2 H2) := by
  refine ⟨fun i m σ2 H2 => m = n - i ∧ i ≤ n ∧ ∃ B2 ρ2, wForR ix b Xd E lo i (n - i) ρ2 ∧ PostG K kp σ B H fp σ2 [] ρ2 [] B2 H2, ⟨n, by omega, Nat.zero_le _, B1, ρ1, hw, p1⟩, ?_⟩
  rintro i m σ2 H2 ⟨hm, hin, B2, ρ2, hwi, p2⟩
  by_cases hlt : i < n
  · have e : n - i = (n - (i + 1)) + 1 := by omega
    rw [e] at hwi
    refine .inr ⟨hlt, fun σ' H' => ∃ B3 ρ3, wForR ix b Xd E lo (i + 1) (n - (i + 1)) ρ3 ∧ PostG K kp σ B H fp σ' [] ρ3 [] B3 H', fun σ' H' ⟨B3, ρ3, q1, q2⟩ => ⟨_, by omega, rfl, hlt, B3, ρ3, q1, q2⟩, fun x H' hy => ?_⟩
    obtain ⟨rfl, rfl⟩ : H' = H2 ∧ x = .int (lo + i) := hy
    obtain ⟨f2, w2, k2, kx2⟩ := p2.step
    refine gok_name (K := K) (kp := kp) hi σ2 B2 H' ρ2 f2 (.int (lo + i)) (.int (lo + i)) _ _ w2 .int hwi fun σ3 ρ3 h3 p3 => ?_
    obtain ⟨f3, w3, k3, kx3⟩ := p3.step
    exact ⟨B2, ρ3, f3, Xd, _, w3, h3, fun σ' ρ' B' H' h p => ⟨B', ρ', h, k2 (k3 p)⟩, fun d σ' ρ' v B' H' h p => hr d σ' ρ' v B' H' h (k2 (k3 p)),
      fun σ' ρ' B' H' h p => hn σ' ρ' B' H' h (k2 (k3 p)), fun σ' ρ' B' H' h p => ⟨B', ρ', h, k2 (k3 p)⟩, fun x σ' ρ' c d B' H' h p => hx x σ' ρ' c d B' H' h (kx2 (kx3 p))⟩
  · have ei : i = n := by omega
    subst ei
    rw [Nat.sub_self] at hwi
    exact .inl ⟨Nat.le_refl _, hn σ2 ρ2 B2 H2 hwi p2⟩
theorem ints1 {K : KW} {B H : Hp} {vs : List V} {ds : List FL.D} {j : Int} (c : Cont K B H vs ds) (e : ds = [.int j]) : vs = [.int j] := by
  subst e
  cases c with
  | cons a b =>
    cases b
    rw [a.int_of]
theorem ints2 {K : KW} {B H : Hp} {vs : List V} {ds : List FL.D} {i j : Int} (c : Cont K B H vs ds) (e : ds = [.int i, .int j]) : vs = [.int i, .int j] := by
  subst e
  cases c with
  | cons a b =>
    rw [a.int_of, ints1 b rfl]
theorem imp_rng1 {K : KW} {f : WA} {ix : Nat} {b : WS} (hi : ix ∉ kp) (Dn : Ends) (σ : St) (H : Hp) (h : tS K Wx kp (wRng1 f ix b) Dn σ H) : tFor (iRng1 (tA K Wx f)) (gName ix) (tS K Wx kp b) Dn σ H := by
  obtain ⟨B, ρ, fp, Xd, E, w, hf, hn, hr, hb, hc, hx⟩ := h
  refine ⟨B, ρ, fp, Xd, _, w, hf, fun rs ρ1 vs B1 H1 ⟨j, h1, h2, h3⟩ p1 => ?_, fun x ρ' c d B' H' h p => hx x σ ρ' c d B' H' h p.xs⟩
  exact ⟨j, ints1 p1.cont h1, h2.1, h2.2, rng_core hi p1.drop.g h3 hn hr hx⟩
theorem imp_rng2 {K : KW} {f : WA} {ix : Nat} {b : WS} (hi : ix ∉ kp) (Dn : Ends) (σ : St) (H : Hp) (h : tS K Wx kp (wRng2 f ix b) Dn σ H) : tFor (iRng2 (tA K Wx f)) (gName ix) (tS K Wx kp b) Dn σ H := by
  obtain ⟨B, ρ, fp, Xd, E, w, hf, hn, hr, hb, hc, hx⟩ := h
  refine ⟨B, ρ, fp, Xd, _, w, hf, fun rs ρ1 vs B1 H1 ⟨a, j, h1, h2, h2', h3⟩ p1 => ?_, fun x ρ' c d B' H' h p => hx x σ ρ' c d B' H' h p.xs⟩
  exact ⟨a, j, ints2 p1.cont h1, ⟨h2.1, h2.2, h2'.1, h2'.2⟩, rng_core hi p1.drop.g h3 hn hr hx⟩
end
end FL

end
section
set_option maxHeartbeats 1000000
/-! FL8: lists that change. -/
namespace FL
open PySem PySem.Spec PyProof.Rows L2
section
variable {K : KW} {kp : List Nat} {B H B' H' : Hp} {σ σ' : St} {ρ ρ' : List D} {fp : List Addr}
theorem set_self {σ : St} {i : Nat} {v : V} (e : σ[i]? = some (some v)) : σ.set i (some v) = σ := by
  apply List.ext_getElem?
  intro j
  by_cases hj : i = j
  · subst hj
    rw [List.getElem?_set_self (List.getElem?_eq_some_iff.mp e).1, e]
  · rw [List.getElem?_set_ne hj]
theorem dAt_get {i : Nat} (hl : i < ρ.length) : ρ[i]? = some (dAt ρ i) := by
  unfold dAt
  rw [List.getD_eq_getElem?_getD, List.getElem?_eq_getElem hl]
  rfl
/-- what a slot holds becomes a temporary -/
theorem PostRs.out {rs : List R} {vs : List V} {i : Nat} {v : V} (a : PostRs K σ B H fp rs ρ' vs B' H') (e : σ[i]? = some (some v)) :
    PostRs K σ B H fp (.val (dAt ρ' i) :: rs) (ρ'.set i .und) (v :: vs) B' H' := by
  obtain ⟨t1, e1, fd, fs, r1, o1, n1, s1⟩ := a
  have hl : i < ρ'.length := by
    rw [← o1.len]
    exact (List.getElem?_eq_some_iff.mp e).1
  obtain ⟨o, fi, fr, h1, h2, h3, h4⟩ := o1.split (dAt_get hl)
  rw [e] at h1
  cases h1
  have mem : ∀ q ∈ fr, q ∈ fs := fun q hq => h3.mem_iff.mpr (List.mem_append_right _ hq)
  obtain ⟨fp', g1, g2⟩ := h4 (o' := some v) (d' := .und) (Ex.refl B') (fun q hq => (o1.there q (mem q hq)).1) (fun _ _ => rfl) .und
  rw [set_self e] at g1
  have g2 : fp'.Perm fr := by simpa using g2
  have pm : (fd ++ fs).Perm ((fi ++ fd) ++ fp') := by
    refine (List.Perm.append_left fd (h3.trans (List.Perm.append_left fi g2.symm))).trans ?_
    rw [← List.append_assoc]
    exact List.Perm.append_right fp' List.perm_append_comm
  exact ⟨t1, e1, fi ++ fd, fp', .val h2 r1 rfl, g1, pm.nodup_iff.mp n1, fun q hq => s1 q (pm.mem_iff.mpr hq)⟩
/-- and back -/
theorem PostRs.back {rs : List R} {vs : List V} {i : Nat} {v : V} {d : D} (a : PostRs K σ B H fp (.val d :: rs) ρ' (v :: vs) B' H') (e : σ[i]? = some (some v)) : PostRs K σ B H fp rs (ρ'.set i d) vs B' H' := by
  obtain ⟨t1, e1, fd, fs, r1, o1, n1, s1⟩ := a
  cases r1 with
  | @val _ _ _ _ f1 f2 _ os rr z =>
    have hl : i < ρ'.length := by
      rw [← o1.len]
      exact (List.getElem?_eq_some_iff.mp e).1
    obtain ⟨o, fi, fr, h1, h2, h3, h4⟩ := o1.split (dAt_get hl)
    have mem : ∀ q ∈ fr, q ∈ fs := fun q hq => h3.mem_iff.mpr (List.mem_append_right _ hq)
    obtain ⟨fp', g1, g2⟩ := h4 (o' := some v) (d' := d) (Ex.refl B') (fun q hq => (o1.there q (mem q hq)).1) (fun _ _ => rfl) os
    rw [set_self e] at g1
    have n2 : (f1 ++ f2 ++ fs).Nodup := z ▸ n1
    have nfr : fr.Nodup := (List.nodup_append.mp (h3.nodup_iff.mp (List.nodup_append.mp n2).2.1)).2.1
    have n12 := List.nodup_append.mp (List.nodup_append.mp n2).1
    have d12 := (List.nodup_append.mp n2).2.2
    refine ⟨t1, e1, f2, fp', rr, g1, ?_, fun q hq => ?_⟩
    · refine (List.Perm.append_left f2 g2).nodup_iff.mpr ?_
      refine List.nodup_append.mpr ⟨n12.2.1, List.nodup_append.mpr ⟨n12.1, nfr, fun q hq q' hq' e => d12 q (List.mem_append_left _ hq) q' (mem q' hq') e⟩, fun q hq q' hq' e => ?_⟩
      rcases List.mem_append.mp hq' with y | y
      · exact n12.2.2 q' y q hq e.symm
      · exact d12 q (List.mem_append_right _ hq) q' (mem q' y) e
    · rcases List.mem_append.mp hq with y | y
      · exact s1 q (List.mem_append_left _ (z ▸ List.mem_append_right _ y))
      · rcases List.mem_append.mp (g2.mem_iff.mp y) with x | x
        · exact s1 q (List.mem_append_left _ (z ▸ List.mem_append_left _ x))
        · exact s1 q (List.mem_append_right _ (mem q x))
theorem ROs.frame {vs : List V} {rs : List R} (e : Ex B B') (hB : ∀ q ∈ fp, B' q = none) (hH : ∀ q ∈ fp, H' q = H q) (h : ROs K B H σ vs rs fp) : ROs K B' H' σ vs rs fp := by
  induction h with
  | nil => exact .nil
  | val a _ z ih => exact .val (a.frame e (fun q hq => hB q (z ▸ List.mem_append_left _ hq)) fun q hq => hH q (z ▸ List.mem_append_left _ hq)) (ih (fun q hq => hB q (z ▸ List.mem_append_right _ hq)) fun q hq => hH q (z ▸ List.mem_append_right _ hq)) z
  | slot e' _ ih => exact .slot e' (ih hB hH)
theorem OSs.len2 {os : List (Option V)} {ds : List D} {vs : List V} (h : OSs K B H os ds fp) (m : vs.map some = os) : vs.length = ds.length := by
  rw [← h.len, ← m, List.length_map]
theorem OSs.snoc {v : V} {d : D} : ∀ {os : List (Option V)} {vs : List V} {ds : List D} {f1 f2 : List Addr}, OSs K B H os ds f1 → vs.map some = os → OS K B H (some v) d f2 → OSs K B H ((vs ++ [v]).map some) (ds ++ [d]) (f1 ++ f2)
  | _, vs, _, _, f2, .nil, m, h => by
    have z : vs = [] := by simpa using m
    subst z
    exact .cons h .nil (by simp)
  | _, vs, _, _, f2, .cons a b z, m, h => by
    cases vs with
    | nil => cases m
    | cons w vs =>
      have m1 := (List.cons.inj m).1
      have m2 := (List.cons.inj m).2
      subst m1
      exact .cons a (OSs.snoc b m2 h) (by rw [z, List.append_assoc])
/-- one's own list is written: the new items are of these objects -/
theorem PostRs.write {ds ds' : List D} {p : Addr} {vs' : List V} {rs : List R} {vs : List V} {rs0 : List R} {ws0 : List V}
    (a : PostRs K σ B H fp (.val (.own ds) :: rs0) ρ' (.ref p :: ws0) B' H')
    (k : ∀ us f f0, OSs K B' H' (us.map some) ds f → H' p = some (.lst us) → ROs K B' H' σ ws0 rs0 f0 → ∃ g g0 gx, OSs K B' H' (vs'.map some) ds' g ∧ ROs K B' H' σ vs rs g0 ∧ (f ++ f0).Perm ((g ++ g0) ++ gx)) :
    PostRs K σ B H fp (.val (.own ds') :: rs) ρ' (.ref p :: vs) B' (upd H' p (.lst vs')) := by
  obtain ⟨t1, e1, fd, fs, r1, o1, n1, s1⟩ := a
  cases r1 with
  | @val _ _ _ _ f1 f2 _ os rr z =>
    cases os with
    | sh r => cases r
    | @own _ us oo _ f bn l m r =>
      subst m
      obtain ⟨g, g0, gx, h1, h2, h3⟩ := k us f f2 r l rr
      have pm0 : fd.Perm (((p :: g) ++ g0) ++ gx) := by rw [z]; exact List.Perm.cons p h3
      have nd0 : ((((p :: g) ++ g0) ++ gx) ++ fs).Nodup := (List.Perm.append_right fs pm0).nodup_iff.mp n1
      have nd : (((p :: g) ++ g0) ++ fs).Nodup := by
        refine nd0.sublist ?_
        exact List.Sublist.append_right (List.sublist_append_left _ _) fs
      have pm : ∀ q, q ∈ (p :: g) ++ g0 → q ∈ fd := fun q hq => pm0.mem_iff.mpr (List.mem_append_left _ hq)
      have nd1 := List.nodup_append.mp nd
      have ndp : p ∉ g ∧ p ∉ g0 := by
        have q := (List.nodup_cons.mp nd1.1).1
        exact ⟨fun x => q (List.mem_append_left _ x), fun x => q (List.mem_append_right _ x)⟩
      have ndf : p ∉ fs := fun x => nd1.2.2 p List.mem_cons_self p x rfl
      have hin : p ∈ fd ++ fs := List.mem_append_left _ (pm p List.mem_cons_self)
      have mf : ∀ q ∈ fd, q ∈ fd ++ fs := fun q hq => List.mem_append_left _ hq
      have there : ∀ q ∈ g ++ g0, B' q = none := fun q hq => by
        rcases List.mem_append.mp hq with x | x
        · exact (h1.there q x).1
        · exact (h2.there q x).1
      refine ⟨⟨t1.bb, fun q o h n => ?_, t1.bnew⟩, e1.mut bn, (p :: g) ++ g0, fs, ?_, ?_, nd, fun q hq => s1 q ((List.mem_append.mp hq).elim (fun y => List.mem_append_left _ (pm q y)) fun y => List.mem_append_right _ y)⟩
      · have hne : q ≠ p := fun x => by
          subst x
          rcases s1 q hin with y | y
          · exact n y
          · rw [y] at h; cases h
        rw [upd_ne hne]
        exact t1.keep q o h n
      · refine .val (f1 := p :: g) (f2 := g0) (.own bn upd_same rfl ?_) ?_ rfl
        · exact h1.frame (Ex.refl B') (fun q hq => there q (List.mem_append_left _ hq)) fun q hq => upd_ne fun x => ndp.1 (by rw [← x]; exact hq)
        · exact h2.frame (Ex.refl B') (fun q hq => there q (List.mem_append_right _ hq)) fun q hq => upd_ne fun x => ndp.2 (by rw [← x]; exact hq)
      · exact o1.frame (Ex.refl B') (fun q hq => (o1.there q hq).1) fun q hq => upd_ne fun x => ndf (by rw [← x]; exact hq)
/-- appended -/
theorem PostRs.app {ds : List D} {d : D} {p : Addr} {y : V} {rs : List R} {vs : List V} (a : PostRs K σ B H fp (.val (.own ds) :: .val d :: rs) ρ' (.ref p :: y :: vs) B' H') :
    ∃ us, H' p = some (.lst us) ∧ us.length = ds.length ∧ PostRs K σ B H fp (.val (.own (ds ++ [d])) :: rs) ρ' (.ref p :: vs) B' (upd H' p (.lst (us ++ [y]))) := by
  have a' := a
  obtain ⟨_, _, _, _, r1, _⟩ := a'
  cases r1 with
  | val os _ _ =>
    cases os with
    | sh r => cases r
    | @own _ us oo _ f bn l m r =>
      refine ⟨us, l, r.len2 m, a.write fun ws g g0 h1 h2 h3 => ?_⟩
      rw [l] at h2
      cases h2
      cases h3 with
      | @val _ _ _ _ f1 f2 _ os2 rr z => exact ⟨g ++ f1, f2, [], OSs.snoc h1 rfl os2, rr, by rw [z, List.append_nil, List.append_assoc]⟩
end
end FL

end
section
set_option maxHeartbeats 1000000
/-! FL9: append, pop, x[i] = v, x[i] op= v, x op= v. -/
namespace FL
open PySem PySem.Spec PyProof.Rows L2

def D.isOwn : D → Bool
  | .own _ => true
  | _ => false
def wApp (i : Nat) (f : WE) : WE := fun X ρ P => (dAt ρ i).isOwn = true ∧ f X ρ fun r ρ1 => match dAt (r.en ρ1) i with
  | .own xs => xs.length < sizeLine ∧ P (.val .non) ((r.en ρ1).set i (.own (xs ++ [r.tk ρ1])))
  | _ => False
def wPop (i : Nat) : WE := fun _ ρ P => match dAt ρ i with
  | .own xs => ∃ d, xs[xs.length - 1]? = some d ∧ P (.val d) (ρ.set i (.own xs.dropLast))
  | _ => False
def wPopAt (i : Nat) (f : WE) : WE := fun X ρ P => (dAt ρ i).isOwn = true ∧ f X ρ fun r ρ1 => match dAt ρ1 i, r.get ρ1 with
  | .own xs, .int k => ∃ j d, -(2 ^ 63) ≤ k ∧ k < 2 ^ 63 ∧ seqIndex? k xs.length = some j ∧ xs[j]? = some d ∧ P (.val d) (ρ1.set i (.own (xs.eraseIdx j)))
  | _, _ => False
section
variable {K : KW} {kp : List Nat} {B H B' H' : Hp} {σ σ' : St} {ρ ρ' : List D} {fp : List Addr} {Wx : WX}
theorem own_slot {i : Nat} (w : W K B H σ ρ fp) (h : (dAt ρ i).isOwn = true) : ∃ p us xs, σ[i]? = some (some (.ref p)) ∧ dAt ρ i = .own xs ∧ H p = some (.lst us) ∧ us.length = xs.length := by
  have hl : i < ρ.length := by
    by_cases c : i < ρ.length
    · exact c
    · unfold dAt at h
      rw [List.getD_eq_getElem?_getD, List.getElem?_eq_none (by omega)] at h
      cases h
  obtain ⟨o, fi, fr, h1, h2, _⟩ := w.os.split (dAt_get hl)
  cases e : dAt ρ i with
  | own xs =>
    rw [e] at h2
    cases h2 with
    | sh r => cases r
    | own b l m r => exact ⟨_, _, xs, h1, rfl, l, r.len2 m⟩
  | _ => rw [e] at h; cases h
theorem tyV_lst {K : PySem.W.Frag} {p : Addr} {us : List V} (l : H p = some (.lst us)) : tyV K "list" (.ref p) H := .inl ⟨rfl, us, .of l⟩
theorem PostRs.popd {ds : List D} {p : Addr} {us : List V} {j : Nat} {d : D} (a : PostRs K σ B H fp [.val (.own ds)] ρ' [.ref p] B' H') (l : H' p = some (.lst us)) (hj : ds[j]? = some d) :
    ∃ y, us[j]? = some y ∧ PostRs K σ B H fp [.val (.own (ds.eraseIdx j)), .val d] ρ' [.ref p, y] B' (upd H' p (.lst (us.eraseIdx j))) := by
  have key : ∀ {os : List (Option V)} {us : List V} {ds : List D} {j : Nat} {d : D} {f : List Addr}, OSs K B' H' os ds f → us.map some = os → ds[j]? = some d →
      ∃ y g g0, us[j]? = some y ∧ OSs K B' H' ((us.eraseIdx j).map some) (ds.eraseIdx j) g ∧ OS K B' H' (some y) d g0 ∧ f.Perm (g ++ g0) := by
    intro os
    induction os with
    | nil =>
      intro us ds j d f h m e
      cases h
      simp at e
    | cons o os ih =>
      intro us ds j d f h m e
      cases h with
      | @cons _ d0 _ ds f1 f2 _ a b z =>
        cases us with
        | nil => cases m
        | cons u us =>
          have m1 : some u = o := (List.cons.inj m).1
          have m2 := (List.cons.inj m).2
          subst m1
          cases j with
          | zero =>
            have e1 : d0 = d := Option.some.inj e
            subst e1
            exact ⟨u, f2, f1, rfl, by rw [List.eraseIdx_cons_zero, List.eraseIdx_cons_zero, m2]; exact b, a, by rw [z]; exact List.perm_append_comm⟩
          | succ j =>
            obtain ⟨y, g, g0, k1, k2, k3, k4⟩ := ih b m2 (show ds[j]? = some d by simpa using e)
            refine ⟨y, f1 ++ g, g0, by simpa using k1, ?_, k3, ?_⟩
            · rw [List.eraseIdx_cons_succ, List.eraseIdx_cons_succ, List.map_cons]
              exact .cons a k2 rfl
            · rw [z, List.append_assoc]
              exact List.Perm.append_left f1 k4
  have a' := a
  obtain ⟨_, _, _, _, r1, _⟩ := a'
  cases r1 with
  | val os _ _ =>
    cases os with
    | sh r => cases r
    | @own _ us2 oo _ f bn l2 m r =>
      rw [l] at l2
      cases l2
      obtain ⟨y, g, g0, k1, k2, k3, k4⟩ := key r m hj
      refine ⟨y, k1, a.write fun ws f' f0 h1 h2 h3 => ?_⟩
      rw [l] at h2
      cases h2
      cases h3
      obtain ⟨y', g', g0', q1, q2, q3, q4⟩ := key h1 rfl hj
      rw [k1] at q1
      cases q1
      exact ⟨g', g0', [], q2, .val (f2 := []) q3 .nil (by simp), by simpa using q4⟩
theorem imp_app {i : Nat} {f : WE} (σ : St) (H : Hp) (Q : VK) (h : tE K Wx (wApp i f) σ H Q) : tBM K.F "list" rAppend (tVar i) (tCons (tE K Wx f) tNil) σ H Q := by
  obtain ⟨B, ρ, fp, Xd, P, w, ⟨ho, hf⟩, hQ, hX⟩ := h
  obtain ⟨p, us, xs, e1, e2, e3, _⟩ := own_slot w ho
  refine ⟨.ref p, e1, tyV_lst e3, B, ρ, fp, Xd, _, w, hf, fun r ρ1 v B1 H1 h1 p1 => ?_, hX⟩
  obtain ⟨B2, p2⟩ := p1.take
  have p3 := p2.out e1
  split at h1
  · rename_i ys hy
    rw [hy] at p3
    obtain ⟨us1, l1, l2, p4⟩ := p3.app
    obtain ⟨h1, h2⟩ := h1
    refine ⟨p, us1, v, rfl, rfl, l1, by rw [l2]; exact h1, hQ _ _ .non B2 _ h2 ?_⟩
    have p5 := p4.back e1
    rw [List.set_set] at p5
    exact p5.new (.same p5.ex .non)
  · exact h1.elim
theorem imp_pop {i : Nat} (σ : St) (H : Hp) (Q : VK) (h : tE K Wx (wPop i) σ H Q) : tBM0 K.F "list" rPop (tVar i) σ H Q := by
  obtain ⟨B, ρ, fp, Xd, P, w, hf, hQ, hX⟩ := h
  have ho : (dAt ρ i).isOwn = true := by
    have hf : (match dAt ρ i with
      | .own xs => ∃ d, xs[xs.length - 1]? = some d ∧ P (.val d) (ρ.set i (.own xs.dropLast))
      | _ => False) := hf
    split at hf
    · rename_i q; rw [q]; rfl
    · exact hf.elim
  obtain ⟨p, us, xs, e1, e2, e3, e4⟩ := own_slot w ho
  have hf : (match dAt ρ i with
      | .own xs => ∃ d, xs[xs.length - 1]? = some d ∧ P (.val d) (ρ.set i (.own xs.dropLast))
      | _ => False) := hf
  rw [e2] at hf
  obtain ⟨d, h1, h2⟩ := hf
  have p3 := (w.refl).out e1
  rw [e2] at p3
  obtain ⟨y, k1, k2⟩ := p3.popd e3 h1
  have z1 : xs.eraseIdx (xs.length - 1) = xs.dropLast := List.eraseIdx_length_sub_one
  have z2 : us.eraseIdx (xs.length - 1) = us.dropLast := by rw [← e4]; exact List.eraseIdx_length_sub_one
  rw [z1, z2] at k2
  refine ⟨.ref p, e1, tyV_lst e3, p, us, y, rfl, rfl, e3, by rw [e4]; exact k1, ?_⟩
  have p5 := k2.back e1
  rw [List.set_set] at p5
  exact hQ _ _ y B _ h2 p5
theorem imp_popAt {i : Nat} {f : WE} (σ : St) (H : Hp) (Q : VK) (h : tE K Wx (wPopAt i f) σ H Q) : tBM K.F "list" rPopAt (tVar i) (tCons (tE K Wx f) tNil) σ H Q := by
  obtain ⟨B, ρ, fp, Xd, P, w, ⟨ho, hf⟩, hQ, hX⟩ := h
  obtain ⟨p, us, xs, e1, e2, e3, _⟩ := own_slot w ho
  refine ⟨.ref p, e1, tyV_lst e3, B, ρ, fp, Xd, _, w, hf, fun r ρ1 v B1 H1 h1 p1 => ?_, hX⟩
  obtain ⟨fa, oa⟩ := p1.cont.one
  split at h1
  · rename_i ys k hy hk
    rw [hk] at oa
    have p3 := p1.drop.out e1
    obtain ⟨fs, w1, _⟩ := p1.step
    obtain ⟨p', us1, xs1, g1, g2, g3, g4⟩ := own_slot w1 (i := i) (by rw [hy]; rfl)
    rw [e1] at g1
    cases g1
    rw [hy] at g2
    cases g2
    rw [hy] at p3
    obtain ⟨j, d, h1, h2, h3, h4, h5⟩ := h1
    obtain ⟨y, k1, k2⟩ := p3.popd g3 h4
    have p5 := k2.back e1
    rw [List.set_set] at p5
    exact ⟨p, us1, k, j, y, rfl, by rw [oa.int_of], g3, h1, h2, by rw [g4]; exact h3, k1, hQ _ _ y B1 _ h5 p5⟩
  · exact h1.elim

/-! ### x[i] = v -/
def wSetIx (i : Nat) (f g : WE) : WS := fun X E ρ => f X ρ fun r ρ1 => (dAt (r.en ρ1) i).isOwn = true ∧ g X (r.en ρ1) fun r2 ρ2 => match dAt ρ2 i, r2.get ρ2 with
  | .own xs, .int k => ∃ j, ixN xs.length k = some j ∧ E.nx (ρ2.set i (.own (xs.set j (r.tk ρ1))))
  | _, _ => False
/-- x[i] op= e -/
def wAugIx (op : D → D → (D → Prop) → Prop) (i : Nat) (g f : WE) : WS := fun X E ρ => (dAt ρ i).isOwn = true ∧ g X ρ fun r2 ρ2 => match dAt ρ2 i, r2.get ρ2 with
  | .own xs, .int k => ∃ j d, ixN xs.length k = some j ∧ xs[j]? = some d ∧ d.flat = true ∧ f X ρ2 fun r3 ρ3 => op d (r3.get ρ3) fun z => match dAt ρ3 i with
      | .own ys => ys.length = xs.length ∧ E.nx (ρ3.set i (.own (ys.set j z)))
      | _ => False
  | _, _ => False
theorem PostRs.setd {ds : List D} {p : Addr} {us : List V} {j : Nat} {d : D} {y : V} {rs : List R} {vs : List V} (a : PostRs K σ B H fp (.val (.own ds) :: .val d :: rs) ρ' (.ref p :: y :: vs) B' H') (l : H' p = some (.lst us)) (hj : j < ds.length) :
    PostRs K σ B H fp (.val (.own (ds.set j d)) :: rs) ρ' (.ref p :: vs) B' (upd H' p (.lst (us.set j y))) := by
  refine a.write fun ws f f0 h1 h2 h3 => ?_
  rw [l] at h2
  cases h2
  cases h3 with
  | @val _ _ _ _ f1 f2 _ os2 rr z =>
    obtain ⟨o, fi, fr, g1, g2, g3, g4⟩ := h1.split (List.getElem?_eq_getElem hj)
    obtain ⟨fp', k1, k2⟩ := g4 (Ex.refl B') (fun q hq => (h1.there q (g3.mem_iff.mpr (List.mem_append_right _ hq))).1) (fun _ _ => rfl) os2
    refine ⟨fp', f2, fi, by rw [List.map_set]; exact k1, rr, ?_⟩
    rw [z]
    have a1 : (f ++ (f1 ++ f2)).Perm ((fi ++ fr) ++ (f1 ++ f2)) := List.Perm.append_right _ g3
    have a2 : ((fp' ++ f2) ++ fi).Perm (((f1 ++ fr) ++ f2) ++ fi) := List.Perm.append_right fi (List.Perm.append_right f2 k2)
    refine a1.trans (List.Perm.trans ?_ a2.symm)
    have b1 : ((fi ++ fr) ++ (f1 ++ f2)).Perm ((fr ++ (f1 ++ f2)) ++ fi) := by
      rw [List.append_assoc]
      exact List.perm_append_comm
    refine b1.trans (List.Perm.append_right fi ?_)
    rw [← List.append_assoc]
    exact List.Perm.append_right f2 List.perm_append_comm
/-- the results of an expression, one of them a slot that is one's own -/
theorem imp_setIx {i : Nat} {f g : WE} (Dn : Ends) (σ : St) (H : Hp) (h : tS K Wx kp (wSetIx i f g) Dn σ H) : tAsg (tE K Wx f) (gSub (tVar i) (tE K Wx g) rSetL) Dn σ H := by
  obtain ⟨B, ρ, fp, Xd, E, w, hf, hn, hr, hb, hc, hx⟩ := h
  refine ⟨B, ρ, fp, Xd, _, w, hf, fun r ρ1 v B1 H1 ⟨ho, h1⟩ p1 => ?_, fun x ρ' c d B' H' h p => hx x σ ρ' c d B' H' h p.xs⟩
  obtain ⟨B2, p2⟩ := p1.take
  obtain ⟨f1, w1, k1, kx1⟩ := p2.step
  obtain ⟨p, us, xs, e1, e2, e3, _⟩ := own_slot w1 ho
  refine ⟨.ref p, e1, B2, r.en ρ1, f1, Xd, _, w1, h1, fun r2 ρ2 v2 B3 H3 h2 p3 => ?_, fun x ρ' c d B' H' h p => hx x σ ρ' c d B' H' h (kx1 p).xs⟩
  obtain ⟨fa, oa⟩ := p3.cont.one
  split at h2
  · rename_i ys k hy hk
    rw [hk] at oa
    obtain ⟨fs, w3, _⟩ := p3.step
    obtain ⟨p', us1, xs1, g1, g2, g3, g4⟩ := own_slot w3 (i := i) (by rw [hy]; rfl)
    rw [e1] at g1
    cases g1
    rw [hy] at g2
    cases g2
    obtain ⟨j, h3, h4⟩ := h2
    have p4 := (k1 p3.drop).out e1
    rw [hy] at p4
    have p5 := p4.setd g3 (ixN_seq h3).2.1
    have p6 := p5.back e1
    rw [List.set_set] at p6
    exact ⟨p, us1, k, j, rfl, oa.int_of, g3, by rw [g4]; exact h3, hn σ _ B3 _ h4 p6.g⟩
  · exact h2.elim
/-- x op= e -/
def wAug (op : D → D → (D → Prop) → Prop) (i : Nat) (f : WE) : WS := fun X E ρ => (dAt ρ i).flat = true ∧ f X ρ fun r ρ1 => op (dAt ρ i) (r.get ρ1) fun d => E.nx (ρ1.set i d)
theorem flat_slot {i : Nat} (w : W K B H σ ρ fp) (h : (dAt ρ i).flat = true) : ∃ v, σ[i]? = some (some v) ∧ Rep K B v (dAt ρ i) := by
  have hl : i < ρ.length := by
    by_cases c : i < ρ.length
    · exact c
    · unfold dAt at h
      rw [List.getD_eq_getElem?_getD, List.getElem?_eq_none (by omega)] at h
      cases h
  obtain ⟨o, fi, fr, h1, h2, _⟩ := w.os.split (dAt_get hl)
  have hk : (dAt ρ i).known = true := by
    cases e : dAt ρ i <;> first | rfl | (rw [e] at h; cases h)
  obtain ⟨v, rfl⟩ := h2.some_of hk
  exact ⟨v, h1, h2.plain (flat_pl h)⟩
theorem imp_aug {i : Nat} {f : WE} {op : D → D → (D → Prop) → Prop} {ti : TIp} (o : OpD K ti op) (hi : i ∉ kp) (Dn : Ends) (σ : St) (H : Hp) (h : tS K Wx kp (wAug op i f) Dn σ H) : tAug i (tE K Wx f) ti Dn σ H := by
  obtain ⟨B, ρ, fp, Xd, E, w, ⟨ho, hf⟩, hn, hr, hb, hc, hx⟩ := h
  obtain ⟨v0, e1, r0⟩ := flat_slot w ho
  refine ⟨v0, e1, B, ρ, fp, Xd, _, w, hf, fun r ρ1 v B1 H1 h1 p1 => ?_, fun x ρ' c d B' H' h p => hx x σ ρ' c d B' H' h p.xs⟩
  obtain ⟨fa, oa⟩ := p1.cont.one
  exact o B1 H1 v0 v _ _ [] fa _ _ p1.ex (.sh (r0.mono p1.tr.bb)) oa h1 fun z u B' H' fd hz n => hn _ _ B' H' hz ((p1.new n).setSlot hi)
theorem imp_augIx {i : Nat} {f g : WE} {op : D → D → (D → Prop) → Prop} {ti : TIp} (o : OpD K ti op) (Dn : Ends) (σ : St) (H : Hp) (h : tS K Wx kp (wAugIx op i g f) Dn σ H) :
    tAugS (tVar i) (tE K Wx g) (tE K Wx f) (rIxL K.F) ti rSetL Dn σ H := by
  obtain ⟨B, ρ, fp, Xd, E, w, ⟨ho, hf⟩, hn, hr, hb, hc, hx⟩ := h
  obtain ⟨p, us, xs, e1, e2, e3, _⟩ := own_slot w ho
  refine ⟨.ref p, e1, B, ρ, fp, Xd, _, w, hf, fun r2 ρ2 v2 B1 H1 h1 p1 => ?_, fun x ρ' c d B' H' h p => hx x σ ρ' c d B' H' h p.xs⟩
  obtain ⟨fa, oa⟩ := p1.cont.one
  split at h1
  · rename_i ys k hy hk
    rw [hk] at oa
    obtain ⟨f1, w1, k1, kx1⟩ := p1.drop.step
    obtain ⟨p', us1, xs1, g1, g2, g3, g4⟩ := own_slot w1 (i := i) (by rw [hy]; rfl)
    rw [e1] at g1
    cases g1
    rw [hy] at g2
    cases g2
    obtain ⟨j, d, h2, h3, h4, h5⟩ := h1
    obtain ⟨oo, fi, fr, q1, q2, _⟩ := w1.os.split (i := i) (d := dAt ρ2 i) (dAt_get (by rw [← w1.os.len]; exact (List.getElem?_eq_some_iff.mp e1).1))
    rw [e1] at q1
    cases q1
    rw [hy] at q2
    have item : ∃ x, us1[j]? = some x ∧ Rep K B1 x d := by
      cases q2 with
      | sh r => cases r
      | @own _ us2 oo2 _ f' bn l2 m r =>
        rw [g3] at l2
        cases l2
        obtain ⟨o3, f3, _, z1, z2, _⟩ := r.split h3
        have hj : j < us1.length := by rw [g4]; exact (List.getElem?_eq_some_iff.mp h3).1
        rw [← m, List.getElem?_map, List.getElem?_eq_getElem hj] at z1
        cases z1
        exact ⟨us1[j], List.getElem?_eq_getElem hj, z2.plain (flat_pl h4)⟩
    obtain ⟨x, x1, x2⟩ := item
    have at1 : atI us1 k = some x := by
      unfold atI
      rw [g4, h2]
      exact x1
    refine ⟨p, us1, k, x, rfl, oa.int_of, .of g3, at1, B1, ρ2, f1, Xd, _, w1, h5, fun r3 ρ3 v3 B2 H2 h6 p2 => ?_, fun x ρ' c d B' H' h p => hx x σ ρ' c d B' H' h (kx1 p).xs⟩
    obtain ⟨fb, ob⟩ := p2.cont.one
    have p2' := k1 p2
    refine o B2 H2 x v3 _ _ [] fb _ _ p2.ex (.sh (x2.mono p2.tr.bb)) ob h6 fun z u B' H' fd hz n => ?_
    have p3 := p2'.new n
    have p4 := p3.out e1
    split at hz
    · rename_i zs hzz
      rw [hzz] at p4
      obtain ⟨fs, w4, _⟩ := p3.step
      obtain ⟨p', us2, xs2, y1, y2, y3, y4⟩ := own_slot w4 (i := i) (by rw [hzz]; rfl)
      rw [e1] at y1
      cases y1
      rw [hzz] at y2
      cases y2
      have hjz : j < zs.length := by rw [hz.1]; exact (List.getElem?_eq_some_iff.mp h3).1
      have p5 := p4.setd y3 hjz
      have p6 := p5.back e1
      rw [List.set_set] at p6
      exact ⟨p, us2, k, j, rfl, oa.int_of, y3, by rw [y4, hz.1]; exact h2, hn σ _ B' _ hz.2 p6.g⟩
    · exact hz.elim
  · exact h1.elim
end
end FL

end
section
set_option maxHeartbeats 1000000
/-! FL10: fields; promises of defs; calls. -/
namespace FL
open PySem PySem.Spec PyProof.Rows L2

theorem pget_list {X : Cx} : PGet X (rIxL X.K) := by
  intro pins s σ H o i ov iv Q I ro ri ⟨p, xs, k, z, ho, hk, hq, he, q⟩
  subst ho hk
  cases ro
  obtain ⟨t, rfl⟩ := ri
  obtain ⟨its, r, pl, hz⟩ := I.list hq
  obtain ⟨j, h1, h2, h3, h4, h5⟩ := atI_get he
  obtain ⟨u, eu, ru⟩ := r.get h2
  have hl := r.length
  have hn := line63
  have fin : EP X pins σ Q u s := ⟨z, H, I, ru, q⟩
  by_cases h0 : 0 ≤ k
  · have hj : k.toNat = j := by
      rw [seqIndex_of h0 h5] at h1
      exact Option.some.inj h1
    exact wpAny_getItem_list pl.isList h0 (by omega) (by rw [hj]; simpa using eu) fin
  · have hj : (k + (its.toArray.size : Int)).toNat = j := by
      rw [seqIndex_neg (by omega) h4] at h1
      rw [List.size_toArray, ← hl]
      exact Option.some.inj h1
    exact wpAny_getItem_list_neg pl.isList (by omega) (by rw [List.size_toArray]; omega) (by omega) (by rw [hj]; simpa using eu) fin

/-! ### fields -/
/-- classes and their fields -/
abbrev CTab : Type := List (Str × List Str)
def CTab.has (t : CTab) (C f : Str) : Bool := t.any fun q => q.1 == C && q.2.contains f
def CTabOk (K : KW) (t : CTab) : Prop := ∀ q ∈ t, Cls K.F (He.ga K.F q.1) ∧ ∀ f ∈ q.2, NoAttr K.F (He.ga K.F q.1) f
theorem CTabOk.at {K : KW} {t : CTab} (ok : CTabOk K t) {C f : Str} (h : t.has C f = true) : Cls K.F (He.ga K.F C) ∧ NoAttr K.F (He.ga K.F C) f := by
  unfold CTab.has at h
  obtain ⟨q, h1, h2⟩ := List.any_eq_true.mp h
  rw [Bool.and_eq_true] at h2
  have e := eq_of_beq h2.1
  have m := List.contains_iff_mem.mp h2.2
  rw [← e]
  exact ⟨(ok q h1).1, (ok q h1).2 f m⟩
def fIx (ks : List Str) (f : Str) : Option Nat := ks.findIdx? (· == f)
theorem lookup_fIx {α : Type} {f : Str} {j : Nat} {v : α} : ∀ {fs : List (Str × α)}, fIx (fs.map (·.1)) f = some j → (fs.map (·.2))[j]? = some v → fs.lookup f = some v
  | [], h, _ => by cases h
  | (k, x) :: r, h, e => by
    unfold fIx at h
    rw [List.map_cons, List.findIdx?_cons] at h
    by_cases c : k = f
    · subst c
      rw [if_pos (beq_self_eq_true _)] at h
      cases h
      have e1 : x = v := by simpa using e
      rw [← e1]
      simp [List.lookup]
    · have c1 : (k == f) = false := beq_eq_false_iff_ne.mpr c
      have c2 : (f == k) = false := beq_eq_false_iff_ne.mpr (Ne.symm c)
      have h : Option.map (fun i => i + 1) (List.findIdx? (fun x => x == f) (r.map (·.1))) = some j := by
        rw [← h]
        show _ = if (k == f) = true then some 0 else _
        rw [c1] <;> rfl
      obtain ⟨i, h1, h2⟩ := Option.map_eq_some_iff.mp h
      subst h2
      rw [List.lookup_cons, c2]
      exact lookup_fIx (j := i) h1 (by simpa using e)
def opFld (t : CTab) (f : Str) (d : D) (P : D → Prop) : Prop := match d with
  | .ins C ks xs => t.has C f = true ∧ ∃ j x, fIx ks f = some j ∧ xs[j]? = some x ∧ x.pl = true ∧ P x
  | .oins C ks xs => t.has C f = true ∧ ∃ j x, fIx ks f = some j ∧ xs[j]? = some x ∧ x.pl = true ∧ P x
  | _ => False
def rFld (K : PySem.W.Frag) (f : Str) : V → Hp → VK → Prop := fun x H1 Q => ∃ a C dx fs v, x = .ref a ∧ H1 a = some (.ins C dx fs) ∧ Cls K C ∧ NoAttr K C f ∧ fs.lookup f = some v ∧ Q v H1
theorem ud_fld {K : KW} {t : CTab} (ok : CTabOk K t) {f : Str} : UnD K (rFld K.F f) (opFld t f) := by
  intro B H x d fa P Q ex hx h k
  cases d with
  | ins C ks xs =>
    obtain ⟨h1, j, z, h2, h3, h4, h5⟩ := h
    obtain ⟨c1, c2⟩ := ok.at h1
    cases hx with
    | sh r =>
      cases r with
      | ins s kk vv rr =>
        subst kk vv
        obtain ⟨v, a1, a2⟩ := rr.get h3
        exact ⟨_, _, _, _, v, rfl, ex _ _ s, c1, c2, lookup_fIx h2 a1, k _ _ B H [] h5 (.same ex a2)⟩
  | oins C ks xs =>
    obtain ⟨h1, j, z, h2, h3, h4, h5⟩ := h
    obtain ⟨c1, c2⟩ := ok.at h1
    cases hx with
    | sh r => cases r
    | oins b l kk m rr =>
      subst kk m
      obtain ⟨o, fi, fr, q1, q2, _⟩ := rr.split h3
      rw [List.getElem?_map] at q1
      cases e : (_ : List (Str × V))[j]? with
      | none => rw [e] at q1; cases q1
      | some q =>
        rw [e] at q1
        cases q1
        exact ⟨_, _, _, _, q.2, rfl, l, c1, c2, lookup_fIx h2 (by rw [List.getElem?_map, e]; rfl), k _ _ B H [] h5 (.same ex (q2.plain h4))⟩
  | _ => exact h.elim
theorem imp_fld {K : KW} {Wx : WX} {t : CTab} (ok : CTabOk K t) {f : Str} {g : WE} (σ : St) (H : Hp) (Q : VK) (h : tE K Wx (wUn (opFld t f) g) σ H Q) : tFld K.F (tE K Wx g) f σ H Q := imp_un (ud_fld ok) σ H Q h
/-- self.f = v -/
def putK (ks : List Str) (xs : List D) (f : Str) (d : D) : List Str × List D := match fIx ks f with
  | some j => (ks, xs.set j d)
  | none => (ks ++ [f], xs ++ [d])
def wSetFld (t : CTab) (i : Nat) (f : Str) (g : WE) : WS := fun X E ρ => g X ρ fun r ρ1 => match dAt (r.en ρ1) i with
  | .oins C ks xs => t.has C f = true ∧ xs.length < 1000 ∧ xs.all D.pl = true ∧ E.nx ((r.en ρ1).set i (.oins C (putK ks xs f (r.tk ρ1).sh).1 (putK ks xs f (r.tk ρ1).sh).2))
  | _ => False
theorem putF_map (f : Str) (v : V) : ∀ fs : List (Str × V), (putF f v fs).map (·.1) = (match fIx (fs.map (·.1)) f with | some _ => fs.map (·.1) | none => fs.map (·.1) ++ [f]) ∧
    (putF f v fs).map (·.2) = (match fIx (fs.map (·.1)) f with | some j => (fs.map (·.2)).set j v | none => fs.map (·.2) ++ [v])
  | [] => ⟨rfl, rfl⟩
  | (k, x) :: r => by
    obtain ⟨i1, i2⟩ := putF_map f v r
    unfold fIx at i1 i2 ⊢
    rw [show putF f v ((k, x) :: r) = (if k = f then (k, v) :: r else (k, x) :: putF f v r) from rfl]
    by_cases c : k = f
    · rw [if_pos c]
      subst c
      have z : List.findIdx? (fun x => x == k) (List.map (·.1) ((k, x) :: r)) = some 0 := by
        rw [List.map_cons, List.findIdx?_cons]
        show (if (k == k) = true then _ else _) = _
        rw [beq_self_eq_true]; rfl
      rw [z]
      exact ⟨rfl, rfl⟩
    · rw [if_neg c]
      have c1 : (k == f) = false := beq_eq_false_iff_ne.mpr c
      have z : List.findIdx? (fun x => x == f) (List.map (·.1) ((k, x) :: r)) = Option.map (fun i => i + 1) (List.findIdx? (fun x => x == f) (r.map (·.1))) := by
        rw [List.map_cons, List.findIdx?_cons]
        show (if (k == f) = true then _ else _) = _
        rw [c1]; rfl
      rw [z]
      cases q : List.findIdx? (fun x => x == f) (r.map (·.1)) with
      | none =>
        rw [q] at i1 i2
        exact ⟨by rw [List.map_cons, i1]; rfl, by rw [List.map_cons, i2]; rfl⟩
      | some j =>
        rw [q] at i1 i2
        exact ⟨by rw [List.map_cons, i1]; rfl, by rw [List.map_cons, i2]; rfl⟩
theorem Reps.set {K : KW} {B : Hp} {v : V} {d : D} (r : Rep K B v d) : ∀ {vs : List V} {ds : List D} (i : Nat), Reps K B vs ds → Reps K B (vs.set i v) (ds.set i d)
  | _, _, _, .nil => .nil
  | _, _, 0, .cons _ t => .cons r t
  | _, _, i + 1, .cons q t => .cons q (Reps.set r i t)
section
variable {K : KW} {kp : List Nat} {B H B' H' : Hp} {σ σ' : St} {ρ ρ' : List D} {fp : List Addr} {Wx : WX}
theorem imp_setFld {t : CTab} (ok : CTabOk K t) {i : Nat} {f : Str} {g : WE} (Dn : Ends) (σ : St) (H : Hp) (h : tS K Wx kp (wSetFld t i f g) Dn σ H) : sFld K.F (tVar i) (tE K Wx g) f Dn σ H := by
  obtain ⟨B, ρ, fp, Xd, E, w, hf, hn, hr, hb, hc, hx⟩ := h
  refine ⟨B, ρ, fp, Xd, _, w, hf, fun r ρ1 v B1 H1 h1 p1 => ?_, fun x ρ' c d B' H' h p => hx x σ ρ' c d B' H' h p.xs⟩
  obtain ⟨B2, p2⟩ := p1.share
  split at h1
  · rename_i C ks xs hy
    obtain ⟨t1, e1, fd, fs, r1, o1, n1, s1⟩ := p2
    have hl : i < (r.en ρ1).length := by
      by_cases c : i < (r.en ρ1).length
      · exact c
      · unfold dAt at hy
        rw [List.getD_eq_getElem?_getD, List.getElem?_eq_none (by omega)] at hy
        cases hy
    obtain ⟨o, fi, fr, g1, g2, g3, g4⟩ := o1.split (dAt_get hl)
    rw [hy] at g2
    have rep : Rep K B2 v (r.tk ρ1).sh := by
      cases r1 with
      | val os _ _ => exact os.plain (sh_pl _)
    obtain ⟨h1, h2, h3, h4⟩ := h1
    obtain ⟨c1, c2⟩ := ok.at h1
    cases g2 with
    | sh r => cases r
    | @oins p _ dx fl _ oo _ f0 b l kk m rr =>
      subst kk m
      have items : Reps K B2 (fl.map (·.2)) xs := rr.plain (by rw [List.map_map]; rfl) h3
      have hlen : fl.length = xs.length := by rw [← items.length, List.length_map]
      refine ⟨.ref p, g1, p, He.ga K.F C, dx, fl, rfl, l, c1, c2, by rw [hlen]; exact h2, hn σ _ B2 _ h4 ?_⟩
      have nfs := (List.nodup_append.mp n1).2.1
      have nd2 : (p :: f0 ++ fr).Nodup := g3.nodup_iff.mp nfs
      have mem : ∀ q, q ∈ p :: f0 ++ fr → q ∈ fs := fun q hq => g3.mem_iff.mpr hq
      have pfr : p ∉ fr := fun x => (List.nodup_append.mp nd2).2.2 p List.mem_cons_self p x rfl
      have new : OS K B2 (upd H1 p (.ins (He.ga K.F C) dx (putF f v fl))) (some (.ref p)) (.oins C (putK (fl.map (·.1)) xs f (r.tk ρ1).sh).1 (putK (fl.map (·.1)) xs f (r.tk ρ1).sh).2) [p] := by
        obtain ⟨k1, k2⟩ := putF_map f v fl
        have rs : Reps K B2 ((putF f v fl).map (·.2)) (putK (fl.map (·.1)) xs f (r.tk ρ1).sh).2 := by
          rw [k2]
          unfold putK
          cases fIx (fl.map (·.1)) f with
          | none => exact items.append (.cons rep .nil)
          | some j => exact Reps.set rep j items
        refine .oins b upd_same ?_ rfl (by have z := rs.oss (H := upd H1 p (.ins (He.ga K.F C) dx (putF f v fl))); rw [List.map_map] at z; exact z)
        rw [k1]
        unfold putK
        cases fIx (fl.map (·.1)) f <;> rfl
      obtain ⟨fp', q1, q2⟩ := g4 (H' := upd H1 p (.ins (He.ga K.F C) dx (putF f v fl))) (Ex.refl B2) (fun q hq => (o1.there q (mem q (List.mem_append_right _ hq))).1) (fun q hq => upd_ne fun x => pfr (by rw [← x]; exact hq)) new
      rw [set_self g1] at q1
      have hp : p ∈ fs := mem p (List.mem_append_left _ List.mem_cons_self)
      refine ⟨fun _ _ => rfl, ⟨t1.bb, fun q o h n => ?_, t1.bnew⟩, e1.mut b, [], fp', .nil, q1, ?_, fun q hq => ?_⟩
      · have hne : q ≠ p := fun x => by
          subst x
          rcases s1 q (List.mem_append_right _ hp) with y | y
          · exact n y
          · rw [y] at h; cases h
        rw [upd_ne hne]
        exact t1.keep q o h n
      · rw [List.nil_append]
        exact q2.nodup_iff.mpr (List.nodup_cons.mpr ⟨pfr, (List.nodup_append.mp nd2).2.1⟩)
      · have hq' : q ∈ [p] ++ fr := q2.mem_iff.mp (by simpa using hq)
        rcases List.mem_append.mp hq' with y | y
        · rw [List.mem_singleton.mp y]; exact s1 p (List.mem_append_right _ hp)
        · exact s1 q (List.mem_append_right _ (mem q (List.mem_append_right _ y)))
  · exact h1.elim
end
end FL

end
section
set_option maxHeartbeats 1000000
/-! FL11: promises of defs, calls. -/
namespace FL
open PySem PySem.Spec PyProof.Rows L2

abbrev WF := XD → List D → (D → List D → Prop) → Prop
/-- a def's promise by data -/
def spD (K : KW) (F : WF) (n : Nat) : Sp := fun vs H Q E => vs.length = n ∧ ∃ B ds fp X P, W K B H (vs.map some) ds fp ∧ F X ds P ∧
  (∀ d ds' v B' H', P d ds' → PostRs K (vs.map some) B H fp [.val d] ds' [v] B' H' → Q v H') ∧ (∀ x ds' c d B' H', X x ds' → PostX K (vs.map some) B H fp x ds' c d B' H' → E c d H')

section
variable {K : KW} {kp : List Nat} {B H B' H' : Hp} {σ σ' : St} {ρ ρ' : List D} {fp : List Addr} {Wx : WX}
theorem OSs.append {os os2 : List (Option V)} {ds ds2 : List D} {f f2 : List Addr} (h : OSs K B H os ds f) (h2 : OSs K B H os2 ds2 f2) : OSs K B H (os ++ os2) (ds ++ ds2) (f ++ f2) := match h with
  | .nil => h2
  | .cons a b z => .cons a (OSs.append b h2) (by rw [z, List.append_assoc])
theorem OSs.unds : ∀ n : Nat, OSs K B H (List.replicate n none) (List.replicate n .und) []
  | 0 => .nil
  | n + 1 => .cons .und (OSs.unds n) rfl

/-- the parameters at the end: those of kp -/
def finD (kp : List Nat) : Nat → Nat → List D → List D
  | _, 0, _ => []
  | i, n + 1, [] => .und :: finD kp (i + 1) n []
  | i, n + 1, d :: r => (if i ∈ kp then d else .und) :: finD kp (i + 1) n r
theorem fin_ok {kp : List Nat} : ∀ {ws os : List (Option V)} {ds : List D} {f : List Addr} {i : Nat}, OSs K B H os ds f → (∀ j, j < ws.length → i + j ∈ kp → os[j]? = ws[j]?) →
    ∃ f', OSs K B H ws (finD kp i ws.length ds) f' ∧ f'.Sublist f
  | [], os, ds, f, i, h, _ => ⟨[], .nil, List.nil_sublist _⟩
  | w :: ws, os, ds, f, i, h, hk => by
    cases h with
    | nil =>
      obtain ⟨f', h1, h2⟩ := fin_ok (kp := kp) (ws := ws) (os := []) (ds := []) (f := []) (i := i + 1) .nil fun j hj hm => by
        have q := hk (j + 1) (by simpa using hj) (by rw [← Nat.add_assoc, Nat.add_right_comm]; exact hm)
        simpa using q
      exact ⟨f', .cons (f1 := []) .und h1 (by simp), h2⟩
    | @cons o d os ds f1 f2 _ a b z =>
      obtain ⟨f', h1, h2⟩ := fin_ok (ws := ws) (i := i + 1) b fun j hj hm => by
        have q := hk (j + 1) (by simpa using hj) (by rw [← Nat.add_assoc, Nat.add_right_comm]; exact hm)
        simpa using q
      by_cases c : i ∈ kp
      · have q := hk 0 (by simp) (by simpa using c)
        have e : o = w := by simpa using q
        subst e
        refine ⟨f1 ++ f', .cons (by rw [if_pos c]; exact a) h1 rfl, ?_⟩
        rw [z]
        exact List.Sublist.append_left h2 f1
      · refine ⟨f', .cons (f1 := []) (by rw [if_neg c]; exact .und) h1 (by simp), ?_⟩
        rw [z]
        exact h2.trans (List.sublist_append_right _ _)

/-- a def by its body -/
def wFn (n m : Nat) (kp : List Nat) (f : WS) : WF := fun X ds P => ds.length = n ∧ f (fun x ρ => X x (finD kp 0 n ρ)) ⟨fun ρ => P .non (finD kp 0 n ρ), fun d ρ => P d (finD kp 0 n ρ), fun _ => False, fun _ => False⟩ (ds ++ List.replicate (m - n) .und)
theorem fn_body {N : List Str} {n : Nat} {f : WS} {vs : List V} {Q : VK} {E : XK} (h : spD K (wFn n N.length kp f) n vs H Q E) :
    tS K (fun c d _ H' => E c d H') kp f { nx := fun _ H' => Q .non H', rt := Q } (L2.start N vs) H := by
  obtain ⟨hl, B, ds, fp, X, P, w, ⟨hd, hf⟩, hQ, hX⟩ := h
  have w0 : W K B H (L2.start N vs) (ds ++ List.replicate (N.length - n) .und) fp := by
    refine ⟨w.ex, ?_, w.nd⟩
    have z := w.os.append (OSs.unds (K := K) (B := B) (H := H) (N.length - n))
    rw [List.append_nil] at z
    unfold L2.start
    rw [hl]
    exact z
  have hlen : (vs.map some).length = n := by rw [List.length_map]; exact hl
  have fin : ∀ {σ' : St} {ρ' : List D} {rs : List R} {us : List V} {B' H' : Hp}, (∀ r ∈ rs, ∃ d, r = .val d) → PostG K kp (L2.start N vs) B H fp σ' rs ρ' us B' H' → PostRs K (vs.map some) B H fp rs (finD kp 0 n ρ') us B' H' := by
    intro σ' ρ' rs us B' H' hv ⟨k1, t1, e1, fd, fs, r1, o1, n1, s1⟩
    have key : ∃ f', OSs K B' H' (vs.map some) (finD kp 0 (vs.map some).length ρ') f' ∧ f'.Sublist fs := fin_ok o1 fun j hj hm => by
      have q := k1 j (by simpa using hm)
      rw [q]
      unfold L2.start
      rw [List.getElem?_append_left hj]
    rw [hlen] at key
    obtain ⟨f', g1, g2⟩ := key
    have r2 : ROs K B' H' (vs.map some) us rs fd := by
      clear n1 s1
      induction r1 with
      | nil => exact .nil
      | val a _ z ih => exact .val a (ih fun r hr => hv r (List.mem_cons_of_mem _ hr)) z
      | slot e _ ih =>
        obtain ⟨d, hd⟩ := hv _ List.mem_cons_self
        cases hd
    exact ⟨t1, e1, fd, f', r2, g1, n1.sublist (List.Sublist.append_left g2 fd), fun q hq => s1 q ((List.Sublist.append_left g2 fd).subset hq)⟩
  exact ⟨B, _, fp, _, _, w0, hf, fun σ' ρ' B' H' hp pg => hQ .non _ .non B' H' hp ((fin (rs := []) (us := []) (fun r hr => absurd hr List.not_mem_nil) pg).new (.same pg.ex .non)), fun d σ' ρ' v B' H' hp pg => hQ d _ v B' H' hp (fin (fun r hr => ⟨d, List.mem_singleton.mp hr⟩) pg),
    fun _ _ _ _ z _ => z.elim, fun _ _ _ _ z _ => z.elim, fun x σ' ρ' c d B' H' hp px => by
      obtain ⟨k1, t1, e1, ⟨fs, o1, n1, s1⟩, ob⟩ := px
      have pr := fin (rs := []) (us := []) (fun r hr => absurd hr List.not_mem_nil) ⟨k1, t1, e1, [], fs, .nil, o1, by simpa using n1, by simpa using s1⟩
      obtain ⟨t2, e2, fd2, fs2, r2, o2, n2, s2⟩ := pr
      exact hX x _ c d B' H' hp ⟨t2, e2, ⟨fs2, o2, (List.nodup_append.mp n2).2.1, fun q hq => s2 q (List.mem_append_right _ hq)⟩, ob⟩⟩

/-! ### arguments handed over -/
theorem ROs.snoc {vs : List V} {rs : List R} {v : V} {r : R} {f1 f2 : List Addr} (h : ROs K B H σ vs rs f1) (h2 : ROs K B H σ [v] [r] f2) : ROs K B H σ (vs ++ [v]) (rs ++ [r]) (f1 ++ f2) := h.append h2
/-- the first result comes last -/
theorem PostRs.rot {r : R} {rs : List R} {v : V} {vs : List V} (a : PostRs K σ B H fp (r :: rs) ρ' (v :: vs) B' H') : PostRs K σ B H fp (rs ++ [r]) ρ' (vs ++ [v]) B' H' := by
  obtain ⟨t1, e1, fd, fs, r1, o1, n1, s1⟩ := a
  cases r1 with
  | @val _ _ _ _ f1 f2 _ os rr z =>
    have pm : (fd ++ fs).Perm ((f2 ++ f1) ++ fs) := by
      rw [z]
      exact List.Perm.append_right fs List.perm_append_comm
    exact ⟨t1, e1, f2 ++ f1, fs, rr.snoc (.val (f2 := []) os .nil (by simp)), o1, pm.nodup_iff.mp n1, fun q hq => s1 q (pm.mem_iff.mpr hq)⟩
  | slot e rr => exact ⟨t1, e1, fd, fs, by simpa using rr.snoc (.slot e .nil), o1, n1, s1⟩
/-- a slot's datum that is not one's own, as a value -/
theorem PostRs.headPl {i : Nat} {rs : List R} {v : V} {vs : List V} (a : PostRs K σ B H fp (.slot i :: rs) ρ' (v :: vs) B' H') (p : (dAt ρ' i).pl = true) : PostRs K σ B H fp (.val (dAt ρ' i) :: rs) ρ' (v :: vs) B' H' := by
  obtain ⟨t1, e1, fd, fs, r1, o1, n1, s1⟩ := a
  cases r1 with
  | slot e rr =>
    obtain ⟨f, q⟩ := o1.at e
    exact ⟨t1, e1, fd, fs, .val (f1 := []) (.sh (q.plain p)) rr (by simp), o1, n1, s1⟩
theorem PostRs.headSlot {i : Nat} {rs : List R} {v : V} {vs : List V} (a : PostRs K σ B H fp (.slot i :: rs) ρ' (v :: vs) B' H') : σ[i]? = some (some v) ∧ PostRs K σ B H fp rs ρ' vs B' H' := by
  obtain ⟨t1, e1, fd, fs, r1, o1, n1, s1⟩ := a
  cases r1 with
  | slot e rr => exact ⟨e, t1, e1, fd, fs, rr, o1, n1, s1⟩
/-- a temporary is shared -/
theorem PostRs.headSh {d : D} {rs : List R} {v : V} {vs : List V} (a : PostRs K σ B H fp (.val d :: rs) ρ' (v :: vs) B' H') : ∃ B2, Ex B' B2 ∧ PostRs K σ B H fp (.val d.sh :: rs) ρ' (v :: vs) B2 H' := by
  obtain ⟨t1, e1, fd, fs, r1, o1, n1, s1⟩ := a
  cases r1 with
  | @val _ _ _ _ f1 f2 _ os rr z =>
    have hn : ∀ q ∈ f1, B' q = none := fun q hq => (os.there q hq).1
    have n2 : ((f1 ++ f2) ++ fs).Nodup := z ▸ n1
    have n12 := List.nodup_append.mp (List.nodup_append.mp n2).1
    have d12 := (List.nodup_append.mp n2).2.2
    refine ⟨kn B' H' f1, kn_ex hn, ⟨t1.bb.trans (kn_ex hn), t1.keep, fun q o h => ?_⟩, kn_le e1, f2, fs, .val (f1 := []) (f2 := f2) (.sh (os.share (kn_ex hn) fun q hq => kn_in hq)) ?_ rfl, ?_, ?_, fun q hq => s1 q ?_⟩
    · by_cases y : q ∈ f1
      · rcases s1 q (List.mem_append_left _ (z ▸ List.mem_append_left _ y)) with x | x
        · exact .inr (.inl x)
        · exact .inr (.inr x)
      · rw [kn_out y] at h
        exact t1.bnew q o h
    · exact rr.frame (kn_ex hn) (fun q hq => by rw [kn_out fun y => n12.2.2 q y q hq rfl]; exact (rr.there q hq).1) fun _ _ => rfl
    · exact o1.frame (kn_ex hn) (fun q hq => by rw [kn_out fun y => d12 q (List.mem_append_left _ y) q hq rfl]; exact (o1.there q hq).1) fun _ _ => rfl
    · exact List.nodup_append.mpr ⟨n12.2.1, (List.nodup_append.mp n2).2.1, fun q hq q' hq' => d12 q (List.mem_append_right _ hq) q' hq'⟩
    · rcases List.mem_append.mp hq with y | y
      · exact List.mem_append_left _ (z ▸ List.mem_append_right _ y)
      · exact List.mem_append_right _ y
theorem PostRs.headDrop {d : D} {rs : List R} {v : V} {vs : List V} (a : PostRs K σ B H fp (.val d :: rs) ρ' (v :: vs) B' H') : PostRs K σ B H fp rs ρ' vs B' H' := by
  obtain ⟨t1, e1, fd, fs, r1, o1, n1, s1⟩ := a
  cases r1 with
  | @val _ _ _ _ f1 f2 _ os rr z =>
    have n2 : (f1 ++ (f2 ++ fs)).Nodup := by rw [← List.append_assoc]; exact z ▸ n1
    refine ⟨t1, e1, f2, fs, rr, o1, (List.nodup_append.mp n2).2.1, fun q hq => s1 q ?_⟩
    rcases List.mem_append.mp hq with y | y
    · exact List.mem_append_left _ (z ▸ List.mem_append_right _ y)
    · exact List.mem_append_right _ y
/-- one argument: its datum, the slots behind, the slot that gets it back -/
def arg1 (k : Bool) (r : R) (ρ : List D) : D × List D × Option Nat := match r with
  | .val d => (d, ρ, none)
  | .slot i => if (dAt ρ i).pl = true then (dAt ρ i, ρ, none) else if k = true then (dAt ρ i, ρ.set i .und, some i) else ((dAt ρ i).sh, ρ.set i (dAt ρ i).sh, none)
def argD : List Bool → List R → List D → List D × List D × List (Option Nat)
  | k :: ks, r :: rs, ρ => ((arg1 k r ρ).1 :: (argD ks rs (arg1 k r ρ).2.1).1, (argD ks rs (arg1 k r ρ).2.1).2.1, (arg1 k r ρ).2.2 :: (argD ks rs (arg1 k r ρ).2.1).2.2)
  | _, _, ρ => ([], ρ, [])
def putB : List (Option Nat) → List D → List D → List D
  | none :: ms, _ :: ds, ρ => putB ms ds ρ
  | some i :: ms, d :: ds, ρ => putB ms ds (ρ.set i d)
  | _, _, ρ => ρ
/-- which slots get which values back -/
def Backs (σ : St) : List (Option Nat) → List V → Prop
  | m :: ms, v :: vs => (∀ i, m = some i → σ[i]? = some (some v)) ∧ Backs σ ms vs
  | _, _ => True
theorem PostRs.args : ∀ {ks : List Bool} {rs : List R} {vs : List V} {ρ : List D} {ds0 : List D} {ws : List V} {B1 : Hp}, PostRs K σ B H fp (rs ++ ds0.map R.val) ρ (vs ++ ws) B1 H' → vs.length = rs.length → ks.length = rs.length →
    ∃ B2, Ex B1 B2 ∧ PostRs K σ B H fp ((ds0 ++ (argD ks rs ρ).1).map R.val) (argD ks rs ρ).2.1 (ws ++ vs) B2 H' ∧ Backs σ (argD ks rs ρ).2.2 vs
  | ks, [], [], ρ, ds0, ws, B1, a, _, _ => by
    refine ⟨B1, Ex.refl B1, ?_, ?_⟩
    · cases ks <;> simpa [argD] using a
    · cases ks <;> trivial
  | k :: ks, r :: rs, v :: vs, ρ, ds0, ws, B1, a, hl, hk => by
    have step : ∃ B2, Ex B1 B2 ∧ PostRs K σ B H fp (.val (arg1 k r ρ).1 :: (rs ++ ds0.map R.val)) (arg1 k r ρ).2.1 (v :: (vs ++ ws)) B2 H' ∧ ∀ i, (arg1 k r ρ).2.2 = some i → σ[i]? = some (some v) := by
      cases r with
      | val d => exact ⟨B1, Ex.refl B1, a, fun i h => nomatch h⟩
      | slot i =>
        unfold arg1
        by_cases c : (dAt ρ i).pl = true
        · simp only [if_pos c]
          exact ⟨B1, Ex.refl B1, a.headPl c, fun i h => nomatch h⟩
        · obtain ⟨e, b⟩ := PostRs.headSlot (rs := rs ++ ds0.map R.val) (vs := vs ++ ws) a
          simp only [if_neg c]
          by_cases c2 : k = true
          · simp only [if_pos c2]
            exact ⟨B1, Ex.refl B1, b.out e, fun j h => by cases h; exact e⟩
          · simp only [if_neg c2]
            obtain ⟨B2, eb, b2⟩ := (b.out e).headSh
            have b3 := b2.back e
            rw [List.set_set] at b3
            refine ⟨B2, eb, ?_, fun j h => nomatch h⟩
            have hl : i < (ρ.set i (dAt ρ i).sh).length := by
              obtain ⟨_, _, _, _, _, o1, _⟩ := b3
              rw [← o1.len]
              exact (List.getElem?_eq_some_iff.mp e).1
            have ed : dAt (ρ.set i (dAt ρ i).sh) i = (dAt ρ i).sh := by
              unfold dAt
              rw [List.getD_eq_getElem?_getD, List.getElem?_set_self (by simpa using hl)]
              rfl
            have b4 : PostRs K σ B H fp (.slot i :: (rs ++ ds0.map R.val)) (ρ.set i (dAt ρ i).sh) (v :: (vs ++ ws)) B2 H' := by
              obtain ⟨t1, e1, fd, fs, r1, o1, n1, s1⟩ := b3
              exact ⟨t1, e1, fd, fs, .slot e r1, o1, n1, s1⟩
            have b5 := b4.headPl (by rw [ed]; exact sh_pl _)
            rw [ed] at b5
            exact b5
    obtain ⟨B2, eb, b, bk⟩ := step
    have b2 := b.rot
    rw [List.append_assoc, List.append_assoc] at b2
    have e : (ds0.map R.val ++ [R.val (arg1 k r ρ).1]) = (ds0 ++ [(arg1 k r ρ).1]).map R.val := by simp
    rw [e] at b2
    obtain ⟨B3, eb3, b3, bk3⟩ := PostRs.args (ks := ks) (rs := rs) (vs := vs) (ds0 := ds0 ++ [(arg1 k r ρ).1]) (ws := ws ++ [v]) b2 (by simpa using hl) (by simpa using hk)
    refine ⟨B3, eb.trans eb3, ?_, bk, bk3⟩
    show PostRs K σ B H fp ((ds0 ++ (arg1 k r ρ).1 :: (argD ks rs (arg1 k r ρ).2.1).1).map R.val) _ _ _ _
    rw [List.append_assoc, List.append_assoc] at b3
    exact b3
theorem PostRs.putback : ∀ {ms : List (Option Nat)} {ds : List D} {vs : List V} {ρ : List D} {rs0 : List R} {ws : List V} {B1 : Hp}, PostRs K σ B H fp (ds.map R.val ++ rs0) ρ (vs ++ ws) B1 H' → vs.length = ds.length → Backs σ ms vs →
    ms.length = ds.length → PostRs K σ B H fp rs0 (putB ms ds ρ) ws B1 H'
  | [], [], [], ρ, rs0, ws, B1, a, _, _, _ => a
  | m :: ms, d :: ds, v :: vs, ρ, rs0, ws, B1, a, hl, hb, hm => by
    have a : PostRs K σ B H fp (.val d :: (ds.map R.val ++ rs0)) ρ (v :: (vs ++ ws)) B1 H' := a
    cases m with
    | none => exact PostRs.putback (ms := ms) (ds := ds) (vs := vs) a.headDrop (by simpa using hl) hb.2 (by simpa using hm)
    | some i => exact PostRs.putback (ms := ms) (ds := ds) (vs := vs) (a.back (hb.1 i rfl)) (by simpa using hl) hb.2 (by simpa using hm)
theorem argD_len : ∀ {ks : List Bool} {rs : List R} {ρ : List D}, ks.length = rs.length → (argD ks rs ρ).1.length = rs.length ∧ (argD ks rs ρ).2.2.length = rs.length
  | [], [], _, _ => ⟨rfl, rfl⟩
  | k :: ks, r :: rs, ρ, h => by
    obtain ⟨h1, h2⟩ := argD_len (ks := ks) (rs := rs) (ρ := (arg1 k r ρ).2.1) (by simpa using h)
    exact ⟨by show _ + 1 = _; rw [h1]; rfl, by show _ + 1 = _; rw [h2]; rfl⟩
/-- f(..) -/
def wCall (F : WF) (ks : List Bool) (fs : WA) : WE := fun X ρ P => fs X ρ fun rs ρ1 => ks.length = rs.length ∧
  F (fun x ds' => X x (putB (argD ks rs ρ1).2.2 ds' (argD ks rs ρ1).2.1)) (argD ks rs ρ1).1 fun d ds' => P (.val d) (putB (argD ks rs ρ1).2.2 ds' (argD ks rs ρ1).2.1)
theorem vals_os {vs : List V} {ds : List D} {fd : List Addr} (h : ROs K B H σ vs (ds.map R.val) fd) : OSs K B H (vs.map some) ds fd := by
  induction ds generalizing vs fd with
  | nil => cases h; exact .nil
  | cons d ds ih =>
    cases h with
    | val a b z => exact .cons a (ih b) z
theorem os_vals {vs : List V} {ds : List D} {fd : List Addr} (h : OSs K B H (vs.map some) ds fd) : ROs K B H σ vs (ds.map R.val) fd := by
  induction ds generalizing vs fd with
  | nil =>
    cases vs with
    | nil => cases h; exact .nil
    | cons => cases h
  | cons d ds ih =>
    cases vs with
    | nil => cases h
    | cons v vs =>
      cases h with
      | cons a b z => exact .val a (ih b) z
/-- a call, from its arguments on -/
theorem call_core0 {F : WF} {n : Nat} {ds : List D} {vs : List V} {B1 H1 : Hp} {ρ2 : List D} {Xd : Exc → List D → Prop} {P : D → List D → Prop} {Q : VK} {E : XK}
    (p : PostRs K σ B H fp (ds.map R.val) ρ2 vs B1 H1) (hn : vs.length = n) (hF : F Xd ds P)
    (hQ : ∀ d ds' v B' H', P d ds' → ds'.length = vs.length → PostRs K σ B H fp (ds'.map R.val ++ [.val d]) ρ2 (vs ++ [v]) B' H' → Q v H')
    (hX : ∀ x ds' c d B' H', Xd x ds' → ds'.length = vs.length → PostRs K σ B H fp (ds'.map R.val) ρ2 vs B' H' → (∃ a fl, c = .ref (He.ga K.F x.cls) ∧ d = some a ∧ H' a = some (.xd fl) ∧ fl.map (·.1) = x.ks ∧ Reps K B' (fl.map (·.2)) x.ds) → E c d H') : spD K F n vs H1 Q E := by
  obtain ⟨t1, e1, fd, fs, r1, o1, n1, s1⟩ := p
  have hl : vs.length = ds.length := by rw [r1.length, List.length_map]
  have nfd := (List.nodup_append.mp n1).1
  have dis : ∀ q ∈ fs, q ∉ fd := fun q h1 h2 => (List.nodup_append.mp n1).2.2 q h2 q h1 rfl
  have sfd : Sub H fp fd := fun q hq => s1 q (List.mem_append_left _ hq)
  refine ⟨hn, B1, ds, fd, _, _, ⟨e1, vals_os r1, nfd⟩, hF, fun d ds' v B' H' hp pr => ?_, fun x ds' c d B' H' hp px => ?_⟩
  · obtain ⟨t2, e2, fd2, fs2, r2, o2, n2, s2⟩ := pr
    have hl2 : ds'.length = vs.length := by rw [← o2.len, List.length_map]
    have o3 := o1.aside t2 dis
    have dis2 : ∀ q ∈ fd2 ++ fs2, q ∉ fs := fun q h1 h2 => by
      rcases s2 q h1 with z | z
      · exact dis q h2 z
      · obtain ⟨_, u, hu⟩ := o1.there q h2
        rw [z] at hu; cases hu
    cases r2 with
    | @val _ _ _ _ g1 g2 _ os rr z =>
      cases rr
      have z : fd2 = g1 := by simpa using z
      subst z
      refine hQ d ds' v B' H' hp hl2 ⟨t1.trans sfd t2, e2, fs2 ++ fd2, fs, (os_vals o2).snoc (.val (f2 := []) os .nil (by simp)), o3, ?_, fun q hq => ?_⟩
      · refine List.nodup_append.mpr ⟨(List.perm_append_comm (l₁ := fd2) (l₂ := fs2)).nodup_iff.mp n2, (List.nodup_append.mp n1).2.1, fun q hq q' hq' e => ?_⟩
        subst e
        exact dis2 q ((List.perm_append_comm (l₁ := fs2) (l₂ := fd2)).mem_iff.mp hq) hq'
      · rcases List.mem_append.mp hq with y | y
        · exact Sub.trans t1 sfd s2 q ((List.perm_append_comm (l₁ := fs2) (l₂ := fd2)).mem_iff.mp y)
        · exact s1 q (List.mem_append_right _ y)
  · obtain ⟨t2, e2, ⟨fs2, o2, n2, s2⟩, ob⟩ := px
    have hl2 : ds'.length = vs.length := by rw [← o2.len, List.length_map]
    have o3 := o1.aside t2 dis
    have dis2 : ∀ q ∈ fs2, q ∉ fs := fun q h1 h2 => by
      rcases s2 q h1 with z | z
      · exact dis q h2 z
      · obtain ⟨_, u, hu⟩ := o1.there q h2
        rw [z] at hu; cases hu
    refine hX x ds' c d B' H' hp hl2 ⟨t1.trans sfd t2, e2, fs2, fs, os_vals o2, o3, ?_, fun q hq => ?_⟩ ob
    · exact List.nodup_append.mpr ⟨n2, (List.nodup_append.mp n1).2.1, fun q hq q' hq' e => by subst e; exact dis2 q hq hq'⟩
    · rcases List.mem_append.mp hq with y | y
      · exact Sub.trans t1 sfd s2 q y
      · exact s1 q (List.mem_append_right _ y)
theorem PostRs.px {x : Exc} {c : Value} {d : Option Addr} (a : PostRs K σ B H fp [] ρ' [] B' H') (ob : ∃ a fl, c = .ref (He.ga K.F x.cls) ∧ d = some a ∧ H' a = some (.xd fl) ∧ fl.map (·.1) = x.ks ∧ Reps K B' (fl.map (·.2)) x.ds) :
    PostX K σ B H fp x ρ' c d B' H' := by
  obtain ⟨t3, e3, fd3, fs3, r3, o4, n3, s3⟩ := a
  exact ⟨t3, e3, ⟨fs3, o4, (List.nodup_append.mp n3).2.1, fun q hq => s3 q (List.mem_append_right _ hq)⟩, ob⟩
theorem call_core {F : WF} {n : Nat} {ms : List (Option Nat)} {ds : List D} {vs : List V} {B1 H1 : Hp} {ρ2 : List D} {Xd : XD} {P : R → List D → Prop} {Q : VK} {E : XK}
    (p : PostRs K σ B H fp (ds.map R.val) ρ2 vs B1 H1) (bk : Backs σ ms vs) (hm : ms.length = ds.length) (hn : vs.length = n)
    (hF : F (fun x ds' => Xd x (putB ms ds' ρ2)) ds fun d ds' => P (.val d) (putB ms ds' ρ2))
    (hQ : ∀ r ρ' v B' H', P r ρ' → PostRs K σ B H fp [r] ρ' [v] B' H' → Q v H') (hX : ∀ x ρ' c d B' H', Xd x ρ' → PostX K σ B H fp x ρ' c d B' H' → E c d H') : spD K F n vs H1 Q E := by
  have hl : vs.length = ds.length := by
    obtain ⟨_, _, _, _, r1, _⟩ := p
    rw [r1.length, List.length_map]
  refine call_core0 p hn hF (fun d ds' v B' H' hp hl2 pr => hQ _ _ v B' H' hp (pr.putback hl2.symm bk (by rw [hm, hl2, hl]))) fun x ds' c d B' H' hp hl2 pr ob => ?_
  have all : PostRs K σ B H fp (ds'.map R.val ++ []) ρ2 (vs ++ []) B' H' := by rw [List.append_nil, List.append_nil]; exact pr
  exact hX x _ c d B' H' hp ((all.putback (ms := ms) hl2.symm bk (by rw [hm, hl2, hl])).px ob)
theorem imp_call {F : WF} {ks : List Bool} {fs : WA} {n : Nat} {E : XK} (hn : ks.length = n) (hE : ∀ σ c d H, E c d H ↔ Wx c d σ H) (σ : St) (H : Hp) (Q : VK) (h : tE K Wx (wCall F ks fs) σ H Q) : tCall (spD K F n) [] E (tA K Wx fs) σ H Q := by
  obtain ⟨B, ρ, fp, Xd, P, w, hf, hQ, hX⟩ := h
  refine ⟨B, ρ, fp, Xd, _, w, hf, fun rs ρ1 vs B1 H1 ⟨hk, hF⟩ p1 => ?_, hX⟩
  have hl : vs.length = rs.length := by
    obtain ⟨_, _, _, _, r1, _⟩ := p1
    exact r1.length
  obtain ⟨B2, _, p2, bk⟩ := PostRs.args (ks := ks) (rs := rs) (vs := vs) (ds0 := []) (ws := []) (by simpa using p1) hl hk
  obtain ⟨l1, l2⟩ := argD_len (ρ := ρ1) hk
  show spD K F n (vs ++ []) H1 Q E
  rw [List.append_nil]
  exact call_core (by simpa using p2) bk (by rw [l1, l2]) (by rw [hl, ← hk, hn]) hF hQ fun x ρ' c d B' H' hx px => (hE σ c d H').mpr (hX x ρ' c d B' H' hx px)
/-- a new thing beside the results -/
theorem PostRs.addNew {B1 H1 B2 H2 : Hp} {rs : List R} {ρ1 : List D} {vs : List V} {d : D} {v : V} {fd : List Addr} (a : PostRs K σ B H fp rs ρ1 vs B1 H1) (n : New K B1 H1 d v B2 H2 fd) : PostRs K σ B H fp (.val d :: rs) ρ1 (v :: vs) B2 H2 := by
  obtain ⟨f1, w1, k, _⟩ := a.step
  have b : PostRs K σ B1 H1 f1 [.val d] ρ1 [v] B2 H2 := w1.refl.new n
  obtain ⟨t1, e1, g1, g2, r1, o1, n1, s1⟩ := k b
  have sp : ∀ {ws : List V} {ss : List R} {g : List Addr}, ROs K B2 H2 σ (ws ++ [v]) (ss ++ [.val d]) g → ws.length = ss.length → ∃ h, ROs K B2 H2 σ (v :: ws) (.val d :: ss) h ∧ g.Perm h := by
    intro ws ss
    induction ss generalizing ws with
    | nil =>
      intro g h hl
      have : ws = [] := by simpa using hl
      subst this
      exact ⟨g, h, List.Perm.refl _⟩
    | cons s ss ih =>
      intro g h hl
      cases ws with
      | nil => simp at hl
      | cons w ws =>
        have h : ROs K B2 H2 σ (w :: (ws ++ [v])) (s :: (ss ++ [.val d])) g := h
        cases h with
        | @val _ _ _ _ f1 f2 _ os rr z =>
          obtain ⟨h, q1, q2⟩ := ih rr (by simpa using hl)
          cases q1 with
          | @val _ _ _ _ g1 g2 _ os2 rr2 z2 =>
            refine ⟨g1 ++ (f1 ++ g2), .val os2 (.val os rr2 rfl) rfl, ?_⟩
            rw [z2] at q2
            rw [z]
            refine (List.Perm.append_left f1 q2).trans ?_
            rw [← List.append_assoc, ← List.append_assoc]
            exact List.Perm.append_right g2 List.perm_append_comm
        | slot e rr =>
          obtain ⟨h, q1, q2⟩ := ih rr (by simpa using hl)
          cases q1 with
          | val os2 rr2 z2 => exact ⟨h, .val os2 (.slot e rr2) z2, q2⟩
  have hl : vs.length = rs.length := by
    obtain ⟨_, _, _, _, r1, _⟩ := a
    exact r1.length
  obtain ⟨h, q1, q2⟩ := sp r1 hl
  exact ⟨t1, e1, h, g2, q1, o1, (List.Perm.append_right g2 q2).nodup_iff.mp n1, fun q hq => s1 q ((List.Perm.append_right g2 q2).mem_iff.mpr hq)⟩
/-- C(..), the instance shared from now on -/
def wMake (C : Str) (F : WF) (ks : List Bool) (fs : WA) : WE := fun X ρ P => fs X ρ fun rs ρ1 => ks.length = rs.length ∧
  F (fun x ds' => X x (putB (argD ks rs ρ1).2.2 ds'.tail (argD ks rs ρ1).2.1)) (.oins C [] [] :: (argD ks rs ρ1).1) fun d ds' => d = .non ∧ P (.val (dAt ds' 0).sh) (putB (argD ks rs ρ1).2.2 ds'.tail (argD ks rs ρ1).2.1)
theorem imp_make {C : Str} {F : WF} {ks : List Bool} {fs : WA} {n : Nat} {E : XK} (hn : ks.length + 1 = n) (hE : ∀ σ c d H, E c d H ↔ Wx c d σ H) (σ : St) (H : Hp) (Q : VK) (h : tE K Wx (wMake C F ks fs) σ H Q) : tMake (He.ga K.F C) (spD K F n) [] E (tA K Wx fs) σ H Q := by
  obtain ⟨B, ρ, fp, Xd, P, w, hf, hQ, hX⟩ := h
  refine ⟨B, ρ, fp, Xd, _, w, hf, fun rs ρ1 vs B1 H1 ⟨hk, hF⟩ p1 x dx hx hdx ne => ?_, hX⟩
  have hl : vs.length = rs.length := by
    obtain ⟨_, _, _, _, r1, _⟩ := p1
    exact r1.length
  obtain ⟨B2, _, p2, bk⟩ := PostRs.args (ks := ks) (rs := rs) (vs := vs) (ds0 := []) (ws := []) (by simpa using p1) hl hk
  obtain ⟨l1, l2⟩ := argD_len (ρ := ρ1) hk
  have p2 : PostRs K σ B H fp ((argD ks rs ρ1).1.map R.val) (argD ks rs ρ1).2.1 vs B2 H1 := by simpa using p2
  have bx : B2 x = none := by
    cases z : B2 x with
    | none => rfl
    | some o => rw [p2.ex x o z] at hx; cases hx
  have hx2 : upd H1 dx (.own x) x = none := by rw [upd_ne (Ne.symm ne)]; exact hx
  have e12 : Ex H1 (upd (upd H1 dx (.own x)) x (.ins (He.ga K.F C) dx [])) := (Ex.new hdx).trans (Ex.new hx2)
  have p3 := p2.addNew (K := K) (d := .oins C [] []) (v := .ref x) (B2 := B2) (H2 := upd (upd H1 dx (.own x)) x (.ins (He.ga K.F C) dx [])) (fd := [x])
    ⟨e12, Ex.refl _, p2.ex.trans e12, fun _ _ h => .inl h, .oins (fs := []) (fp := []) bx upd_same rfl rfl .nil, by simp, fun q hq => by rw [List.mem_singleton.mp hq]; exact hx⟩
  rw [List.append_nil]
  refine call_core0 (n := n) (ds := .oins C [] [] :: (argD ks rs ρ1).1) (vs := .ref x :: vs) p3 (by rw [List.length_cons, hl, ← hk, hn]) hF (fun d ds' v B' H' ⟨hd, hp⟩ hl2 pr => ?_) fun y ds' c d B' H' hp hl2 pr ob => ?_
  · cases ds' with
    | nil => simp at hl2
    | cons d0 ds' =>
      have pr : PostRs K σ B H fp (.val d0 :: (ds'.map R.val ++ [.val d])) (argD ks rs ρ1).2.1 (.ref x :: (vs ++ [v])) B' H' := pr
      have ev : v = .non := by
        obtain ⟨_, _, _, _, r1, o1, _⟩ := pr
        have ct := r1.cont o1
        subst hd
        have lastc : ∀ {ws : List V} {es : List D}, Cont K B' H' (ws ++ [v]) (es ++ [.non]) → ws.length = es.length → v = .non := by
          intro ws es
          induction es generalizing ws with
          | nil =>
            intro h hl
            have : ws = [] := by simpa using hl
            subst this
            cases h with
            | cons a _ => exact a.non_of
          | cons e es ih =>
            intro h hl
            cases ws with
            | nil => simp at hl
            | cons w ws =>
              have h : Cont K B' H' (w :: (ws ++ [v])) (e :: (es ++ [.non])) := h
              cases h with
              | cons _ b => exact ih b (by simpa using hl)
        have e : (R.val d0 :: (ds'.map R.val ++ [.val .non])).map (R.get (argD ks rs ρ1).2.1) = d0 :: (ds' ++ [.non]) := by
          rw [List.map_cons, List.map_append, List.map_map]
          show d0 :: (ds'.map (R.get (argD ks rs ρ1).2.1 ∘ R.val) ++ [.non]) = _
          have : (R.get (argD ks rs ρ1).2.1 ∘ R.val) = id := by funext z; rfl
          rw [this, List.map_id]
        rw [e] at ct
        cases ct with
        | cons _ b => exact lastc b (by simpa using hl2.symm)
      refine ⟨ev, ?_⟩
      have r1 : PostRs K σ B H fp ((ds'.map R.val ++ [.val d]) ++ [.val d0]) (argD ks rs ρ1).2.1 ((vs ++ [v]) ++ [.ref x]) B' H' := pr.rot
      rw [List.append_assoc, List.append_assoc] at r1
      have r2 := r1.putback (ms := (argD ks rs ρ1).2.2) (by simpa using hl2.symm) bk (by rw [l2, ← hl]; simpa using hl2.symm)
      have r3 : PostRs K σ B H fp [.val d0] (putB (argD ks rs ρ1).2.2 ds' (argD ks rs ρ1).2.1) [.ref x] B' H' := r2.headDrop
      obtain ⟨B3, _, r4⟩ := r3.headSh
      exact hQ _ _ _ B3 H' hp r4
  · cases ds' with
    | nil => simp at hl2
    | cons d0 ds' =>
      have pr : PostRs K σ B H fp (.val d0 :: ds'.map R.val) (argD ks rs ρ1).2.1 (.ref x :: vs) B' H' := pr
      have r1 : PostRs K σ B H fp (ds'.map R.val ++ []) (argD ks rs ρ1).2.1 (vs ++ []) B' H' := by rw [List.append_nil, List.append_nil]; exact pr.headDrop
      have r2 := r1.putback (ms := (argD ks rs ρ1).2.2) (by simpa using hl2.symm) bk (by rw [l2, ← hl]; simpa using hl2.symm)
      exact (hE σ c d H').mpr (hX y _ c d B' H' hp (r2.px ob))
end
end FL

end
section
set_option maxHeartbeats 1000000
/-! FL12: list comprehensions. -/
namespace FL
open PySem PySem.Spec PyProof.Rows L2

def wipeD (ρ : List D) : List Nat → List D
  | [] => ρ
  | v :: vs => (wipeD ρ vs).set v .und
def unwD (ρ0 : List D) (ρ : List D) : List Nat → List D
  | [] => ρ
  | v :: vs => (unwD ρ0 ρ vs).set v (dAt ρ0 v)
theorem wipe_set_out {σ : St} {j : Nat} {x : Option V} : ∀ {us : List Nat}, j ∉ us → wipe (σ.set j x) us = (wipe σ us).set j x
  | [], _ => rfl
  | u :: us, h => by
    have h1 : j ∉ us := fun z => h (List.mem_cons_of_mem _ z)
    have h2 : j ≠ u := fun z => h (z ▸ List.mem_cons_self)
    show (wipe (σ.set j x) us).set u none = ((wipe σ us).set u none).set j x
    rw [wipe_set_out h1, List.set_comm _ _ h2]
theorem wipe_set {σ : St} {j : Nat} {x : Option V} : ∀ {us : List Nat}, j ∈ us → wipe (σ.set j x) us = wipe σ us
  | [], h => nomatch h
  | u :: us, h => by
    show (wipe (σ.set j x) us).set u none = (wipe σ us).set u none
    by_cases c : j ∈ us
    · rw [wipe_set c]
    · have e : j = u := (List.mem_cons.mp h).resolve_right c
      subst e
      rw [wipe_set_out c, List.set_set]
theorem wipe_wipe {σ : St} {vs : List Nat} : ∀ {us : List Nat}, (∀ u ∈ us, u ∈ vs) → wipe (wipe σ us) vs = wipe σ vs
  | [], _ => rfl
  | u :: us, h => by
    show wipe ((wipe σ us).set u none) vs = _
    rw [wipe_set (h u List.mem_cons_self)]
    exact wipe_wipe fun v hv => h v (List.mem_cons_of_mem _ hv)

section
variable {K : KW} {kp : List Nat} {B H B' H' : Hp} {σ σ' : St} {ρ ρ' : List D} {fp : List Addr} {Wx : WX}
/-- results that are values do not lean on the slots -/
theorem ROs.vals {vs : List V} {ds : List D} {fd : List Addr} (h : ROs K B H σ vs (ds.map R.val) fd) : ROs K B H σ' vs (ds.map R.val) fd := os_vals (vals_os h)
/-- a slot set to something plain, or forgotten -/
theorem PostRs.put {ds : List D} {vs : List V} {i : Nat} {o : Option V} {d : D} (a : PostRs K σ B H fp (ds.map R.val) ρ' vs B' H') (n : OS K B' H' o d []) : PostRs K (σ.set i o) B H fp (ds.map R.val) (ρ'.set i d) vs B' H' := by
  obtain ⟨t1, e1, fd, fs, r1, o1, n1, s1⟩ := a
  by_cases hl : i < ρ'.length
  · obtain ⟨o2, fi, fr, h1, h2, h3, h4⟩ := o1.split (List.getElem?_eq_getElem hl)
    have mem : ∀ q ∈ fr, q ∈ fs := fun q hq => h3.mem_iff.mpr (List.mem_append_right _ hq)
    obtain ⟨fp', g1, g2⟩ := h4 (Ex.refl B') (fun q hq => (o1.there q (mem q hq)).1) (fun _ _ => rfl) n
    have g2 : fp'.Perm fr := by simpa using g2
    refine ⟨t1, e1, fd, fp', r1.vals, g1, ?_, fun q hq => ?_⟩
    · have nfr : fr.Nodup := (List.nodup_append.mp (h3.nodup_iff.mp (List.nodup_append.mp n1).2.1)).2.1
      exact List.nodup_append.mpr ⟨(List.nodup_append.mp n1).1, g2.nodup_iff.mpr nfr, fun q hq q' hq' e => (List.nodup_append.mp n1).2.2 q hq q' (mem q' (g2.mem_iff.mp hq')) e⟩
    · rcases List.mem_append.mp hq with y | y
      · exact s1 q (List.mem_append_left _ y)
      · exact s1 q (List.mem_append_right _ (mem q (g2.mem_iff.mp y)))
  · have hl2 : ¬ i < σ.length := by rw [o1.len]; exact hl
    rw [List.set_eq_of_length_le (by omega), List.set_eq_of_length_le (by omega)]
    exact ⟨t1, e1, fd, fs, r1, o1, n1, s1⟩
theorem PostRs.wiped {ds : List D} {vs : List V} (a : PostRs K σ B H fp (ds.map R.val) ρ' vs B' H') : ∀ us : List Nat, PostRs K (wipe σ us) B H fp (ds.map R.val) (wipeD ρ' us) vs B' H'
  | [] => a
  | _ :: us => (PostRs.wiped a us).put .und
theorem OS.pl_nil {o : Option V} {d : D} {f : List Addr} (h : OS K B H o d f) (p : d.pl = true) : OS K B H' o d [] := by
  cases h with
  | und => exact .und
  | sh r => exact .sh r
  | own => cases p
  | oins => cases p
theorem wipe_mem {σ : St} {us : List Nat} {i : Nat} (h : i < σ.length) (hi : i ∈ us) : (wipe σ us)[i]? = some none := by
  induction us with
  | nil => cases hi
  | cons u us ih =>
    show ((wipe σ us).set u none)[i]? = some none
    by_cases c : u = i
    · subst c
      rw [List.getElem?_set_self (by rw [wipe_length]; exact h)]
    · rw [List.getElem?_set_ne c]
      exact ih ((List.mem_cons.mp hi).resolve_left (Ne.symm c))
/-- the block's slots are what they were -/
theorem PostRs.unwiped {ρ0 : List D} {ds : List D} {vs : List V} : ∀ {σ : St} {us : List Nat}, us.Nodup → (∀ i ∈ us, ∀ o, σ[i]? = some o → OS K B' H' o (dAt ρ0 i) []) → PostRs K (wipe σ us) B H fp (ds.map R.val) ρ' vs B' H' →
    PostRs K σ B H fp (ds.map R.val) (unwD ρ0 ρ' us) vs B' H'
  | _, [], _, _, a => a
  | σ, u :: us, nd, h, a => by
    have nd := List.nodup_cons.mp nd
    have a : PostRs K ((wipe σ us).set u none) B H fp (ds.map R.val) ρ' vs B' H' := a
    have key : ∀ {ρ2 : List D} {τ : St}, PostRs K (τ.set u none) B H fp (ds.map R.val) ρ2 vs B' H' → (∀ o, τ[u]? = some o → OS K B' H' o (dAt ρ0 u) []) → PostRs K τ B H fp (ds.map R.val) (ρ2.set u (dAt ρ0 u)) vs B' H' := by
      intro ρ2 τ b hb
      by_cases c : u < τ.length
      · have b2 := b.put (i := u) (hb _ (List.getElem?_eq_getElem c))
        rw [List.set_set] at b2
        have e : τ.set u τ[u] = τ := by
          apply List.ext_getElem?
          intro j
          by_cases hj : u = j
          · subst hj
            rw [List.getElem?_set_self c, List.getElem?_eq_getElem c]
          · rw [List.getElem?_set_ne hj]
        rw [e] at b2
        exact b2
      · rw [List.set_eq_of_length_le (by omega)] at b
        obtain ⟨t1, e1, fd, fs, r1, o1, n1, s1⟩ := b
        rw [List.set_eq_of_length_le (by rw [← o1.len]; omega)]
        exact ⟨t1, e1, fd, fs, r1, o1, n1, s1⟩
    -- first the others
    have swap : PostRs K (wipe (σ.set u none) us) B H fp (ds.map R.val) ρ' vs B' H' := by rw [wipe_set_out nd.1]; exact a
    have b := PostRs.unwiped (σ := σ.set u none) (us := us) nd.2 (fun i hi o ho => by
      have hne : u ≠ i := fun z => nd.1 (z ▸ hi)
      rw [List.getElem?_set_ne hne] at ho
      exact h i (List.mem_cons_of_mem _ hi) o ho) swap
    exact key b fun o ho => h u List.mem_cons_self o ho

/-- a comprehension's target -/
inductive CT where
  | name (j : Nat) | tup (js : List Nat)
def CT.ix : CT → List Nat
  | .name j => [j]
  | .tup js => js
def CT.tg (K : PySem.W.Frag) : CT → TG
  | .name j => gName j
  | .tup js => gTup K js.length (gNsT js)
def CT.wg : CT → WG
  | .name j => gN j
  | .tup js => gT js
theorem cts_ok {us : List Nat} : ∀ {js : List Nat} {σ : St} {ρ : List D} {ds0 : List D} {vs0 : List V} {vs : List V} {ds : List D} {P : List D → Prop} {Q : St → Hp → Prop}, (∀ j ∈ js, j ∈ us) → PostRs K σ B H fp (ds0.map R.val) ρ vs0 B' H' → Reps K B' vs ds → gNs js ds ρ P →
    (∀ σ' ρ', P ρ' → wipe σ' us = wipe σ us → PostRs K σ' B H fp (ds0.map R.val) ρ' vs0 B' H' → Q σ' H') → gNsT js vs σ H' Q
  | [], σ, ρ, ds0, vs0, vs, ds, P, Q, _, a, r, h, k => by
    cases r with
    | nil => exact ⟨rfl, k σ ρ h rfl a⟩
    | cons => exact h.elim
  | j :: js, σ, ρ, ds0, vs0, vs, ds, P, Q, hj, a, r, h, k => by
    cases r with
    | nil => exact h.elim
    | @cons v d vs ds b c =>
      exact ⟨v, vs, rfl, cts_ok (fun i hi => hj i (List.mem_cons_of_mem _ hi)) (a.put (i := j) (.sh b)) c h fun σ' ρ' hp hw pr => k σ' ρ' hp (hw.trans (wipe_set (hj j List.mem_cons_self))) pr⟩
theorem ct_ok {c : CT} {us : List Nat} {ds0 : List D} {vs0 : List V} {v : V} {d : D} {P : List D → Prop} {Q : St → Hp → Prop} (hj : ∀ j ∈ c.ix, j ∈ us) (a : PostRs K σ B H fp (ds0.map R.val) ρ vs0 B' H') (r : Rep K B' v d) (h : c.wg d ρ P)
    (k : ∀ σ' ρ', P ρ' → wipe σ' us = wipe σ us → PostRs K σ' B H fp (ds0.map R.val) ρ' vs0 B' H' → Q σ' H') : c.tg K.F v σ H' Q := by
  cases c with
  | name j => exact k _ _ h (wipe_set (hj j (by simp [CT.ix]))) (a.put (i := j) (.sh r))
  | tup js =>
    obtain ⟨xs, h1, h2⟩ := h
    obtain ⟨p, vs, rfl, s, r2⟩ := (OS.sh (H := H') r).tsq a.ex h1
    exact ⟨p, vs, rfl, s, by rw [r2.length]; exact gns_len h2, cts_ok hj a r2 h2 k⟩

/-- the turns -/
def wLcL (us : List Nat) (g : WG) (c : WT) (f : WE) : List D → List D → List D → (List D → List D → Prop) → Prop
  | [], acc, ρ, P => P acc ρ
  | d :: ds, acc, ρ, P => g d ρ fun ρ1 => c (fun _ _ => False) ρ1 fun b ρ2 => if b = true then f (fun _ _ => False) ρ2 fun r ρ3 => acc.length < sizeLine ∧ wLcL us g c f ds (acc ++ [(arg1 false r ρ3).1]) (wipeD (arg1 false r ρ3).2.1 us) P
      else wLcL us g c f ds acc (wipeD ρ2 us) P
theorem lc_core {us : List Nat} {ct : CT} {c : WT} {f : WE} (hj : ∀ j ∈ ct.ix, j ∈ us) (hnd : us.Nodup) {ρ1 : List D} {B1 H1 : Hp} {J : It} {ds : List D} {P : List D → List D → Prop} {Q : VK}
    (p1 : PostRs K σ B H fp [] ρ1 [] B1 H1) (hpl : ∀ i ∈ us, (dAt ρ1 i).pl = true) (hw : wLcL us ct.wg c f ds [] (wipeD ρ1 us) P)
    (go : ∀ i H', Ex B1 H' → i < ds.length → J.go i H') (stop : ∀ H', Ex B1 H' → J.stop ds.length H') (yld : ∀ i H' x H'' d, Ex B1 H' → ds[i]? = some d → J.yld i H' x H'' → H'' = H' ∧ Rep K B1 x d)
    (hQ : ∀ acc ρ' v B' H', P acc ρ' → PostRs K σ B H fp [.val (.own acc)] (unwD ρ1 ρ' us) [v] B' H' → Q v H') :
    ∀ Da, H1 Da = none → ∃ W : Nat → Nat → Hp → Prop, (∃ m, W 0 m (upd H1 Da (.lst []))) ∧ ∀ i m H, W i m H →
      (J.stop i H ∧ Q (.ref Da) H) ∨ (J.go i H ∧ ∃ Nx : Hp → Prop, (∀ H', Nx H' → ∃ m', m' < m ∧ W (i + 1) m' H') ∧ ∀ x H', J.yld i H x H' → ct.tg K.F x (wipe σ us) H' fun σ2 H2 => wipe σ2 us = wipe σ us ∧ tT K (fun _ _ _ _ => False) c σ2 H2 fun b H3 =>
        if b = true then tE K (fun _ _ _ _ => False) f σ2 H3 fun y H4 => ∃ acc, H4 Da = some (.lst acc) ∧ acc.length < sizeLine ∧ Nx (upd H4 Da (.lst (acc ++ [y]))) else Nx H3) := by
  intro Da hD
  have ps : PostRs K (wipe σ us) B H fp ([] : List R) (wipeD ρ1 us) [] B1 H1 := PostRs.wiped (ds := []) p1 us
  have p0 : PostRs K (wipe σ us) B H fp [.val (.own [])] (wipeD ρ1 us) [.ref Da] B1 (upd H1 Da (.lst [])) := ps.new (.own (vs := []) p1.ex hD .nil)
  refine ⟨fun i m H2 => m = ds.length - i ∧ i ≤ ds.length ∧ ∃ B2 acc ρ2, wLcL us ct.wg c f (ds.drop i) acc ρ2 P ∧ PostRs K (wipe σ us) B H fp [.val (.own acc)] ρ2 [.ref Da] B2 H2 ∧ Ex B1 B2, ⟨_, rfl, Nat.zero_le _, B1, [], _, by rw [List.drop_zero]; exact hw, p0, Ex.refl B1⟩, ?_⟩
  rintro i m H2 ⟨hm, hi, B2, acc, ρ2, hwi, p2, e2⟩
  have ex2 : Ex B1 H2 := e2.trans p2.ex
  by_cases hlt : i < ds.length
  · rw [List.drop_eq_getElem_cons hlt] at hwi
    refine .inr ⟨go i H2 ex2 hlt, fun H' => ∃ B3 acc ρ3, wLcL us ct.wg c f (ds.drop (i + 1)) acc ρ3 P ∧ PostRs K (wipe σ us) B H fp [.val (.own acc)] ρ3 [.ref Da] B3 H' ∧ Ex B1 B3, fun H' ⟨B3, acc3, ρ3, q1, q2, q3⟩ => ⟨_, by omega, rfl, hlt, B3, acc3, ρ3, q1, q2, q3⟩, fun x H' hy => ?_⟩
    obtain ⟨rfl, rx⟩ := yld i H2 x H' _ ex2 (List.getElem?_eq_getElem hlt) hy
    refine ct_ok (ds0 := [.own acc]) (us := us) hj p2 (rx.mono e2) hwi fun σ3 ρ3 h3 hw3 p3 => ?_
    rw [wipe_wipe fun _ h => h] at hw3
    refine ⟨hw3, ?_⟩
    obtain ⟨f3, w3, k3, _⟩ := p3.step
    refine ⟨B2, ρ3, f3, _, _, w3, h3, fun b ρ4 B4 H4 h4 p4 => ?_, fun _ _ _ _ _ _ z _ => z.elim⟩
    have p4' := k3 p4
    have e4 : Ex B1 B4 := e2.trans p4.tr.bb
    cases b with
    | false =>
      have z := PostRs.wiped (ds := [.own acc]) p4' us
      rw [hw3] at z
      exact ⟨B4, acc, _, h4, z, e4⟩
    | true =>
      obtain ⟨f4, w4, k4, _⟩ := PostRs.step (rs := [.val (.own acc)]) (vs := [.ref Da]) p4'
      refine ⟨B4, ρ4, f4, _, _, w4, h4, fun r ρ5 y B5 H5 ⟨hz, h5⟩ p5 => ?_, fun _ _ _ _ _ _ z _ => z.elim⟩
      have p6 : PostRs K σ3 B H fp ([r] ++ [D.own acc].map R.val) ρ5 ([y] ++ [.ref Da]) B5 H5 := PostRs.rot (rs := [r]) (vs := [y]) (k4 p5)
      obtain ⟨B6, e6, p7, _⟩ := PostRs.args (ks := [false]) (rs := [r]) (vs := [y]) (ds0 := [.own acc]) (ws := [.ref Da]) p6 rfl rfl
      have p7 : PostRs K σ3 B H fp (.val (.own acc) :: .val (arg1 false r ρ5).1 :: []) (arg1 false r ρ5).2.1 (.ref Da :: y :: []) B6 H5 := p7
      obtain ⟨us1, l1, l2, p8⟩ := p7.app
      have p9 := PostRs.wiped (ds := [.own (acc ++ [(arg1 false r ρ5).1])]) p8 us
      rw [hw3] at p9
      exact ⟨us1, l1, by rw [l2]; exact hz, B6, _, _, h5, p9, (e4.trans p5.tr.bb).trans e6⟩
  · have ei : i = ds.length := by omega
    subst ei
    rw [List.drop_eq_nil_of_le (Nat.le_refl _)] at hwi
    refine .inl ⟨stop H2 ex2, hQ acc ρ2 _ B2 H2 hwi (PostRs.unwiped (ds := [.own acc]) hnd (fun i hi o ho => ?_) p2)⟩
    obtain ⟨_, _, _, fs, _, o1, _⟩ := p1
    have hl : i < ρ1.length := by rw [← o1.len]; exact (List.getElem?_eq_some_iff.mp ho).1
    obtain ⟨o2, fi, fr, g1, g2, _⟩ := o1.split (dAt_get hl)
    rw [ho] at g1
    cases g1
    have z : OS K B1 H2 o (dAt ρ1 i) [] := g2.pl_nil (hpl i hi)
    exact z.frame e2 (fun _ h => nomatch h) fun _ h => nomatch h
end
end FL

end
section
set_option maxHeartbeats 1000000
/-! FL13: the rest of the expressions; targets of an assignment. -/
namespace FL
open PySem PySem.Spec PyProof.Rows L2

def wAndV (f g : WE) : WE := fun X ρ P => f X ρ fun r ρ1 => ∃ b, r.get ρ1 = .bl b ∧ if b = true then g X ρ1 P else P (.val (.bl false)) ρ1
def wOrV (f g : WE) : WE := fun X ρ P => f X ρ fun r ρ1 => ∃ b, r.get ρ1 = .bl b ∧ if b = true then P (.val (.bl true)) ρ1 else g X ρ1 P
def wNotV (f : WE) : WE := fun X ρ P => f X ρ fun r ρ1 => ∃ b, r.get ρ1 = .bl b ∧ P (.val (.bl (!b))) ρ1
def wIte (c : WT) (f g : WE) : WE := fun X ρ P => c X ρ fun b ρ1 => if b = true then f X ρ1 P else g X ρ1 P
/-- a op b op' c -/
def wChain (op op' : D → D → (D → Prop) → Prop) (f g h3 : WE) : WE := fun X ρ P => f X ρ fun r1 ρ1 => g X ρ1 fun r2 ρ2 => op (r1.get ρ2) (r2.get ρ2) fun d => ∃ b, d = .bl b ∧
  if b = true then h3 X ρ2 fun r3 ρ3 => op' (r2.get ρ3) (r3.get ρ3) fun e => P (.val e) ρ3 else P (.val (.bl false)) ρ2
def D.tru : D → Option Bool
  | .non => some false
  | .bl b => some b
  | .int i => some (i != 0)
  | .str x => if x.length ≤ sizeLine then some ((x.length : Int) != 0) else none
  | .own xs => some (!xs.isEmpty)
  | .lst xs => some (!xs.isEmpty)
  | .flst xs => some (!xs.isEmpty)
  | .tup xs => some (!xs.isEmpty)
  | _ => none
def wTru (f : WE) : WT := fun X ρ P => f X ρ fun r ρ1 => ∃ b, (r.get ρ1).tru = some b ∧ P b ρ1
def wYes : WT := fun _ ρ P => P true ρ
def wApnd (f g : WA) : WA := fun X ρ P => f X ρ fun rs ρ1 => g X ρ1 fun rs2 ρ2 => P (rs ++ rs2) ρ2
/-- the results of a call with keywords: m of them are positional -/
def gK {α : Type} (m : Nat) (us ws : List α) : List α := if us.length = m then us ++ ws else []
def wCallK (m : Nat) (F : WF) (ks : List Bool) (fs gs : WA) : WE := fun X ρ P => fs X ρ fun rs1 ρ1 => gs X ρ1 fun rs2 ρ2 => rs1.length = m ∧ ks.length = (rs1 ++ rs2).length ∧
  F (fun x ds' => X x (putB (argD ks (rs1 ++ rs2) ρ2).2.2 ds' (argD ks (rs1 ++ rs2) ρ2).2.1)) (argD ks (rs1 ++ rs2) ρ2).1 fun d ds' => P (.val d) (putB (argD ks (rs1 ++ rs2) ρ2).2.2 ds' (argD ks (rs1 ++ rs2) ρ2).2.1)
def rgL (lo : Int) (n : Nat) : List D := (List.range n).map fun (i : Nat) => D.int (lo + (i : Int))
def wLc (f : WE) (ct : CT) (c : WT) (e : WE) : WE := fun X ρ P => f X ρ fun r ρ1 => ∃ xs, ((r.tk ρ1).sh).sq = some xs ∧ (∀ i ∈ ct.ix, (dAt (r.en ρ1) i).pl = true) ∧
  wLcL ct.ix ct.wg c e xs [] (wipeD (r.en ρ1) ct.ix) fun acc ρ2 => P (.val (.own acc)) (unwD (r.en ρ1) ρ2 ct.ix)
def wLcR1 (f : WA) (ct : CT) (c : WT) (e : WE) : WE := fun X ρ P => f X ρ fun rs ρ1 => ∃ j : Int, rs.map (R.get ρ1) = [.int j] ∧ rgOk j ∧ (∀ i ∈ ct.ix, (dAt ρ1 i).pl = true) ∧
  wLcL ct.ix ct.wg c e (rgL 0 j.toNat) [] (wipeD ρ1 ct.ix) fun acc ρ2 => P (.val (.own acc)) (unwD ρ1 ρ2 ct.ix)
def wLcR2 (f : WA) (ct : CT) (c : WT) (e : WE) : WE := fun X ρ P => f X ρ fun rs ρ1 => ∃ a j : Int, rs.map (R.get ρ1) = [.int a, .int j] ∧ rgOk a ∧ rgOk j ∧ (∀ i ∈ ct.ix, (dAt ρ1 i).pl = true) ∧
  wLcL ct.ix ct.wg c e (rgL a (j - a).toNat) [] (wipeD ρ1 ct.ix) fun acc ρ2 => P (.val (.own acc)) (unwD ρ1 ρ2 ct.ix)
section
variable {K : KW} {kp : List Nat} {B H B' H' : Hp} {σ σ' : St} {ρ ρ' : List D} {fp : List Addr} {Wx : WX}
theorem imp_notV {f : WE} (σ : St) (H : Hp) (Q : VK) (h : tE K Wx (wNotV f) σ H Q) : tNotV (tE K Wx f) σ H Q := by
  obtain ⟨B, ρ, fp, Xd, P, w, hP, hQ, hX⟩ := h
  refine ⟨B, ρ, fp, Xd, _, w, hP, fun r ρ1 v B1 H1 ⟨b, e1, h1⟩ p1 => ?_, hX⟩
  obtain ⟨fa, oa⟩ := p1.cont.one
  rw [e1] at oa
  exact ⟨b, oa.bl_of, hQ _ ρ1 _ B1 H1 h1 (p1.new (.same p1.ex .bl))⟩
theorem imp_andV {f g : WE} (σ : St) (H : Hp) (Q : VK) (h : tE K Wx (wAndV f g) σ H Q) : tAndV (tE K Wx f) (tE K Wx g) σ H Q := by
  obtain ⟨B, ρ, fp, Xd, P, w, hP, hQ, hX⟩ := h
  refine ⟨B, ρ, fp, Xd, _, w, hP, fun r ρ1 v B1 H1 ⟨b, e1, h1⟩ p1 => ?_, hX⟩
  obtain ⟨fa, oa⟩ := p1.cont.one
  rw [e1] at oa
  refine ⟨b, oa.bl_of, ?_⟩
  cases b with
  | true =>
    obtain ⟨f1, w1, k, kx⟩ := p1.drop.step
    exact ⟨B1, ρ1, f1, Xd, _, w1, h1, fun r2 ρ2 v2 B2 H2 h2 p2 => hQ r2 ρ2 v2 B2 H2 h2 (k p2), fun x ρ' c d B' H' hx px => hX x ρ' c d B' H' hx (kx px)⟩
  | false => exact hQ _ ρ1 _ B1 H1 h1 (p1.new (.same p1.ex .bl))
theorem imp_orV {f g : WE} (σ : St) (H : Hp) (Q : VK) (h : tE K Wx (wOrV f g) σ H Q) : tOrV (tE K Wx f) (tE K Wx g) σ H Q := by
  obtain ⟨B, ρ, fp, Xd, P, w, hP, hQ, hX⟩ := h
  refine ⟨B, ρ, fp, Xd, _, w, hP, fun r ρ1 v B1 H1 ⟨b, e1, h1⟩ p1 => ?_, hX⟩
  obtain ⟨fa, oa⟩ := p1.cont.one
  rw [e1] at oa
  refine ⟨b, oa.bl_of, ?_⟩
  cases b with
  | true => exact hQ _ ρ1 _ B1 H1 h1 (p1.new (.same p1.ex .bl))
  | false =>
    obtain ⟨f1, w1, k, kx⟩ := p1.drop.step
    exact ⟨B1, ρ1, f1, Xd, _, w1, h1, fun r2 ρ2 v2 B2 H2 h2 p2 => hQ r2 ρ2 v2 B2 H2 h2 (k p2), fun x ρ' c d B' H' hx px => hX x ρ' c d B' H' hx (kx px)⟩
theorem imp_ite {c : WT} {f g : WE} (σ : St) (H : Hp) (Q : VK) (h : tE K Wx (wIte c f g) σ H Q) : tIf (tT K Wx c) (tE K Wx f) (tE K Wx g) σ H Q := by
  obtain ⟨B, ρ, fp, Xd, P, w, hP, hQ, hX⟩ := h
  refine ⟨B, ρ, fp, Xd, _, w, hP, fun b ρ1 B1 H1 h1 p1 => ?_, hX⟩
  obtain ⟨f1, w1, k, kx⟩ := p1.step
  have fin : ∀ u : WE, u Xd ρ1 P → tE K Wx u σ H1 Q := fun u hu => ⟨B1, ρ1, f1, Xd, _, w1, hu, fun r2 ρ2 v2 B2 H2 h2 p2 => hQ r2 ρ2 v2 B2 H2 h2 (k p2), fun x ρ' c d B' H' hx px => hX x ρ' c d B' H' hx (kx px)⟩
  cases b with
  | true => exact fin f h1
  | false => exact fin g h1
theorem imp_chain {r r' : R2} {op op' : D → D → (D → Prop) → Prop} {f g f3 : WE} (o : OpD K r op) (o' : OpD K r' op') (σ : St) (H : Hp) (Q : VK) (h : tE K Wx (wChain op op' f g f3) σ H Q) : tChain r r' (tE K Wx f) (tE K Wx g) (tE K Wx f3) σ H Q := by
  obtain ⟨B, ρ, fp, Xd, P, w, hP, hQ, hX⟩ := h
  refine ⟨B, ρ, fp, Xd, _, w, hP, fun r1 ρ1 v B1 H1 h1 p1 => ?_, hX⟩
  obtain ⟨f1, w1, k, kx⟩ := p1.step
  refine ⟨B1, ρ1, f1, Xd, _, w1, h1, fun r2 ρ2 v2 B2 H2 h2 p2 => ?_, fun x ρ' c d B' H' hx px => hX x ρ' c d B' H' hx (kx px)⟩
  have p12 := k p2
  obtain ⟨⟨fa, oa⟩, fb, ob⟩ := p12.cont.two
  refine o B2 H2 v v2 _ _ fa fb _ _ p12.ex oa ob h2 fun z u B3 H3 fd ⟨b, e, hz⟩ n => ?_
  subst e
  refine ⟨b, n.os.bl_of, ?_⟩
  have p3 : PostRs K σ B H fp [r2] ρ2 [v2] B3 H3 := by
    have q1 := p12.rot
    have q2 : PostRs K σ B H fp (r2 :: [r1]) ρ2 (v2 :: [v]) B2 H2 := q1
    have q3 : PostRs K σ B H fp [r2] ρ2 [v2] B2 H2 := by
      have q4 := PostRs.rot (rs := [r1]) (vs := [v]) q2
      have q4 : PostRs K σ B H fp (r1 :: [r2]) ρ2 (v :: [v2]) B2 H2 := q4
      cases r1 with
      | val d => exact q4.headDrop
      | slot i => exact q4.headSlot.2
    have q5 := q3.addNew n
    exact q5.headDrop
  cases b with
  | false =>
    have n2 : New K B3 H3 (.bl false) (.bl false) B3 H3 [] := .same n.ex .bl
    exact hQ _ ρ2 _ B3 H3 hz (p3.new n2)
  | true =>
    obtain ⟨f3, w3, k3, kx3⟩ := p3.step
    refine ⟨B3, ρ2, f3, Xd, _, w3, hz, fun r3 ρ3 v3 B4 H4 h4 p4 => ?_, fun x ρ' c d B' H' hx px => hX x ρ' c d B' H' hx (kx3 px)⟩
    have p34 := k3 p4
    obtain ⟨⟨fa, oa⟩, fb, ob⟩ := p34.cont.two
    exact o' B4 H4 v2 v3 _ _ fa fb _ Q p34.ex oa ob h4 fun z u B' H' fd hz n => hQ _ ρ3 u B' H' hz (p34.new n)
theorem tru_ok {v : V} {d : D} {f : List Addr} {b : Bool} (e : Ex B H) (h : OS K B H (some v) d f) (z : d.tru = some b) : TruV K.F v H b := by
  have em : ∀ {vs : List V} {ds : List D}, vs.length = ds.length → (!vs.isEmpty) = !ds.isEmpty := fun {vs ds} hl => by
    cases vs <;> cases ds <;> first | rfl | (simp at hl)
  cases h with
  | und => cases z
  | sh r =>
    cases r with
    | und => cases z
    | non => cases z; rfl
    | bl => cases z; rfl
    | int => cases z; rfl
    | @str x =>
      have z : (if x.length ≤ sizeLine then some ((x.length : Int) != 0) else none) = some b := z
      split at z
      · cases z; exact ⟨by assumption, rfl⟩
      · cases z
    | ty => cases z
    | cls => cases z
    | kd _ _ _ => cases z
    | lst hl r => cases z; exact .inl ⟨_, .of (e _ _ hl), (em r.length).symm⟩
    | flst hl r => cases z; exact .inl ⟨_, ex_l e hl, (em r.length).symm⟩
    | tup hl r => cases z; exact .inr (.inl ⟨_, (ex_tq e hl).sq, (em r.length).symm⟩)
    | ins _ _ _ _ => cases z
  | @own p vs os ds fp b l m r =>
    cases z
    exact .inl ⟨vs, .of l, (em (r.len2 m)).symm⟩
  | oins => cases z
theorem imp_tru {f : WE} (σ : St) (H : Hp) (Q : Bool → Hp → Prop) (h : tT K Wx (wTru f) σ H Q) : tE K Wx f σ H fun x H' => ∃ k, TruV K.F x H' k ∧ Q k H' := by
  obtain ⟨B, ρ, fp, Xd, P, w, hP, hQ, hX⟩ := h
  refine ⟨B, ρ, fp, Xd, _, w, hP, fun r ρ1 v B1 H1 ⟨b, e1, h1⟩ p1 => ?_, hX⟩
  obtain ⟨fa, oa⟩ := p1.cont.one
  exact ⟨b, tru_ok p1.ex oa e1, hQ b ρ1 B1 H1 h1 p1.drop⟩
theorem imp_yes (σ : St) (H : Hp) (Q : Bool → Hp → Prop) (h : tT K Wx wYes σ H Q) : tYes σ H Q := by
  obtain ⟨B, ρ, fp, Xd, P, w, hP, hQ, hX⟩ := h
  exact hQ true ρ B H hP w.refl
theorem imp_callK {F : WF} {ks : List Bool} {fs gs : WA} {n m : Nat} {E : XK} (hn : ks.length = n) (hE : ∀ σ c d H, E c d H ↔ Wx c d σ H) (σ : St) (H : Hp) (Q : VK) (h : tE K Wx (wCallK m F ks fs gs) σ H Q) :
    tCallK (spD K F n) (gK m) E (tA K Wx fs) (tA K Wx gs) σ H Q := by
  obtain ⟨B, ρ, fp, Xd, P, w, hf, hQ, hX⟩ := h
  refine ⟨B, ρ, fp, Xd, _, w, hf, fun rs1 ρ1 vs1 B1 H1 h1 p1 => ?_, hX⟩
  have hl1 : vs1.length = rs1.length := by
    obtain ⟨_, _, _, _, r1, _⟩ := p1
    exact r1.length
  obtain ⟨f1, w1, k, kx⟩ := p1.step
  refine ⟨B1, ρ1, f1, Xd, _, w1, h1, fun rs2 ρ2 vs2 B2 H2 ⟨hm, hk, hF⟩ p2 => ?_, fun x ρ' c d B' H' hx px => hX x ρ' c d B' H' hx (kx px)⟩
  have p12 := k p2
  have hl : (vs1 ++ vs2).length = (rs1 ++ rs2).length := by
    obtain ⟨_, _, _, _, r1, _⟩ := p12
    exact r1.length
  obtain ⟨B3, _, p3, bk⟩ := PostRs.args (ks := ks) (rs := rs1 ++ rs2) (vs := vs1 ++ vs2) (ds0 := []) (ws := []) (by simpa using p12) hl hk
  obtain ⟨l1, l2⟩ := argD_len (ρ := ρ2) hk
  have eg : gK m vs1 vs2 = vs1 ++ vs2 := if_pos (hl1.trans hm)
  show spD K F n (gK m vs1 vs2) H2 Q E
  rw [eg]
  exact call_core (by simpa using p3) bk (by rw [l1, l2]) (by rw [hl, ← hk, hn]) hF hQ fun x ρ' c d B' H' hx px => (hE σ c d H').mpr (hX x ρ' c d B' H' hx px)
theorem rgL_get {lo : Int} {n i : Nat} {d : D} (h : (rgL lo n)[i]? = some d) : i < n ∧ d = .int (lo + i) := by
  unfold rgL at h
  rw [List.getElem?_map] at h
  by_cases c : i < n
  · rw [List.getElem?_range c] at h
    exact ⟨c, (Option.some.inj h).symm⟩
  · rw [List.getElem?_eq_none (by rw [List.length_range]; omega)] at h
    cases h
theorem rgL_len (lo : Int) (n : Nat) : (rgL lo n).length = n := by unfold rgL; rw [List.length_map, List.length_range]
theorem imp_lc {f e : WE} {ct : CT} {c : WT} (hnd : ct.ix.Nodup) (σ : St) (H : Hp) (Q : VK) (h : tE K Wx (wLc f ct c e) σ H Q) :
    tLc (iSeq K.F (tE K Wx f)) (ct.tg K.F) (tT K (fun _ _ _ _ => False) c) (tE K (fun _ _ _ _ => False) e) ct.ix σ H Q := by
  obtain ⟨B, ρ, fp, Xd, P, w, hf, hQ, hX⟩ := h
  refine ⟨B, ρ, fp, Xd, _, w, hf, fun r ρ1 v B1 H1 ⟨xs, h1, hpl, h2⟩ p1 => ?_, hX⟩
  obtain ⟨B2, p2⟩ := p1.share
  obtain ⟨fa, oa⟩ := p2.cont.one
  have rep : Rep K B2 v (r.tk ρ1).sh := oa.plain (sh_pl _)
  rcases D.sq_or h1 with z | z
  · obtain ⟨p, vs, rfl, s, rr⟩ := (OS.sh (H := B2) rep).lsq (Ex.refl B2) z
    refine .inl ⟨p, rfl, ⟨vs, ex_l p2.ex s⟩, lc_core (fun _ h => h) hnd p2.drop hpl h2 (fun i H' e hi => ?_) (fun H' e => ⟨vs, ex_l e s, by rw [rr.length]; exact Nat.le_refl _⟩) (fun i H' x H'' d e hd ⟨y1, y2⟩ => ⟨y1, ?_⟩)
      fun acc ρ' v B' H' hp pr => hQ _ _ v B' H' hp pr⟩
    · have hi : i < vs.length := by rw [rr.length]; exact hi
      exact ⟨vs, vs[i], ex_l e s, List.getElem?_eq_getElem hi⟩
    · obtain ⟨u, a1, a2⟩ := rr.get hd
      have q := y2 vs (ex_l e s)
      rw [a1] at q
      cases q
      exact a2
  · obtain ⟨p, vs, rfl, s, rr⟩ := (OS.sh (H := B2) rep).tsq (Ex.refl B2) z
    refine .inr ⟨p, rfl, ⟨vs, ex_t p2.ex s⟩, lc_core (fun _ h => h) hnd p2.drop hpl h2 (fun i H' e hi => ?_) (fun H' e => ⟨vs, ex_t e s, by rw [rr.length]; exact Nat.le_refl _⟩) (fun i H' x H'' d e hd ⟨y1, y2⟩ => ⟨y1, ?_⟩)
      fun acc ρ' v B' H' hp pr => hQ _ _ v B' H' hp pr⟩
    · have hi : i < vs.length := by rw [rr.length]; exact hi
      exact ⟨vs, vs[i], ex_t e s, List.getElem?_eq_getElem hi⟩
    · obtain ⟨u, a1, a2⟩ := rr.get hd
      have q := y2 vs (ex_t e s)
      rw [a1] at q
      cases q
      exact a2
theorem imp_lcR1 {f : WA} {e : WE} {ct : CT} {c : WT} (hnd : ct.ix.Nodup) (σ : St) (H : Hp) (Q : VK) (h : tE K Wx (wLcR1 f ct c e) σ H Q) :
    tLc (iRng1 (tA K Wx f)) (ct.tg K.F) (tT K (fun _ _ _ _ => False) c) (tE K (fun _ _ _ _ => False) e) ct.ix σ H Q := by
  obtain ⟨B, ρ, fp, Xd, P, w, hf, hQ, hX⟩ := h
  refine ⟨B, ρ, fp, Xd, _, w, hf, fun rs ρ1 vs B1 H1 ⟨j, h1, h2, hpl, h3⟩ p1 => ?_, hX⟩
  exact ⟨j, ints1 p1.cont h1, h2.1, h2.2, lc_core (fun _ h => h) hnd p1.drop hpl h3 (fun i H' e hi => by rw [rgL_len] at hi; exact hi) (fun H' e => by rw [rgL_len]; exact Nat.le_refl _)
    (fun i H' x H'' d e hd ⟨y1, y2⟩ => ⟨y1, by obtain ⟨_, rfl⟩ := rgL_get hd; rw [y2]; exact .int⟩) fun acc ρ' v B' H' hp pr => hQ _ _ v B' H' hp pr⟩
theorem imp_lcR2 {f : WA} {e : WE} {ct : CT} {c : WT} (hnd : ct.ix.Nodup) (σ : St) (H : Hp) (Q : VK) (h : tE K Wx (wLcR2 f ct c e) σ H Q) :
    tLc (iRng2 (tA K Wx f)) (ct.tg K.F) (tT K (fun _ _ _ _ => False) c) (tE K (fun _ _ _ _ => False) e) ct.ix σ H Q := by
  obtain ⟨B, ρ, fp, Xd, P, w, hf, hQ, hX⟩ := h
  refine ⟨B, ρ, fp, Xd, _, w, hf, fun rs ρ1 vs B1 H1 ⟨a, j, h1, h2, h2', hpl, h3⟩ p1 => ?_, hX⟩
  exact ⟨a, j, ints2 p1.cont h1, ⟨h2.1, h2.2, h2'.1, h2'.2⟩, lc_core (fun _ h => h) hnd p1.drop hpl h3 (fun i H' e hi => by rw [rgL_len] at hi; exact hi) (fun H' e => by rw [rgL_len]; exact Nat.le_refl _)
    (fun i H' x H'' d e hd ⟨y1, y2⟩ => ⟨y1, by obtain ⟨_, rfl⟩ := rgL_get hd; rw [y2]; exact .int⟩) fun acc ρ' v B' H' hp pr => hQ _ _ v B' H' hp pr⟩
end
end FL

end
section
set_option maxHeartbeats 1000000
/-! FL14: what an expression does, read off its text; it does it. -/
namespace FL
open PySem PySem.Spec PyProof.Rows L2

def wBad : WE := fun _ _ _ => False
def wBadA : WA := fun _ _ _ => False
def wBadT : WT := fun _ _ _ => False
/-- a def by name: what it does, which of its arguments come back -/
structure DF where
  F : WF
  ks : List Bool
structure DCtx where
  N : List Str
  sc : Scope
  kp : List Nat
  lv : Nat
  fns : List (Str × DF)
  kws : List (Str × List Str × Nat × DF)
  mks : List (Str × DF)
  glb : List (Str × D)
  fr : List Str
  ct : CTab
  shr : Bool

def slotN (N : List Str) (x : Str) : Option Nat := N.findIdx? (· == x)
def visB (sc : Scope) (x : Str) : Bool := match sc.names.lookup x with
  | some .local => true
  | some .cell => true
  | some .free => true
  | _ => false
def locB (sc : Scope) (x : Str) : Bool := match sc.names.lookup x with
  | some .local => true
  | some .cell => true
  | _ => false
def glB (sc : Scope) (x : Str) : Bool := match sc.names.lookup x with
  | some .globalImplicit => true
  | _ => false
def magic (x : Str) : Bool := x == ("__debug__" : Str) || x == ("__classdict__" : Str)
def tyOf (x : Str) : Option String :=
  if x = "int" then some "int" else if x = "bool" then some "bool" else if x = "str" then some "str" else if x = "list" then some "list" else if x = "tuple" then some "tuple" else none
theorem slotN_ok {N : List Str} {x : Str} {i : Nat} (h : slotN N x = some i) : N[i]? = some x := by
  unfold slotN at h
  obtain ⟨h1, h2, _⟩ := List.findIdx?_eq_some_iff_getElem.mp h
  rw [List.getElem?_eq_getElem h1, eq_of_beq h2]
theorem visB_ok {sc : Scope} {x : Str} (h : visB sc x = true) : Vis sc x := by
  unfold visB at h
  split at h
  · exact .inl (by assumption)
  · exact .inr (.inl (by assumption))
  · exact .inr (.inr (by assumption))
  · cases h
theorem locB_ok {sc : Scope} {x : Str} (h : locB sc x = true) : Loc sc x := by
  unfold locB at h
  split at h
  · exact .inl (by assumption)
  · exact .inr (by assumption)
  · cases h
theorem glB_ok {sc : Scope} {x : Str} (h : glB sc x = true) : sc.names.lookup x = some .globalImplicit := by
  unfold glB at h
  split at h
  · assumption
  · cases h
theorem tyOf_ok {x : Str} {t : String} (h : tyOf x = some t) : bootBuiltins x = some (.type t) ∧ x ≠ "__name__" ∧ (x == ("__debug__" : Str)) = false := by
  unfold tyOf at h
  split at h
  · subst x; cases h; exact ⟨by decide +kernel, by decide, by decide⟩
  split at h
  · subst x; cases h; exact ⟨by decide +kernel, by decide, by decide⟩
  split at h
  · subst x; cases h; exact ⟨by decide +kernel, by decide, by decide⟩
  split at h
  · subst x; cases h; exact ⟨by decide +kernel, by decide, by decide⟩
  split at h
  · subst x; cases h; exact ⟨by decide +kernel, by decide, by decide⟩
  cases h

/-- what the reading leans on (CX: what a def may let out, Wx: what of it is wanted here) -/
structure COk (CX : CXT) (Wx : WX) (X : Cx) (c : DCtx) : Prop where
  N : X.N = c.N
  nd : c.N.Nodup
  sc : X.env.scope = c.sc
  calm : X.calm = true
  room : Room c.lv X.A
  fns : ∀ x d, c.fns.lookup x = some d → ∃ k f fd ps, k ≤ c.lv ∧ FnOk X.prog X.w X.K X.mg X.base CX k f fd ps (spD X.kw d.F d.ks.length) ∧ X.mg x = some (.ref f) ∧ PySem.W.keepIn X.K (.ref f) = true ∧ Binds X.K fd ps []
  kws : ∀ x ns m d, c.kws.lookup x = some (ns, m, d) → ∃ k f fd ps, k ≤ c.lv ∧ FnOk X.prog X.w X.K X.mg X.base CX k f fd ps (spD X.kw d.F d.ks.length) ∧ X.mg x = some (.ref f) ∧ PySem.W.keepIn X.K (.ref f) = true ∧ KBinds X.K fd ps ns (gK m) (gK m)
  mks : ∀ x d, c.mks.lookup x = some d → ∃ k f fd ps, k + 1 ≤ c.lv ∧ Mk X.K (He.ga X.K x) f ∧ FnOk X.prog X.w X.K X.mg X.base CX k f fd ps (spD X.kw d.F (d.ks.length + 1)) ∧ X.mg x = some (.ref (He.ga X.K x)) ∧ Binds X.K fd ps []
  glb : ∀ x d, c.glb.lookup x = some d → ∃ v u, X.mg x = some u ∧ RelV v u ∧ ∀ B, Rep X.kw B v d
  fr : ∀ x, x ∈ c.fr → X.mg x = none
  ct : CTabOk X.kw c.ct
  px : ∃ E : XK, Passes CX X E ∧ ∀ σ c d H, E c d H ↔ Wx c d σ H
  pz : ∀ o H s e s', ¬ CX o H s (fun _ _ _ => False) e s'

/-! ### the readings -/
def nameW (c : DCtx) (x : Str) : WE :=
  if magic x = true then wBad else if visB c.sc x = true then (match slotN c.N x with
    | some i => wVar i
    | none => wBad)
  else if glB c.sc x = true then (match c.glb.lookup x with
    | some d => wC d
    | none => if x ∈ c.fr then (match tyOf x with
      | some t => wC (.ty t)
      | none => wBad) else wBad)
  else wBad
abbrev Op2 : Type := D → D → (D → Prop) → Prop
def opNo : Op2 := fun _ _ _ => False
def binOf : Operator → Op2
  | .Add => opAdd
  | .Sub => opSub
  | .Mult => opMul
  | .FloorDiv => opFDiv
  | .Mod => opMod
  | .Pow => opPow
  | _ => opNo
def cmpOf : CmpOp → Op2
  | .Eq => opEq
  | .NotEq => opNe
  | .Lt => opCmp fun i j => decide (i < j)
  | .LtE => opCmp fun i j => decide (i ≤ j)
  | .Gt => opCmp fun i j => decide (j < i)
  | .GtE => opCmp fun i j => decide (j ≤ i)
  | .Is => opIs false
  | .IsNot => opIs true
  | .In => opIn false
  | .NotIn => opIn true
def bltOp (x : Str) : Option (List D → (D → Prop) → Prop) :=
  if x = "len" then some opLen else if x = "isinstance" then some opIsi else if x = "max" then some opMax else if x = "min" then some opMin else if x = "sum" then some opSum else if x = "sorted" then some opSorted else none
def btyOp (x : Str) : Option (List D → (D → Prop) → Prop) :=
  if x = "int" then some opInt else if x = "list" then some opList else if x = "tuple" then some opTuple else none
def isStar : Expr → Bool
  | .Starred _ _ => true
  | _ => false
def isSlc : Expr → Bool
  | .Slice _ _ _ _ => true
  | _ => false
def isSet : Expr → Bool
  | .Set _ _ _ => true
  | _ => false
def isCmp : Expr → Bool
  | .ListComp _ _ _ _ => true
  | .SetComp _ _ _ _ => true
  | .DictComp _ _ _ _ _ => true
  | _ => false
def isCall0 : Expr → Bool
  | .Call _ [] [] _ => true
  | _ => false
def argsW (f : Expr → WE) : List Expr → WA
  | [] => wNil
  | e :: r => if isStar e = true then wBadA else wCons (f e) (argsW f r)
def kwsW (f : Expr → WE) : List Keyword → WA
  | [] => wNil
  | k :: r => wCons (f k.value) (kwsW f r)
def andW (f : Expr → WE) : List Expr → WE
  | [] => wBad
  | [a] => f a
  | a :: b :: r => wAndV (f a) (andW f (b :: r))
def orW (f : Expr → WE) : List Expr → WE
  | [] => wBad
  | [a] => f a
  | a :: b :: r => wOrV (f a) (orW f (b :: r))
def andT (f : Expr → WT) : List Expr → WT
  | [] => wBadT
  | [a] => f a
  | a :: b :: r => wAndT (f a) (andT f (b :: r))
def orT (f : Expr → WT) : List Expr → WT
  | [] => wBadT
  | [a] => f a
  | a :: b :: r => wOrT (f a) (orT f (b :: r))
def callW (c : DCtx) (x : Str) (k : Nat) (a : WA) : WE :=
  if magic x = true then wBad else if glB c.sc x = true then (match c.fns.lookup x with
    | some d => if d.ks.length = k then wCall d.F d.ks a else wBad
    | none => match c.mks.lookup x with
      | some d => if d.ks.length = k then wMake x d.F d.ks a else wBad
      | none => if k = 0 then wBad else if x ∈ c.fr then (match bltOp x with
        | some op => wCB op a
        | none => match btyOp x with
          | some op => wCB op a
          | none => wBad) else wBad)
  else wBad
def kwNames : List Keyword → List Str
  | [] => []
  | k :: r => (match k.arg with
    | some n => [n]
    | none => []) ++ kwNames r
def callKW (c : DCtx) (x : Str) (n : Nat) (kn : List Str) (a b : WA) : WE :=
  if magic x = true then wBad else if glB c.sc x = true then (match c.kws.lookup x with
    | some (ns, m, d) => if ns = kn ∧ d.ks.length = n then wCallK m d.F d.ks a b else wBad
    | none => wBad)
  else wBad
def shW (c : DCtx) (f : WE) : WE := if c.shr = true then wSh f else f
def methW (c : DCtx) (f : Expr → WE) (x m : Str) (es : List Expr) : WE :=
  if magic x = true then wBad else if visB c.sc x = true then (match slotN c.N x with
    | some i => (match es with
      | [e] => if isStar e = true then wBad else if m = "append" then wApp i (shW c (f e)) else if m = "pop" then wPopAt i (f e) else wBad
      | [] => if m = "pop" then wPop i else wBad
      | _ => wBad)
    | none => wBad)
  else wBad
def slotsOf (sc : Scope) (N : List Str) : List Expr → Option (List (Str × Nat))
  | [] => some []
  | .Name x _ :: r => if locB sc x = true then (match slotN N x, slotsOf sc N r with
    | some i, some l => some ((x, i) :: l)
    | _, _ => none) else none
  | _ :: _ => none
/-- a comprehension's target: its names and their slots -/
def ctOf (sc : Scope) (N : List Str) : Expr → Option (List (Str × Nat) × CT)
  | .Name x _ => if locB sc x = true then (match slotN N x with
    | some i => some ([(x, i)], .name i)
    | none => none) else none
  | .Tuple es _ _ => match slotsOf sc N es with
    | some l => some (l, .tup (l.map (·.2)))
    | none => none
  | _ => none
def blkD (c : DCtx) (scope : Scope) : DCtx := { c with sc := relS scope c.sc }
def condW (rT : Expr → WT) : List Expr → WT
  | [] => wYes
  | [t] => rT t
  | _ => wBadT
def isRng (c : DCtx) (f : Str) : Bool := decide (f = ("range" : Str)) && glB c.sc f && decide (f ∈ c.fr)
def lcI (rE : Expr → WE) (c : DCtx) (ct : CT) (t : WT) (e : WE) : Expr → WE
  | .Call (.Name f p) [a] [] q => if isRng c f = true then (if isStar a = true then wBad else wLcR1 (argsW rE [a]) ct t e) else wLc (rE (.Call (.Name f p) [a] [] q)) ct t e
  | .Call (.Name f p) [a, b] [] q => if isRng c f = true then (if (isStar a || isStar b) = true then wBad else wLcR2 (argsW rE [a, b]) ct t e) else wLc (rE (.Call (.Name f p) [a, b] [] q)) ct t e
  | iter => if isSet iter = true then wBad else wLc (rE iter) ct t e
def lcW (rE : DCtx → Expr → WE) (rT : DCtx → Expr → WT) (c : DCtx) (elt tg iter : Expr) (ifs : List Expr) (scope : Scope) : WE :=
  match ctOf scope c.N tg with
  | none => wBad
  | some (own, ct) => if (blkC c.N c.sc scope own && decide (own.map (·.2) = ct.ix) && decide ct.ix.Nodup) = true then
      lcI (rE c) c ct (condW (rT (blkD c scope)) ifs) (shW c (rE (blkD c scope) elt)) iter
    else wBad
def stepE (rE : DCtx → Expr → WE) (rT : DCtx → Expr → WT) (c : DCtx) : Expr → WE
  | .Constant (.int i) _ _ => wC (.int i)
  | .Constant (.bool b) _ _ => wC (.bl b)
  | .Constant .none _ _ => wC .non
  | .Constant (.str x) _ _ => wC (.str x)
  | .Name x _ => nameW c x
  | .BinOp a op b _ => wBin (binOf op) (rE c a) (rE c b)
  | .UnaryOp .Not a _ => wNotV (rE c a)
  | .UnaryOp .USub a _ => wUn opNeg (rE c a)
  | .BoolOp .And vs _ => andW (rE c) vs
  | .BoolOp .Or vs _ => orW (rE c) vs
  | .IfExp t a b _ => wIte (rT c t) (rE c a) (rE c b)
  | .Compare a [op] [b] _ => if behindInMarks op b = true then wBad else wBin (cmpOf op) (rE c a) (rE c b)
  | .Compare a [op, op'] [b, d] _ => if lastMarks [op, op'] [b, d] = true then wBad else wChain (cmpOf op) (cmpOf op') (rE c a) (rE c b) (rE c d)
  | .Subscript a b _ => if isSlc b = true then wBad else wBin opIx (rE c a) (rE c b)
  | .Tuple es _ _ => wCB opTup (argsW (fun e => wSh (rE c e)) es)
  | .List es _ => wCB opLst (argsW (fun e => wSh (rE c e)) es)
  | .Attribute o f _ => if isCall0 o = true then wBad else wUn (opFld c.ct f) (rE c o)
  | .Call (.Name x _) es [] _ => if es.any isStar = true then wBad else callW c x es.length (argsW (rE c) es)
  | .Call (.Name x _) (e :: es) kws _ => if ((kws.all fun k => k.arg.isSome) && !(e :: es).any isStar) = true then callKW c x (es.length + 1 + kws.length) (kwNames kws) (argsW (rE c) (e :: es)) (kwsW (rE c) kws) else wBad
  | .Call (.Attribute (.Name x _) m ap) es [] cp => if (ap.endLine == cp.line) = true then methW c (rE c) x m es else wBad
  | .ListComp elt [⟨tg, iter, ifs, 0⟩] scope _ => lcW rE rT c elt tg iter ifs scope
  | _ => wBad
def tForm : Expr → Bool
  | .Compare _ _ _ _ => false
  | .BoolOp _ _ _ => false
  | .UnaryOp .Not _ _ => false
  | .IfExp _ _ _ _ => false
  | _ => true
def stepT (rE : DCtx → Expr → WE) (rT : DCtx → Expr → WT) (c : DCtx) : Expr → WT
  | .Compare a [op] [b] _ => if behindInMarks op b = true then wBadT else wTest (wBin (cmpOf op) (rE c a) (rE c b))
  | .Compare a [op, op'] [b, d] _ => if lastMarks [op, op'] [b, d] = true then wBadT else wTest (wChain (cmpOf op) (cmpOf op') (rE c a) (rE c b) (rE c d))
  | .BoolOp .And vs _ => andT (rT c) vs
  | .BoolOp .Or vs _ => orT (rT c) vs
  | .UnaryOp .Not a _ => wNotT (rT c a)
  | e => if tForm e = true then wTru (rE c e) else wBadT
mutual
def denE : Nat → DCtx → Expr → WE
  | 0 => fun _ _ => wBad
  | n + 1 => stepE (denE n) (denT n)
def denT : Nat → DCtx → Expr → WT
  | 0 => fun _ _ => wBadT
  | n + 1 => stepT (denE n) (denT n)
end
end FL

end
section
set_option maxHeartbeats 1000000
/-! FL15: the readings of expressions are right. -/
namespace FL
open PySem PySem.Spec PyProof.Rows L2

abbrev Wn : WX := fun _ _ _ _ => False
section
variable {CX : CXT} {X : Cx} {Wx : WX} {c : DCtx}
theorem pf_bad {e : Expr} : PF X Wx e wBad := ⟨fun pins s σ H Q I ⟨_, _, _, _, _, _, h, _⟩ => h.elim⟩
theorem pft_bad {e : Expr} : PFT X Wx e wBadT := ⟨fun pins s σ H Q I ⟨_, _, _, _, _, _, h, _⟩ => h.elim⟩
theorem pfa_bad {e : List Expr} : PFA X Wx e wBadA := ⟨fun pos pins s σ H Q I ⟨_, _, _, _, _, _, h, _⟩ => h.elim⟩
theorem magic_db {x : Str} (h : ¬ magic x = true) : (x == ("__debug__" : Str)) = false ∧ (x == ("__classdict__" : Str)) = false := by
  unfold magic at h
  rw [Bool.or_eq_true] at h
  cases h1 : (x == ("__debug__" : Str)) <;> cases h2 : (x == ("__classdict__" : Str)) <;> simp [h1, h2] at h ⊢
theorem COk.gl (k : COk CX Wx X c) {x : Str} (h : glB c.sc x = true) : Gl X x := by
  show X.env.scope.names.lookup x = _
  rw [k.sc]
  exact glB_ok h
theorem COk.vis (k : COk CX Wx X c) {x : Str} (h : visB c.sc x = true) : Vis X.env.scope x := by
  rw [k.sc]
  exact visB_ok h
theorem COk.slot (k : COk CX Wx X c) {x : Str} {i : Nat} (h : slotN c.N x = some i) : X.N[i]? = some x := by
  rw [k.N]
  exact slotN_ok h
theorem pf_name (k : COk CX Wx X c) {x : Str} {p : Pos} : PF X Wx (.Name x p) (nameW c x) := by
  unfold nameW
  split
  · exact pf_bad
  rename_i hm
  obtain ⟨m1, m2⟩ := magic_db hm
  split
  · rename_i hv
    split
    · exact pf_var (pe_var (k.slot (by assumption)) (k.vis hv) m1 m2)
    · exact pf_bad
  split
  · rename_i hg
    split
    · obtain ⟨v, u, h1, h2, h3⟩ := k.glb _ _ (by assumption)
      exact pf_c (pe_glob (k.gl hg) h1 h2 m1) h3
    · split
      · rename_i hf
        split
        · rename_i t ht
          obtain ⟨t1, t2, t3⟩ := tyOf_ok ht
          exact pf_c (pe_bltn (v := .ty t) (k.gl hg) (k.fr _ hf) t1 rfl t2 t3) fun _ => .ty
        · exact pf_bad
      · exact pf_bad
  · exact pf_bad
theorem nostar {e : Expr} {es : List Expr} {env : Env} (h : ¬ isStar e = true) : starEach (e :: es) env = (false, eval e env) :: starEach es env := by
  cases e <;> first | rfl | exact absurd rfl h
theorem pfa_args {f : Expr → WE} (h : ∀ e, PF X Wx e (f e)) : ∀ es : List Expr, PFA X Wx es (argsW f es)
  | [] => pfa_nil
  | e :: es => by
    unfold argsW
    split
    · exact pfa_bad
    · exact pfa_cons (h e) (pfa_args h es) (nostar (by assumption))
theorem pf_and {f : Expr → WE} {pos : Pos} (h : ∀ e, PF X Wx e (f e)) : ∀ es : List Expr, PF X Wx (.BoolOp .And es pos) (andW f es)
  | [] => pf_bad
  | [a] => pe_one (h a)
  | a :: b :: r => pe_imp (pe_and (h a) (pf_and h (b :: r))) imp_andV
theorem pf_or {f : Expr → WE} {pos : Pos} (h : ∀ e, PF X Wx e (f e)) : ∀ es : List Expr, PF X Wx (.BoolOp .Or es pos) (orW f es)
  | [] => pf_bad
  | [a] => pe_one (h a)
  | a :: b :: r => pe_imp (pe_or (h a) (pf_or h (b :: r))) imp_orV
theorem pfw_and {f : Expr → WT} {pos : Pos} (h : ∀ e, PFT X Wx e (f e)) : ∀ es : List Expr, PW X (.BoolOp .And es pos) (tT X.kw Wx (andT f es))
  | [] => ⟨fun w pins s σ H Q I ⟨_, _, _, _, _, _, h, _⟩ => h.elim⟩
  | [a] => pw_and1 (h a)
  | a :: b :: r => pw_imp (pw_and (h a) (pfw_and h (b :: r))) imp_and
theorem pfw_or {f : Expr → WT} {pos : Pos} (h : ∀ e, PFT X Wx e (f e)) : ∀ es : List Expr, PW X (.BoolOp .Or es pos) (tT X.kw Wx (orT f es))
  | [] => ⟨fun w pins s σ H Q I ⟨_, _, _, _, _, _, h, _⟩ => h.elim⟩
  | [a] => pw_or1 (h a)
  | a :: b :: r => pw_imp (pw_or (h a) (pfw_or h (b :: r))) imp_or
theorem od_no {K : KW} {r : R2} : OpD K r opNo := fun _ _ _ _ _ _ _ _ _ _ _ _ _ h _ => h.elim
theorem bin_ok (op : Operator) : ∃ r, OpR X (binaryOp op) r ∧ OpD X.kw r (binOf op) := by
  cases op
  · exact ⟨_, op_addD, od_add⟩
  · exact ⟨_, op_sub, od_sub⟩
  · exact ⟨_, op_mulD, od_mul⟩
  · exact ⟨fun _ _ _ _ => False, fun _ _ _ _ _ _ _ _ _ _ _ _ h => h.elim, od_no⟩
  · exact ⟨fun _ _ _ _ => False, fun _ _ _ _ _ _ _ _ _ _ _ _ h => h.elim, od_no⟩
  · exact ⟨_, op_mod, od_mod⟩
  · exact ⟨_, op_pow, od_pow⟩
  · exact ⟨fun _ _ _ _ => False, fun _ _ _ _ _ _ _ _ _ _ _ _ h => h.elim, od_no⟩
  · exact ⟨fun _ _ _ _ => False, fun _ _ _ _ _ _ _ _ _ _ _ _ h => h.elim, od_no⟩
  · exact ⟨fun _ _ _ _ => False, fun _ _ _ _ _ _ _ _ _ _ _ _ h => h.elim, od_no⟩
  · exact ⟨fun _ _ _ _ => False, fun _ _ _ _ _ _ _ _ _ _ _ _ h => h.elim, od_no⟩
  · exact ⟨fun _ _ _ _ => False, fun _ _ _ _ _ _ _ _ _ _ _ _ h => h.elim, od_no⟩
  · exact ⟨_, op_fdivW, od_fdiv⟩
theorem cmp_ok (hu : X.A.units + 64 < cLine) (op : CmpOp) : ∃ r, OpR X (compareOp op) r ∧ OpD X.kw r (cmpOf op) := by
  cases op
  · exact ⟨_, op_eqU hu, od_eq⟩
  · exact ⟨_, op_neU hu, od_ne⟩
  · exact ⟨_, op_lt, od_cmp⟩
  · exact ⟨_, op_le, od_cmp⟩
  · exact ⟨_, op_gt, od_cmp⟩
  · exact ⟨_, op_ge, od_cmp⟩
  · exact ⟨_, op_isU, od_is⟩
  · exact ⟨_, op_isNotU, od_isNot⟩
  · exact ⟨_, op_inU, od_in false⟩
  · exact ⟨_, op_notInU, od_in true⟩
theorem starPl {pos : Pos} {env : Env} : ∀ {es : List Expr}, es.any isStar = false → (backTo pos (starEach es env)).any (·.1) = false
  | [], _ => rfl
  | e :: es, h => by
    rw [List.any_cons, Bool.or_eq_false_iff] at h
    rw [nostar (by rw [h.1]; exact Bool.false_ne_true)]
    have ih := starPl (pos := pos) (env := env) h.2
    unfold backTo at ih ⊢
    rw [List.map_cons, List.any_cons]
    exact (Bool.or_eq_false_iff.mpr ⟨rfl, ih⟩)

theorem blt_ok (k : COk CX Wx X c) {x : Str} {op : List D → (D → Prop) → Prop} (h : bltOp x = some op) : ∃ id r, CallR X (.builtin id) r ∧ CallD X.kw r op ∧ bootBuiltins x = some (.builtin id) ∧ x ≠ "__name__" := by
  unfold bltOp at h
  split at h
  · subst x; cases h; exact ⟨_, _, call_len, cd_len, by decide +kernel, by decide⟩
  split at h
  · subst x; cases h; exact ⟨_, _, call_isi.or (call_isiT.or call_isiK), cd_isi, by decide +kernel, by decide⟩
  split at h
  · subst x; cases h; exact ⟨_, _, (call_max2 k.calm).or (cr_max k.calm), cd_max, by decide +kernel, by decide⟩
  split at h
  · subst x; cases h; exact ⟨_, _, (call_min2 k.calm).or (cr_min k.calm), cd_min, by decide +kernel, by decide⟩
  split at h
  · subst x; cases h; exact ⟨_, _, cr_sum k.calm, cd_sum, by decide +kernel, by decide⟩
  split at h
  · subst x; cases h; exact ⟨_, _, cr_sortedI, cd_sorted, by decide +kernel, by decide⟩
  cases h
theorem bty_ok {x : Str} {op : List D → (D → Prop) → Prop} (h : btyOp x = some op) : ∃ id r, CallR X (.type id) r ∧ CallD X.kw r op ∧ bootBuiltins x = some (.type id) ∧ x ≠ "__name__" := by
  unfold btyOp at h
  split at h
  · subst x; cases h; exact ⟨_, _, call_int1, cd_int, by decide +kernel, by decide⟩
  split at h
  · subst x; cases h; exact ⟨_, _, call_list_of, cd_list, by decide +kernel, by decide⟩
  split at h
  · subst x; cases h; exact ⟨_, _, call_tuple_of, cd_tuple, by decide +kernel, by decide⟩
  cases h
theorem imp_nil {K : KW} (σ : St) (H : Hp) (Q : List V → Hp → Prop) (h : tA K Wx wNil σ H Q) : tNil σ H Q := by
  obtain ⟨B, ρ, fp, Xd, P, w, hP, hQ, _⟩ := h
  exact hQ [] ρ [] B H hP w.refl
theorem imp_call0 {K : KW} {F : WF} {ks : List Bool} {n : Nat} {E : XK} (hn : ks.length = n) (hE : ∀ σ c d H, E c d H ↔ Wx c d σ H) (σ : St) (H : Hp) (Q : VK) (h : tE K Wx (wCall F ks wNil) σ H Q) : tCall (spD K F n) [] E tNil σ H Q := imp_nil σ H _ (imp_call hn hE σ H Q h)
theorem imp_make0 {K : KW} {C : Str} {F : WF} {ks : List Bool} {n : Nat} {E : XK} (hn : ks.length + 1 = n) (hE : ∀ σ c d H, E c d H ↔ Wx c d σ H) (σ : St) (H : Hp) (Q : VK) (h : tE K Wx (wMake C F ks wNil) σ H Q) : tMake (He.ga K.F C) (spD K F n) [] E tNil σ H Q := imp_nil σ H _ (imp_make hn hE σ H Q h)
theorem pf_callN (k : COk CX Wx X c) {f : Expr → WE} (h : ∀ e, PF X Wx e (f e)) {x : Str} {p pos : Pos} {es : List Expr} (hs : es.any isStar = false) : PF X Wx (.Call (.Name x p) es [] pos) (callW c x es.length (argsW f es)) := by
  have ha := pfa_args h es
  unfold callW
  split
  · exact pf_bad
  rename_i hm
  obtain ⟨m1, m2⟩ := magic_db hm
  split
  · rename_i hg
    obtain ⟨E, hx, hE⟩ := k.px
    split
    · split
      · rename_i hl hn
        obtain ⟨j, fa, fd, ps, g1, g2, g3, g4, g5⟩ := k.fns _ _ hl
        cases es with
        | nil => exact pe_imp (pe_call0 g2 (k.room.mono g1) (k.gl hg) g3 g4 g5 .nil hx m1) (imp_call0 rfl hE)
        | cons e es => exact pe_imp (pe_call g2 (k.room.mono g1) (k.gl hg) g3 g4 g5 .nil hx ha m1 (nostar (by rw [(Bool.or_eq_false_iff.mp hs).1]; exact Bool.false_ne_true)) (starPl (Bool.or_eq_false_iff.mp hs).2)) (imp_call rfl hE)
      · exact pf_bad
    · split
      · split
        · rename_i hl hn
          obtain ⟨j, fa, fd, ps, g1, g2, g3, g4, g5⟩ := k.mks _ _ hl
          cases es with
          | nil => exact pe_imp (pe_make0 g2 g3 (k.room.mono g1) (k.gl hg) g4 g5 .nil hx m1) (imp_make0 rfl hE)
          | cons e es => exact pe_imp (pe_make g2 g3 (k.room.mono g1) (k.gl hg) g4 g5 .nil hx ha m1 (nostar (by rw [(Bool.or_eq_false_iff.mp hs).1]; exact Bool.false_ne_true)) (starPl (Bool.or_eq_false_iff.mp hs).2)) (imp_make rfl hE)
        · exact pf_bad
      · split
        · exact pf_bad
        rename_i hk
        split
        · rename_i hf
          cases es with
          | nil => exact absurd rfl hk
          | cons e es =>
            have q1 := nostar (env := X.env) (es := es) (e := e) (by rw [(Bool.or_eq_false_iff.mp hs).1]; exact Bool.false_ne_true)
            have q2 := starPl (env := X.env) (pos := pos) (Bool.or_eq_false_iff.mp hs).2
            split
            · obtain ⟨id, r, b1, b2, b3, b4⟩ := blt_ok k (by assumption)
              exact pe_imp (pe_callB b1 (k.gl hg) (k.fr _ hf) b3 ha b4 m1 q1 q2) (imp_cb b2)
            · split
              · obtain ⟨id, r, b1, b2, b3, b4⟩ := bty_ok (X := X) (by assumption)
                exact pe_imp (pe_callTy b1 (k.gl hg) (k.fr _ hf) b3 ha b4 m1 q1 q2) (imp_cb b2)
              · exact pf_bad
        · exact pf_bad
  · exact pf_bad
theorem pk_imp {ks : List Keyword} {t t' : TA} (h : PK X ks t) (i : ∀ σ H Q, t' σ H Q → t σ H Q) : PK X ks t' := ⟨fun pos pins s σ H Q I hw => h.run pos pins s σ H Q I (i _ _ _ hw)⟩
theorem imp_cons {K : KW} {f : WE} {g : WA} (σ : St) (H : Hp) (Q : List V → Hp → Prop) (h : tA K Wx (wCons f g) σ H Q) : tCons (tE K Wx f) (tA K Wx g) σ H Q := by
  obtain ⟨B, ρ, fp, Xd, P, w, hP, hQ, hX⟩ := h
  refine ⟨B, ρ, fp, Xd, _, w, hP, fun r ρ1 v B1 H1 h1 p1 => ?_, hX⟩
  obtain ⟨f1, w1, k, kx⟩ := p1.step
  exact ⟨B1, ρ1, f1, Xd, _, w1, h1, fun rs ρ2 vs B2 H2 h2 p2 => hQ _ ρ2 _ B2 H2 h2 (k p2), fun x ρ' c d B' H' hx px => hX x ρ' c d B' H' hx (kx px)⟩
theorem pk_kws {f : Expr → WE} (h : ∀ e, PF X Wx e (f e)) : ∀ {ks : List Keyword}, PK X ks (tA X.kw Wx (kwsW f ks))
  | [] => pk_imp pk_nil imp_nil
  | ⟨n, e, p⟩ :: r => pk_imp (pk_cons (h e) (pk_kws h)) imp_cons
theorem kw_all {pos : Pos} {env : Env} : ∀ {ks : List Keyword}, (ks.all fun k => k.arg.isSome) = true → (backToKw pos (keywordEach ks env)).all (·.1.isSome) = true ∧ (backToKw pos (keywordEach ks env)).filterMap (·.1) = kwNames ks ∧ (backToKw pos (keywordEach ks env)).any (·.1.isNone) = false
  | [], _ => ⟨rfl, rfl, rfl⟩
  | ⟨none, e, p⟩ :: r, h => by simp at h
  | ⟨some n, e, p⟩ :: r, h => by
    have h2 : (r.all fun k => k.arg.isSome) = true := by
      rw [List.all_cons, Bool.and_eq_true] at h
      exact h.2
    obtain ⟨i1, i2, i3⟩ := kw_all (pos := pos) (env := env) h2
    unfold backToKw at i1 i2 i3 ⊢
    refine ⟨?_, ?_, ?_⟩
    · show ((List.map _ ((some n, eval e env) :: keywordEach r env)).all _) = true
      rw [List.map_cons, List.all_cons, i1]; rfl
    · show (List.map _ ((some n, eval e env) :: keywordEach r env)).filterMap _ = [n] ++ kwNames r
      rw [List.map_cons, List.filterMap_cons, i2]; rfl
    · show ((List.map _ ((some n, eval e env) :: keywordEach r env)).any _) = false
      rw [List.map_cons, List.any_cons, i3]; rfl
theorem pf_callK (k : COk CX Wx X c) {f : Expr → WE} (h : ∀ e, PF X Wx e (f e)) {x : Str} {p pos : Pos} {e : Expr} {es : List Expr} {ks : List Keyword} {n : Nat} (hs : (e :: es).any isStar = false) (hk : (ks.all fun k => k.arg.isSome) = true) :
    PF X Wx (.Call (.Name x p) (e :: es) ks pos) (callKW c x n (kwNames ks) (argsW f (e :: es)) (kwsW f ks)) := by
  have ha := pfa_args h (e :: es)
  unfold callKW
  split
  · exact pf_bad
  rename_i hm
  obtain ⟨m1, m2⟩ := magic_db hm
  split
  · rename_i hg
    obtain ⟨E, hx, hE⟩ := k.px
    split
    · split
      · rename_i ns m d hl hn
        obtain ⟨j, fa, fd, ps, g1, g2, g3, g4, g5⟩ := k.kws _ _ _ _ hl
        obtain ⟨q1, q2, q3⟩ := kw_all (pos := pos) (env := X.env) hk
        rw [hn.1] at g5
        exact pe_imp (pe_callK g2 (k.room.mono g1) (k.gl hg) g3 g4 g5 hx ha (pk_kws h) q1 q2 m1 (nostar (by rw [(Bool.or_eq_false_iff.mp hs).1]; exact Bool.false_ne_true)) (Bool.or_eq_false_iff.mpr ⟨starPl hs, q3⟩)) (imp_callK rfl hE)
      · exact pf_bad
    · exact pf_bad
  · exact pf_bad
theorem pf_shW {f : WE} {e : Expr} (h : PF X Wx e f) : PF X Wx e (shW c f) := by
  unfold shW
  split
  · exact pf_sh h
  · exact h
theorem imp_sing {K : KW} {f : WE} (σ : St) (H : Hp) (Q : List V → Hp → Prop) (h : tA K Wx (argsW (fun _ => f) [.Name "x" ⟨0, 0, 0, 0⟩]) σ H Q) : tCons (tE K Wx f) tNil σ H Q := by
  have z := imp_cons σ H Q h
  obtain ⟨B, ρ, fp, Xd, P, w, hP, hQ, hX⟩ := z
  exact ⟨B, ρ, fp, Xd, P, w, hP, fun r ρ1 v B1 H1 h1 p1 => imp_nil _ _ _ (hQ r ρ1 v B1 H1 h1 p1), hX⟩
theorem pf_meth (k : COk CX Wx X c) {f : Expr → WE} (h : ∀ e, PF X Wx e (f e)) {x m : Str} {p ap cp : Pos} {es : List Expr} (hl : (ap.endLine == cp.line) = true) : PF X Wx (.Call (.Attribute (.Name x p) m ap) es [] cp) (methW c f x m es) := by
  unfold methW
  split
  · exact pf_bad
  rename_i hm
  obtain ⟨m1, m2⟩ := magic_db hm
  split
  · rename_i hv
    split
    · rename_i i hi
      have hx : PE X (.Name x p) (tVar i) := pe_var (k.slot hi) (k.vis hv) m1 m2
      split
      · rename_i e
        split
        · exact pf_bad
        rename_i hst
        have q1 := nostar (env := X.env) (es := []) hst
        have few : ((backTo cp (starEach [e] X.env)).all (fun x => !x.1) && (backToKw cp (keywordEach [] X.env)).all (fun x => x.1.isSome) && decide ([e].length + ([] : List Keyword).length + (if ([] : List Keyword).isEmpty then 0 else 1) < 30)) = true := by
          rw [q1]; rfl
        split
        · rename_i hm; subst hm
          exact pe_imp (pe_bm PySem.F.plainAttrs_list PySem.F.slot_list_append PySem.F.type_list_append mt_append hx (pa_cons (pf_shW (c := c) (h e)) pa_nil q1) rfl few hl q1 rfl) imp_app
        · split
          · rename_i hm; subst hm
            exact pe_imp (pe_bm PySem.F.plainAttrs_list PySem.F.slot_list_pop PySem.F.type_list_pop mt_popAt hx (pa_cons (h e) pa_nil q1) rfl few hl q1 rfl) imp_popAt
          · exact pf_bad
      · split
        · rename_i hm; subst hm
          exact pe_imp (pe_bm0 PySem.F.plainAttrs_list PySem.F.slot_list_pop PySem.F.type_list_pop mt_pop hx rfl hl) imp_pop
        · exact pf_bad
      · exact pf_bad
    · exact pf_bad
  · exact pf_bad
/-! ### comprehensions -/
theorem slots_ok {sc : Scope} {N : List Str} : ∀ {es : List Expr} {l : List (Str × Nat)}, slotsOf sc N es = some l → es.length = l.length ∧ (∀ q ∈ l, N[q.2]? = some q.1 ∧ Loc sc q.1)
  | [], l, h => by cases h; exact ⟨rfl, fun _ h => nomatch h⟩
  | e :: r, l, h => by
    cases e <;> first | (cases h; done) | skip
    unfold slotsOf at h
    split at h
    · rename_i hl
      split at h
      · rename_i i l2 h1 h2
        cases h
        obtain ⟨k1, k2⟩ := slots_ok h2
        refine ⟨by rw [List.length_cons, List.length_cons, k1], fun q hq => ?_⟩
        rcases List.mem_cons.mp hq with z | z
        · subst z; exact ⟨slotN_ok h1, locB_ok hl⟩
        · exact k2 q z
      · cases h
    · cases h
end
end FL

end
section
set_option maxHeartbeats 1000000
/-! FL16: the readings of expressions are right, the whole. -/
namespace FL
open PySem PySem.Spec PyProof.Rows L2

section
variable {CX : CXT} {X : Cx} {Wx : WX} {c : DCtx}
abbrev TgOk (X : Cx) (l : List (Str × Nat)) : Prop := ∀ q ∈ l, X.N[q.2]? = some q.1 ∧ Loc X.env.scope q.1 ∧ (X.fn q.1 = true ∨ X.env.scope.names.lookup q.1 = some .local)
theorem pgs_names (hN : X.N.Nodup) {sc : Scope} {N : List Str} : ∀ {es : List Expr} {l : List (Str × Nat)}, slotsOf sc N es = some l → TgOk X l →
    PGs X es (gNsT (l.map (·.2))) ∧ (assignEach es X.env).length = l.length ∧ (assignEach es X.env).findIdx? (·.1) = none
  | [], l, h, _ => by cases h; exact ⟨pgs_nil, rfl, rfl⟩
  | e :: r, l, h, g => by
    cases e <;> first | (cases h; done) | skip
    unfold slotsOf at h
    split at h
    · split at h
      · rename_i i l2 h1 h2
        cases h
        obtain ⟨k1, k2, k3⟩ := pgs_names hN h2 fun q hq => g q (List.mem_cons_of_mem _ hq)
        obtain ⟨g1, g2, g3⟩ := g _ List.mem_cons_self
        refine ⟨pgs_cons (pg_name hN g1 g2 g3) k1 rfl, ?_, ?_⟩
        · show (_ :: assignEach r X.env).length = _
          rw [List.length_cons, k2]; rfl
        · show (_ :: assignEach r X.env).findIdx? _ = none
          rw [List.findIdx?_cons, k3]; rfl
      · cases h
    · cases h
theorem pg_ct (hc : X.calm = true) (hN : X.N.Nodup) {sc : Scope} {N : List Str} {tg : Expr} {own : List (Str × Nat)} {ct : CT} (h : ctOf sc N tg = some (own, ct)) (g : TgOk X own) : PG X tg (ct.tg X.K) := by
  unfold ctOf at h
  split at h
  · split at h
    · split at h
      · cases h
        obtain ⟨g1, g2, g3⟩ := g _ List.mem_cons_self
        exact pg_name hN g1 g2 g3
      · cases h
    · cases h
  · split at h
    · rename_i es kk p l hs
      have e1 : l = own := congrArg (·.1) (Option.some.inj h)
      have e2 : CT.tup (l.map (·.2)) = ct := congrArg (·.2) (Option.some.inj h)
      subst e1 e2
      obtain ⟨k1, k2, k3⟩ := pgs_names (X := X) hN hs g
      have z := fun p kk => pg_tup (pos := p) (k := kk) hc k1 k2 k3
      have e : (l.map (·.2)).length = l.length := List.length_map _
      show PG X _ (gTup X.K (l.map (·.2)).length (gNsT (l.map (·.2))))
      rw [e]
      exact z _ _
    · cases h
  · cases h
theorem ctOf_raw {sc : Scope} {N : List Str} {tg : Expr} {own : List (Str × Nat)} {ct : CT} (h : ctOf sc N tg = some (own, ct)) : ∀ q ∈ own, N[q.2]? = some q.1 ∧ Loc sc q.1 := by
  unfold ctOf at h
  split at h
  · split at h
    · rename_i hl
      split at h
      · rename_i i hi
        cases h
        intro q hq
        rw [List.mem_singleton.mp hq]
        exact ⟨slotN_ok hi, locB_ok hl⟩
      · cases h
    · cases h
  · split at h
    · rename_i es kk p l hs
      have e1 : l = own := congrArg (·.1) (Option.some.inj h)
      subst e1
      exact (slots_ok hs).2
    · cases h
  · cases h
theorem COk.blk (k : COk CX Wx X c) {scope : Scope} (s : Shared) (H : Hp) (C : Addr) (cl : List (Str × Addr)) (fp : List Addr) : COk CX Wn (X.blk s H scope (compEnvC scope cl C X.env) fp) (blkD c scope) where
  N := k.N
  nd := k.nd
  sc := by
    show relS scope X.env.scope = relS scope c.sc
    rw [k.sc]
  calm := k.calm
  room := k.room
  fns := k.fns
  kws := k.kws
  mks := k.mks
  glb := k.glb
  fr := k.fr
  ct := k.ct
  px := ⟨fun _ _ _ => False, fun _ _ _ _ _ _ _ h => k.pz _ _ _ _ _ h, fun _ _ _ _ => Iff.rfl⟩
  pz := k.pz
theorem blk_tg (hN : X.N = c.N) {scope : Scope} {tg : Expr} {own : List (Str × Nat)} {ct : CT} (h : ctOf scope c.N tg = some (own, ct)) (s : Shared) (H : Hp) (C : Addr) (cl : List (Str × Addr)) (fp : List Addr) : TgOk (X.blk s H scope (compEnvC scope cl C X.env) fp) own := by
  intro q hq
  obtain ⟨h1, h2⟩ := ctOf_raw h q hq
  refine ⟨by rw [← hN] at h1; exact h1, ?_⟩
  rcases h2 with z | z
  · have y : (compEnvC scope cl C X.env).scope.names.lookup q.1 = some .local := lookup_relS_keep (sc := X.env.scope) (by decide) z
    exact ⟨.inl y, .inr y⟩
  · have y : (compEnvC scope cl C X.env).scope.names.lookup q.1 = some .cell := lookup_relS_keep (sc := X.env.scope) (by decide) z
    refine ⟨.inr y, .inl ?_⟩
    show (scope.names.lookup q.1 == some .cell) = true
    rw [z]; rfl
theorem pts_cond {X : Cx} {f : Expr → WT} (h : ∀ e, PFT X Wx e (f e)) (ifs : List Expr) : PTs X ifs (tT X.kw Wx (condW f ifs)) := by
  unfold condW
  split
  · exact ⟨fun pins s σ H Q I hw => pts_nil.run pins s σ H Q I (imp_yes σ H Q hw)⟩
  · exact pts_one (h _)
  · exact ⟨fun pins s σ H Q I ⟨_, _, _, _, _, _, h, _⟩ => h.elim⟩
theorem nofold {iter : Expr} {env : Env} (h : ¬ isSet iter = true) : ∀ x, foldedSetIterable iter env x = pure x := by
  cases iter <;> first | (intro x; rfl) | exact absurd rfl h
theorem star1 {a : Expr} {env : Env} (h : ¬ isStar a = true) : starEach [a] env = [(false, eval a env)] := nostar h
theorem isRng_ok (k : COk CX Wx X c) {f : Str} (h : isRng c f = true) : f = "range" ∧ Gl X "range" ∧ X.mg "range" = none := by
  unfold isRng at h
  rw [Bool.and_eq_true, Bool.and_eq_true, decide_eq_true_eq, decide_eq_true_eq] at h
  obtain ⟨⟨h1, h2⟩, h3⟩ := h
  subst h1
  exact ⟨rfl, k.gl h2, k.fr _ h3⟩
theorem lc_use (k : COk CX Wx X c) {rE : DCtx → Expr → WE} {rT : DCtx → Expr → WT} (hE : ∀ {Wx : WX} {X : Cx} {c : DCtx}, COk CX Wx X c → ∀ e, PF X Wx e (rE c e)) (hT : ∀ {Wx : WX} {X : Cx} {c : DCtx}, COk CX Wx X c → ∀ e, PFT X Wx e (rT c e))
    {elt tg iter : Expr} {ifs : List Expr} {scope : Scope} (P : WE → Prop) (bad : P wBad)
    (good : ∀ (own : List (Str × Nat)) (wi : TI) (g : TG) (tt : TT) (te : TE) (w : WE), PI X tg iter wi → (∀ x, foldedSetIterable iter X.env x = pure x) → BlkOk X.N X.env.scope scope own →
      (∀ (s : Shared) (H : Hp) (C : Addr) (cl : List (Str × Addr)) (fp : List Addr), PG (X.blk s H scope (compEnvC scope cl C X.env) fp) tg g) → (∀ (s : Shared) (H : Hp) (C : Addr) (cl : List (Str × Addr)) (fp : List Addr), PTs (X.blk s H scope (compEnvC scope cl C X.env) fp) ifs tt) →
      (∀ (s : Shared) (H : Hp) (C : Addr) (cl : List (Str × Addr)) (fp : List Addr), PE (X.blk s H scope (compEnvC scope cl C X.env) fp) elt te) → (∀ σ H Q, tE X.kw Wx w σ H Q → tLc wi g tt te (own.map (·.2)) σ H Q) → P w) : P (lcW rE rT c elt tg iter ifs scope) := by
  unfold lcW
  split
  · exact bad
  rename_i own ct hct
  split
  · rename_i hb
    rw [Bool.and_eq_true, Bool.and_eq_true, decide_eq_true_eq, decide_eq_true_eq] at hb
    obtain ⟨⟨b1, b2⟩, b3⟩ := hb
    have hN : X.N.Nodup := by rw [k.N]; exact k.nd
    have ok : BlkOk X.N X.env.scope scope own := by rw [k.N, k.sc]; exact blkOk_by b1
    have main : ∀ {wi : TI} {w : WE}, PI X tg iter wi → (∀ x, foldedSetIterable iter X.env x = pure x) →
        (∀ σ H Q, tE X.kw Wx w σ H Q → tLc wi (ct.tg X.K) (tT X.kw Wn (condW (rT (blkD c scope)) ifs)) (tE X.kw Wn (shW c (rE (blkD c scope) elt))) ct.ix σ H Q) → P w := fun {wi w} hi hs i => by
      rw [← b2] at i
      exact good own wi _ _ _ w hi hs ok
        (fun s H C cl fp => pg_ct (X := X.blk s H scope (compEnvC scope cl C X.env) fp) k.calm hN hct (blk_tg k.N hct s H C cl fp))
        (fun s H C cl fp => pts_cond (fun e => hT (k.blk s H C cl fp) e) ifs)
        (fun s H C cl fp => pf_shW (c := c) (hE (k.blk s H C cl fp) elt)) i
    unfold lcI
    split
    · split
      · split
        · exact bad
        · rename_i hr hst
          obtain ⟨e, r1, r2⟩ := isRng_ok k hr
          subst e
          exact main (pi_range1 r1 r2 (pfa_args (fun e => hE k e) _) (star1 hst)) (nofold (by exact Bool.false_ne_true)) (imp_lcR1 b3)
      · exact main (pi_seq (hE k _)) (nofold (by exact Bool.false_ne_true)) (imp_lc b3)
    · split
      · split
        · exact bad
        · rename_i f p a b q hr hst
          obtain ⟨e, r1, r2⟩ := isRng_ok k hr
          subst e
          have hst : ¬ isStar a = true ∧ ¬ isStar b = true := by simpa using hst
          exact main (pi_range2 r1 r2 (pfa_args (fun e => hE k e) _) (by rw [nostar hst.1, star1 hst.2]) (star1 hst.2)) (nofold (by exact Bool.false_ne_true)) (imp_lcR2 b3)
      · exact main (pi_seq (hE k _)) (nofold (by exact Bool.false_ne_true)) (imp_lc b3)
    · split
      · exact bad
      · exact main (pi_seq (hE k _)) (nofold (by assumption)) (imp_lc b3)
  · exact bad
theorem pf_lc (k : COk CX Wx X c) {rE : DCtx → Expr → WE} {rT : DCtx → Expr → WT} (hE : ∀ {Wx : WX} {X : Cx} {c : DCtx}, COk CX Wx X c → ∀ e, PF X Wx e (rE c e)) (hT : ∀ {Wx : WX} {X : Cx} {c : DCtx}, COk CX Wx X c → ∀ e, PFT X Wx e (rT c e))
    {elt tg iter : Expr} {ifs : List Expr} {scope : Scope} {pos : Pos} : PF X Wx (.ListComp elt [⟨tg, iter, ifs, 0⟩] scope pos) (lcW rE rT c elt tg iter ifs scope) :=
  lc_use k hE hT (fun w => PF X Wx (.ListComp elt [⟨tg, iter, ifs, 0⟩] scope pos) w) pf_bad fun own wi g tt te w hi hs ok h1 h2 h3 i => pe_imp (pe_lc k.calm (by rw [k.N]; exact k.nd) hi ok h1 h2 h3 hs) i
theorem nobase {o : Expr} {a : Str} {env : Env} (h : ¬ isCall0 o = true) : attributeBase o a env (eval o env) = eval o env := by
  cases o <;> first | rfl | skip
  rename_i f as ks p
  cases f <;> first | rfl | skip
  cases as with
  | cons => rfl
  | nil =>
    cases ks with
    | cons => rfl
    | nil => exact absurd rfl h
theorem stepE_ok (k : COk CX Wx X c) {rE : DCtx → Expr → WE} {rT : DCtx → Expr → WT} (hE : ∀ {Wx : WX} {X : Cx} {c : DCtx}, COk CX Wx X c → ∀ e, PF X Wx e (rE c e)) (hT : ∀ {Wx : WX} {X : Cx} {c : DCtx}, COk CX Wx X c → ∀ e, PFT X Wx e (rT c e)) (e : Expr) :
    PF X Wx e (stepE rE rT c e) := by
  have hu := k.room.units
  unfold stepE
  split
  · exact pf_c pe_int fun _ => .int
  · exact pf_c pe_bl fun _ => .bl
  · exact pf_c pe_non fun _ => .non
  · exact pf_c pe_str fun _ => .str
  · exact pf_name k
  · rename_i a op b p
    obtain ⟨r, h1, h2⟩ := bin_ok (X := X) op
    exact pe_imp (pe_op h1 (hE k a) (hE k b)) (imp_bin h2)
  · exact pe_imp (pe_not (hE k _)) imp_notV
  · exact pe_imp (pe_un un_neg (hE k _)) (imp_un ud_neg)
  · exact pf_and (hE k) _
  · exact pf_or (hE k) _
  · exact pe_imp (pe_ifExp (hT k _) (hE k _) (hE k _)) imp_ite
  · split
    · exact pf_bad
    · rename_i a op b p hb
      obtain ⟨r, h1, h2⟩ := cmp_ok hu op
      exact pe_imp (pe_cmpR h1 (hE k a) (hE k b) (by simpa using hb)) (imp_bin h2)
  · split
    · exact pf_bad
    · rename_i a op op' b d p hb
      obtain ⟨r, h1, h2⟩ := cmp_ok hu op
      obtain ⟨r', h1', h2'⟩ := cmp_ok hu op'
      exact pe_imp (pe_chain h1 h1' (hE k a) (hE k b) (hE k d) (by simpa using hb)) (imp_chain h2 h2')
  · split
    · exact pf_bad
    · rename_i a b p hb
      exact pe_imp (pe_ix ix_U (hE k a) (hE k b) (plainIx (by cases b <;> first | rfl | exact absurd rfl hb))) (imp_bin od_ix)
  · exact pe_imp (pe_tup (pfa_args (fun e => pf_sh (hE k e)) _)) (imp_cb cd_tup)
  · exact pe_imp (pe_lst (pfa_args (fun e => pf_sh (hE k e)) _)) (imp_cb cd_lst)
  · split
    · exact pf_bad
    · exact pe_imp (pe_fld (hE k _) (nobase (by assumption))) (imp_fld k.ct)
  · split
    · exact pf_bad
    · exact pf_callN k (hE k) (by rename_i h; simpa using h)
  · split
    · rename_i h
      rw [Bool.and_eq_true] at h
      exact pf_callK k (hE k) (by simpa using h.2) h.1
    · exact pf_bad
  · split
    · exact pf_meth k (hE k) (by assumption)
    · exact pf_bad
  · exact pf_lc k hE hT
  · exact pf_bad
theorem truth_form {e : Expr} {env : Env} (h : tForm e = true) : ∀ whole, isTrue e env whole = (do let v ← whole; standAt e.pos; holding [v] (truthy v)) := by
  intro whole
  cases e <;> first | rfl | (cases h; done) | skip
  rename_i op a p
  cases op <;> first | rfl | cases h
theorem stepT_ok (k : COk CX Wx X c) {rE : DCtx → Expr → WE} {rT : DCtx → Expr → WT} (hE : ∀ {Wx : WX} {X : Cx} {c : DCtx}, COk CX Wx X c → ∀ e, PF X Wx e (rE c e)) (hT : ∀ {Wx : WX} {X : Cx} {c : DCtx}, COk CX Wx X c → ∀ e, PFT X Wx e (rT c e)) (e : Expr) :
    PFT X Wx e (stepT rE rT c e) := by
  have hu := k.room.units
  unfold stepT
  split
  · split
    · exact pft_bad
    · rename_i a op b p hb
      obtain ⟨r, h1, h2⟩ := cmp_ok hu op
      exact pft_test (pt_cmpR h1 (hE k a) (hE k b) (by simpa using hb)) (imp_bin h2)
  · split
    · exact pft_bad
    · rename_i a op op' b d p hb
      obtain ⟨r, h1, h2⟩ := cmp_ok hu op
      obtain ⟨r', h1', h2'⟩ := cmp_ok hu op'
      exact pft_test (pt_chain h1 h1' (hE k a) (hE k b) (hE k d) (by simpa using hb)) (imp_chain h2 h2')
  · exact (pfw_and (hT k) _).pt
  · exact (pfw_or (hT k) _).pt
  · exact pft_not (hT k _)
  · split
    · exact pt_imp (pt_truth (hE k _) (truth_form (by assumption))) imp_tru
    · exact pft_bad
theorem den_ok : ∀ n : Nat, (∀ {Wx : WX} {X : Cx} {c : DCtx}, COk CX Wx X c → ∀ e, PF X Wx e (denE n c e)) ∧ (∀ {Wx : WX} {X : Cx} {c : DCtx}, COk CX Wx X c → ∀ e, PFT X Wx e (denT n c e))
  | 0 => ⟨fun _ _ => pf_bad, fun _ _ => pft_bad⟩
  | n + 1 => ⟨fun k e => stepE_ok k (den_ok n).1 (den_ok n).2 e, fun k e => stepT_ok k (den_ok n).1 (den_ok n).2 e⟩
end
end FL

end
section
set_option maxHeartbeats 1000000
/-! FL17: what a statement does, read off its text; it does it. -/
namespace FL
open PySem PySem.Spec PyProof.Rows L2

structure SOk (CX : CXT) (Wx : WX) (X : Cx) (c : DCtx) : Prop extends COk CX Wx X c where
  fn : ∀ x, X.fn x = true
  own : PassesOwn (model X.prog X.w) X.A X.env X.xe

def opAugAdd : Op2 := fun d e P => match d, e with
  | .int i, .int j => P (.int (i + j))
  | .str a, .str b => a.length + b.length ≤ sizeLine ∧ P (.str (a ++ b))
  | _, _ => False
def opAugMul : Op2 := opI CMul fun i j => .int (i * j)
def opAugDiv : Op2 := opI CDivW fun i j => .int (i / j)
def augOf : Operator → Op2
  | .Add => opAugAdd
  | .Sub => opSub
  | .Mult => opAugMul
  | .FloorDiv => opAugDiv
  | .Mod => opMod
  | _ => opNo
theorem od_opI {K : KW} {C : Int → Int → Prop} {g : Int → Int → V} {g' : Int → Int → D} (hg : ∀ i j B, Rep K B (g i j) (g' i j)) : OpD K (rI C g) (opI C g') := by
  intro B H x y d e f g P Q ex hx hy h k
  unfold opI at h
  split at h
  · exact ⟨_, _, hx.int_of, hy.int_of, h.1, k _ _ B H [] h.2 (.same ex (hg _ _ _))⟩
  · exact h.elim
theorem od_augAdd {K : KW} : OpD K (fun x y H Q => (rI0 fun i j => .int (i + j)) x y H Q ∨ (∃ i j, x = .str i ∧ y = .str j ∧ i.length + j.length ≤ sizeLine ∧ Q (.str (i ++ j)) H)) opAugAdd := by
  intro B H x y d e f g P Q ex hx hy h k
  unfold opAugAdd at h
  split at h
  · exact .inl ⟨_, _, hx.int_of, hy.int_of, k _ _ B H [] h (.same ex .int)⟩
  · exact .inr ⟨_, _, hx.str_of, hy.str_of, h.1, k _ _ B H [] h.2 (.same ex .str)⟩
  · exact h.elim
theorem aug_ok {X : Cx} (op : Operator) : ∃ r : TIp, PIp X op r ∧ OpD X.kw r (augOf op) := by
  cases op
  · exact ⟨_, iop_add.or iop_add_str, od_augAdd⟩
  · exact ⟨_, iop_sub, od_sub⟩
  · exact ⟨_, iop_mul, od_opI fun _ _ _ => .int⟩
  · exact ⟨fun _ _ _ _ => False, fun _ _ _ _ _ _ _ _ _ _ _ _ h => h.elim, od_no⟩
  · exact ⟨fun _ _ _ _ => False, fun _ _ _ _ _ _ _ _ _ _ _ _ h => h.elim, od_no⟩
  · exact ⟨_, iop_mod, od_mod⟩
  · exact ⟨fun _ _ _ _ => False, fun _ _ _ _ _ _ _ _ _ _ _ _ h => h.elim, od_no⟩
  · exact ⟨fun _ _ _ _ => False, fun _ _ _ _ _ _ _ _ _ _ _ _ h => h.elim, od_no⟩
  · exact ⟨fun _ _ _ _ => False, fun _ _ _ _ _ _ _ _ _ _ _ _ h => h.elim, od_no⟩
  · exact ⟨fun _ _ _ _ => False, fun _ _ _ _ _ _ _ _ _ _ _ _ h => h.elim, od_no⟩
  · exact ⟨fun _ _ _ _ => False, fun _ _ _ _ _ _ _ _ _ _ _ _ h => h.elim, od_no⟩
  · exact ⟨fun _ _ _ _ => False, fun _ _ _ _ _ _ _ _ _ _ _ _ h => h.elim, od_no⟩
  · exact ⟨_, iop_fdivW, od_opI fun _ _ _ => .int⟩

/-! ### readings -/
def wAsgT (g : WG) (f : WE) : WS := fun X E ρ => f X ρ fun r ρ1 => g ((r.tk ρ1).sh) (r.en ρ1) E.nx
def seqW (f : Stmt → WS) : List Stmt → WS
  | [] => wNext
  | [s] => f s
  | s :: t :: r => wSeq (f s) (seqW f (t :: r))
def isTup : Expr → Bool
  | .Tuple _ _ _ => true
  | _ => false
def isFnK (sc : Scope) : Bool := match sc.kind with
  | .function => true
  | _ => false
def ownIn (scope : Scope) (x : Str) : Bool := scope.names.any fun (n, k) => n == x && (k == .local || k == .cell)
def isDoc : Expr → Bool
  | .Constant (.str _) _ _ => true
  | _ => false
def asgN (rE : DCtx → Expr → WE) (c : DCtx) (x : Str) (px : Pos) (e : Expr) : WS :=
  if locB c.sc x = true then (match slotN c.N x with
    | some i => if i ∈ c.kp then wNever else (match e with
      | .ListComp elt [⟨tg, iter, ifs, 0⟩] scope pos => if (decide (c.sc.names.lookup x = some .local) && isFnK c.sc && (px.line == pos.line) && !ownIn scope x) = true then
          wAsg i (rE c (.ListComp elt [⟨tg, iter, ifs, 0⟩] scope pos)) else wNever
      | e => if isCmp e = true then wNever else wAsg i (rE c e))
    | none => wNever)
  else wNever
def tgW (c : DCtx) (tg : Expr) : Option WG := match ctOf c.sc c.N tg with
  | some (own, ct) => if (own.all fun q => !decide (q.2 ∈ c.kp)) = true then some ct.wg else none
  | none => none
def forW (rE : Expr → WE) (c : DCtx) (tg it : Expr) (b : WS) : WS := match it with
  | .Call (.Name f p) [a] [] q => if isRng c f = true then (if isStar a = true then wNever else (match tg with
      | .Name x _ => if locB c.sc x = true then (match slotN c.N x with
          | some i => if i ∈ c.kp then wNever else wRng1 (argsW rE [a]) i b
          | none => wNever) else wNever
      | _ => wNever))
    else (match tgW c tg with
      | some g => wFor (rE (.Call (.Name f p) [a] [] q)) g b
      | none => wNever)
  | .Call (.Name f p) [a, a'] [] q => if isRng c f = true then (if (isStar a || isStar a') = true then wNever else (match tg with
      | .Name x _ => if locB c.sc x = true then (match slotN c.N x with
          | some i => if i ∈ c.kp then wNever else wRng2 (argsW rE [a, a']) i b
          | none => wNever) else wNever
      | _ => wNever))
    else (match tgW c tg with
      | some g => wFor (rE (.Call (.Name f p) [a, a'] [] q)) g b
      | none => wNever)
  | it => if isSet it = true then wNever else (match tgW c tg with
      | some g => wFor (rE it) g b
      | none => wNever)
def stepS (rE : DCtx → Expr → WE) (rT : DCtx → Expr → WT) (rS : DCtx → Stmt → WS) (c : DCtx) : Stmt → WS
  | .Pass _ => wNext
  | .Break _ => wBreak
  | .Continue _ => wCont
  | .Return none _ => wRetN
  | .Return (some e) _ => wRet c.kp (rE c e)
  | .Expr (.Constant (.str _) _ _) _ => wNext
  | .Expr e _ => if isCmp e = true then wNever else wExpr (rE c e)
  | .If t a b _ => wIf (rT c t) (seqW (rS c) a) (seqW (rS c) b)
  | .While t b [] _ => wWhile (rT c t) (seqW (rS c) b)
  | .For tg it b [] _ => forW (rE c) c tg it (seqW (rS c) b)
  | .Assign [.Name x px] e _ => asgN rE c x px e
  | .Assign [.Tuple es k p] e _ => if (isTup e || isCmp e) = true then wNever else (match tgW c (.Tuple es k p) with
      | some g => wAsgT g (rE c e)
      | none => wNever)
  | .Assign [.Subscript (.Name x _) i _] e _ => if (magic x || isSlc i || isCmp e) = true then wNever else if visB c.sc x = true then (match slotN c.N x with
      | some j => wSetIx j (shW c (rE c e)) (rE c i)
      | none => wNever) else wNever
  | .Assign [.Attribute (.Name x _) f _] e _ => if (magic x || isCmp e) = true then wNever else if visB c.sc x = true then (match slotN c.N x with
      | some j => wSetFld c.ct j f (rE c e)
      | none => wNever) else wNever
  | .AugAssign (.Name x _) op e _ => if locB c.sc x = true then (match slotN c.N x with
      | some j => if j ∈ c.kp then wNever else wAug (augOf op) j (rE c e)
      | none => wNever) else wNever
  | .AugAssign (.Subscript (.Name x _) i _) op e _ => if (magic x || isSlc i) = true then wNever else if visB c.sc x = true then (match slotN c.N x with
      | some j => wAugIx (augOf op) j (rE c i) (rE c e)
      | none => wNever) else wNever
  | _ => wNever
def denS : Nat → DCtx → Stmt → WS
  | 0 => fun _ _ => wNever
  | n + 1 => stepS (denE n) (denT n) (denS n)
abbrev denB (n : Nat) (c : DCtx) (b : List Stmt) : WS := seqW (denS n c) b

section
variable {CX : CXT} {X : Cx} {Wx : WX} {c : DCtx} {kp : List Nat}
theorem ps_bad {st : Stmt} : PFS X Wx kp st wNever := ⟨fun pins s σ H D I ⟨_, _, _, _, _, _, h, _⟩ => h.elim⟩
theorem imp_asgT {K : KW} {g : WG} {tg : TG} {f : WE} (hg : GOk K kp tg g) (D : Ends) (σ : St) (H : Hp) (h : tS K Wx kp (wAsgT g f) D σ H) : tAsg (tE K Wx f) tg D σ H := by
  obtain ⟨B, ρ, fp, Xd, E, w, hf, hn, hr, hb, hc, hx⟩ := h
  refine ⟨B, ρ, fp, Xd, _, w, hf, fun r ρ1 v B1 H1 h1 p1 => ?_, fun x ρ' c d B' H' h p => hx x σ ρ' c d B' H' h p.xs⟩
  obtain ⟨B2, p2⟩ := p1.share
  obtain ⟨fa, oa⟩ := p2.cont.one
  have rep : Rep K B2 v (r.tk ρ1).sh := oa.plain (sh_pl _)
  obtain ⟨f1, w1, k1, kx1⟩ := p2.stepG (kp := kp)
  exact hg σ B2 H1 _ f1 v _ _ _ w1 rep h1 fun σ' ρ' hp pg => hn σ' ρ' B2 H1 hp (k1 pg)
theorem pss_seq {f : Stmt → WS} (h : ∀ s, PFS X Wx kp s (f s)) : ∀ b : List Stmt, PFSs X Wx kp b (seqW f b)
  | [] => pss_imp pss_nil imp_next
  | [s] => pss_one (h s)
  | s :: t :: r => pss_imp (pss_cons (h s) (pss_seq h (t :: r))) imp_seq
theorem sw_not {e : Expr} {t : Option Expr} {l : Nat} {env : Env} (h : ¬ isCmp e = true) : swapsWith e t l env = pure false := by
  cases e <;> first | rfl | exact absurd rfl h
theorem sws_not {e t : Expr} {l : Nat} {env : Env} (h : ¬ isCmp e = true) : swapsWithSole [t] e l env = pure false := sw_not (t := some t) h
theorem sto_not {es : List Expr} {k : Nat} {p : Pos} {e : Expr} {env : Env} (h : ¬ isTup e = true) : swappedStores [.Tuple es k p] e env = pure none := by
  cases e <;> first | rfl | exact absurd rfl h
theorem sto_not' {t e : Expr} {env : Env} (h : (match t with
    | .Tuple _ _ _ => false
    | .List _ _ => false
    | _ => true) = true) : swappedStores [t] e env = pure none := by
  cases t <;> first | rfl | cases h
theorem sub_asg {o i : Expr} {pos : Pos} {env : Env} (h : ¬ isSlc i = true) : ∀ v, assign (.Subscript o i pos) env v = (do
      let ov ← holding [v] (eval o env)
      let iv ← holding [v, ov] (eval i env)
      standAt pos
      holding [v, ov, iv] (setItem ov iv v)
      release [v, ov, iv] []) := by
  intro v
  cases i <;> first | rfl | exact absurd rfl h
theorem sub_aug {i : Expr} (h : ¬ isSlc i = true) : ∀ ov iv new, augStore i ov iv new = (do holding [new, ov, iv] (setItem ov iv new); release [new, ov, iv] []; pure .next) := by
  intro ov iv new
  cases i <;> first | rfl | exact absurd rfl h
theorem tgW_ok (k : SOk CX Wx X c) {tg : Expr} {g : WG} (h : tgW c tg = some g) : ∃ t, PG X tg t ∧ GOk X.kw c.kp t g := by
  have hN : X.N.Nodup := by rw [k.N]; exact k.nd
  unfold tgW at h
  split at h
  · rename_i own ct hct
    split at h
    · rename_i hk
      cases h
      have g : TgOk X own := fun q hq => by
        obtain ⟨h1, h2⟩ := ctOf_raw hct q hq
        rw [← k.N] at h1
        rw [← k.sc] at h2
        exact ⟨h1, h2, .inl (k.fn _)⟩
      refine ⟨_, pg_ct k.calm hN hct g, ?_⟩
      have kk : ∀ q ∈ own, q.2 ∉ c.kp := fun q hq => by
        have := List.all_eq_true.mp hk q hq
        simpa using this
      unfold ctOf at hct
      split at hct
      · split at hct
        · split at hct
          · cases hct
            exact gok_name (kk _ List.mem_cons_self)
          · cases hct
        · cases hct
      · split at hct
        · rename_i l hs
          have e1 : l = own := congrArg (·.1) (Option.some.inj hct)
          have e2 : CT.tup (l.map (·.2)) = ct := congrArg (·.2) (Option.some.inj hct)
          subst e1 e2
          exact gok_tup fun i hi => by
            obtain ⟨q, hq, e⟩ := List.mem_map.mp hi
            rw [← e]
            exact kk q hq
        · cases hct
      · cases hct
    · cases h
  · cases h
theorem ps_for' (k : SOk CX Wx X c) {rE : Expr → WE} {b : WS} {tg it : Expr} {bd : List Stmt} {pos : Pos} (hE : ∀ e, PF X Wx e (rE e)) (hb : PFSs X Wx c.kp bd b) : PFS X Wx c.kp (.For tg it bd [] pos) (forW rE c tg it b) := by
  have hN : X.N.Nodup := by rw [k.N]; exact k.nd
  have gen : ∀ {it : Expr}, ¬ isSet it = true → PFS X Wx c.kp (.For tg it bd [] pos) (match tgW c tg with
      | some g => wFor (rE it) g b
      | none => wNever) := fun {it} hs => by
    split
    · obtain ⟨t, h1, h2⟩ := tgW_ok k (by assumption)
      exact ps_imp (ps_for k.own k.calm (pi_seq (hE _)) h1 hb (nofold hs)) (imp_for h2)
    · exact ps_bad
  unfold forW
  split
  · split
    · split
      · exact ps_bad
      · rename_i hr hst
        obtain ⟨e, r1, r2⟩ := isRng_ok k.toCOk hr
        subst e
        split
        · split
          · rename_i hl
            split
            · rename_i i hi
              split
              · exact ps_bad
              · rename_i hk
                exact ps_imp (ps_for k.own k.calm (pi_range1 r1 r2 (pfa_args hE _) (star1 hst)) (pg_name hN (k.slot hi) (by rw [k.sc]; exact locB_ok hl) (.inl (k.fn _))) hb (nofold (by exact Bool.false_ne_true))) (imp_rng1 hk)
            · exact ps_bad
          · exact ps_bad
        · exact ps_bad
    · exact gen (by exact Bool.false_ne_true)
  · split
    · split
      · exact ps_bad
      · rename_i f p a a' q hr hst
        obtain ⟨e, r1, r2⟩ := isRng_ok k.toCOk hr
        subst e
        have hst : ¬ isStar a = true ∧ ¬ isStar a' = true := by simpa using hst
        split
        · split
          · rename_i hl
            split
            · rename_i i hi
              split
              · exact ps_bad
              · rename_i hk
                exact ps_imp (ps_for k.own k.calm (pi_range2 r1 r2 (pfa_args hE _) (by rw [nostar hst.1, star1 hst.2]) (star1 hst.2)) (pg_name hN (k.slot hi) (by rw [k.sc]; exact locB_ok hl) (.inl (k.fn _))) hb (nofold (by exact Bool.false_ne_true))) (imp_rng2 hk)
            · exact ps_bad
          · exact ps_bad
        · exact ps_bad
    · exact gen (by exact Bool.false_ne_true)
  · split
    · exact ps_bad
    · exact gen (by assumption)
theorem ps_asgN (k : SOk CX Wx X c) {rE : DCtx → Expr → WE} (hE : ∀ {Wx : WX} {X : Cx} {c : DCtx}, COk CX Wx X c → ∀ e, PF X Wx e (rE c e))
    (hL : ∀ {elt tg iter : Expr} {ifs : List Expr} {scope : Scope} {pos : Pos} (P : WE → Prop), P wBad → (∀ (own : List (Str × Nat)) (wi : TI) (g : TG) (tt : TT) (te : TE) (w : WE), PI X tg iter wi → (∀ x, foldedSetIterable iter X.env x = pure x) → BlkOk X.N X.env.scope scope own →
      (∀ (s : Shared) (H : Hp) (C : Addr) (cl : List (Str × Addr)) (fp : List Addr), PG (X.blk s H scope (compEnvC scope cl C X.env) fp) tg g) → (∀ (s : Shared) (H : Hp) (C : Addr) (cl : List (Str × Addr)) (fp : List Addr), PTs (X.blk s H scope (compEnvC scope cl C X.env) fp) ifs tt) →
      (∀ (s : Shared) (H : Hp) (C : Addr) (cl : List (Str × Addr)) (fp : List Addr), PE (X.blk s H scope (compEnvC scope cl C X.env) fp) elt te) → (∀ σ H Q, tE X.kw Wx w σ H Q → tLc wi g tt te (own.map (·.2)) σ H Q) → P w) → P (rE c (.ListComp elt [⟨tg, iter, ifs, 0⟩] scope pos)))
    {x : Str} {px pos : Pos} {e : Expr} : PFS X Wx c.kp (.Assign [.Name x px] e pos) (asgN rE c x px e) := by
  have hN : X.N.Nodup := by rw [k.N]; exact k.nd
  unfold asgN
  split
  · rename_i hl
    split
    · rename_i i hi
      split
      · exact ps_bad
      rename_i hk
      split
      · split
        · rename_i elt tg iter ifs scope p hb
          rw [Bool.and_eq_true, Bool.and_eq_true, Bool.and_eq_true, decide_eq_true_eq] at hb
          obtain ⟨⟨⟨b1, b2⟩, b3⟩, b4⟩ := hb
          have kf : X.env.scope.kind = .function := by
            rw [k.sc]
            unfold isFnK at b2
            split at b2
            · assumption
            · cases b2
          have bl : X.env.scope.names.lookup x = some .local := by rw [k.sc]; exact b1
          refine hL (fun w => PFS X Wx c.kp (.Assign [.Name x px] (.ListComp elt [⟨tg, iter, ifs, 0⟩] scope p) pos) (wAsg i w)) ?_ fun own wi g tt te w hi' hs ok h1 h2 h3 im => ?_
          · exact ⟨fun pins s σ H D I ⟨_, _, _, _, _, _, h, _⟩ => h.elim⟩
          · refine ps_imp (ps_setLc k.calm hN (k.slot hi) bl (sw_true kf bl b3 (by simpa [ownIn] using b4)) hi' ok h1 h2 h3 hs) fun D σ H h => ?_
            exact im σ H _ (imp_asg hk D σ H h)
        · exact ps_bad
      · split
        · exact ps_bad
        · rename_i hcmp
          exact ps_imp (ps_set hN (k.slot hi) (by rw [k.sc]; exact locB_ok hl) (hE k.toCOk _) (sw_not hcmp) (.inl (k.fn _))) (imp_asg hk)
    · exact ps_bad
  · exact ps_bad
end
end FL
namespace FL
open PySem PySem.Spec PyProof.Rows L2
section
variable {CX : CXT} {X : Cx} {Wx : WX} {c : DCtx}
theorem stepS_ok (k : SOk CX Wx X c) (n : Nat) {rS : DCtx → Stmt → WS} (hS : ∀ {c : DCtx}, SOk CX Wx X c → ∀ s, PFS X Wx c.kp s (rS c s)) (s : Stmt) :
    PFS X Wx c.kp s (stepS (denE n) (denT n) rS c s) := by
  have hN : X.N.Nodup := by rw [k.N]; exact k.nd
  have hE : ∀ {Wx : WX} {X : Cx} {c : DCtx}, COk CX Wx X c → ∀ e, PF X Wx e (denE n c e) := (den_ok n).1
  have hT : ∀ {Wx : WX} {X : Cx} {c : DCtx}, COk CX Wx X c → ∀ e, PFT X Wx e (denT n c e) := (den_ok n).2
  unfold stepS
  split
  · exact ps_imp ps_pass imp_next
  · exact ps_imp ps_break imp_break
  · exact ps_imp ps_continue imp_cont
  · exact ps_imp ps_retN imp_retN
  · exact ps_imp (ps_ret (hE k.toCOk _)) imp_ret
  · exact ps_imp ps_doc imp_next
  · split
    · exact ps_bad
    · exact ps_imp (ps_expr (hE k.toCOk _) (sw_not (by assumption))) imp_expr
  · exact ps_imp (ps_if (hT k.toCOk _) (pss_seq (hS k) _) (pss_seq (hS k) _)) imp_if
  · exact ps_imp (ps_while k.own (hT k.toCOk _) (pss_seq (hS k) _)) imp_while
  · exact ps_for' k (hE k.toCOk) (pss_seq (hS k) _)
  · refine ps_asgN k hE ?_
    intro elt tg iter ifs scope pos P bad good
    cases n with
    | zero => exact bad
    | succ n => exact lc_use k.toCOk (den_ok n).1 (den_ok n).2 P bad good
  · split
    · exact ps_bad
    · rename_i es kk p e q h
      have h : ¬ isTup e = true ∧ ¬ isCmp e = true := by simpa using h
      split
      · obtain ⟨t, h1, h2⟩ := tgW_ok k (by assumption)
        exact ps_imp (ps_asg (hE k.toCOk _) h1 (sws_not h.2) (sto_not h.1) rfl) (imp_asgT h2)
      · exact ps_bad
  · split
    · exact ps_bad
    · rename_i x p i q e r h
      have h : (¬ magic x = true ∧ ¬ isSlc i = true) ∧ ¬ isCmp e = true := by simpa using h
      split
      · rename_i hv
        split
        · rename_i j hj
          obtain ⟨m1, m2⟩ := magic_db h.1.1
          have hx : PE X (.Name x p) (tVar j) := pe_var (k.slot hj) (k.vis hv) m1 m2
          exact ps_imp (ps_asg (pf_shW (c := c) (hE k.toCOk e)) (pg_sub hx (hE k.toCOk i) set_list (sub_asg h.1.2)) (sws_not h.2) (sto_not' (by rfl)) rfl) imp_setIx
        · exact ps_bad
      · exact ps_bad
  · split
    · exact ps_bad
    · rename_i x p f q e r h
      have h : ¬ magic x = true ∧ ¬ isCmp e = true := by simpa using h
      split
      · rename_i hv
        split
        · rename_i j hj
          obtain ⟨m1, m2⟩ := magic_db h.1
          have hx : PE X (.Name x p) (tVar j) := pe_var (k.slot hj) (k.vis hv) m1 m2
          exact ps_imp (ps_fld hx (hE k.toCOk e) (sw_not h.2)) (imp_setFld k.ct)
        · exact ps_bad
      · exact ps_bad
  · split
    · rename_i x p op e q hl
      split
      · rename_i j hj
        split
        · exact ps_bad
        · rename_i hk
          obtain ⟨r, a1, a2⟩ := aug_ok (X := X) op
          exact ps_imp (ps_aug hN (k.slot hj) (by rw [k.sc]; exact locB_ok hl) (hE k.toCOk e) a1 (.inl (k.fn _))) (imp_aug a2 hk)
      · exact ps_bad
    · exact ps_bad
  · split
    · exact ps_bad
    · rename_i x p i q op e r h
      have h : ¬ magic x = true ∧ ¬ isSlc i = true := by simpa using h
      split
      · rename_i hv
        split
        · rename_i j hj
          obtain ⟨m1, m2⟩ := magic_db h.1
          have hx : PE X (.Name x p) (tVar j) := pe_var (k.slot hj) (k.vis hv) m1 m2
          obtain ⟨r, a1, a2⟩ := aug_ok (X := X) op
          exact ps_imp (ps_augS hx (hE k.toCOk i) pget_list (hE k.toCOk e) a1 set_list (sub_aug h.2)) (imp_augIx a2)
        · exact ps_bad
      · exact ps_bad
  · exact ps_bad
theorem denS_ok : ∀ n : Nat, ∀ {c : DCtx}, SOk CX Wx X c → ∀ s, PFS X Wx c.kp s (denS n c s)
  | 0, _, _, _ => ps_bad
  | n + 1, _, k, s => stepS_ok k n (fun k s => denS_ok n k s) s
theorem denB_ok (k : SOk CX Wx X c) (n : Nat) (b : List Stmt) : PFSs X Wx c.kp b (denB n c b) := pss_seq (denS_ok n k) b
end
end FL

end
section
set_option maxHeartbeats 1000000
/-! FL18: defs keep what their texts say; the head's facts; the end. -/
namespace FL
open PySem PySem.Spec PyProof.Rows L2

structure FOk (CX : CXT) (P : Program) (w : World) (K : PySem.W.Frag) (mg : Str → Option Value) (base : Heap) (c : DCtx) : Prop where
  fns : ∀ x d, c.fns.lookup x = some d → ∃ k f fd ps, k ≤ c.lv ∧ FnOk P w K mg base CX k f fd ps (spD ⟨K, w⟩ d.F d.ks.length) ∧ mg x = some (.ref f) ∧ PySem.W.keepIn K (.ref f) = true ∧ Binds K fd ps []
  kws : ∀ x ns m d, c.kws.lookup x = some (ns, m, d) → ∃ k f fd ps, k ≤ c.lv ∧ FnOk P w K mg base CX k f fd ps (spD ⟨K, w⟩ d.F d.ks.length) ∧ mg x = some (.ref f) ∧ PySem.W.keepIn K (.ref f) = true ∧ KBinds K fd ps ns (gK m) (gK m)
  mks : ∀ x d, c.mks.lookup x = some d → ∃ k f fd ps, k + 1 ≤ c.lv ∧ Mk K (He.ga K x) f ∧ FnOk P w K mg base CX k f fd ps (spD ⟨K, w⟩ d.F (d.ks.length + 1)) ∧ mg x = some (.ref (He.ga K x)) ∧ Binds K fd ps []
  glb : ∀ x d, c.glb.lookup x = some d → ∃ v u, mg x = some u ∧ RelV v u ∧ ∀ B, Rep ⟨K, w⟩ B v d
  fr : ∀ x, x ∈ c.fr → mg x = none
  ct : CTabOk ⟨K, w⟩ c.ct
section
variable {P : Program} {w : World} {K : PySem.W.Frag} {mg : Str → Option Value} {base : Heap} {x qual : Str} {params : Arguments} {body : List Stmt} {scope : Scope} {dvs : List V} {kws : List (Str × V)} {f : Addr} {fd : FuncData}
theorem fn_ok0 (F : FunD K x qual params body scope dvs kws f fd) {N ps : List Str} (S : FnScope N ps scope) {c : DCtx} {n : Nat} (hN : c.N = N) (hs : c.sc = scope) (ok : FOk CX0 P w K mg base c) :
    FnOk P w K mg base CX0 (c.lv + 1) f fd ps (spD ⟨K, w⟩ (wFn ps.length N.length c.kp (denB n c body)) ps.length) := by
  refine F.ok S (fun vs H Q E h => h.1) fun cdv A outer s H vs Q E hr h => ⟨_, PSs.nox (denB_ok (CX := CX0) (Wx := fun c d _ H' => E c d H') (X := (cxOf CX0 P w K mg base N qual scope f cdv A outer s H E).nox) (c := c) ⟨⟨hN.symm, by rw [hN]; exact S.nd, hs.symm, rfl, hr, ok.fns, ok.kws, ok.mks, ok.glb, ok.fr, ok.ct, ⟨E, pass0, fun _ _ _ _ => Iff.rfl⟩, fun _ _ _ _ _ h => h⟩, fun _ => rfl, PassesOwn.never⟩ n body), fn_body h⟩
theorem fn_none {CX : CXT} {k n : Nat} {ps : List Str} (h : ps.length = n) : FnOk P w K mg base CX k f fd ps (spD ⟨K, w⟩ (fun _ _ _ => False) n) :=
  ⟨fun vs H Q E h2 => by rw [h2.1, h], fun A outer s H args us vs Q E _ _ _ _ h => by
    obtain ⟨_, _, _, _, _, _, _, z, _⟩ := h
    exact z.elim⟩
/-- a weaker promise by data -/
theorem spD_imp {K : KW} {F F' : WF} {n : Nat} {vs : List V} {H : Hp} {Q : VK} {E : XK} (i : ∀ X ds P, F' X ds P → F X ds P) (h : spD K F' n vs H Q E) : spD K F n vs H Q E := by
  obtain ⟨h1, B, ds, fp, X, P, w, h2, h3⟩ := h
  exact ⟨h1, B, ds, fp, X, P, w, i _ _ _ h2, h3⟩
/-- the end: the law's own promise -/
theorem law_sp {F : WF} {H : Hp} {a : Addr} {ns : List Int} {E : XK} (hS : SqL K H a (ns.map V.int)) (h : F (fun _ _ => False) [.flst (ns.map D.int)] fun d _ => d = .bl true) :
    spD ⟨K, w⟩ F 1 [.ref a] H (fun v _ => v = .bl true) E := by
  refine ⟨rfl, H, _, [], _, _, ⟨Ex.refl H, .cons (f1 := []) (f2 := []) (.sh (.flst hS (Reps.of_ints ns))) .nil rfl, List.nodup_nil⟩, h, fun d ds' v B' H' e p => ?_, fun _ _ _ _ _ _ z _ => z.elim⟩
  obtain ⟨fa, oa⟩ := p.cont.one
  have oa : OS ⟨K, w⟩ B' H' (some v) d fa := oa
  rw [e] at oa
  exact oa.bl_of
end

/-! ### what stands at the module's names -/
/-- a value that is no object -/
def flB : D → Value → Bool
  | .non, .none => true
  | .bl b, .bool c => b == c
  | .int i, .int j _ => decide (i = j)
  | .str x, .str y _ => decide (x = y)
  | .ty n, .type m => decide (n = m)
  | _, _ => false
mutual
def gvB (K : PySem.W.Frag) : D → Value → Bool
  | .tup ds, .ref a => (match K.lookup a with
    | some ⟨.type c, _, .seq its n, _⟩ => decide (c = "tuple") && (decide (its.size ≤ sizeLine) && gvBs K ds its.toList)
    | _ => false)
  | .non, .none => true
  | .bl b, .bool c => b == c
  | .int i, .int j _ => decide (i = j)
  | .str x, .str y _ => decide (x = y)
  | .ty n, .type m => decide (n = m)
  | .cls C, .ref a => decide (a = He.ga K C)
  | _, _ => false
def gvBs (K : PySem.W.Frag) : List D → List Value → Bool
  | [], [] => true
  | d :: ds, v :: vs => gvB K d v && gvBs K ds vs
  | _, _ => false
end
mutual
theorem gvB_ok {K : KW} : ∀ {d : D} {u : Value}, gvB K.F d u = true → ∃ v, RelV v u ∧ ∀ B, Rep K B v d
  | .non, u, h => by cases u <;> first | exact ⟨.non, rfl, fun _ => .non⟩ | cases h
  | .bl b, u, h => by
    cases u <;> first | (cases h; done) | skip
    rename_i c
    have e : b = c := eq_of_beq h
    subst e
    exact ⟨.bl b, rfl, fun _ => .bl⟩
  | .int i, u, h => by
    cases u <;> first | (cases h; done) | skip
    rename_i c t
    have e : i = c := of_decide_eq_true h
    subst e
    exact ⟨.int i, ⟨t, rfl⟩, fun _ => .int⟩
  | .str x, u, h => by
    cases u <;> first | (cases h; done) | skip
    rename_i c t
    have e : x = c := of_decide_eq_true h
    subst e
    exact ⟨.str x, ⟨t, rfl⟩, fun _ => .str⟩
  | .ty x, u, h => by
    cases u <;> first | (cases h; done) | skip
    rename_i c
    have e : x = c := of_decide_eq_true h
    subst e
    exact ⟨.ty x, rfl, fun _ => .ty⟩
  | .cls C, u, h => by
    cases u <;> first | (cases h; done) | skip
    rename_i a
    have e : a = He.ga K.F C := of_decide_eq_true h
    subst e
    exact ⟨.ref _, rfl, fun _ => .cls⟩
  | .tup ds, u, h => by
    cases u <;> first | (cases h; done) | skip
    rename_i a
    have h : (match K.F.lookup a with
      | some ⟨.type c, _, .seq its n, _⟩ => decide (c = "tuple") && (decide (its.size ≤ sizeLine) && gvBs K.F ds its.toList)
      | _ => false) = true := h
    split at h
    · rename_i c od its n sl e
      rw [Bool.and_eq_true, Bool.and_eq_true, decide_eq_true_eq, decide_eq_true_eq] at h
      obtain ⟨h1, h2, h3⟩ := h
      subst h1
      obtain ⟨vs, r, rs⟩ := gvBs_ok h3
      exact ⟨.ref a, rfl, fun B => .tup (.inr ⟨_, its, n, e, rfl, rfl, h2, r⟩) (rs B)⟩
    · cases h
  | .und, u, h => by cases u <;> cases h
  | .lst _, u, h => by cases u <;> cases h
  | .flst _, u, h => by cases u <;> cases h
  | .own _, u, h => by cases u <;> cases h
  | .ins _ _ _, u, h => by cases u <;> cases h
  | .oins _ _ _, u, h => by cases u <;> cases h
  | .kd _ _, u, h => by cases u <;> cases h
theorem gvBs_ok {K : KW} : ∀ {ds : List D} {us : List Value}, gvBs K.F ds us = true → ∃ vs, Vals vs us ∧ ∀ B, Reps K B vs ds
  | [], us, h => by
    cases us with
    | nil => exact ⟨[], .nil, fun _ => .nil⟩
    | cons => cases h
  | d :: ds, us, h => by
    cases us with
    | nil => cases h
    | cons u us =>
      have h : (gvB K.F d u && gvBs K.F ds us) = true := h
      rw [Bool.and_eq_true] at h
      obtain ⟨v, r, a⟩ := gvB_ok h.1
      obtain ⟨vs, rs, as⟩ := gvBs_ok h.2
      exact ⟨v :: vs, .cons r rs, fun B => .cons (a B) (as B)⟩
end
/-- the names of c that are values -/
def glB1 (K : PySem.W.Frag) (q : Str × D) : Bool := match PySem.W.nsIn K mainGlobals q.1 with
  | some (some u) => (match q.2 with
    | .kd x kvs => decide (u = .ref (He.ga K x)) && (match K.lookup (He.ga K x) with
      | some ⟨_, _, .dict es _, _⟩ => decide (es.toList.map (fun e => (He.keyOf e).map (·.1)) = kvs.map fun p => some p.1) && gvBs K (kvs.map (·.2)) (es.toList.map (·.val)) && !(es.toList.any (·.refKey))
      | _ => false)
    | d => gvB K d u)
  | _ => false
theorem kd_find {z : Str} : ∀ {es : List DictEntry} {kvs : List (Str × D)} {vs : List V}, es.map (fun e => (He.keyOf e).map (·.1)) = kvs.map (fun p => some p.1) → Vals vs (es.map (·.val)) →
    match (kvs.map (·.1)).findIdx? (· == z) with
      | none => es.find? (·.key.isStr z) = none
      | some i => ∃ e v, es.find? (·.key.isStr z) = some e ∧ vs[i]? = some v ∧ RelV v e.val
  | [], [], vs, _, _ => rfl
  | [], _ :: _, _, h, _ => by cases h
  | _ :: _, [], _, h, _ => by cases h
  | e :: es, (k, d) :: kvs, vs, h, r => by
    have h1 : (He.keyOf e).map (·.1) = some k := (List.cons.inj h).1
    have h2 := (List.cons.inj h).2
    have ek : ∃ t, e.key = .str k t := by
      unfold He.keyOf at h1
      split at h1
      · rename_i x t q
        have : x = k := Option.some.inj h1
        exact ⟨t, by rw [q, this]⟩
      · cases h1
    obtain ⟨t, ek⟩ := ek
    cases r with
    | @cons v u vs us r1 r2 =>
      have ih := kd_find (z := z) h2 r2
      have es1 : e.key.isStr z = (k == z) := by rw [ek]; rfl
      rw [List.map_cons, List.findIdx?_cons, List.find?_cons, es1]
      show (match (if (k == z) = true then some 0 else _) with
        | none => _
        | some i => _)
      cases c : (k == z) with
      | true => exact ⟨e, v, rfl, rfl, r1⟩
      | false =>
        rw [if_neg Bool.false_ne_true]
        cases q : List.findIdx? (· == z) (kvs.map (·.1)) with
        | none =>
          rw [q] at ih
          exact ih
        | some i =>
          rw [q] at ih
          obtain ⟨e2, v2, a1, a2, a3⟩ := ih
          exact ⟨e2, v2, a1, by simpa using a2, a3⟩
theorem glB1_ok {K : KW} {q : Str × D} (h : glB1 K.F q = true) (hk : ∀ x kvs, q.2 = .kd x kvs → ∃ es n, KDict K.F K.w (He.ga K.F x) es n) {hp : Heap} {mg : Str → Option Value} (X : K.F.In hp) (G : hp.Ns mainGlobals mg) :
    ∃ v u, mg q.1 = some u ∧ RelV v u ∧ ∀ B, Rep K B v q.2 := by
  obtain ⟨x, d⟩ := q
  unfold glB1 at h
  cases e : PySem.W.nsIn K.F mainGlobals x with
  | none => simp [e] at h
  | some o =>
    cases o with
    | none => simp [e] at h
    | some u =>
      have m := PySem.W.mg_of X G e
      have gen : gvB K.F d u = true → ∃ v u, mg x = some u ∧ RelV v u ∧ ∀ B, Rep K B v d := fun g => by
        obtain ⟨v, a, b⟩ := gvB_ok g
        exact ⟨v, u, m, a, b⟩
      cases d with
      | kd y kvs =>
        obtain ⟨es, n, D⟩ := hk y kvs rfl
        simp only [e, D.at_, Bool.and_eq_true, decide_eq_true_eq] at h
        obtain ⟨h1, ⟨h2, h3⟩, h4⟩ := h
        obtain ⟨vs, r, rs⟩ := gvBs_ok h3
        refine ⟨.ref _, u, m, h1, fun B => .kd D ⟨?_, fun z => ?_⟩ (rs B)⟩
        · rw [r.length, List.length_map]
          have := congrArg List.length h2
          simpa using this
        · have f := kd_find (z := z) h2 r
          have ns : PySem.W.nsIn K.F (He.ga K.F y) z = (match es.toList.find? (·.key.isStr z) with
              | some e => some (some e.val)
              | none => if es.toList.any (·.refKey) then none else some none) := by
            unfold PySem.W.nsIn
            rw [D.at_]
            rfl
          rw [ns]
          cases c : List.findIdx? (· == z) (kvs.map (·.1)) with
          | none =>
            rw [c] at f
            rw [f]
            simp at h4
            simp [h4]
          | some i =>
            rw [c] at f
            obtain ⟨e2, v, a1, a2, a3⟩ := f
            rw [a1]
            exact ⟨_, v, rfl, a2, a3⟩
      | _ =>
        simp only [e] at h
        exact gen h
end FL

end
section
set_option maxHeartbeats 1000000
/-! FL19: a law's names, its defs, what the head tells of them. -/
namespace FL
open PySem PySem.Spec PyProof.Rows L2

structure FLaw where
  frs : List Str
  gls : List Str
  cts : CTab
  mkn : List Str
  glb : List (Str × D)
  fn : List He.DefD
namespace FLaw
def fa (L : FLaw) : List He.Fa := L.frs.map .free ++ (L.gls.map .glo ++ (L.cts.map (fun q => .cls q.1) ++ (L.cts.flatMap (fun q => q.2.map (.noat q.1)) ++ L.mkn.map .mkr)))
def ts (L : FLaw) : List He.Tab := L.glb.filterMap fun q => match q.2 with
  | .kd x kvs => some (fun K => He.ga K x, kvs.map (·.1))
  | _ => none
def ex (L : FLaw) (K : PySem.W.Frag) : Bool := L.glb.all (glB1 K)
end FLaw
structure Hd (L : FLaw) (w : World) (K : PySem.W.Frag) (mg : Str → Option Value) (base : Heap) : Prop where
  says : ∃ h, He.SaysX L.fa L.fn L.ts [] L.ex w h K
  kin : K.In base
  ns : base.Ns mainGlobals mg
section
variable {L : FLaw} {P : Program} {w : World} {K : PySem.W.Frag} {mg : Str → Option Value} {base : Heap}
theorem Hd.d (h : Hd L w K mg base) : He.SaysD L.fa L.fn K := by
  obtain ⟨_, s⟩ := h.says
  exact s.t.d
theorem Hd.free (h : Hd L w K mg base) {x : Str} (hx : x ∈ L.frs) : mg x = none :=
  He.free_ok h.kin h.ns (h.d.facts (List.mem_append_left _ (List.mem_map.mpr ⟨x, hx, rfl⟩)))
theorem Hd.glo (h : Hd L w K mg base) {x : Str} (hx : x ∈ L.gls) : mg x = some (.ref (He.ga K x)) :=
  He.glo_ok h.kin h.ns (h.d.facts (List.mem_append_right _ (List.mem_append_left _ (List.mem_map.mpr ⟨x, hx, rfl⟩))))
theorem Hd.ct (h : Hd L w K mg base) : CTabOk ⟨K, w⟩ L.cts := fun q hq =>
  ⟨He.cls_ok (h.d.facts (List.mem_append_right _ (List.mem_append_right _ (List.mem_append_left _ (List.mem_map.mpr ⟨q, hq, rfl⟩))))), fun f hf =>
    He.noat_ok (h.d.facts (List.mem_append_right _ (List.mem_append_right _ (List.mem_append_right _ (List.mem_append_left _ (List.mem_flatMap.mpr ⟨q, hq, List.mem_map.mpr ⟨f, hf, rfl⟩⟩))))))⟩
theorem Hd.mkr (h : Hd L w K mg base) {x : Str} (hx : x ∈ L.mkn) : Mk K (He.ga K x) (He.ma K (He.ga K x) "__init__") :=
  He.mkr_ok (h.d.facts (List.mem_append_right _ (List.mem_append_right _ (List.mem_append_right _ (List.mem_append_right _ (List.mem_map.mpr ⟨x, hx, rfl⟩))))))
theorem Hd.glb (h : Hd L w K mg base) {q : Str × D} (hq : q ∈ L.glb) : ∃ v u, mg q.1 = some u ∧ RelV v u ∧ ∀ B, Rep ⟨K, w⟩ B v q.2 := by
  obtain ⟨hp, s⟩ := h.says
  refine glB1_ok (K := ⟨K, w⟩) (List.all_eq_true.mp s.more q hq) (fun x kvs e => ?_) h.kin h.ns
  have m : ((fun K => He.ga K x, kvs.map (·.1)) : He.Tab) ∈ L.ts := List.mem_filterMap.mpr ⟨q, hq, by rw [e]⟩
  obtain ⟨i, hi, e2⟩ := List.mem_iff_getElem.mp m
  exact s.t.tab i (t := (fun K => He.ga K x, kvs.map (·.1))) (by rw [List.getElem?_eq_getElem hi, e2])
theorem Hd.fd (h : Hd L w K mg base) (i : Nat) {d : He.DefD} (hd : L.fn[i]? = some d) : ∃ fd, FunD K d.name d.qual d.params d.body d.scope (d.dvs K) (d.kws K) (He.fAd K d.at_) fd := h.d.def_ i hd

/-! ### what a caller leans on -/
abbrev FnI (P : Program) (w : World) (K : PySem.W.Frag) (mg : Str → Option Value) (base : Heap) (lv : Nat) (q : Str × DF) : Prop :=
  ∃ k f fd ps, k ≤ lv ∧ FnOk P w K mg base CX0 k f fd ps (spD ⟨K, w⟩ q.2.F q.2.ks.length) ∧ mg q.1 = some (.ref f) ∧ PySem.W.keepIn K (.ref f) = true ∧ Binds K fd ps []
abbrev KwI (P : Program) (w : World) (K : PySem.W.Frag) (mg : Str → Option Value) (base : Heap) (lv : Nat) (q : Str × List Str × Nat × DF) : Prop :=
  ∃ k f fd ps, k ≤ lv ∧ FnOk P w K mg base CX0 k f fd ps (spD ⟨K, w⟩ q.2.2.2.F q.2.2.2.ks.length) ∧ mg q.1 = some (.ref f) ∧ PySem.W.keepIn K (.ref f) = true ∧ KBinds K fd ps q.2.1 (gK q.2.2.1) (gK q.2.2.1)
abbrev MkI (P : Program) (w : World) (K : PySem.W.Frag) (mg : Str → Option Value) (base : Heap) (lv : Nat) (q : Str × DF) : Prop :=
  ∃ k f fd ps, k + 1 ≤ lv ∧ Mk K (He.ga K q.1) f ∧ FnOk P w K mg base CX0 k f fd ps (spD ⟨K, w⟩ q.2.F (q.2.ks.length + 1)) ∧ mg q.1 = some (.ref (He.ga K q.1)) ∧ Binds K fd ps []
theorem FnI.up {a b : Nat} {q : Str × DF} (h : FnI P w K mg base a q) (l : a ≤ b := by decide) : FnI P w K mg base b q := by
  obtain ⟨k, f, fd, ps, h1, h2⟩ := h
  exact ⟨k, f, fd, ps, Nat.le_trans h1 l, h2⟩
theorem KwI.up {a b : Nat} {q : Str × List Str × Nat × DF} (h : KwI P w K mg base a q) (l : a ≤ b := by decide) : KwI P w K mg base b q := by
  obtain ⟨k, f, fd, ps, h1, h2⟩ := h
  exact ⟨k, f, fd, ps, Nat.le_trans h1 l, h2⟩
theorem MkI.up {a b : Nat} {q : Str × DF} (h : MkI P w K mg base a q) (l : a ≤ b := by decide) : MkI P w K mg base b q := by
  obtain ⟨k, f, fd, ps, h1, h2⟩ := h
  exact ⟨k, f, fd, ps, Nat.le_trans h1 l, h2⟩
theorem all_nil {α : Type} {p : α → Prop} : ∀ q ∈ ([] : List α), p q := fun _ h => nomatch h
theorem all_cons {α : Type} {p : α → Prop} {a : α} {l : List α} (h : p a) (t : ∀ q ∈ l, p q) : ∀ q ∈ a :: l, p q := fun q hq => (List.mem_cons.mp hq).elim (fun e => e ▸ h) (t q)
theorem lookup_all {α : Type} {p : Str × α → Prop} : ∀ {l : List (Str × α)}, (∀ q ∈ l, p q) → ∀ x d, l.lookup x = some d → p (x, d)
  | [], _, _, _, h => by cases h
  | (y, e) :: r, a, x, d, h => by
    rw [List.lookup_cons] at h
    cases c : x == y with
    | true =>
      rw [c] at h
      have e1 : e = d := Option.some.inj h
      rw [eq_of_beq c, ← e1]
      exact a _ List.mem_cons_self
    | false =>
      rw [c] at h
      exact lookup_all (fun q hq => a q (List.mem_cons_of_mem _ hq)) x d h
/-- a def's context within a law -/
def mkC (L : FLaw) (N : List Str) (sc : Scope) (kp : List Nat) (lv : Nat) (fns : List (Str × DF)) (kws : List (Str × List Str × Nat × DF)) (mks : List (Str × DF)) (shr : Bool) : DCtx :=
  { N := N, sc := sc, kp := kp, lv := lv, fns := fns, kws := kws, mks := mks, glb := L.glb, fr := L.frs, ct := L.cts, shr := shr }
theorem Hd.fok (h : Hd L w K mg base) {N : List Str} {sc : Scope} {kp : List Nat} {lv : Nat} {fns : List (Str × DF)} {kws : List (Str × List Str × Nat × DF)} {mks : List (Str × DF)} {shr : Bool} (h1 : ∀ q ∈ fns, FnI P w K mg base lv q) (h2 : ∀ q ∈ kws, KwI P w K mg base lv q) (h3 : ∀ q ∈ mks, MkI P w K mg base lv q) :
    FOk CX0 P w K mg base (mkC L N sc kp lv fns kws mks shr) where
  fns := fun x d e => lookup_all (p := FnI P w K mg base lv) h1 x d e
  kws := fun x ns m d e => lookup_all (p := KwI P w K mg base lv) h2 x (ns, m, d) e
  mks := fun x d e => lookup_all (p := MkI P w K mg base lv) h3 x d e
  glb := fun x d e => lookup_all (p := fun q => ∃ v u, mg q.1 = some u ∧ RelV v u ∧ ∀ B, Rep ⟨K, w⟩ B v q.2) (fun q hq => h.glb hq) x d e
  fr := fun x hx => h.free hx
  ct := h.ct
theorem gK_vals {m : Nat} {vs : List V} {us : List Value} {zs : List V} {ws : List Value} (h : Vals vs us) (h2 : Vals zs ws) : Vals (gK m vs zs) (gK m us ws) := by
  unfold gK
  rw [h.length]
  split
  · exact h.append h2
  · exact .nil
theorem kbinds {x qual : Str} {params : Arguments} {body : List Stmt} {scope : Scope} {kws : List (Str × V)} {f : Addr} {fd : FuncData} (F : FunD K x qual params body scope [] kws f fd) {ps ns : List Str} {m j : Nat} (hl : ps.length = m + j) (hp : 0 < m + j)
    (h : ∀ (kV doc pm : Value) (an : Option Addr) (cdv ct : Value) (us ws : List Value), us.length = m → ws.length = j → bindArgs (PySem.W.fnOf x qual params body scope .none kV doc pm an cdv ct) ⟨us, ns.zip ws⟩ = pure (ps.zip (us ++ ws))) : KBinds K fd ps ns (gK m) (gK m) := by
  obtain ⟨oc, od, dV, kV, doc, pm, an, cdv, ct, osl, rfl, lk, hcd, hD, hK⟩ := F.ex
  rcases hD with ⟨_, rfl⟩ | ⟨e, _⟩
  · refine ⟨fun s us ws _ hg => ?_, gK_vals⟩
    by_cases c : us.length = m
    · have e : gK m us ws = us ++ ws := if_pos c
      rw [e] at hg ⊢
      rw [List.length_append, c, hl] at hg
      exact .of_eq (h kV doc pm an cdv ct us ws c (by omega))
    · have e : gK m us ws = [] := if_neg c
      rw [e, hl] at hg
      have hg : 0 = m + j := hg
      omega
  · exact absurd rfl e
end
end FL

end
section
set_option maxHeartbeats 1000000
/-! FL20: to go through a reading by simp; laws of the operations in plain terms. -/
namespace FL
open PySem PySem.Spec PyProof.Rows L2

/-- what comes behind a call: simp does not look into it (the second argument's type names the first) -/
inductive Tg {α : Type} (P : α) : Type
  | tg
def hid {α β : Type} (P : α → β → Prop) (_ : Tg P) (a : α) (b : β) : Prop := P a b
def _root_.FL.WEnds.th (E : WEnds) (n : List D → Prop) : WEnds := { E with nx := n }
def _root_.FL.WEnds.lp (E : WEnds) (n : List D → Prop) : WEnds := { E with nx := n, ct := n, bk := E.nx }
section
variable {E : WEnds} {n : List D → Prop}
@[simp ↓] theorem x_th1 : (E.th n).nx = n := rfl
@[simp ↓] theorem x_th2 : (E.th n).rt = E.rt := rfl
@[simp ↓] theorem x_th3 : (E.th n).bk = E.bk := rfl
@[simp ↓] theorem x_th4 : (E.th n).ct = E.ct := rfl
@[simp ↓] theorem x_lp1 : (E.lp n).nx = n := rfl
@[simp ↓] theorem x_lp2 : (E.lp n).rt = E.rt := rfl
@[simp ↓] theorem x_lp3 : (E.lp n).bk = E.nx := rfl
@[simp ↓] theorem x_lp4 : (E.lp n).ct = n := rfl
end
def hid1 {α : Type} (P : α → Prop) (_ : Tg P) (a : α) : Prop := P a
@[simp ↓] theorem x_hid1 {α : Type} {P : α → Prop} {t : Tg P} {a : α} : hid1 P t a ↔ P a := Iff.rfl
def blc (d : D) (p : Bool → Prop) : Prop := ∃ b, d = .bl b ∧ p b
@[simp] theorem x_blc {b : Bool} {p : Bool → Prop} : blc (.bl b) p ↔ p b := ⟨fun ⟨_, e, h⟩ => by cases e; exact h, fun h => ⟨_, rfl, h⟩⟩
def truc (d : Option Bool) (p : Bool → Prop) : Prop := ∃ b, d = some b ∧ p b
@[simp] theorem x_truc {b : Bool} {p : Bool → Prop} : truc (some b) p ↔ p b := ⟨fun ⟨_, e, h⟩ => by cases e; exact h, fun h => ⟨_, rfl, h⟩⟩
def ownc (d : D) (p : List D → Prop) : Prop := match d with
  | .own xs => p xs
  | _ => False
@[simp] theorem x_ownc {xs : List D} {p : List D → Prop} : ownc (.own xs) p ↔ p xs := Iff.rfl
def sqc (d : Option (List D)) (p : List D → Prop) : Prop := ∃ xs, d = some xs ∧ p xs
@[simp] theorem x_sqc {xs : List D} {p : List D → Prop} : sqc (some xs) p ↔ p xs := ⟨fun ⟨_, e, h⟩ => by cases e; exact h, fun h => ⟨_, rfl, h⟩⟩
theorem go {α β : Type} {P : α → β → Prop} {t : Tg P} {a : α} {b : β} (h : P a b) : hid P t a b := h
section
variable {X : XD} {E : WEnds} {ρ : List D} {i : Nat} {d e : D} {ds : List D}
@[simp] theorem x_dAt0 : dAt (d :: ρ) 0 = d := rfl
@[simp] theorem x_dAtS : dAt (d :: ρ) (i + 1) = dAt ρ i := rfl
@[simp] theorem x_getv : R.get ρ (.val d) = d := rfl
@[simp] theorem x_gets : R.get ρ (.slot i) = dAt ρ i := rfl
@[simp] theorem x_tkv : R.tk ρ (.val d) = d := rfl
@[simp] theorem x_tks : R.tk ρ (.slot i) = (dAt ρ i).sh := rfl
@[simp] theorem x_env : R.en ρ (.val d) = ρ := rfl
@[simp] theorem x_ens : R.en ρ (.slot i) = ρ.set i (dAt ρ i).sh := rfl
@[simp] theorem x_sh1 : D.und.sh = .und := rfl
@[simp] theorem x_sh2 : D.non.sh = .non := rfl
@[simp] theorem x_sh3 {b : Bool} : (D.bl b).sh = .bl b := rfl
@[simp] theorem x_sh4 {b : Int} : (D.int b).sh = .int b := rfl
@[simp] theorem x_sh5 {b : Str} : (D.str b).sh = .str b := rfl
@[simp] theorem x_sh6 : (D.lst ds).sh = .lst ds := rfl
@[simp] theorem x_sh7 : (D.flst ds).sh = .flst ds := rfl
@[simp] theorem x_sh8 : (D.tup ds).sh = .tup ds := rfl
@[simp] theorem x_sh9 : (D.own ds).sh = .lst (D.shs ds) := rfl
@[simp] theorem x_sh10 {C : Str} {k : List Str} : (D.ins C k ds).sh = .ins C k ds := rfl
@[simp] theorem x_sh11 {C : Str} {k : List Str} : (D.oins C k ds).sh = .ins C k (D.shs ds) := rfl
@[simp] theorem x_sh12 {t : String} : (D.ty t).sh = .ty t := rfl
@[simp] theorem x_sh13 {x : Str} {k : List (Str × D)} : (D.kd x k).sh = .kd x k := rfl
@[simp] theorem x_shs0 : D.shs [] = [] := rfl
@[simp] theorem x_shs1 : D.shs (d :: ds) = d.sh :: D.shs ds := rfl
@[simp] theorem x_kn2 : D.non.known = true := rfl
@[simp] theorem x_kn3 {b : Bool} : (D.bl b).known = true := rfl
@[simp] theorem x_kn4 {b : Int} : (D.int b).known = true := rfl
@[simp] theorem x_kn5 {b : Str} : (D.str b).known = true := rfl
@[simp] theorem x_kn6 : (D.lst ds).known = true := rfl
@[simp] theorem x_kn7 : (D.flst ds).known = true := rfl
@[simp] theorem x_kn8 : (D.tup ds).known = true := rfl
@[simp] theorem x_kn9 : (D.own ds).known = true := rfl
@[simp] theorem x_kn10 {C : Str} {k : List Str} : (D.ins C k ds).known = true := rfl
@[simp] theorem x_kn11 {C : Str} {k : List Str} : (D.oins C k ds).known = true := rfl
@[simp] theorem x_pl1 : D.und.pl = true := rfl
@[simp] theorem x_pl2 : D.non.pl = true := rfl
@[simp] theorem x_pl3 {b : Bool} : (D.bl b).pl = true := rfl
@[simp] theorem x_pl4 {b : Int} : (D.int b).pl = true := rfl
@[simp] theorem x_pl5 {b : Str} : (D.str b).pl = true := rfl
@[simp] theorem x_pl6 : (D.lst ds).pl = true := rfl
@[simp] theorem x_pl7 : (D.flst ds).pl = true := rfl
@[simp] theorem x_pl8 : (D.tup ds).pl = true := rfl
@[simp] theorem x_pl9 : (D.own ds).pl = false := rfl
@[simp] theorem x_pl10 {C : Str} {k : List Str} : (D.ins C k ds).pl = true := rfl
@[simp] theorem x_pl11 {C : Str} {k : List Str} : (D.oins C k ds).pl = false := rfl
@[simp] theorem x_pl12 {t : String} : (D.ty t).pl = true := rfl
@[simp] theorem x_pl13 {x : Str} {k : List (Str × D)} : (D.kd x k).pl = true := rfl
@[simp] theorem x_plsh : d.sh.pl = true := sh_pl d
@[simp] theorem x_isOwn : (D.own ds).isOwn = true := rfl
theorem sh_of_pl (h : d.pl = true) : d.sh = d := by cases d <;> first | rfl | cases h
theorem shs_of_pl : ∀ {ds : List D}, ds.all D.pl = true → D.shs ds = ds
  | [], _ => rfl
  | d :: ds, h => by
    rw [List.all_cons, Bool.and_eq_true] at h
    rw [x_shs1, sh_of_pl h.1, shs_of_pl h.2]
theorem shs_map : ∀ ds : List D, D.shs ds = ds.map D.sh
  | [] => rfl
  | d :: ds => by rw [x_shs1, shs_map ds]; rfl
/-! expressions -/
variable {P : R → List D → Prop} {Q : List R → List D → Prop} {T : Bool → List D → Prop} {f g h : WE} {a b : WA} {t u : WT}
@[simp ↓] theorem x_var : wVar i X ρ P ↔ ((dAt ρ i).known = true ∧ P (.slot i) ρ) := Iff.rfl
@[simp ↓] theorem x_c : wC d X ρ P ↔ P (.val d) ρ := Iff.rfl
@[simp ↓] theorem x_nil : wNil X ρ Q ↔ Q [] ρ := Iff.rfl
@[simp ↓] theorem x_cons : wCons f a X ρ Q ↔ f X ρ fun r ρ1 => a X ρ1 fun rs ρ2 => Q (r :: rs) ρ2 := Iff.rfl
@[simp ↓] theorem x_bin {op : Op2} : wBin op f g X ρ P ↔ f X ρ fun r1 ρ1 => g X ρ1 fun r2 ρ2 => op (r1.get ρ2) (r2.get ρ2) (hid1 (fun d => P (.val d) ρ2) .tg) := Iff.rfl
@[simp ↓] theorem x_un {op : D → (D → Prop) → Prop} : wUn op f X ρ P ↔ f X ρ fun r ρ1 => op (r.get ρ1) (hid1 (fun d => P (.val d) ρ1) .tg) := Iff.rfl
@[simp ↓] theorem x_cb {op : List D → (D → Prop) → Prop} : wCB op a X ρ P ↔ a X ρ fun rs ρ1 => op (rs.map (R.get ρ1)) (hid1 (fun d => P (.val d) ρ1) .tg) := Iff.rfl
@[simp ↓] theorem x_sh : wSh f X ρ P ↔ f X ρ fun r ρ1 => P (.val (r.tk ρ1).sh) (r.en ρ1) := Iff.rfl
@[simp ↓] theorem x_andV : wAndV f g X ρ P ↔ f X ρ fun r ρ1 => blc (r.get ρ1) (hid1 (fun b => if b = true then g X ρ1 P else P (.val (.bl false)) ρ1) .tg) := Iff.rfl
@[simp ↓] theorem x_orV : wOrV f g X ρ P ↔ f X ρ fun r ρ1 => blc (r.get ρ1) (hid1 (fun b => if b = true then P (.val (.bl true)) ρ1 else g X ρ1 P) .tg) := Iff.rfl
@[simp ↓] theorem x_notV : wNotV f X ρ P ↔ f X ρ fun r ρ1 => blc (r.get ρ1) (hid1 (fun b => P (.val (.bl (!b))) ρ1) .tg) := Iff.rfl
@[simp ↓] theorem x_ite : wIte t f g X ρ P ↔ t X ρ fun b ρ1 => if b = true then f X ρ1 P else g X ρ1 P := Iff.rfl
@[simp ↓] theorem x_chain {op op' : Op2} : wChain op op' f g h X ρ P ↔ f X ρ fun r1 ρ1 => g X ρ1 fun r2 ρ2 => op (r1.get ρ2) (r2.get ρ2) (hid1 (fun d => blc d (hid1 (fun b => if b = true then h X ρ2 fun r3 ρ3 => op' (r2.get ρ3) (r3.get ρ3) (hid1 (fun e => P (.val e) ρ3) .tg) else P (.val (.bl false)) ρ2) .tg)) .tg) := Iff.rfl
@[simp ↓] theorem x_test : wTest f X ρ T ↔ f X ρ fun r ρ1 => blc (r.get ρ1) (hid1 (fun b => T b ρ1) .tg) := Iff.rfl
@[simp ↓] theorem x_tru : wTru f X ρ T ↔ f X ρ fun r ρ1 => truc (r.get ρ1).tru (hid1 (fun b => T b ρ1) .tg) := Iff.rfl
@[simp ↓] theorem x_andT : wAndT t u X ρ T ↔ t X ρ fun b ρ1 => if b = true then u X ρ1 T else T false ρ1 := Iff.rfl
@[simp ↓] theorem x_orT : wOrT t u X ρ T ↔ t X ρ fun b ρ1 => if b = true then T true ρ1 else u X ρ1 T := Iff.rfl
@[simp ↓] theorem x_notT : wNotT t X ρ T ↔ t X ρ fun b ρ1 => T (!b) ρ1 := Iff.rfl
@[simp ↓] theorem x_yes : wYes X ρ T ↔ T true ρ := Iff.rfl
@[simp ↓] theorem x_call {F : WF} {ks : List Bool} : wCall F ks a X ρ P ↔ a X ρ fun rs ρ1 => ks.length = rs.length ∧ F (fun x ds' => X x (putB (argD ks rs ρ1).2.2 ds' (argD ks rs ρ1).2.1)) (argD ks rs ρ1).1 fun d ds' => hid P .tg (.val d) (putB (argD ks rs ρ1).2.2 ds' (argD ks rs ρ1).2.1) := Iff.rfl
@[simp ↓] theorem x_callK {F : WF} {ks : List Bool} {m : Nat} : wCallK m F ks a b X ρ P ↔ a X ρ fun rs1 ρ1 => b X ρ1 fun rs2 ρ2 => rs1.length = m ∧ ks.length = (rs1 ++ rs2).length ∧
  F (fun x ds' => X x (putB (argD ks (rs1 ++ rs2) ρ2).2.2 ds' (argD ks (rs1 ++ rs2) ρ2).2.1)) (argD ks (rs1 ++ rs2) ρ2).1 fun d ds' => hid P .tg (.val d) (putB (argD ks (rs1 ++ rs2) ρ2).2.2 ds' (argD ks (rs1 ++ rs2) ρ2).2.1) := Iff.rfl
@[simp ↓] theorem x_make {C : Str} {F : WF} {ks : List Bool} : wMake C F ks a X ρ P ↔ a X ρ fun rs ρ1 => ks.length = rs.length ∧
  F (fun x ds' => X x (putB (argD ks rs ρ1).2.2 ds'.tail (argD ks rs ρ1).2.1)) (.oins C [] [] :: (argD ks rs ρ1).1) fun d ds' => d = .non ∧ hid P .tg (.val (dAt ds' 0).sh) (putB (argD ks rs ρ1).2.2 ds'.tail (argD ks rs ρ1).2.1) := Iff.rfl
@[simp] theorem x_arg0 {ks : List Bool} : argD ks [] ρ = ([], ρ, []) := by cases ks <;> rfl
@[simp] theorem x_arg1 {k : Bool} {ks : List Bool} {r : R} {rs : List R} : argD (k :: ks) (r :: rs) ρ = ((arg1 k r ρ).1 :: (argD ks rs (arg1 k r ρ).2.1).1, (argD ks rs (arg1 k r ρ).2.1).2.1, (arg1 k r ρ).2.2 :: (argD ks rs (arg1 k r ρ).2.1).2.2) := rfl
@[simp] theorem x_argv {k : Bool} : arg1 k (.val d) ρ = (d, ρ, none) := rfl
@[simp] theorem x_args {k : Bool} : arg1 k (.slot i) ρ = if (dAt ρ i).pl = true then (dAt ρ i, ρ, none) else if k = true then (dAt ρ i, ρ.set i .und, some i) else ((dAt ρ i).sh, ρ.set i (dAt ρ i).sh, none) := rfl
@[simp] theorem x_put0 {ms : List (Option Nat)} : putB (none :: ms) (d :: ds) ρ = putB ms ds ρ := rfl
@[simp] theorem x_put1 {ms : List (Option Nat)} : putB (some i :: ms) (d :: ds) ρ = putB ms ds (ρ.set i d) := rfl
@[simp] theorem x_put2 : putB [] ds ρ = ρ := by cases ds <;> rfl
@[simp ↓] theorem x_app : wApp i f X ρ P ↔ ((dAt ρ i).isOwn = true ∧ f X ρ fun r ρ1 => ownc (dAt (r.en ρ1) i) (hid1 (fun xs => xs.length < sizeLine ∧ P (.val .non) ((r.en ρ1).set i (.own (xs ++ [r.tk ρ1])))) .tg)) := Iff.rfl
/-! operations -/
variable {p : D → Prop} {m n : Int}
@[simp] theorem x_bo1 : binOf .Add = opAdd := rfl
@[simp] theorem x_bo2 : binOf .Sub = opSub := rfl
@[simp] theorem x_bo3 : binOf .Mult = opMul := rfl
@[simp] theorem x_bo4 : binOf .FloorDiv = opFDiv := rfl
@[simp] theorem x_bo5 : binOf .Mod = opMod := rfl
@[simp] theorem x_bo6 : binOf .Pow = opPow := rfl
@[simp] theorem x_co1 : cmpOf .Eq = opEq := rfl
@[simp] theorem x_co2 : cmpOf .NotEq = opNe := rfl
@[simp] theorem x_co3 : cmpOf .Lt = opCmp fun i j => decide (i < j) := rfl
@[simp] theorem x_co4 : cmpOf .LtE = opCmp fun i j => decide (i ≤ j) := rfl
@[simp] theorem x_co5 : cmpOf .Gt = opCmp fun i j => decide (j < i) := rfl
@[simp] theorem x_co6 : cmpOf .GtE = opCmp fun i j => decide (j ≤ i) := rfl
@[simp] theorem x_co7 : cmpOf .Is = opIs false := rfl
@[simp] theorem x_co8 : cmpOf .IsNot = opIs true := rfl
@[simp] theorem x_co9 : cmpOf .In = opIn false := rfl
@[simp] theorem x_co10 : cmpOf .NotIn = opIn true := rfl
@[simp] theorem x_add : opAdd (.int m) (.int n) p ↔ p (.int (m + n)) := Iff.rfl
@[simp] theorem x_sub : opSub (.int m) (.int n) p ↔ p (.int (m - n)) := Iff.rfl
@[simp] theorem x_mul : opMul (.int m) (.int n) p ↔ CMulW m n ∧ p (.int (m * n)) := Iff.rfl
@[simp] theorem x_fdiv : opFDiv (.int m) (.int n) p ↔ CDivW m n ∧ p (.int (m / n)) := Iff.rfl
@[simp] theorem x_mod : opMod (.int m) (.int n) p ↔ 0 < n ∧ p (.int (m % n)) := Iff.rfl
@[simp] theorem x_pow : opPow (.int m) (.int n) p ↔ CPow m n ∧ p (.int (m ^ n.toNat)) := Iff.rfl
@[simp] theorem x_neg : opNeg (.int m) p ↔ p (.int (-m)) := Iff.rfl
@[simp] theorem x_cmp {c : Int → Int → Bool} : opCmp c (.int m) (.int n) p ↔ p (.bl (c m n)) := Iff.rfl
theorem eqv_int {m n : Int} : D.eqv (.int m) (.int n) = decide (m = n) := by
  show PyData.eqv (.int m) (.int n) = _
  first | rfl | simp [PyData.eqv]
@[simp] theorem x_eqI : opEq (.int m) (.int n) p ↔ p (.bl (decide (m = n))) := by
  unfold opEq
  rw [eqv_int]
  exact ⟨fun h => h.2, fun h => ⟨.inl rfl, h⟩⟩
@[simp] theorem x_neI : opNe (.int m) (.int n) p ↔ p (.bl (!decide (m = n))) := by
  unfold opNe
  rw [eqv_int]
  exact ⟨fun h => h.2, fun h => ⟨.inl rfl, h⟩⟩
theorem eqv_bl {m n : Bool} : D.eqv (.bl m) (.bl n) = decide (m = n) := by cases m <;> cases n <;> rfl
@[simp] theorem x_eqB {m n : Bool} : opEq (.bl m) (.bl n) p ↔ p (.bl (decide (m = n))) := by
  unfold opEq
  rw [eqv_bl]
  exact ⟨fun h => h.2, fun h => ⟨.inl rfl, h⟩⟩
@[simp] theorem x_neB {m n : Bool} : opNe (.bl m) (.bl n) p ↔ p (.bl (!decide (m = n))) := by
  unfold opNe
  rw [eqv_bl]
  exact ⟨fun h => h.2, fun h => ⟨.inl rfl, h⟩⟩
@[simp] theorem x_isN {ng : Bool} : opIs ng d .non p ↔ d.known = true ∧ p (.bl (ng != d.isN)) := Iff.rfl
@[simp] theorem x_isB {ng k l : Bool} : opIs ng (.bl k) (.bl l) p ↔ p (.bl (ng != decide (k = l))) := ⟨fun ⟨_, e, h⟩ => by cases e; exact h, fun h => ⟨_, rfl, h⟩⟩
@[simp] theorem x_isn1 : D.non.isN = true := rfl
@[simp] theorem x_isn2 {m : Int} : (D.int m).isN = false := rfl
@[simp] theorem x_isn3 : (D.tup ds).isN = false := rfl
@[simp] theorem x_isn4 {m : Bool} : (D.bl m).isN = false := rfl
@[simp] theorem x_isn5 {m : Str} : (D.str m).isN = false := rfl
@[simp] theorem x_isn6 : (D.lst ds).isN = false := rfl
@[simp] theorem x_isn7 : (D.own ds).isN = false := rfl
@[simp] theorem x_tup : opTup ds p ↔ ds.all D.pl = true ∧ ds.length ≤ sizeLine ∧ p (.tup ds) := Iff.rfl
@[simp] theorem x_lst : opLst ds p ↔ ds.all D.pl = true ∧ ds.length ≤ sizeLine ∧ p (.own ds) := Iff.rfl
@[simp] theorem x_int : opInt [.int m] p ↔ p (.int m) := Iff.rfl
@[simp] theorem x_intb {k : Bool} : opInt [.bl k] p ↔ p (.int (if k then 1 else 0)) := Iff.rfl
@[simp] theorem x_len1 : opLen [.own ds] p ↔ p (.int ds.length) := ⟨fun ⟨_, e, h⟩ => by cases e; exact h, fun h => ⟨_, rfl, h⟩⟩
@[simp] theorem x_len2 : opLen [.lst ds] p ↔ p (.int ds.length) := ⟨fun ⟨_, e, h⟩ => by cases e; exact h, fun h => ⟨_, rfl, h⟩⟩
@[simp] theorem x_len3 : opLen [.flst ds] p ↔ p (.int ds.length) := ⟨fun ⟨_, e, h⟩ => by cases e; exact h, fun h => ⟨_, rfl, h⟩⟩
@[simp] theorem x_len4 : opLen [.tup ds] p ↔ p (.int ds.length) := ⟨fun ⟨_, e, h⟩ => by cases e; exact h, fun h => ⟨_, rfl, h⟩⟩
@[simp] theorem x_len5 {z : Str} : opLen [.str z] p ↔ z.length ≤ sizeLine ∧ p (.int z.length) := Iff.rfl
@[simp] theorem x_max2 : opMax [.int m, .int n] p ↔ p (.int (if n > m then n else m)) := Iff.rfl
@[simp] theorem x_min2 : opMin [.int m, .int n] p ↔ p (.int (if n < m then n else m)) := Iff.rfl
theorem sq_own' {ds : List D} (h : ds.all D.pl = true) : (D.own ds).sq = some ds := if_pos h
theorem isi_of {d : D} {n t : String} {k : Bool} (h1 : d.tyN = some t) (h2 : kitB t n = some k) (h : p (.bl k)) : opIsi [d, .ty n] p := ⟨t, k, h1, h2, h⟩
theorem isi_iff {d : D} {n t : String} {k : Bool} (h1 : d.tyN = some t) (h2 : kitB t n = some k) : opIsi [d, .ty n] p ↔ p (.bl k) := ⟨fun ⟨t', k', a, b, h⟩ => by
  rw [h1] at a; cases a; rw [h2] at b; cases b; exact h, isi_of h1 h2⟩
@[simp] theorem x_isi1 : opIsi [.int m, .ty "int"] p ↔ p (.bl true) := isi_iff rfl (by decide +kernel)
@[simp] theorem x_isi2 : opIsi [.int m, .ty "bool"] p ↔ p (.bl false) := isi_iff rfl (by decide +kernel)
@[simp] theorem x_isi3 : opIsi [.int m, .ty "str"] p ↔ p (.bl false) := isi_iff rfl (by decide +kernel)
@[simp] theorem x_isi4 : opIsi [.int m, .ty "tuple"] p ↔ p (.bl false) := isi_iff rfl (by decide +kernel)
@[simp] theorem x_isi5 {z : Str} : opIsi [.str z, .ty "str"] p ↔ p (.bl true) := isi_iff rfl (by decide +kernel)
@[simp] theorem x_isi6 {z : Str} : opIsi [.str z, .ty "int"] p ↔ p (.bl false) := isi_iff rfl (by decide +kernel)
@[simp] theorem x_isi7 {z : Str} : opIsi [.str z, .ty "tuple"] p ↔ p (.bl false) := isi_iff rfl (by decide +kernel)
@[simp] theorem x_isi8 : opIsi [.tup ds, .ty "tuple"] p ↔ p (.bl true) := isi_iff rfl (by decide +kernel)
@[simp] theorem x_isi9 : opIsi [.tup ds, .ty "str"] p ↔ p (.bl false) := isi_iff rfl (by decide +kernel)
@[simp] theorem x_isi10 : opIsi [.tup ds, .ty "int"] p ↔ p (.bl false) := isi_iff rfl (by decide +kernel)
@[simp] theorem x_isi11 {k : Bool} : opIsi [.bl k, .ty "int"] p ↔ p (.bl true) := isi_iff rfl (by decide +kernel)
@[simp] theorem x_isi12 {k : Bool} : opIsi [.bl k, .ty "bool"] p ↔ p (.bl true) := isi_iff rfl (by decide +kernel)
@[simp] theorem x_isi13 : opIsi [.non, .ty "int"] p ↔ p (.bl false) := isi_iff rfl (by decide +kernel)
@[simp] theorem x_isi14 : opIsi [.non, .ty "tuple"] p ↔ p (.bl false) := isi_iff rfl (by decide +kernel)
@[simp] theorem x_isi15 : opIsi [.non, .ty "str"] p ↔ p (.bl false) := isi_iff rfl (by decide +kernel)
theorem isiT_iff {d : D} {cs : List D} {ns : List String} {t : String} {k : Bool} (h1 : d.tyN = some t) (h0 : tyNames cs = some ns) (h2 : kitAnyB t ns = some k) : opIsi [d, .tup cs] p ↔ p (.bl k) := ⟨fun ⟨t', k', ns', a, z, b, h⟩ => by
  rw [h1] at a; cases a; rw [h0] at z; cases z; rw [h2] at b; cases b; exact h, fun h => ⟨t, k, ns, h1, h0, h2, h⟩⟩
@[simp] theorem x_isT1 : opIsi [.lst ds, .tup [.ty "list", .ty "tuple"]] p ↔ p (.bl true) := isiT_iff rfl rfl (by decide +kernel)
@[simp] theorem x_isT2 : opIsi [.tup ds, .tup [.ty "list", .ty "tuple"]] p ↔ p (.bl true) := isiT_iff rfl rfl (by decide +kernel)
@[simp] theorem x_isT3 : opIsi [.own ds, .tup [.ty "list", .ty "tuple"]] p ↔ p (.bl true) := isiT_iff rfl rfl (by decide +kernel)
@[simp] theorem x_isT4 : opIsi [.flst ds, .tup [.ty "list", .ty "tuple"]] p ↔ p (.bl true) := isiT_iff rfl rfl (by decide +kernel)
@[simp] theorem x_isT5 : opIsi [.int m, .tup [.ty "list", .ty "tuple"]] p ↔ p (.bl false) := isiT_iff rfl rfl (by decide +kernel)
@[simp] theorem x_isT6 {z : Str} : opIsi [.str z, .tup [.ty "list", .ty "tuple"]] p ↔ p (.bl false) := isiT_iff rfl rfl (by decide +kernel)
@[simp] theorem x_isT7 : opIsi [.non, .tup [.ty "list", .ty "tuple"]] p ↔ p (.bl false) := isiT_iff rfl rfl (by decide +kernel)
@[simp] theorem x_isT8 {k : Bool} : opIsi [.bl k, .tup [.ty "list", .ty "tuple"]] p ↔ p (.bl false) := isiT_iff rfl rfl (by decide +kernel)
theorem opTuple_own (hh : ds.all D.pl = true) : opTuple [.own ds] p ↔ p (.tup ds) := ⟨fun ⟨xs, e, h⟩ => by rw [sq_own' hh] at e; cases e; exact h, fun h => ⟨ds, sq_own' hh, h⟩⟩
@[simp] theorem x_tuple1 : opTuple [.tup ds] p ↔ p (.tup ds) := ⟨fun ⟨xs, e, h⟩ => by cases e; exact h, fun h => ⟨ds, rfl, h⟩⟩
@[simp] theorem x_tuple2 : opTuple [.lst ds] p ↔ p (.tup ds) := ⟨fun ⟨xs, e, h⟩ => by cases e; exact h, fun h => ⟨ds, rfl, h⟩⟩
@[simp] theorem x_list1 : opList [.tup ds] p ↔ p (.own ds) := ⟨fun ⟨xs, e, h⟩ => by cases e; exact h, fun h => ⟨ds, rfl, h⟩⟩
@[simp] theorem x_list2 : opList [.lst ds] p ↔ p (.own ds) := ⟨fun ⟨xs, e, h⟩ => by cases e; exact h, fun h => ⟨ds, rfl, h⟩⟩
@[simp] theorem x_tru1 {k : Bool} : (D.bl k).tru = some k := rfl
@[simp] theorem x_tru2 : (D.int m).tru = some (m != 0) := rfl
@[simp] theorem x_tru3 : D.non.tru = some false := rfl
@[simp] theorem x_tru4 : (D.own ds).tru = some (!ds.isEmpty) := rfl
@[simp] theorem x_tru5 : (D.lst ds).tru = some (!ds.isEmpty) := rfl
@[simp] theorem x_tru6 : (D.tup ds).tru = some (!ds.isEmpty) := rfl
/-- a place of a sequence -/
theorem atI_n {α : Type} {xs : List α} {k : Nat} {x : α} (h : xs[k]? = some x) : atI xs (k : Int) = some x := by
  have hk : k < xs.length := (List.getElem?_eq_some_iff.mp h).1
  unfold atI ixN
  rw [if_pos (by omega), if_pos (by omega)]
  exact h
theorem atI_int {α : Type} {xs : List α} {k : Int} {x : α} (h0 : 0 ≤ k) (h : xs[k.toNat]? = some x) : atI xs k = some x := by
  have z := atI_n h
  rw [Int.toNat_of_nonneg h0] at z
  exact z
theorem ix_of {d : D} {xs : List D} {k : Int} {x : D} (h : d.sq = some xs) (e : atI xs k = some x) (hp : p x) (hs : (match d with | .str _ => false | .kd _ _ => false | _ => true) = true := by rfl) : opIx d (.int k) p := by
  cases d <;> first | exact ⟨xs, k, x, h, rfl, e, hp⟩ | cases hs
theorem ix_iff {d : D} {xs : List D} {k : Int} {x : D} (h : d.sq = some xs) (e : atI xs k = some x) (hs : (match d with | .str _ => false | .kd _ _ => false | _ => true) = true := by rfl) : opIx d (.int k) p ↔ p x := by
  refine ⟨fun z => ?_, fun z => ix_of h e z hs⟩
  have gen : (∃ ys i y, d.sq = some ys ∧ D.int k = .int i ∧ atI ys i = some y ∧ p y) → p x := fun ⟨ys, i, y, a, b, c, q⟩ => by
    rw [h] at a; cases a; cases b; rw [e] at c; cases c; exact q
  cases d <;> first | exact gen z | cases hs
@[simp] theorem x_sq1 : (D.tup ds).sq = some ds := rfl
@[simp] theorem x_sq2 : (D.lst ds).sq = some ds := rfl
@[simp] theorem x_sq3 : (D.flst ds).sq = some ds := rfl
theorem sq_own (h : ds.all D.pl = true) : (D.own ds).sq = some ds := if_pos h
@[simp] theorem x_ixT0 : opIx (.tup (d :: ds)) (.int 0) p ↔ p d := ix_iff rfl (atI_n (k := 0) rfl)
@[simp] theorem x_ixT1 : opIx (.tup (e :: d :: ds)) (.int 1) p ↔ p d := ix_iff rfl (atI_n (k := 1) rfl)
@[simp] theorem x_ixT2 {e2 : D} : opIx (.tup (e :: e2 :: d :: ds)) (.int 2) p ↔ p d := ix_iff rfl (atI_n (k := 2) rfl)
@[simp] theorem x_ixT3 {e2 e3 : D} : opIx (.tup (e :: e2 :: e3 :: d :: ds)) (.int 3) p ↔ p d := ix_iff rfl (atI_n (k := 3) rfl)
@[simp] theorem x_ixO0 (hh : (d :: ds).all D.pl = true) : opIx (.own (d :: ds)) (.int 0) p ↔ p d := ix_iff (sq_own hh) (atI_n (k := 0) rfl)
@[simp] theorem x_ixO1 (hh : (e :: d :: ds).all D.pl = true) : opIx (.own (e :: d :: ds)) (.int 1) p ↔ p d := ix_iff (sq_own hh) (atI_n (k := 1) rfl)
@[simp] theorem x_ixO2 {e2 : D} (hh : (e :: e2 :: d :: ds).all D.pl = true) : opIx (.own (e :: e2 :: d :: ds)) (.int 2) p ↔ p d := ix_iff (sq_own hh) (atI_n (k := 2) rfl)
@[simp] theorem x_ixO3 {e2 e3 : D} (hh : (e :: e2 :: e3 :: d :: ds).all D.pl = true) : opIx (.own (e :: e2 :: e3 :: d :: ds)) (.int 3) p ↔ p d := ix_iff (sq_own hh) (atI_n (k := 3) rfl)
@[simp] theorem x_ixL0 : opIx (.lst (d :: ds)) (.int 0) p ↔ p d := ix_iff rfl (atI_n (k := 0) rfl)
@[simp] theorem x_ixL1 : opIx (.lst (e :: d :: ds)) (.int 1) p ↔ p d := ix_iff rfl (atI_n (k := 1) rfl)
@[simp] theorem x_ixL2 {e2 : D} : opIx (.lst (e :: e2 :: d :: ds)) (.int 2) p ↔ p d := ix_iff rfl (atI_n (k := 2) rfl)
@[simp] theorem x_ixL3 {e2 e3 : D} : opIx (.lst (e :: e2 :: e3 :: d :: ds)) (.int 3) p ↔ p d := ix_iff rfl (atI_n (k := 3) rfl)
theorem ix_own {xs : List D} {k : Nat} {x : D} {p : D → Prop} (hx : xs.all D.pl = true) (e : xs[k]? = some x) : opIx (.own xs) (.int k) p ↔ p x := ix_iff (sq_own hx) (atI_n e)
/-- one of two numbers -/
theorem ix_two {a b o : Int} {p : D → Prop} (ho : o = 0 ∨ o = 1) (h : p (.int (if o = 0 then a else b))) : opIx (.own [.int a, .int b]) (.int o) p := by
  rcases ho with z | z
  · subst z
    exact ix_of (sq_own rfl) (atI_n (k := 0) rfl) h
  · subst z
    exact ix_of (sq_own rfl) (atI_n (k := 1) rfl) h
/-! statements -/
variable {v w : WS}
@[simp ↓] theorem x_next : wNext X E ρ ↔ E.nx ρ := Iff.rfl
@[simp ↓] theorem x_brk : wBreak X E ρ ↔ E.bk ρ := Iff.rfl
@[simp ↓] theorem x_cont : wCont X E ρ ↔ E.ct ρ := Iff.rfl
@[simp ↓] theorem x_retN : wRetN X E ρ ↔ E.rt .non ρ := Iff.rfl
@[simp ↓] theorem x_seq : wSeq v w X E ρ ↔ v X (E.th (w X E)) ρ := Iff.rfl
@[simp ↓] theorem x_asg : wAsg i f X E ρ ↔ f X ρ fun r ρ1 => E.nx ((r.en ρ1).set i (r.tk ρ1)) := Iff.rfl
@[simp ↓] theorem x_asgT {gg : WG} : wAsgT gg f X E ρ ↔ f X ρ fun r ρ1 => gg ((r.tk ρ1).sh) (r.en ρ1) E.nx := Iff.rfl
@[simp ↓] theorem x_expr : wExpr f X E ρ ↔ f X ρ fun _ ρ1 => E.nx ρ1 := Iff.rfl
@[simp ↓] theorem x_if : wIf t v w X E ρ ↔ t X ρ fun b ρ1 => if b = true then v X E ρ1 else w X E ρ1 := Iff.rfl
@[simp ↓] theorem x_ret {kp : List Nat} : wRet kp f X E ρ ↔ f X ρ fun r ρ1 => match r with
  | .val d => E.rt d ρ1
  | .slot i => if i ∈ kp then E.rt (dAt ρ1 i).sh (ρ1.set i (dAt ρ1 i).sh) else E.rt (dAt ρ1 i) (ρ1.set i .und) := Iff.rfl
@[simp ↓] theorem x_fn {n m : Nat} {kp : List Nat} {Q : D → List D → Prop} : wFn n m kp v X ds Q ↔ (ds.length = n ∧ v (fun x ρ => X x (finD kp 0 n ρ)) ⟨fun ρ => Q .non (finD kp 0 n ρ), fun d ρ => Q d (finD kp 0 n ρ), fun _ => False, fun _ => False⟩ (ds ++ List.replicate (m - n) .und)) := Iff.rfl
@[simp] theorem x_fin0 {kp : List Nat} {j : Nat} : finD kp j 0 ρ = [] := by cases ρ <;> rfl
@[simp] theorem x_fin1 {kp : List Nat} {j k : Nat} : finD kp j (k + 1) (d :: ρ) = (if j ∈ kp then d else .und) :: finD kp (j + 1) k ρ := rfl
end

/-! ### bounds -/
theorem log2_lt' {n k : Nat} (h : n < 2 ^ k) (hk : 0 < k) : n.log2 < k := by
  by_cases h0 : n = 0
  · subst h0; simpa using hk
  · exact (Nat.log2_lt h0).mpr h
theorem cmulW {m n : Int} (a : m.natAbs < 2 ^ 10000) (b : n.natAbs < 2 ^ 10000) : CMulW m n := by
  have h1 := log2_lt' a (by decide)
  have h2 := log2_lt' b (by decide)
  unfold CMulW
  omega
theorem cdivW {m n : Int} (h : 0 < n) (b : n.natAbs < 2 ^ 9000) : CDivW m n := ⟨h, log2_lt' b (by decide)⟩
/-- numbers of no great size -/
def sm (m : Int) : Prop := -(2 ^ 64) < m ∧ m < 2 ^ 64
theorem sm_bits {m : Int} (h : sm m) : m.natAbs < 2 ^ 64 := by
  obtain ⟨a, b⟩ := h
  omega
theorem bits_up {m : Int} {j k : Nat} (h : m.natAbs < 2 ^ j) (l : j ≤ k) : m.natAbs < 2 ^ k := Nat.lt_of_lt_of_le h (Nat.pow_le_pow_right (by decide) l)
theorem cmulS {m n : Int} (a : sm m) (b : sm n) : CMulW m n := cmulW (bits_up (sm_bits a) (by decide)) (bits_up (sm_bits b) (by decide))
theorem cdivS {m n : Int} (h : 0 < n) (b : sm n) : CDivW m n := cdivW h (bits_up (sm_bits b) (by decide))

/-! ### loops -/
section
variable {i : Nat} {f : WS} {g : WG} {X : XD} {E : WEnds} {lo : Int} {n : Nat}
theorem for_inv (I : Nat → List D → Prop) {ρ : List D} (h0 : I 0 ρ) (hs : ∀ (k : Nat) (ρ : List D) (N : List D → Prop), k < n → I k ρ → (∀ ρ, I (k + 1) ρ → N ρ) → f X (E.lp N) (ρ.set i (.int (lo + k)))) (he : ∀ ρ, I n ρ → E.nx ρ) : wForR i f X E lo 0 n ρ := by
  have key : ∀ (m k : Nat) (ρ : List D), k + m = n → I k ρ → wForR i f X E lo k m ρ := by
    intro m
    induction m with
    | zero =>
      intro k ρ e hi
      have e : k = n := by omega
      subst e
      exact he ρ hi
    | succ m ih =>
      intro k ρ e hi
      exact hs k ρ _ (by omega) hi fun ρ' h => ih (k + 1) ρ' (by omega) h
  exact key n 0 ρ (by omega) h0
theorem fol_inv (I : Nat → List D → Prop) {ds : List D} {ρ : List D} (h0 : I 0 ρ) (hs : ∀ (k : Nat) (d : D) (ρ : List D) (N : List D → Prop), ds[k]? = some d → I k ρ → (∀ ρ, I (k + 1) ρ → N ρ) → g d ρ fun ρ1 => f X (E.lp N) ρ1) (he : ∀ ρ, I ds.length ρ → E.nx ρ) : wForL g f X E ds ρ := by
  have key : ∀ (es : List D) (k : Nat) (ρ : List D), ds.drop k = es → k + es.length = ds.length → I k ρ → wForL g f X E es ρ := by
    intro es
    induction es with
    | nil =>
      intro k ρ _ e hi
      have e : k = ds.length := by simpa using e
      subst e
      exact he ρ hi
    | cons d es ih =>
      intro k ρ e1 e2 hi
      have hd : ds[k]? = some d := by
        have z := congrArg (fun l => l[0]?) e1
        simpa using z
      have ht : ds.drop (k + 1) = es := by
        have z := congrArg (fun l => l.drop 1) e1
        simpa using z
      rw [List.length_cons] at e2
      exact hs k d ρ _ hd hi fun ρ' h => ih (k + 1) ρ' ht (by omega) h
  exact key ds 0 ρ (by simp) (by simp) h0
/-- a comprehension by an invariant on what is gathered -/
theorem lcl_inv {us : List Nat} {c : WT} {e : WE} (I : Nat → List D → List D → Prop) {ds : List D} {ρ : List D} {P : List D → List D → Prop} (h0 : I 0 [] ρ)
    (hs : ∀ (k : Nat) (d : D) (acc ρ : List D) (N : List D → List D → Prop), ds[k]? = some d → I k acc ρ → (∀ acc ρ, I (k + 1) acc ρ → N acc ρ) → g d ρ fun ρ1 => c (fun _ _ => False) ρ1 fun b ρ2 => if b = true then e (fun _ _ => False) ρ2 fun r ρ3 => acc.length < sizeLine ∧ N (acc ++ [(arg1 false r ρ3).1]) (wipeD (arg1 false r ρ3).2.1 us)
      else N acc (wipeD ρ2 us)) (he : ∀ acc ρ, I ds.length acc ρ → P acc ρ) : wLcL us g c e ds [] ρ P := by
  have key : ∀ (es : List D) (k : Nat) (acc ρ : List D), ds.drop k = es → k + es.length = ds.length → I k acc ρ → wLcL us g c e es acc ρ P := by
    intro es
    induction es with
    | nil =>
      intro k acc ρ _ e hi
      have e : k = ds.length := by simpa using e
      subst e
      exact he acc ρ hi
    | cons d es ih =>
      intro k acc ρ e1 e2 hi
      have hd : ds[k]? = some d := by
        have z := congrArg (fun l => l[0]?) e1
        simpa using z
      have ht : ds.drop (k + 1) = es := by
        have z := congrArg (fun l => l.drop 1) e1
        simpa using z
      rw [List.length_cons] at e2
      exact hs k d acc ρ (fun acc ρ => wLcL us g c e es acc ρ P) hd hi fun acc' ρ' h => ih (k + 1) acc' ρ' ht (by omega) h
  exact key ds 0 [] ρ (by simp) (by simp) h0
end
@[simp ↓] theorem x_rng1 {i : Nat} {f : WS} {X : XD} {E : WEnds} {ρ : List D} {a : WA} : wRng1 a i f X E ρ ↔ a X ρ fun rs ρ1 => ∃ j : Int, rs.map (R.get ρ1) = [.int j] ∧ rgOk j ∧ wForR i f X E 0 0 j.toNat ρ1 := Iff.rfl
@[simp ↓] theorem x_rng2 {i : Nat} {f : WS} {X : XD} {E : WEnds} {ρ : List D} {b : WA} : wRng2 b i f X E ρ ↔ b X ρ fun rs ρ1 => ∃ a j : Int, rs.map (R.get ρ1) = [.int a, .int j] ∧ rgOk a ∧ rgOk j ∧ wForR i f X E a 0 (j - a).toNat ρ1 := Iff.rfl
@[simp ↓] theorem x_for {f : WE} {g : WG} {b : WS} {X : XD} {E : WEnds} {ρ : List D} : wFor f g b X E ρ ↔ f X ρ fun r ρ1 => sqc ((r.tk ρ1).sh).sq (hid1 (fun xs => wForL g b X E xs (r.en ρ1)) .tg) := Iff.rfl
@[simp ↓] theorem x_gN {i : Nat} {d : D} {ρ : List D} {P : List D → Prop} : gN i d ρ P ↔ P (ρ.set i d) := Iff.rfl
@[simp] theorem x_ix1 {j : Nat} : (CT.name j).ix = [j] := rfl
@[simp] theorem x_ix2 {js : List Nat} : (CT.tup js).ix = js := rfl
@[simp] theorem x_wg1 {j : Nat} : (CT.name j).wg = gN j := rfl
@[simp] theorem x_wg2 {js : List Nat} : (CT.tup js).wg = gT js := rfl
@[simp ↓] theorem x_lc {f : WE} {ct : CT} {c : WT} {e : WE} {X : XD} {ρ : List D} {P : R → List D → Prop} : wLc f ct c e X ρ P ↔ f X ρ fun r ρ1 => sqc ((r.tk ρ1).sh).sq (hid1 (fun xs => (∀ i ∈ ct.ix, (dAt (r.en ρ1) i).pl = true) ∧
  wLcL ct.ix ct.wg c e xs [] (wipeD (r.en ρ1) ct.ix) fun acc ρ2 => hid P .tg (.val (.own acc)) (unwD (r.en ρ1) ρ2 ct.ix)) .tg) := Iff.rfl
@[simp] theorem x_wipe0 {ρ : List D} : wipeD ρ [] = ρ := rfl
@[simp] theorem x_wipe1 {ρ : List D} {i : Nat} {us : List Nat} : wipeD ρ (i :: us) = (wipeD ρ us).set i .und := rfl
@[simp] theorem x_unw0 {ρ0 ρ : List D} : unwD ρ0 ρ [] = ρ := rfl
@[simp] theorem x_unw1 {ρ0 ρ : List D} {i : Nat} {us : List Nat} : unwD ρ0 ρ (i :: us) = (unwD ρ0 ρ us).set i (dAt ρ0 i) := rfl
theorem rgOk_of {j : Int} (h : -1000000000000 < j) (h2 : j < 1000000000000) : rgOk j := by unfold rgOk; omega
end FL
namespace FL
open PySem PySem.Spec PyProof.Rows L2
def oinc (d : D) (p : Str → List Str → List D → Prop) : Prop := match d with
  | .oins C ks xs => p C ks xs
  | _ => False
def hid3 {α β γ : Type} (P : α → β → γ → Prop) (_ : Tg P) (a : α) (b : β) (c : γ) : Prop := P a b c
@[simp ↓] theorem x_hid3 {α β γ : Type} {P : α → β → γ → Prop} {t : Tg P} {a : α} {b : β} {c : γ} : hid3 P t a b c ↔ P a b c := Iff.rfl
@[simp] theorem x_oinc {C : Str} {ks : List Str} {xs : List D} {p : Str → List Str → List D → Prop} : oinc (.oins C ks xs) p ↔ p C ks xs := Iff.rfl
@[simp ↓] theorem x_setFld {t : CTab} {i : Nat} {f : Str} {g : WE} {X : XD} {E : WEnds} {ρ : List D} : wSetFld t i f g X E ρ ↔ g X ρ fun r ρ1 => oinc (dAt (r.en ρ1) i) (hid3 (fun C ks xs => t.has C f = true ∧ xs.length < 1000 ∧ xs.all D.pl = true ∧ E.nx ((r.en ρ1).set i (.oins C (putK ks xs f (r.tk ρ1).sh).1 (putK ks xs f (r.tk ρ1).sh).2))) .tg) := Iff.rfl
end FL

end
section
set_option maxHeartbeats 1000000
/-! FL21: more laws of the operations in plain terms. -/
namespace FL
open PySem PySem.Spec PyProof.Rows L2
section
variable {p : D → Prop} {ds es : List D} {a b : Str} {m n : Int}
theorem eqv_str : D.eqv (.str a) (.str b) = decide (a = b) := by
  show PyData.eqv (.str a) (.str b) = _
  first | rfl | simp [PyData.eqv] | (unfold PyData.eqv; simp)
@[simp] theorem x_eqS : opEq (.str a) (.str b) p ↔ p (.bl (decide (a = b))) := by
  unfold opEq
  rw [eqv_str]
  exact ⟨fun h => h.2, fun h => ⟨.inl rfl, h⟩⟩
@[simp] theorem x_neS : opNe (.str a) (.str b) p ↔ p (.bl (!decide (a = b))) := by
  unfold opNe
  rw [eqv_str]
  exact ⟨fun h => h.2, fun h => ⟨.inl rfl, h⟩⟩
theorem eqv_is : D.eqv (.int m) (.str b) = false := by
  show PyData.eqv (.int m) (.str b) = _
  first | rfl | simp [PyData.eqv] | (unfold PyData.eqv; simp)
theorem eqv_si : D.eqv (.str a) (.int n) = false := by
  show PyData.eqv (.str a) (.int n) = _
  first | rfl | simp [PyData.eqv] | (unfold PyData.eqv; simp)
@[simp] theorem x_eqIS : opEq (.int m) (.str b) p ↔ p (.bl false) := by
  unfold opEq
  rw [eqv_is]
  exact ⟨fun h => h.2, fun h => ⟨.inl rfl, h⟩⟩
@[simp] theorem x_eqSI : opEq (.str a) (.int n) p ↔ p (.bl false) := by
  unfold opEq
  rw [eqv_si]
  exact ⟨fun h => h.2, fun h => ⟨.inl rfl, h⟩⟩
theorem eqv_ns : D.eqv .non (.str b) = false := by
  show PyData.eqv .none (.str b) = _
  first | rfl | simp [PyData.eqv] | (unfold PyData.eqv; simp)
@[simp] theorem x_eqNS : opEq .non (.str b) p ↔ p (.bl false) := by
  unfold opEq
  rw [eqv_ns]
  exact ⟨fun h => h.2, fun h => ⟨.inl rfl, h⟩⟩
@[simp] theorem x_inS {ng : Bool} : opIn ng (.str a) (.str b) p ↔ p (.bl (ng != inStr a b)) := ⟨fun ⟨_, e, h⟩ => by cases e; exact h, fun h => ⟨_, rfl, h⟩⟩
theorem inKd {ng : Bool} {x : Str} {kvs : List (Str × D)} : opIn ng (.str a) (.kd x kvs) p ↔ p (.bl (ng != (kdIx kvs a).isSome)) := ⟨fun ⟨_, e, h⟩ => by cases e; exact h, fun h => ⟨_, rfl, h⟩⟩
theorem ixKd {x : Str} {kvs : List (Str × D)} {i : Nat} {q : Str × D} (h : kdIx kvs a = some i) (e : kvs[i]? = some q) : opIx (.kd x kvs) (.str a) p ↔ p q.2 := ⟨fun ⟨z, j, q', e1, e2, e3, h2⟩ => by
  cases e1; rw [h] at e2; cases e2; rw [e] at e3; cases e3; exact h2, fun h2 => ⟨a, i, q, rfl, h, e, h2⟩⟩
theorem ixStr {i : Int} {c : Nat} (hz : a.length ≤ sizeLine) (e : atI a.cps.toList i = some c) : opIx (.str a) (.int i) p ↔ p (.str ⟨#[c]⟩) := ⟨fun ⟨i', c', e1, _, e2, h⟩ => by
  cases e1; rw [e] at e2; cases e2; exact h, fun h => ⟨i, c, rfl, hz, e, h⟩⟩
theorem addT (h1 : ds ≠ []) (h2 : ds.length + es.length ≤ sizeLine) : opAdd (.tup ds) (.tup es) p ↔ p (.tup (ds ++ es)) := ⟨fun h => h.2.2, fun h => ⟨h1, h2, h⟩⟩
theorem addL (h1 : ds.all D.pl = true) (h2 : es.all D.pl = true) (h3 : ds.length + es.length ≤ sizeLine) (h : p (.own (ds ++ es))) : opAdd (.own ds) (.own es) p := ⟨ds, es, if_pos h1, if_pos h2, h3, h⟩
theorem addSL (h2 : es.all D.pl = true) (h3 : ds.length + es.length ≤ sizeLine) (h : p (.own (ds ++ es))) : opAdd (.lst ds) (.own es) p := ⟨ds, es, rfl, if_pos h2, h3, h⟩
def intc (d : D) (p : Int → Prop) : Prop := match d with
  | .int i => p i
  | _ => False
@[simp] theorem x_intc {p : Int → Prop} : intc (.int m) p ↔ p m := Iff.rfl
variable {X : XD} {ρ : List D} {P : R → List D → Prop} {f : WE} {i : Nat}
@[simp ↓] theorem x_popAt : wPopAt i f X ρ P ↔ ((dAt ρ i).isOwn = true ∧ f X ρ fun r ρ1 => ownc (dAt ρ1 i) (hid1 (fun xs => intc (r.get ρ1) (hid1 (fun k => ∃ j d, -(2 ^ 63) ≤ k ∧ k < 2 ^ 63 ∧ seqIndex? k xs.length = some j ∧ xs[j]? = some d ∧ P (.val d) (ρ1.set i (.own (xs.eraseIdx j)))) .tg)) .tg)) := by
  have e : (fun (r : R) (ρ1 : List D) => match dAt ρ1 i, r.get ρ1 with
    | .own xs, .int k => ∃ j d, -(2 ^ 63) ≤ k ∧ k < 2 ^ 63 ∧ seqIndex? k xs.length = some j ∧ xs[j]? = some d ∧ P (.val d) (ρ1.set i (.own (xs.eraseIdx j)))
    | _, _ => False) = fun r ρ1 => ownc (dAt ρ1 i) (hid1 (fun xs => intc (r.get ρ1) (hid1 (fun k => ∃ j d, -(2 ^ 63) ≤ k ∧ k < 2 ^ 63 ∧ seqIndex? k xs.length = some j ∧ xs[j]? = some d ∧ P (.val d) (ρ1.set i (.own (xs.eraseIdx j)))) .tg)) .tg) := by
    funext r ρ1
    cases h1 : dAt ρ1 i <;> cases h2 : r.get ρ1 <;> simp [ownc, intc, hid1]
  exact iff_of_eq (congrArg (fun q => ((dAt ρ i).isOwn = true ∧ f X ρ q)) e)
@[simp ↓] theorem x_pop : wPop i X ρ P ↔ ownc (dAt ρ i) (hid1 (fun xs => ∃ d, xs[xs.length - 1]? = some d ∧ P (.val d) (ρ.set i (.own xs.dropLast))) .tg) := Iff.rfl
@[simp] theorem y_non_int : opIsi [.non, .ty "int"] p ↔ p (.bl false) := isi_iff rfl (by decide +kernel)
@[simp] theorem y_non_bool : opIsi [.non, .ty "bool"] p ↔ p (.bl false) := isi_iff rfl (by decide +kernel)
@[simp] theorem y_non_str : opIsi [.non, .ty "str"] p ↔ p (.bl false) := isi_iff rfl (by decide +kernel)
@[simp] theorem y_non_list : opIsi [.non, .ty "list"] p ↔ p (.bl false) := isi_iff rfl (by decide +kernel)
@[simp] theorem y_non_tuple : opIsi [.non, .ty "tuple"] p ↔ p (.bl false) := isi_iff rfl (by decide +kernel)
@[simp] theorem y_bl_int {k : Bool} : opIsi [(.bl k), .ty "int"] p ↔ p (.bl true) := isi_iff rfl (by decide +kernel)
@[simp] theorem y_bl_bool {k : Bool} : opIsi [(.bl k), .ty "bool"] p ↔ p (.bl true) := isi_iff rfl (by decide +kernel)
@[simp] theorem y_bl_str {k : Bool} : opIsi [(.bl k), .ty "str"] p ↔ p (.bl false) := isi_iff rfl (by decide +kernel)
@[simp] theorem y_bl_list {k : Bool} : opIsi [(.bl k), .ty "list"] p ↔ p (.bl false) := isi_iff rfl (by decide +kernel)
@[simp] theorem y_bl_tuple {k : Bool} : opIsi [(.bl k), .ty "tuple"] p ↔ p (.bl false) := isi_iff rfl (by decide +kernel)
@[simp] theorem y_int_int : opIsi [(.int m), .ty "int"] p ↔ p (.bl true) := isi_iff rfl (by decide +kernel)
@[simp] theorem y_int_bool : opIsi [(.int m), .ty "bool"] p ↔ p (.bl false) := isi_iff rfl (by decide +kernel)
@[simp] theorem y_int_str : opIsi [(.int m), .ty "str"] p ↔ p (.bl false) := isi_iff rfl (by decide +kernel)
@[simp] theorem y_int_list : opIsi [(.int m), .ty "list"] p ↔ p (.bl false) := isi_iff rfl (by decide +kernel)
@[simp] theorem y_int_tuple : opIsi [(.int m), .ty "tuple"] p ↔ p (.bl false) := isi_iff rfl (by decide +kernel)
@[simp] theorem y_str_int : opIsi [(.str a), .ty "int"] p ↔ p (.bl false) := isi_iff rfl (by decide +kernel)
@[simp] theorem y_str_bool : opIsi [(.str a), .ty "bool"] p ↔ p (.bl false) := isi_iff rfl (by decide +kernel)
@[simp] theorem y_str_str : opIsi [(.str a), .ty "str"] p ↔ p (.bl true) := isi_iff rfl (by decide +kernel)
@[simp] theorem y_str_list : opIsi [(.str a), .ty "list"] p ↔ p (.bl false) := isi_iff rfl (by decide +kernel)
@[simp] theorem y_str_tuple : opIsi [(.str a), .ty "tuple"] p ↔ p (.bl false) := isi_iff rfl (by decide +kernel)
@[simp] theorem y_lst_int : opIsi [(.lst ds), .ty "int"] p ↔ p (.bl false) := isi_iff rfl (by decide +kernel)
@[simp] theorem y_lst_bool : opIsi [(.lst ds), .ty "bool"] p ↔ p (.bl false) := isi_iff rfl (by decide +kernel)
@[simp] theorem y_lst_str : opIsi [(.lst ds), .ty "str"] p ↔ p (.bl false) := isi_iff rfl (by decide +kernel)
@[simp] theorem y_lst_list : opIsi [(.lst ds), .ty "list"] p ↔ p (.bl true) := isi_iff rfl (by decide +kernel)
@[simp] theorem y_lst_tuple : opIsi [(.lst ds), .ty "tuple"] p ↔ p (.bl false) := isi_iff rfl (by decide +kernel)
@[simp] theorem y_flst_int : opIsi [(.flst ds), .ty "int"] p ↔ p (.bl false) := isi_iff rfl (by decide +kernel)
@[simp] theorem y_flst_bool : opIsi [(.flst ds), .ty "bool"] p ↔ p (.bl false) := isi_iff rfl (by decide +kernel)
@[simp] theorem y_flst_str : opIsi [(.flst ds), .ty "str"] p ↔ p (.bl false) := isi_iff rfl (by decide +kernel)
@[simp] theorem y_flst_list : opIsi [(.flst ds), .ty "list"] p ↔ p (.bl true) := isi_iff rfl (by decide +kernel)
@[simp] theorem y_flst_tuple : opIsi [(.flst ds), .ty "tuple"] p ↔ p (.bl false) := isi_iff rfl (by decide +kernel)
@[simp] theorem y_own_int : opIsi [(.own ds), .ty "int"] p ↔ p (.bl false) := isi_iff rfl (by decide +kernel)
@[simp] theorem y_own_bool : opIsi [(.own ds), .ty "bool"] p ↔ p (.bl false) := isi_iff rfl (by decide +kernel)
@[simp] theorem y_own_str : opIsi [(.own ds), .ty "str"] p ↔ p (.bl false) := isi_iff rfl (by decide +kernel)
@[simp] theorem y_own_list : opIsi [(.own ds), .ty "list"] p ↔ p (.bl true) := isi_iff rfl (by decide +kernel)
@[simp] theorem y_own_tuple : opIsi [(.own ds), .ty "tuple"] p ↔ p (.bl false) := isi_iff rfl (by decide +kernel)
@[simp] theorem y_tup_int : opIsi [(.tup ds), .ty "int"] p ↔ p (.bl false) := isi_iff rfl (by decide +kernel)
@[simp] theorem y_tup_bool : opIsi [(.tup ds), .ty "bool"] p ↔ p (.bl false) := isi_iff rfl (by decide +kernel)
@[simp] theorem y_tup_str : opIsi [(.tup ds), .ty "str"] p ↔ p (.bl false) := isi_iff rfl (by decide +kernel)
@[simp] theorem y_tup_list : opIsi [(.tup ds), .ty "list"] p ↔ p (.bl false) := isi_iff rfl (by decide +kernel)
@[simp] theorem y_tup_tuple : opIsi [(.tup ds), .ty "tuple"] p ↔ p (.bl true) := isi_iff rfl (by decide +kernel)
end
@[simp ↓] theorem x_lcR1 {f : WA} {ct : CT} {c : WT} {e : WE} {X : XD} {ρ : List D} {P : R → List D → Prop} : wLcR1 f ct c e X ρ P ↔ f X ρ fun rs ρ1 => ∃ j : Int, rs.map (R.get ρ1) = [.int j] ∧ rgOk j ∧ (∀ i ∈ ct.ix, (dAt ρ1 i).pl = true) ∧
  wLcL ct.ix ct.wg c e (rgL 0 j.toNat) [] (wipeD ρ1 ct.ix) fun acc ρ2 => hid P .tg (.val (.own acc)) (unwD ρ1 ρ2 ct.ix) := Iff.rfl
@[simp ↓] theorem x_lcR2 {f : WA} {ct : CT} {c : WT} {e : WE} {X : XD} {ρ : List D} {P : R → List D → Prop} : wLcR2 f ct c e X ρ P ↔ f X ρ fun rs ρ1 => ∃ a j : Int, rs.map (R.get ρ1) = [.int a, .int j] ∧ rgOk a ∧ rgOk j ∧ (∀ i ∈ ct.ix, (dAt ρ1 i).pl = true) ∧
  wLcL ct.ix ct.wg c e (rgL a (j - a).toNat) [] (wipeD ρ1 ct.ix) fun acc ρ2 => hid P .tg (.val (.own acc)) (unwD ρ1 ρ2 ct.ix) := Iff.rfl
end FL

end
section
set_option maxHeartbeats 0
namespace K75
open PySem PySem.Spec PyProof.Rows L2 FL

def top (i : Nat) : Stmt := PySem.Challenge.pw_oneheadeach_k75_signing_sayings.main.body.getD i (.Pass ⟨0, 0, 0, 0⟩)
def dd (x : Str) (i : Nat) : He.DefD := ⟨(x, none), x, x, defArgs (top i), defBody (top i), defScope (top i), [], []⟩
def dm (c m : Str) (q : Str) (i j : Nat) : He.DefD := ⟨(c, some m), m, q, defArgs (inClass (top i) j), defBody (inClass (top i) j), defScope (inClass (top i) j), [], []⟩
def L : FLaw := { frs := ["bool", "int", "isinstance", "len", "list", "range", "str", "tuple"], gls := ["law", "_law_cell", "_law_digits", "_law_rule", "_law_atom", "_law_listed", "signing_sayings", "_law_faults", "_law_very", "_law_take", "renamed_saying", "frozen", "with_name", "bound_name", "_law_turned", "_law_same"], cts := [], mkn := [], glb := [("ITEMS", .kd "ITEMS" [("yes", .str ""), ("no", .str ""), ("same", .str "xx"), ("head", .str "xx"), ("above", .str "xx"), ("first", .str "xxm"), ("mark", .str "xm"), ("in", .str "xA"), ("not", .str "s"), ("and", .str "p"), ("or", .str "p"), ("some", .str "ns"), ("all", .str "ns"), ("least", .str "kxs")])], fn := [dd "_law_cell" 10, dd "_law_digits" 11, dd "_law_take" 13, dd "_law_atom" 14, dd "_law_rule" 15, dd "_law_listed" 16, dd "frozen" 1, dd "bound_name" 4, dd "with_name" 5, dd "renamed_saying" 6, dd "signing_sayings" 8, dd "_law_turned" 17, dd "_law_faults" 18, dd "_law_same" 12, dd "_law_very" 19, dd "law" 20] }
def c__law_cell : DCtx := mkC L ["script", "k", "seed", "cell"] (defScope (top 10)) [0, 1] 0 [] [] [] true
def F__law_cell : WF := wFn 2 4 [0, 1] (denB 60 c__law_cell (defBody (top 10)))
def W__law_cell : WS := (wSeq (wIf (wTest (wBin (cmpOf .Lt) (wVar 1) (wCB opLen (wCons (wVar 0) wNil)))) (wRet [0, 1] (wBin opIx (wVar 0) (wVar 1))) wNext) (wSeq (wAsg 2 (wC (.int 17))) (wSeq (wFor (wVar 0) (gN 3) (wAsg 2 (wBin (binOf .Mod) (wCB opInt (wCons (wBin (binOf .Add) (wBin (binOf .Mult) (wVar 2) (wC (.int 31))) (wBin (binOf .Mod) (wCB opInt (wCons (wVar 3) wNil)) (wC (.int 1000003)))) wNil)) (wC (.int 1000003))))) (wRet [0, 1] (wBin (binOf .Mod) (wCB opInt (wCons (wBin (binOf .Mult) (wBin (binOf .Mult) (wBin (binOf .Add) (wVar 2) (wC (.int 7))) (wBin (binOf .Add) (wVar 1) (wC (.int 3)))) (wC (.int 69621))) wNil)) (wC (.int 2147483647)))))))
theorem den__law_cell : denB 60 c__law_cell (defBody (top 10)) = W__law_cell := by kernel_rfl
theorem F__law_cell_eq : F__law_cell = wFn 2 4 [0, 1] W__law_cell := congrArg (wFn 2 4 [0, 1]) den__law_cell
theorem ok__law_cell {P : Program} {w : World} {K : PySem.W.Frag} {mg : Str → Option Value} {base : Heap} (h : Hd L w K mg base) : FnI P w K mg base 1 ("_law_cell", ⟨F__law_cell, [true, true]⟩) := by
  obtain ⟨fd, FD⟩ := h.fd 0 (d := dd "_law_cell" 10) rfl
  have b := FD.bindsN (ps := ["script", "k"]) fun _ _ _ _ _ _ us hl => match us, hl with | [_, _], _ => rfl
  exact ⟨_, _, fd, ["script", "k"], Nat.le_refl _, fn_ok0 FD (N := ["script", "k", "seed", "cell"]) ⟨rfl, rfl, rfl, by decide +kernel, rfl, by decide +kernel, by decide +kernel⟩ (c := c__law_cell) (n := 60) rfl rfl (h.fok all_nil all_nil all_nil), h.glo (by decide), FD.kp, b⟩
def c__law_digits : DCtx := mkC L ["cell", "sizes", "row", "rest", "size", "seed", "k", "twice"] (defScope (top 11)) [0, 1] 0 [] [] [] true
def F__law_digits : WF := wFn 2 8 [0, 1] (denB 60 c__law_digits (defBody (top 11)))
def W__law_digits : WS := (wSeq (wAsg 2 (wCB opLst wNil)) (wSeq (wAsg 3 (wCB opInt (wCons (wVar 0) wNil))) (wSeq (wIf (wTest (wBin (cmpOf .GtE) (wVar 3) (wBin (binOf .Pow) (wC (.int 10)) (wC (.int 18))))) (wSeq (wAsg 3 (wBin (binOf .Mod) (wCB opInt (wCons (wBin (binOf .Sub) (wVar 3) (wBin (binOf .Pow) (wC (.int 10)) (wC (.int 18)))) wNil)) (wBin (binOf .Mult) (wBin (binOf .Mult) (wBin (binOf .Pow) (wC (.int 10)) (wC (.int 60))) (wBin (binOf .Pow) (wC (.int 10)) (wC (.int 60)))) (wBin (binOf .Pow) (wC (.int 10)) (wC (.int 60)))))) (wSeq (wFor (wVar 1) (gN 4) (wSeq (wExpr (wApp 2 (wSh (wBin (binOf .Mod) (wCB opInt (wCons (wVar 3) wNil)) (wVar 4))))) (wAsg 3 (wBin (binOf .FloorDiv) (wCB opInt (wCons (wVar 3) wNil)) (wVar 4))))) (wRet [0, 1] (wVar 2)))) wNext) (wSeq (wAsg 5 (wBin (binOf .Mod) (wCB opInt (wCons (wVar 3) wNil)) (wC (.int 2147483629)))) (wSeq (wRng1 (wCons (wCB opLen (wCons (wVar 1) wNil)) wNil) 6 (wSeq (wAsg 5 (wBin (binOf .Mod) (wCB opInt (wCons (wBin (binOf .Add) (wBin (binOf .Add) (wBin (binOf .Mult) (wVar 5) (wC (.int 48271))) (wBin (binOf .Mult) (wC (.int 974711)) (wVar 6))) (wC (.int 12345))) wNil)) (wC (.int 2147483647)))) (wSeq (wAsg 7 (wBin (binOf .Mod) (wCB opInt (wCons (wBin (binOf .Mult) (wVar 5) (wBin (binOf .Add) (wBin (binOf .FloorDiv) (wVar 5) (wC (.int 65537))) (wC (.int 3)))) wNil)) (wC (.int 2147483629)))) (wExpr (wApp 2 (wSh (wBin (binOf .Mod) (wBin (binOf .FloorDiv) (wVar 7) (wC (.int 19))) (wBin opIx (wVar 1) (wVar 6))))))))) (wRet [0, 1] (wVar 2)))))))
theorem den__law_digits : denB 60 c__law_digits (defBody (top 11)) = W__law_digits := by kernel_rfl
theorem F__law_digits_eq : F__law_digits = wFn 2 8 [0, 1] W__law_digits := congrArg (wFn 2 8 [0, 1]) den__law_digits
theorem ok__law_digits {P : Program} {w : World} {K : PySem.W.Frag} {mg : Str → Option Value} {base : Heap} (h : Hd L w K mg base) : FnI P w K mg base 1 ("_law_digits", ⟨F__law_digits, [true, true]⟩) := by
  obtain ⟨fd, FD⟩ := h.fd 1 (d := dd "_law_digits" 11) rfl
  have b := FD.bindsN (ps := ["cell", "sizes"]) fun _ _ _ _ _ _ us hl => match us, hl with | [_, _], _ => rfl
  exact ⟨_, _, fd, ["cell", "sizes"], Nat.le_refl _, fn_ok0 FD (N := ["cell", "sizes", "row", "rest", "size", "seed", "k", "twice"]) ⟨rfl, rfl, rfl, by decide +kernel, rfl, by decide +kernel, by decide +kernel⟩ (c := c__law_digits) (n := 60) rfl rfl (h.fok all_nil all_nil all_nil), h.glo (by decide), FD.kp, b⟩
def c__law_take : DCtx := mkC L ["row", "size"] (defScope (top 13)) [0, 1] 0 [] [] [] true
def F__law_take : WF := wFn 2 2 [0, 1] (denB 60 c__law_take (defBody (top 13)))
def W__law_take : WS := (wSeq (wIf (wTest (wBin (cmpOf .Eq) (wCB opLen (wCons (wVar 0) wNil)) (wC (.int 0)))) (wRet [0, 1] (wC (.int 0))) wNext) (wRet [0, 1] (wBin (binOf .Mod) (wCB opInt (wCons (wPopAt 0 (wC (.int 0))) wNil)) (wVar 1))))
theorem den__law_take : denB 60 c__law_take (defBody (top 13)) = W__law_take := by kernel_rfl
theorem F__law_take_eq : F__law_take = wFn 2 2 [0, 1] W__law_take := congrArg (wFn 2 2 [0, 1]) den__law_take
theorem ok__law_take {P : Program} {w : World} {K : PySem.W.Frag} {mg : Str → Option Value} {base : Heap} (h : Hd L w K mg base) : FnI P w K mg base 1 ("_law_take", ⟨F__law_take, [true, true]⟩) := by
  obtain ⟨fd, FD⟩ := h.fd 2 (d := dd "_law_take" 13) rfl
  have b := FD.bindsN (ps := ["row", "size"]) fun _ _ _ _ _ _ us hl => match us, hl with | [_, _], _ => rfl
  exact ⟨_, _, fd, ["row", "size"], Nat.le_refl _, fn_ok0 FD (N := ["row", "size"]) ⟨rfl, rfl, rfl, by decide +kernel, rfl, by decide +kernel, by decide +kernel⟩ (c := c__law_take) (n := 60) rfl rfl (h.fok all_nil all_nil all_nil), h.glo (by decide), FD.kp, b⟩
def c__law_atom : DCtx := mkC L ["row", "terms", "sets", "one", "two", "kind", "sign", "menu"] (defScope (top 14)) [0, 1, 2] 1 [("_law_take", ⟨F__law_take, [true, true]⟩)] [] [] true
def F__law_atom : WF := wFn 3 8 [0, 1, 2] (denB 60 c__law_atom (defBody (top 14)))
def W__law_atom : WS := (wSeq (wAsg 3 (wBin opIx (wVar 1) (wCall F__law_take [true, true] (wCons (wVar 0) (wCons (wCB opLen (wCons (wVar 1) wNil)) wNil))))) (wSeq (wAsg 4 (wBin opIx (wVar 1) (wCall F__law_take [true, true] (wCons (wVar 0) (wCons (wCB opLen (wCons (wVar 1) wNil)) wNil))))) (wSeq (wAsg 5 (wCall F__law_take [true, true] (wCons (wVar 0) (wCons (wC (.int 9)) wNil)))) (wSeq (wAsg 6 (wBin opIx (wCB opLst (wCons (wSh (wCall F__law_take [true, true] (wCons (wVar 0) (wCons (wC (.int 2)) wNil)))) (wCons (wSh (wCall F__law_take [true, true] (wCons (wVar 0) (wCons (wC (.int 512)) wNil)))) (wCons (wSh (wC (.int 511))) (wCons (wSh (wC (.int 10))) wNil))))) (wCall F__law_take [true, true] (wCons (wVar 0) (wCons (wC (.int 4)) wNil))))) (wSeq (wAsg 7 (wCB opLst (wCons (wSh (wCB opTup (wCons (wSh (wC (.str "head"))) (wCons (wSh (wVar 3)) (wCons (wSh (wVar 4)) wNil))))) (wCons (wSh (wCB opTup (wCons (wSh (wC (.str "first"))) (wCons (wSh (wVar 3)) (wCons (wSh (wVar 4)) (wCons (wSh (wVar 6)) wNil)))))) (wCons (wSh (wCB opTup (wCons (wSh (wC (.str "above"))) (wCons (wSh (wVar 3)) (wCons (wSh (wVar 4)) wNil))))) (wCons (wSh (wCB opTup (wCons (wSh (wC (.str "same"))) (wCons (wSh (wVar 3)) (wCons (wSh (wVar 4)) wNil))))) (wCons (wSh (wCB opTup (wCons (wSh (wC (.str "mark"))) (wCons (wSh (wVar 3)) (wCons (wSh (wVar 6)) wNil))))) wNil))))))) (wSeq (wAsg 7 (wBin (binOf .Add) (wVar 7) (wCB opLst (wCons (wSh (wCB opTup (wCons (wSh (wC (.str "mark"))) (wCons (wSh (wVar 4)) (wCons (wSh (wVar 6)) wNil))))) (wCons (wSh (wCB opTup (wCons (wSh (wC (.str "yes"))) wNil))) (wCons (wSh (wCB opTup (wCons (wSh (wC (.str "no"))) wNil))) (wCons (wSh (wCB opTup (wCons (wSh (wC (.str "above"))) (wCons (wSh (wVar 4)) (wCons (wSh (wVar 3)) wNil))))) wNil))))))) (wSeq (wIf (wAndT (wTest (wBin (cmpOf .GtE) (wVar 5) (wC (.int 5)))) (wTest (wBin (cmpOf .Gt) (wCB opLen (wCons (wVar 2) wNil)) (wC (.int 0))))) (wRet [0, 1, 2] (wCB opTup (wCons (wSh (wC (.str "in"))) (wCons (wSh (wVar 3)) (wCons (wSh (wBin opIx (wVar 2) (wCall F__law_take [true, true] (wCons (wVar 0) (wCons (wCB opLen (wCons (wVar 2) wNil)) wNil))))) wNil))))) wNext) (wRet [0, 1, 2] (wBin opIx (wVar 7) (wVar 5))))))))))
theorem den__law_atom : denB 60 c__law_atom (defBody (top 14)) = W__law_atom := by kernel_rfl
theorem F__law_atom_eq : F__law_atom = wFn 3 8 [0, 1, 2] W__law_atom := congrArg (wFn 3 8 [0, 1, 2]) den__law_atom
theorem ok__law_atom {P : Program} {w : World} {K : PySem.W.Frag} {mg : Str → Option Value} {base : Heap} (h : Hd L w K mg base) : FnI P w K mg base 2 ("_law_atom", ⟨F__law_atom, [true, true, true]⟩) := by
  obtain ⟨fd, FD⟩ := h.fd 3 (d := dd "_law_atom" 14) rfl
  have b := FD.bindsN (ps := ["row", "terms", "sets"]) fun _ _ _ _ _ _ us hl => match us, hl with | [_, _, _], _ => rfl
  exact ⟨_, _, fd, ["row", "terms", "sets"], Nat.le_refl _, fn_ok0 FD (N := ["row", "terms", "sets", "one", "two", "kind", "sign", "menu"]) ⟨rfl, rfl, rfl, by decide +kernel, rfl, by decide +kernel, by decide +kernel⟩ (c := c__law_atom) (n := 60) rfl rfl (h.fok (all_cons (ok__law_take h).up all_nil) all_nil all_nil), h.glo (by decide), FD.kp, b⟩
def c__law_rule (R : WF) (r : Nat) : DCtx := mkC L ["row", "deep", "terms", "sets", "kind", "parts", "term", "lot", "k"] (defScope (top 15)) [0, 1, 2, 3] (2 + r) [("_law_rule", ⟨R, [true, true, true, true]⟩), ("_law_take", ⟨F__law_take, [true, true]⟩), ("_law_atom", ⟨F__law_atom, [true, true, true]⟩)] [] [] true
def F__law_rule : Nat → WF
  | 0 => fun _ _ _ => False
  | r + 1 => wFn 4 9 [0, 1, 2, 3] (denB 60 (c__law_rule (F__law_rule r) r) (defBody (top 15)))
def W__law_rule (R : WF) : WS := (wSeq (wAsg 4 (wCall F__law_take [true, true] (wCons (wVar 0) (wCons (wC (.int 14)) wNil)))) (wSeq (wIf (wAndT (wTest (wBin (cmpOf .Eq) (wVar 1) (wC (.int 5)))) (wTest (wBin (cmpOf .Lt) (wVar 4) (wC (.int 5))))) (wAsg 4 (wBin (binOf .Add) (wC (.int 6)) (wBin (binOf .Mod) (wVar 4) (wC (.int 3))))) wNext) (wSeq (wIf (wOrT (wTest (wBin (cmpOf .Eq) (wVar 1) (wC (.int 0)))) (wTest (wBin (cmpOf .Lt) (wVar 4) (wC (.int 5))))) (wRet [0, 1, 2, 3] (wCall F__law_atom [true, true, true] (wCons (wVar 0) (wCons (wVar 2) (wCons (wVar 3) wNil))))) wNext) (wSeq (wIf (wTest (wBin (cmpOf .Eq) (wVar 4) (wC (.int 5)))) (wRet [0, 1, 2, 3] (wCB opTup (wCons (wSh (wC (.str "not"))) (wCons (wSh (wCall R [true, true, true, true] (wCons (wVar 0) (wCons (wBin (binOf .Sub) (wVar 1) (wC (.int 1))) (wCons (wVar 2) (wCons (wVar 3) wNil)))))) wNil)))) wNext) (wSeq (wIf (wTest (wBin (cmpOf .Lt) (wVar 4) (wC (.int 9)))) (wSeq (wAsg 5 (wLcR1 (wCons (wBin (binOf .Add) (wC (.int 2)) (wCall F__law_take [true, true] (wCons (wVar 0) (wCons (wC (.int 3)) wNil)))) wNil) (.name 8) wYes (wSh (wCall R [true, true, true, true] (wCons (wVar 0) (wCons (wBin (binOf .Sub) (wVar 1) (wC (.int 1))) (wCons (wVar 2) (wCons (wVar 3) wNil)))))))) (wRet [0, 1, 2, 3] (wCB opTup (wCons (wSh (wBin opIx (wCB opLst (wCons (wSh (wC (.str "and"))) (wCons (wSh (wC (.str "or"))) wNil))) (wBin (binOf .Mod) (wVar 4) (wC (.int 2))))) (wCons (wSh (wCB opTuple (wCons (wVar 5) wNil))) wNil))))) wNext) (wSeq (wAsg 6 (wBin opIx (wCB opLst (wCons (wSh (wC (.str "a"))) (wCons (wSh (wC (.str "yy"))) (wCons (wSh (wC (.str "boss"))) (wCons (wSh (wC (.str "xy"))) (wCons (wSh (wC (.str "c"))) (wCons (wSh (wC (.str "q"))) wNil))))))) (wVar 1))) (wSeq (wAsg 7 (wBin opIx (wCB opLst (wCons (wSh (wC (.str "A"))) (wCons (wSh (wC (.str "B"))) (wCons (wSh (wC (.str "CC"))) (wCons (wSh (wC (.str "LOT"))) (wCons (wSh (wC (.str "D"))) (wCons (wSh (wC (.str "E"))) wNil))))))) (wVar 1))) (wSeq (wIf (wTest (wBin (cmpOf .Lt) (wVar 4) (wC (.int 11)))) (wRet [0, 1, 2, 3] (wCB opTup (wCons (wSh (wBin opIx (wCB opLst (wCons (wSh (wC (.str "some"))) (wCons (wSh (wC (.str "all"))) wNil))) (wBin (binOf .Mod) (wVar 4) (wC (.int 2))))) (wCons (wSh (wVar 6)) (wCons (wSh (wCall R [true, true, true, true] (wCons (wVar 0) (wCons (wBin (binOf .Sub) (wVar 1) (wC (.int 1))) (wCons (wBin (binOf .Add) (wVar 2) (wCB opLst (wCons (wSh (wVar 6)) wNil))) (wCons (wVar 3) wNil)))))) wNil))))) wNext) (wSeq (wIf (wTest (wBin (cmpOf .Eq) (wVar 4) (wC (.int 11)))) (wRet [0, 1, 2, 3] (wCB opTup (wCons (wSh (wC (.str "least"))) (wCons (wSh (wBin (binOf .Add) (wC (.int 1)) (wCall F__law_take [true, true] (wCons (wVar 0) (wCons (wC (.int 6)) wNil))))) (wCons (wSh (wVar 6)) (wCons (wSh (wCall R [true, true, true, true] (wCons (wVar 0) (wCons (wBin (binOf .Sub) (wVar 1) (wC (.int 1))) (wCons (wBin (binOf .Add) (wVar 2) (wCB opLst (wCons (wSh (wVar 6)) wNil))) (wCons (wVar 3) wNil)))))) wNil)))))) wNext) (wRet [0, 1, 2, 3] (wCB opTup (wCons (wSh (wBin opIx (wCB opLst (wCons (wSh (wC (.str "some"))) (wCons (wSh (wC (.str "all"))) wNil))) (wBin (binOf .Mod) (wVar 4) (wC (.int 2))))) (wCons (wSh (wVar 7)) (wCons (wSh (wCall R [true, true, true, true] (wCons (wVar 0) (wCons (wBin (binOf .Sub) (wVar 1) (wC (.int 1))) (wCons (wVar 2) (wCons (wBin (binOf .Add) (wVar 3) (wCB opLst (wCons (wSh (wVar 7)) wNil))) wNil)))))) wNil))))))))))))))
theorem den__law_rule (R : WF) (r : Nat) : denB 60 (c__law_rule R r) (defBody (top 15)) = W__law_rule R := by kernel_rfl
theorem F__law_rule_eq (r : Nat) : F__law_rule (r + 1) = wFn 4 9 [0, 1, 2, 3] (W__law_rule (F__law_rule r)) := congrArg (wFn 4 9 [0, 1, 2, 3]) (den__law_rule (F__law_rule r) r)
theorem ok__law_rule {P : Program} {w : World} {K : PySem.W.Frag} {mg : Str → Option Value} {base : Heap} : ∀ r : Nat, Hd L w K mg base → FnI P w K mg base (2 + r) ("_law_rule", ⟨F__law_rule r, [true, true, true, true]⟩)
  | 0, h => by
    obtain ⟨fd, FD⟩ := h.fd 4 (d := dd "_law_rule" 15) rfl
    have b := FD.bindsN (ps := ["row", "deep", "terms", "sets"]) fun _ _ _ _ _ _ us hl => match us, hl with | [_, _, _, _], _ => rfl
    exact ⟨_, _, fd, ["row", "deep", "terms", "sets"], Nat.le_refl _, fn_none rfl, h.glo (x := "_law_rule") (by decide), FD.kp, b⟩
  | r + 1, h => by
    obtain ⟨fd, FD⟩ := h.fd 4 (d := dd "_law_rule" 15) rfl
    have b := FD.bindsN (ps := ["row", "deep", "terms", "sets"]) fun _ _ _ _ _ _ us hl => match us, hl with | [_, _, _, _], _ => rfl
    exact ⟨_, _, fd, ["row", "deep", "terms", "sets"], Nat.le_refl _, fn_ok0 FD (N := ["row", "deep", "terms", "sets", "kind", "parts", "term", "lot", "k"]) ⟨rfl, rfl, rfl, by decide +kernel, rfl, by decide +kernel, by decide +kernel⟩ (c := c__law_rule (F__law_rule r) r) (n := 60) rfl rfl (h.fok (all_cons (ok__law_rule r h) (all_cons ((ok__law_take h).up (by omega)) (all_cons ((ok__law_atom h).up (by omega)) all_nil))) all_nil all_nil), h.glo (x := "_law_rule") (by decide), FD.kp, b⟩
def c__law_listed (R : WF) (r : Nat) : DCtx := mkC L ["value", "part"] (defScope (top 16)) [0] (0 + r) [("_law_listed", ⟨R, [true]⟩)] [] [] true
def F__law_listed : Nat → WF
  | 0 => fun _ _ _ => False
  | r + 1 => wFn 1 2 [0] (denB 60 (c__law_listed (F__law_listed r) r) (defBody (top 16)))
def W__law_listed (R : WF) : WS := (wSeq (wIf (wTru (wCB opIsi (wCons (wVar 0) (wCons (wC (.ty "tuple")) wNil)))) (wRet [0] (wLc (wVar 0) (.name 1) wYes (wSh (wCall R [true] (wCons (wVar 1) wNil))))) wNext) (wRet [0] (wVar 0)))
theorem den__law_listed (R : WF) (r : Nat) : denB 60 (c__law_listed R r) (defBody (top 16)) = W__law_listed R := by kernel_rfl
theorem F__law_listed_eq (r : Nat) : F__law_listed (r + 1) = wFn 1 2 [0] (W__law_listed (F__law_listed r)) := congrArg (wFn 1 2 [0]) (den__law_listed (F__law_listed r) r)
theorem ok__law_listed {P : Program} {w : World} {K : PySem.W.Frag} {mg : Str → Option Value} {base : Heap} : ∀ r : Nat, Hd L w K mg base → FnI P w K mg base (0 + r) ("_law_listed", ⟨F__law_listed r, [true]⟩)
  | 0, h => by
    obtain ⟨fd, FD⟩ := h.fd 5 (d := dd "_law_listed" 16) rfl
    have b := FD.bindsN (ps := ["value"]) fun _ _ _ _ _ _ us hl => match us, hl with | [_], _ => rfl
    exact ⟨_, _, fd, ["value"], Nat.le_refl _, fn_none rfl, h.glo (x := "_law_listed") (by decide), FD.kp, b⟩
  | r + 1, h => by
    obtain ⟨fd, FD⟩ := h.fd 5 (d := dd "_law_listed" 16) rfl
    have b := FD.bindsN (ps := ["value"]) fun _ _ _ _ _ _ us hl => match us, hl with | [_], _ => rfl
    exact ⟨_, _, fd, ["value"], Nat.le_refl _, fn_ok0 FD (N := ["value", "part"]) ⟨rfl, rfl, rfl, by decide +kernel, rfl, by decide +kernel, by decide +kernel⟩ (c := c__law_listed (F__law_listed r) r) (n := 60) rfl rfl (h.fok (all_cons (ok__law_listed r h) all_nil) all_nil all_nil), h.glo (x := "_law_listed") (by decide), FD.kp, b⟩
def c_frozen (R : WF) (r : Nat) : DCtx := mkC L ["value", "item"] (defScope (top 1)) [0] (0 + r) [("frozen", ⟨R, [true]⟩)] [] [] true
def F_frozen : Nat → WF
  | 0 => fun _ _ _ => False
  | r + 1 => wFn 1 2 [0] (denB 60 (c_frozen (F_frozen r) r) (defBody (top 1)))
def W_frozen (R : WF) : WS := (wSeq (wIf (wTru (wCB opIsi (wCons (wVar 0) (wCons (wCB opTup (wCons (wSh (wC (.ty "list"))) (wCons (wSh (wC (.ty "tuple"))) wNil))) wNil)))) (wRet [0] (wCB opTuple (wCons (wLc (wVar 0) (.name 1) wYes (wSh (wCall R [true] (wCons (wVar 1) wNil)))) wNil))) wNext) (wRet [0] (wVar 0)))
theorem den_frozen (R : WF) (r : Nat) : denB 60 (c_frozen R r) (defBody (top 1)) = W_frozen R := by kernel_rfl
theorem F_frozen_eq (r : Nat) : F_frozen (r + 1) = wFn 1 2 [0] (W_frozen (F_frozen r)) := congrArg (wFn 1 2 [0]) (den_frozen (F_frozen r) r)
theorem ok_frozen {P : Program} {w : World} {K : PySem.W.Frag} {mg : Str → Option Value} {base : Heap} : ∀ r : Nat, Hd L w K mg base → FnI P w K mg base (0 + r) ("frozen", ⟨F_frozen r, [true]⟩)
  | 0, h => by
    obtain ⟨fd, FD⟩ := h.fd 6 (d := dd "frozen" 1) rfl
    have b := FD.bindsN (ps := ["value"]) fun _ _ _ _ _ _ us hl => match us, hl with | [_], _ => rfl
    exact ⟨_, _, fd, ["value"], Nat.le_refl _, fn_none rfl, h.glo (x := "frozen") (by decide), FD.kp, b⟩
  | r + 1, h => by
    obtain ⟨fd, FD⟩ := h.fd 6 (d := dd "frozen" 1) rfl
    have b := FD.bindsN (ps := ["value"]) fun _ _ _ _ _ _ us hl => match us, hl with | [_], _ => rfl
    exact ⟨_, _, fd, ["value"], Nat.le_refl _, fn_ok0 FD (N := ["value", "item"]) ⟨rfl, rfl, rfl, by decide +kernel, rfl, by decide +kernel, by decide +kernel⟩ (c := c_frozen (F_frozen r) r) (n := 60) rfl rfl (h.fok (all_cons (ok_frozen r h) all_nil) all_nil all_nil), h.glo (x := "frozen") (by decide), FD.kp, b⟩
def c_bound_name : DCtx := mkC L ["saying"] (defScope (top 4)) [0] 0 [] [] [] true
def F_bound_name : WF := wFn 1 1 [0] (denB 60 c_bound_name (defBody (top 4)))
def W_bound_name : WS := (wSeq (wIf (wOrT (wTest (wBin (cmpOf .Eq) (wBin opIx (wVar 0) (wC (.int 0))) (wC (.str "some")))) (wTest (wBin (cmpOf .Eq) (wBin opIx (wVar 0) (wC (.int 0))) (wC (.str "all"))))) (wRet [0] (wBin opIx (wVar 0) (wC (.int 1)))) wNext) (wSeq (wIf (wTest (wBin (cmpOf .Eq) (wBin opIx (wVar 0) (wC (.int 0))) (wC (.str "least")))) (wRet [0] (wBin opIx (wVar 0) (wC (.int 2)))) wNext) (wRet [0] (wC .non))))
theorem den_bound_name : denB 60 c_bound_name (defBody (top 4)) = W_bound_name := by kernel_rfl
theorem F_bound_name_eq : F_bound_name = wFn 1 1 [0] W_bound_name := congrArg (wFn 1 1 [0]) den_bound_name
theorem ok_bound_name {P : Program} {w : World} {K : PySem.W.Frag} {mg : Str → Option Value} {base : Heap} (h : Hd L w K mg base) : FnI P w K mg base 1 ("bound_name", ⟨F_bound_name, [true]⟩) := by
  obtain ⟨fd, FD⟩ := h.fd 7 (d := dd "bound_name" 4) rfl
  have b := FD.bindsN (ps := ["saying"]) fun _ _ _ _ _ _ us hl => match us, hl with | [_], _ => rfl
  exact ⟨_, _, fd, ["saying"], Nat.le_refl _, fn_ok0 FD (N := ["saying"]) ⟨rfl, rfl, rfl, by decide +kernel, rfl, by decide +kernel, by decide +kernel⟩ (c := c_bound_name) (n := 60) rfl rfl (h.fok all_nil all_nil all_nil), h.glo (by decide), FD.kp, b⟩
def c_with_name (R : WF) (r : Nat) : DCtx := mkC L ["saying", "old", "new", "shape", "items", "at", "item", "part"] (defScope (top 5)) [0, 1, 2] (1 + r) [("with_name", ⟨R, [true, true, true]⟩), ("bound_name", ⟨F_bound_name, [true]⟩)] [] [] true
def F_with_name : Nat → WF
  | 0 => fun _ _ _ => False
  | r + 1 => wFn 3 8 [0, 1, 2] (denB 60 (c_with_name (F_with_name r) r) (defBody (top 5)))
def W_with_name (R : WF) : WS := (wSeq (wIf (wTest (wBin (cmpOf .Eq) (wCall F_bound_name [true] (wCons (wVar 0) wNil)) (wVar 1))) (wRet [0, 1, 2] (wVar 0)) wNext) (wSeq (wAsg 3 (wBin opIx (wC (.kd "ITEMS" [("yes", .str ""), ("no", .str ""), ("same", .str "xx"), ("head", .str "xx"), ("above", .str "xx"), ("first", .str "xxm"), ("mark", .str "xm"), ("in", .str "xA"), ("not", .str "s"), ("and", .str "p"), ("or", .str "p"), ("some", .str "ns"), ("all", .str "ns"), ("least", .str "kxs")])) (wBin opIx (wVar 0) (wC (.int 0))))) (wSeq (wAsg 4 (wCB opLst (wCons (wSh (wBin opIx (wVar 0) (wC (.int 0)))) wNil))) (wSeq (wRng1 (wCons (wCB opLen (wCons (wVar 3) wNil)) wNil) 5 (wSeq (wAsg 6 (wBin opIx (wVar 0) (wBin (binOf .Add) (wVar 5) (wC (.int 1))))) (wSeq (wIf (wTest (wBin (cmpOf .Eq) (wBin opIx (wVar 3) (wVar 5)) (wC (.str "s")))) (wAsg 6 (wCall R [true, true, true] (wCons (wVar 6) (wCons (wVar 1) (wCons (wVar 2) wNil))))) (wIf (wTest (wBin (cmpOf .Eq) (wBin opIx (wVar 3) (wVar 5)) (wC (.str "p")))) (wAsg 6 (wCB opTuple (wCons (wLc (wVar 6) (.name 7) wYes (wSh (wCall R [true, true, true] (wCons (wVar 7) (wCons (wVar 1) (wCons (wVar 2) wNil)))))) wNil))) (wIf (wAndT (wTest (wBin (cmpOf .In) (wBin opIx (wVar 3) (wVar 5)) (wC (.str "xA")))) (wTest (wBin (cmpOf .Eq) (wVar 6) (wVar 1)))) (wAsg 6 (wVar 2)) wNext))) (wExpr (wApp 4 (wSh (wVar 6))))))) (wRet [0, 1, 2] (wCB opTuple (wCons (wVar 4) wNil)))))))
theorem den_with_name (R : WF) (r : Nat) : denB 60 (c_with_name R r) (defBody (top 5)) = W_with_name R := by kernel_rfl
theorem F_with_name_eq (r : Nat) : F_with_name (r + 1) = wFn 3 8 [0, 1, 2] (W_with_name (F_with_name r)) := congrArg (wFn 3 8 [0, 1, 2]) (den_with_name (F_with_name r) r)
theorem ok_with_name {P : Program} {w : World} {K : PySem.W.Frag} {mg : Str → Option Value} {base : Heap} : ∀ r : Nat, Hd L w K mg base → FnI P w K mg base (1 + r) ("with_name", ⟨F_with_name r, [true, true, true]⟩)
  | 0, h => by
    obtain ⟨fd, FD⟩ := h.fd 8 (d := dd "with_name" 5) rfl
    have b := FD.bindsN (ps := ["saying", "old", "new"]) fun _ _ _ _ _ _ us hl => match us, hl with | [_, _, _], _ => rfl
    exact ⟨_, _, fd, ["saying", "old", "new"], Nat.le_refl _, fn_none rfl, h.glo (x := "with_name") (by decide), FD.kp, b⟩
  | r + 1, h => by
    obtain ⟨fd, FD⟩ := h.fd 8 (d := dd "with_name" 5) rfl
    have b := FD.bindsN (ps := ["saying", "old", "new"]) fun _ _ _ _ _ _ us hl => match us, hl with | [_, _, _], _ => rfl
    exact ⟨_, _, fd, ["saying", "old", "new"], Nat.le_refl _, fn_ok0 FD (N := ["saying", "old", "new", "shape", "items", "at", "item", "part"]) ⟨rfl, rfl, rfl, by decide +kernel, rfl, by decide +kernel, by decide +kernel⟩ (c := c_with_name (F_with_name r) r) (n := 60) rfl rfl (h.fok (all_cons (ok_with_name r h) (all_cons ((ok_bound_name h).up (by omega)) all_nil)) all_nil all_nil), h.glo (x := "with_name") (by decide), FD.kp, b⟩
def c_renamed_saying : DCtx := mkC L ["saying", "old", "new"] (defScope (top 6)) [0, 1, 2] 111 [("frozen", ⟨F_frozen 110, [true]⟩), ("with_name", ⟨F_with_name 60, [true, true, true]⟩)] [] [] true
def F_renamed_saying : WF := wFn 3 3 [0, 1, 2] (denB 60 c_renamed_saying (defBody (top 6)))
def W_renamed_saying : WS := (wRet [0, 1, 2] (wCall (F_with_name 60) [true, true, true] (wCons (wCall (F_frozen 110) [true] (wCons (wVar 0) wNil)) (wCons (wVar 1) (wCons (wVar 2) wNil)))))
theorem den_renamed_saying : denB 60 c_renamed_saying (defBody (top 6)) = W_renamed_saying := by kernel_rfl
theorem F_renamed_saying_eq : F_renamed_saying = wFn 3 3 [0, 1, 2] W_renamed_saying := congrArg (wFn 3 3 [0, 1, 2]) den_renamed_saying
theorem ok_renamed_saying {P : Program} {w : World} {K : PySem.W.Frag} {mg : Str → Option Value} {base : Heap} (h : Hd L w K mg base) : FnI P w K mg base 112 ("renamed_saying", ⟨F_renamed_saying, [true, true, true]⟩) := by
  obtain ⟨fd, FD⟩ := h.fd 9 (d := dd "renamed_saying" 6) rfl
  have b := FD.bindsN (ps := ["saying", "old", "new"]) fun _ _ _ _ _ _ us hl => match us, hl with | [_, _, _], _ => rfl
  exact ⟨_, _, fd, ["saying", "old", "new"], Nat.le_refl _, fn_ok0 FD (N := ["saying", "old", "new"]) ⟨rfl, rfl, rfl, by decide +kernel, rfl, by decide +kernel, by decide +kernel⟩ (c := c_renamed_saying) (n := 60) rfl rfl (h.fok (all_cons (ok_frozen 110 h).up (all_cons (ok_with_name 60 h).up all_nil)) all_nil all_nil), h.glo (by decide), FD.kp, b⟩
def c_signing_sayings : DCtx := mkC L ["rule", "signed", "all_signed"] (defScope (top 8)) [] 112 [("renamed_saying", ⟨F_renamed_saying, [true, true, true]⟩), ("frozen", ⟨F_frozen 110, [true]⟩)] [] [] true
def F_signing_sayings : WF := wFn 1 3 [] (denB 60 c_signing_sayings (defBody (top 8)))
def W_signing_sayings : WS := (wSeq (wAsg 0 (wCall (F_frozen 110) [true] (wCons (wVar 0) wNil))) (wSeq (wAsg 1 (wCB opTup (wCons (wSh (wC (.str "some"))) (wCons (wSh (wC (.str "y"))) (wCons (wSh (wCB opTup (wCons (wSh (wC (.str "and"))) (wCons (wSh (wCB opTup (wCons (wSh (wCB opTup (wCons (wSh (wC (.str "in"))) (wCons (wSh (wC (.str "y"))) (wCons (wSh (wC (.str "C"))) wNil))))) (wCons (wSh (wVar 0)) wNil)))) wNil)))) wNil))))) (wSeq (wAsg 2 (wCB opTup (wCons (wSh (wC (.str "all"))) (wCons (wSh (wC (.str "x"))) (wCons (wSh (wCB opTup (wCons (wSh (wC (.str "or"))) (wCons (wSh (wCB opTup (wCons (wSh (wCB opTup (wCons (wSh (wC (.str "not"))) (wCons (wSh (wCB opTup (wCons (wSh (wC (.str "in"))) (wCons (wSh (wC (.str "x"))) (wCons (wSh (wC (.str "C"))) wNil))))) wNil)))) (wCons (wSh (wVar 1)) wNil)))) wNil)))) wNil))))) (wRet [] (wCB opTup (wCons (wSh (wCB opTup (wCons (wSh (wC (.str "not"))) (wCons (wSh (wCB opTup (wCons (wSh (wC (.str "some"))) (wCons (wSh (wC (.str "y"))) (wCons (wSh (wVar 0)) wNil))))) wNil)))) (wCons (wSh (wCB opTup (wCons (wSh (wC (.str "least"))) (wCons (wSh (wC (.int 2))) (wCons (wSh (wC (.str "y"))) (wCons (wSh (wVar 0)) wNil)))))) (wCons (wSh (wCall F_renamed_saying [true, true, true] (wCons (wVar 0) (wCons (wC (.str "y")) (wCons (wC (.str "x")) wNil))))) (wCons (wSh (wCB opTup (wCons (wSh (wC (.str "and"))) (wCons (wSh (wCB opTup (wCons (wSh (wCB opTup (wCons (wSh (wC (.str "some"))) (wCons (wSh (wC (.str "x"))) (wCons (wSh (wCB opTup (wCons (wSh (wC (.str "in"))) (wCons (wSh (wC (.str "x"))) (wCons (wSh (wC (.str "C"))) wNil))))) wNil))))) (wCons (wSh (wVar 2)) wNil)))) wNil)))) wNil)))))))))
theorem den_signing_sayings : denB 60 c_signing_sayings (defBody (top 8)) = W_signing_sayings := by kernel_rfl
theorem F_signing_sayings_eq : F_signing_sayings = wFn 1 3 [] W_signing_sayings := congrArg (wFn 1 3 []) den_signing_sayings
theorem ok_signing_sayings {P : Program} {w : World} {K : PySem.W.Frag} {mg : Str → Option Value} {base : Heap} (h : Hd L w K mg base) : FnI P w K mg base 113 ("signing_sayings", ⟨F_signing_sayings, [false]⟩) := by
  obtain ⟨fd, FD⟩ := h.fd 10 (d := dd "signing_sayings" 8) rfl
  have b := FD.bindsN (ps := ["rule"]) fun _ _ _ _ _ _ us hl => match us, hl with | [_], _ => rfl
  exact ⟨_, _, fd, ["rule"], Nat.le_refl _, fn_ok0 FD (N := ["rule", "signed", "all_signed"]) ⟨rfl, rfl, rfl, by decide +kernel, rfl, by decide +kernel, by decide +kernel⟩ (c := c_signing_sayings) (n := 60) rfl rfl (h.fok (all_cons (ok_renamed_saying h).up (all_cons (ok_frozen 110 h).up all_nil)) all_nil all_nil), h.glo (by decide), FD.kp, b⟩
def c__law_turned (R : WF) (r : Nat) : DCtx := mkC L ["rule", "kind", "items", "item", "part"] (defScope (top 17)) [0] (0 + r) [("_law_turned", ⟨R, [true]⟩)] [] [] true
def F__law_turned : Nat → WF
  | 0 => fun _ _ _ => False
  | r + 1 => wFn 1 5 [0] (denB 60 (c__law_turned (F__law_turned r) r) (defBody (top 17)))
def W__law_turned (R : WF) : WS := (wSeq (wAsg 1 (wBin opIx (wVar 0) (wC (.int 0)))) (wSeq (wIf (wTest (wBin (cmpOf .Eq) (wVar 1) (wC (.str "not")))) (wRet [0] (wCB opTup (wCons (wSh (wC (.str "not"))) (wCons (wSh (wCall R [true] (wCons (wBin opIx (wVar 0) (wC (.int 1))) wNil))) wNil)))) wNext) (wSeq (wIf (wOrT (wTest (wBin (cmpOf .Eq) (wVar 1) (wC (.str "and")))) (wTest (wBin (cmpOf .Eq) (wVar 1) (wC (.str "or"))))) (wRet [0] (wCB opTup (wCons (wSh (wVar 1)) (wCons (wSh (wCB opTuple (wCons (wLc (wBin opIx (wVar 0) (wC (.int 1))) (.name 4) wYes (wSh (wCall R [true] (wCons (wVar 4) wNil)))) wNil))) wNil)))) wNext) (wSeq (wIf (wOrT (wTest (wBin (cmpOf .Eq) (wVar 1) (wC (.str "some")))) (wTest (wBin (cmpOf .Eq) (wVar 1) (wC (.str "all"))))) (wRet [0] (wCB opTup (wCons (wSh (wVar 1)) (wCons (wSh (wBin opIx (wVar 0) (wC (.int 1)))) (wCons (wSh (wCall R [true] (wCons (wBin opIx (wVar 0) (wC (.int 2))) wNil))) wNil))))) wNext) (wSeq (wIf (wTest (wBin (cmpOf .Eq) (wVar 1) (wC (.str "least")))) (wRet [0] (wCB opTup (wCons (wSh (wVar 1)) (wCons (wSh (wBin opIx (wVar 0) (wC (.int 1)))) (wCons (wSh (wBin opIx (wVar 0) (wC (.int 2)))) (wCons (wSh (wCall R [true] (wCons (wBin opIx (wVar 0) (wC (.int 3))) wNil))) wNil)))))) wNext) (wSeq (wAsg 2 (wCB opLst wNil)) (wSeq (wFor (wVar 0) (gN 3) (wIf (wTest (wBin (cmpOf .Eq) (wVar 3) (wC (.str "y")))) (wExpr (wApp 2 (wSh (wC (.str "x"))))) (wExpr (wApp 2 (wSh (wVar 3)))))) (wRet [0] (wCB opTuple (wCons (wVar 2) wNil))))))))))
theorem den__law_turned (R : WF) (r : Nat) : denB 60 (c__law_turned R r) (defBody (top 17)) = W__law_turned R := by kernel_rfl
theorem F__law_turned_eq (r : Nat) : F__law_turned (r + 1) = wFn 1 5 [0] (W__law_turned (F__law_turned r)) := congrArg (wFn 1 5 [0]) (den__law_turned (F__law_turned r) r)
theorem ok__law_turned {P : Program} {w : World} {K : PySem.W.Frag} {mg : Str → Option Value} {base : Heap} : ∀ r : Nat, Hd L w K mg base → FnI P w K mg base (0 + r) ("_law_turned", ⟨F__law_turned r, [true]⟩)
  | 0, h => by
    obtain ⟨fd, FD⟩ := h.fd 11 (d := dd "_law_turned" 17) rfl
    have b := FD.bindsN (ps := ["rule"]) fun _ _ _ _ _ _ us hl => match us, hl with | [_], _ => rfl
    exact ⟨_, _, fd, ["rule"], Nat.le_refl _, fn_none rfl, h.glo (x := "_law_turned") (by decide), FD.kp, b⟩
  | r + 1, h => by
    obtain ⟨fd, FD⟩ := h.fd 11 (d := dd "_law_turned" 17) rfl
    have b := FD.bindsN (ps := ["rule"]) fun _ _ _ _ _ _ us hl => match us, hl with | [_], _ => rfl
    exact ⟨_, _, fd, ["rule"], Nat.le_refl _, fn_ok0 FD (N := ["rule", "kind", "items", "item", "part"]) ⟨rfl, rfl, rfl, by decide +kernel, rfl, by decide +kernel, by decide +kernel⟩ (c := c__law_turned (F__law_turned r) r) (n := 60) rfl rfl (h.fok (all_cons (ok__law_turned r h) all_nil) all_nil all_nil), h.glo (x := "_law_turned") (by decide), FD.kp, b⟩
def c__law_faults : DCtx := mkC L ["rule", "served", "none_out", "round_saying"] (defScope (top 18)) [0] 61 [("_law_turned", ⟨F__law_turned 60, [true]⟩)] [] [] true
def F__law_faults : WF := wFn 1 4 [0] (denB 60 c__law_faults (defBody (top 18)))
def W__law_faults : WS := (wSeq (wAsg 1 (wCB opTup (wCons (wSh (wC (.str "some"))) (wCons (wSh (wC (.str "y"))) (wCons (wSh (wCB opTup (wCons (wSh (wC (.str "and"))) (wCons (wSh (wCB opTup (wCons (wSh (wCB opTup (wCons (wSh (wC (.str "in"))) (wCons (wSh (wC (.str "y"))) (wCons (wSh (wC (.str "C"))) wNil))))) (wCons (wSh (wVar 0)) wNil)))) wNil)))) wNil))))) (wSeq (wAsg 2 (wCB opTup (wCons (wSh (wC (.str "all"))) (wCons (wSh (wC (.str "x"))) (wCons (wSh (wCB opTup (wCons (wSh (wC (.str "or"))) (wCons (wSh (wCB opTup (wCons (wSh (wCB opTup (wCons (wSh (wC (.str "not"))) (wCons (wSh (wCB opTup (wCons (wSh (wC (.str "in"))) (wCons (wSh (wC (.str "x"))) (wCons (wSh (wC (.str "C"))) wNil))))) wNil)))) (wCons (wSh (wVar 1)) wNil)))) wNil)))) wNil))))) (wSeq (wAsg 3 (wCB opTup (wCons (wSh (wC (.str "and"))) (wCons (wSh (wCB opTup (wCons (wSh (wCB opTup (wCons (wSh (wC (.str "some"))) (wCons (wSh (wC (.str "x"))) (wCons (wSh (wCB opTup (wCons (wSh (wC (.str "in"))) (wCons (wSh (wC (.str "x"))) (wCons (wSh (wC (.str "C"))) wNil))))) wNil))))) (wCons (wSh (wVar 2)) wNil)))) wNil)))) (wRet [0] (wCB opTup (wCons (wSh (wCB opTup (wCons (wSh (wC (.str "not"))) (wCons (wSh (wCB opTup (wCons (wSh (wC (.str "some"))) (wCons (wSh (wC (.str "y"))) (wCons (wSh (wVar 0)) wNil))))) wNil)))) (wCons (wSh (wCB opTup (wCons (wSh (wC (.str "least"))) (wCons (wSh (wC (.int 2))) (wCons (wSh (wC (.str "y"))) (wCons (wSh (wVar 0)) wNil)))))) (wCons (wSh (wCall (F__law_turned 60) [true] (wCons (wVar 0) wNil))) (wCons (wSh (wVar 3)) wNil)))))))))
theorem den__law_faults : denB 60 c__law_faults (defBody (top 18)) = W__law_faults := by kernel_rfl
theorem F__law_faults_eq : F__law_faults = wFn 1 4 [0] W__law_faults := congrArg (wFn 1 4 [0]) den__law_faults
theorem ok__law_faults {P : Program} {w : World} {K : PySem.W.Frag} {mg : Str → Option Value} {base : Heap} (h : Hd L w K mg base) : FnI P w K mg base 62 ("_law_faults", ⟨F__law_faults, [true]⟩) := by
  obtain ⟨fd, FD⟩ := h.fd 12 (d := dd "_law_faults" 18) rfl
  have b := FD.bindsN (ps := ["rule"]) fun _ _ _ _ _ _ us hl => match us, hl with | [_], _ => rfl
  exact ⟨_, _, fd, ["rule"], Nat.le_refl _, fn_ok0 FD (N := ["rule", "served", "none_out", "round_saying"]) ⟨rfl, rfl, rfl, by decide +kernel, rfl, by decide +kernel, by decide +kernel⟩ (c := c__law_faults) (n := 60) rfl rfl (h.fok (all_cons (ok__law_turned 60 h).up all_nil) all_nil all_nil), h.glo (by decide), FD.kp, b⟩
def c__law_same : DCtx := mkC L ["one", "two"] (defScope (top 12)) [0, 1] 0 [] [] [] true
def F__law_same : WF := wFn 2 2 [0, 1] (denB 60 c__law_same (defBody (top 12)))
def W__law_same : WS := (wSeq (wIf (wOrT (wTest (wBin (cmpOf .Is) (wVar 0) (wC .non))) (wTest (wBin (cmpOf .Is) (wVar 1) (wC .non)))) (wRet [0, 1] (wAndV (wBin (cmpOf .Is) (wVar 0) (wC .non)) (wBin (cmpOf .Is) (wVar 1) (wC .non)))) wNext) (wSeq (wIf (wOrT (wTru (wCB opIsi (wCons (wVar 0) (wCons (wC (.ty "bool")) wNil)))) (wTru (wCB opIsi (wCons (wVar 1) (wCons (wC (.ty "bool")) wNil))))) (wRet [0, 1] (wAndV (wCB opIsi (wCons (wVar 0) (wCons (wC (.ty "bool")) wNil))) (wAndV (wCB opIsi (wCons (wVar 1) (wCons (wC (.ty "bool")) wNil))) (wBin (cmpOf .Eq) (wVar 0) (wVar 1))))) wNext) (wRet [0, 1] (wAndV (wBin (cmpOf .Eq) (wCB opIsi (wCons (wVar 0) (wCons (wC (.ty "int")) wNil))) (wCB opIsi (wCons (wVar 1) (wCons (wC (.ty "int")) wNil)))) (wAndV (wBin (cmpOf .Eq) (wCB opIsi (wCons (wVar 0) (wCons (wC (.ty "str")) wNil))) (wCB opIsi (wCons (wVar 1) (wCons (wC (.ty "str")) wNil)))) (wBin (cmpOf .Eq) (wVar 0) (wVar 1)))))))
theorem den__law_same : denB 60 c__law_same (defBody (top 12)) = W__law_same := by kernel_rfl
theorem F__law_same_eq : F__law_same = wFn 2 2 [0, 1] W__law_same := congrArg (wFn 2 2 [0, 1]) den__law_same
theorem ok__law_same {P : Program} {w : World} {K : PySem.W.Frag} {mg : Str → Option Value} {base : Heap} (h : Hd L w K mg base) : FnI P w K mg base 1 ("_law_same", ⟨F__law_same, [true, true]⟩) := by
  obtain ⟨fd, FD⟩ := h.fd 13 (d := dd "_law_same" 12) rfl
  have b := FD.bindsN (ps := ["one", "two"]) fun _ _ _ _ _ _ us hl => match us, hl with | [_, _], _ => rfl
  exact ⟨_, _, fd, ["one", "two"], Nat.le_refl _, fn_ok0 FD (N := ["one", "two"]) ⟨rfl, rfl, rfl, by decide +kernel, rfl, by decide +kernel, by decide +kernel⟩ (c := c__law_same) (n := 60) rfl rfl (h.fok all_nil all_nil all_nil), h.glo (by decide), FD.kp, b⟩
def c__law_very (R : WF) (r : Nat) : DCtx := mkC L ["told", "due", "k"] (defScope (top 19)) [0, 1] (1 + r) [("_law_very", ⟨R, [true, true]⟩), ("_law_same", ⟨F__law_same, [true, true]⟩)] [] [] true
def F__law_very : Nat → WF
  | 0 => fun _ _ _ => False
  | r + 1 => wFn 2 3 [0, 1] (denB 60 (c__law_very (F__law_very r) r) (defBody (top 19)))
def W__law_very (R : WF) : WS := (wSeq (wIf (wTru (wCB opIsi (wCons (wVar 1) (wCons (wC (.ty "tuple")) wNil)))) (wSeq (wIf (wOrT (wNotT (wTru (wCB opIsi (wCons (wVar 0) (wCons (wC (.ty "tuple")) wNil))))) (wTest (wBin (cmpOf .NotEq) (wCB opLen (wCons (wVar 0) wNil)) (wCB opLen (wCons (wVar 1) wNil))))) (wRet [0, 1] (wC (.bl false))) wNext) (wSeq (wRng1 (wCons (wCB opLen (wCons (wVar 1) wNil)) wNil) 2 (wIf (wNotT (wTru (wCall R [true, true] (wCons (wBin opIx (wVar 0) (wVar 2)) (wCons (wBin opIx (wVar 1) (wVar 2)) wNil))))) (wRet [0, 1] (wC (.bl false))) wNext)) (wRet [0, 1] (wC (.bl true))))) wNext) (wRet [0, 1] (wAndV (wNotV (wCB opIsi (wCons (wVar 0) (wCons (wC (.ty "tuple")) wNil)))) (wAndV (wNotV (wCB opIsi (wCons (wVar 0) (wCons (wC (.ty "list")) wNil)))) (wCall F__law_same [true, true] (wCons (wVar 0) (wCons (wVar 1) wNil)))))))
theorem den__law_very (R : WF) (r : Nat) : denB 60 (c__law_very R r) (defBody (top 19)) = W__law_very R := by kernel_rfl
theorem F__law_very_eq (r : Nat) : F__law_very (r + 1) = wFn 2 3 [0, 1] (W__law_very (F__law_very r)) := congrArg (wFn 2 3 [0, 1]) (den__law_very (F__law_very r) r)
theorem ok__law_very {P : Program} {w : World} {K : PySem.W.Frag} {mg : Str → Option Value} {base : Heap} : ∀ r : Nat, Hd L w K mg base → FnI P w K mg base (1 + r) ("_law_very", ⟨F__law_very r, [true, true]⟩)
  | 0, h => by
    obtain ⟨fd, FD⟩ := h.fd 14 (d := dd "_law_very" 19) rfl
    have b := FD.bindsN (ps := ["told", "due"]) fun _ _ _ _ _ _ us hl => match us, hl with | [_, _], _ => rfl
    exact ⟨_, _, fd, ["told", "due"], Nat.le_refl _, fn_none rfl, h.glo (x := "_law_very") (by decide), FD.kp, b⟩
  | r + 1, h => by
    obtain ⟨fd, FD⟩ := h.fd 14 (d := dd "_law_very" 19) rfl
    have b := FD.bindsN (ps := ["told", "due"]) fun _ _ _ _ _ _ us hl => match us, hl with | [_, _], _ => rfl
    exact ⟨_, _, fd, ["told", "due"], Nat.le_refl _, fn_ok0 FD (N := ["told", "due", "k"]) ⟨rfl, rfl, rfl, by decide +kernel, rfl, by decide +kernel, by decide +kernel⟩ (c := c__law_very (F__law_very r) r) (n := 60) rfl rfl (h.fok (all_cons (ok__law_very r h) (all_cons ((ok__law_same h).up (by omega)) all_nil)) all_nil all_nil), h.glo (x := "_law_very") (by decide), FD.kp, b⟩
def c_law : DCtx := mkC L ["script", "shape", "row", "rule", "many", "k", "second", "one", "handed", "told"] (defScope (top 20)) [0] 113 [("_law_cell", ⟨F__law_cell, [true, true]⟩), ("_law_digits", ⟨F__law_digits, [true, true]⟩), ("_law_rule", ⟨F__law_rule 8, [true, true, true, true]⟩), ("_law_atom", ⟨F__law_atom, [true, true, true]⟩), ("_law_listed", ⟨F__law_listed 110, [true]⟩), ("signing_sayings", ⟨F_signing_sayings, [false]⟩), ("_law_faults", ⟨F__law_faults, [true]⟩), ("_law_very", ⟨F__law_very 110, [true, true]⟩)] [] [] true
def F_law : WF := wFn 1 10 [0] (denB 60 c_law (defBody (top 20)))
def W_law : WS := (wSeq (wAsg 1 (wCall F__law_digits [true, true] (wCons (wCall F__law_cell [true, true] (wCons (wVar 0) (wCons (wC (.int 0)) wNil))) (wCons (wCB opLst (wCons (wSh (wC (.int 8))) (wCons (wSh (wC (.int 399))) (wCons (wSh (wC (.int 35))) (wCons (wSh (wC (.int 2))) (wCons (wSh (wC (.int 2))) wNil)))))) wNil)))) (wSeq (wAsg 2 (wBin (binOf .Add) (wCall F__law_digits [true, true] (wCons (wCall F__law_cell [true, true] (wCons (wVar 0) (wCons (wC (.int 1)) wNil))) (wCons (wBin (binOf .Mult) (wCB opLst (wCons (wSh (wC (.int 5040))) wNil)) (wC (.int 40))) wNil))) (wCall F__law_digits [true, true] (wCons (wCall F__law_cell [true, true] (wCons (wVar 0) (wCons (wC (.int 2)) wNil))) (wCons (wBin (binOf .Mult) (wCB opLst (wCons (wSh (wC (.int 5040))) wNil)) (wC (.int 40))) wNil))))) (wSeq (wAsg 3 (wCall (F__law_rule 8) [true, true, true, true] (wCons (wVar 2) (wCons (wC (.int 5)) (wCons (wCB opLst (wCons (wSh (wC (.str "x"))) (wCons (wSh (wC (.str "y"))) wNil))) (wCons (wCB opLst wNil) wNil)))))) (wSeq (wIf (wTest (wBin (cmpOf .Eq) (wBin opIx (wVar 1) (wC (.int 0))) (wC (.int 1)))) (wSeq (wAsg 4 (wCall F__law_digits [true, true] (wCons (wCall F__law_cell [true, true] (wCons (wVar 0) (wCons (wC (.int 3)) wNil))) (wCons (wBin (binOf .Mult) (wCB opLst (wCons (wSh (wC (.int 5040))) wNil)) (wC (.int 2400))) wNil)))) (wAsg 3 (wCB opTup (wCons (wSh (wBin opIx (wCB opLst (wCons (wSh (wC (.str "and"))) (wCons (wSh (wC (.str "or"))) wNil))) (wBin opIx (wVar 1) (wC (.int 3))))) (wCons (wSh (wCB opTuple (wCons (wLcR1 (wCons (wBin (binOf .Add) (wC (.int 2)) (wBin opIx (wVar 1) (wC (.int 1)))) wNil) (.name 5) wYes (wSh (wCall F__law_atom [true, true, true] (wCons (wVar 4) (wCons (wCB opLst (wCons (wSh (wC (.str "x"))) (wCons (wSh (wC (.str "y"))) wNil))) (wCons (wCB opLst wNil) wNil)))))) wNil))) wNil))))) wNext) (wSeq (wIf (wTest (wBin (cmpOf .Eq) (wBin opIx (wVar 1) (wC (.int 0))) (wC (.int 2)))) (wRng1 (wCons (wBin opIx (wVar 1) (wC (.int 2))) wNil) 5 (wAsg 3 (wCB opTup (wCons (wSh (wC (.str "not"))) (wCons (wSh (wVar 3)) wNil))))) wNext) (wSeq (wAsg 6 (wCall (F__law_rule 8) [true, true, true, true] (wCons (wCall F__law_digits [true, true] (wCons (wCall F__law_cell [true, true] (wCons (wVar 0) (wCons (wC (.int 4)) wNil))) (wCons (wBin (binOf .Mult) (wCB opLst (wCons (wSh (wC (.int 5040))) wNil)) (wC (.int 40))) wNil))) (wCons (wC (.int 3)) (wCons (wCB opLst (wCons (wSh (wC (.str "y"))) (wCons (wSh (wC (.str "x"))) wNil))) (wCons (wCB opLst wNil) wNil)))))) (wSeq (wFor (wCB opLst (wCons (wSh (wVar 3)) (wCons (wSh (wVar 6)) (wCons (wSh (wCB opTup (wCons (wSh (wC (.str "head"))) (wCons (wSh (wC (.str "x"))) (wCons (wSh (wC (.str "y"))) wNil))))) (wCons (wSh (wCB opTup (wCons (wSh (wC (.str "no"))) wNil))) (wCons (wSh (wCB opTup (wCons (wSh (wC (.str "yes"))) wNil))) (wCons (wSh (wVar 3)) wNil))))))) (gN 7) (wSeq (wAsg 8 (wVar 7)) (wSeq (wIf (wTest (wBin (cmpOf .Eq) (wBin opIx (wVar 1) (wC (.int 4))) (wC (.int 1)))) (wAsg 8 (wCall (F__law_listed 110) [true] (wCons (wVar 7) wNil))) wNext) (wSeq (wAsg 9 (wCall F_signing_sayings [false] (wCons (wVar 8) wNil))) (wSeq (wIf (wNotT (wTru (wCall (F__law_very 110) [true, true] (wCons (wVar 9) (wCons (wCall F__law_faults [true] (wCons (wVar 7) wNil)) wNil))))) (wRet [0] (wC (.bl false))) wNext) (wIf (wAndT (wTest (wBin (cmpOf .Eq) (wBin opIx (wVar 1) (wC (.int 4))) (wC (.int 1)))) (wTest (wBin (cmpOf .NotEq) (wVar 8) (wCall (F__law_listed 110) [true] (wCons (wVar 7) wNil))))) (wRet [0] (wC (.bl false))) wNext)))))) (wRet [0] (wC (.bl true))))))))))
theorem den_law : denB 60 c_law (defBody (top 20)) = W_law := by kernel_rfl
theorem F_law_eq : F_law = wFn 1 10 [0] W_law := congrArg (wFn 1 10 [0]) den_law
theorem ok_law {P : Program} {w : World} {K : PySem.W.Frag} (hs : ∃ h, He.SaysX L.fa L.fn L.ts [] L.ex w h K) : ∃ fd, (∀ (s : Shared) (v : Value), BindsTo s fd ⟨[v], []⟩ [("script", v)]) ∧
    ∀ (mg : Str → Option Value) (base : Heap), K.In base → base.Ns mainGlobals mg → FnOk P w K mg base CX0 114 (He.ga K "law") fd ["script"] (spD ⟨K, w⟩ F_law 1) := by
  obtain ⟨hp, sx⟩ := hs
  obtain ⟨fd, FD⟩ := sx.t.d.def_ 15 (d := dd "law" 20) rfl
  have b := FunD.bindsA (ps := ["script"]) FD fun _ _ _ _ _ _ us hl => match us, hl with | [_], _ => rfl
  refine ⟨fd, fun s v => b s [v] rfl, fun mg base KB GB => ?_⟩
  have h : Hd L w K mg base := ⟨⟨hp, sx⟩, KB, GB⟩
  exact fn_ok0 FD (N := ["script", "shape", "row", "rule", "many", "k", "second", "one", "handed", "told"]) ⟨rfl, rfl, rfl, by decide +kernel, rfl, by decide +kernel, by decide +kernel⟩ (c := c_law) (n := 60) rfl rfl (h.fok (all_cons (ok__law_cell h).up (all_cons (ok__law_digits h).up (all_cons (ok__law_rule 8 h).up (all_cons (ok__law_atom h).up (all_cons (ok__law_listed 110 h).up (all_cons (ok_signing_sayings h).up (all_cons (ok__law_faults h).up (all_cons (ok__law_very 110 h).up all_nil)))))))) all_nil all_nil)
end K75

end
section
set_option maxHeartbeats 0
namespace K75
open PySem PySem.W PySem.Spec PySem.Calls PyProof.Rows L2 FL

abbrev R : PySem.W.OpenRow := PySem.W.OpenLaw.row PySem.Challenge.rw_oneheadeach_k75_signing_sayings
abbrev hk : PySem.W.Hook := He.hookX 5 L.fa L.fn L.ts [] L.ex
def ob (s : PySem.W.SharedT) : He.AlX := He.obsX 5 L.fa L.fn L.ts [] L.ex (HandSHeadRun.getT s)
theorem ob_eq (s : PySem.W.SharedT) : ob s = hk.obs s.abs := He.obsX_eq (HandSHeadRun.getT_eq s)
def loose : List Str := ["frozen", "ITEMS", "bound_name", "with_name", "renamed_saying", "signing_sayings", "_law_cell", "_law_digits", "_law_same", "_law_take", "_law_atom", "_law_rule", "_law_listed", "_law_turned", "_law_faults", "_law_very"]
theorem runF (w : World) : HandSHeadRun.RunEq R (PySem.W.view R.prog [20]) hk ob 3000 loose (w.withFollow "special-get-raises" false) := by
  intro os
  kernel_rfl
theorem runT (w : World) : HandSHeadRun.RunEq R (PySem.W.view R.prog [20]) hk ob 3000 loose (w.withFollow "special-get-raises" true) := by
  intro os
  kernel_rfl
theorem run (w : World) : HandSHeadRun.RunEq R (PySem.W.view R.prog [20]) hk ob 3000 loose w := byRow2 "special-get-raises" runF runT w
end K75

end
section
set_option maxHeartbeats 1000000
namespace K75
open PySem PySem.Spec PyProof.Rows L2 FL
/-- leaves and tuples, n deep -/
inductive TD : Nat → D → Prop
  | int {n i} : TD n (.int i)
  | str {n z} : PyData.strOk z = true → TD n (.str z)
  | tup {n ds} : ds.length < 1000 → (∀ d ∈ ds, TD n d) → TD (n + 1) (.tup ds)
theorem TD.pl {n : Nat} {d : D} (h : TD n d) : d.pl = true := by cases h <;> rfl
theorem TD.kn {n : Nat} {d : D} (h : TD n d) : d.known = true := by cases h <;> rfl
/-- .. and the same in lists -/
inductive LS : Nat → D → D → Prop
  | int {n i} : LS n (.int i) (.int i)
  | str {n z} : PyData.strOk z = true → LS n (.str z) (.str z)
  | tup {n ds es} : ds.length < 1000 → es.length = ds.length → (∀ (k : Nat) d e, ds[k]? = some d → es[k]? = some e → LS n d e) → LS (n + 1) (.tup ds) (.lst es)
theorem LS.pl {n : Nat} {d e : D} (h : LS n d e) : d.pl = true ∧ e.pl = true ∧ d.known = true ∧ e.known = true := by cases h <;> exact ⟨rfl, rfl, rfl, rfl⟩
def FrzOk (r : Nat) (d e : D) : Prop := ∀ (X : XD) (P : D → List D → Prop), P e [d] → F_frozen r X [d] P
theorem frz_leaf {r : Nat} {d : D} (h : (match d with | .non => true | .int _ => true | .str _ => true | _ => false) = true) : FrzOk (r + 1) d d := by
  intro X P hP
  rw [F_frozen_eq]
  cases d <;> first | (cases h; done) | (simp -dsimp [W_frozen, sizeLine]; exact hP)
theorem frz_seq {r : Nat} {v : D} {ds es : List D} (hv : v = .tup ds ∨ v = .lst ds) (hl : es.length = ds.length) (hsz : ds.length < 1000) (hp : es.all D.pl = true) (hq : ds.all D.pl = true) (hk : ∀ d ∈ ds, d.known = true) (h : ∀ (k : Nat) d e, ds[k]? = some d → es[k]? = some e → FrzOk r d e) : FrzOk (r + 1) v (.tup es) := by
  intro X P hP
  rw [F_frozen_eq]
  have main : ∀ w : D, w.pl = true → w.known = true → P (.tup es) [w] → wLcL [1] (gN 1) wYes (wSh (wCall (F_frozen r) [true] (wCons (wVar 1) wNil))) ds [] [w, .und] fun acc ρ2 => opTuple [.own acc] fun d => P d (finD [0] 0 1 (unwD [w, .und] ρ2 [1])) := fun w hw hw2 hP => by
    refine lcl_inv (fun k acc ρ => acc = es.take k ∧ ρ = [w, .und]) ⟨by simp, rfl⟩ (fun k d acc ρ N hd ⟨ha, e⟩ hN => ?_) fun acc ρ ⟨ha, e⟩ => ?_
    · subst e
      have hkl : k < ds.length := (List.getElem?_eq_some_iff.mp hd).1
      have he : es[k]? = some es[k] := List.getElem?_eq_getElem (by omega)
      have dp : d.pl = true := List.all_eq_true.mp hq d (List.mem_of_getElem? hd)
      have ep : es[k].pl = true := List.all_eq_true.mp hp _ (List.getElem_mem _)
      simp -dsimp [dp, hk d (List.mem_of_getElem? hd)]
      refine h k d es[k] hd he _ _ (go ?_)
      simp -dsimp [dp]
      refine ⟨?_, hN _ _ ⟨?_, by simp⟩⟩
      · rw [ha, List.length_take]
        unfold sizeLine
        omega
      · rw [ha, sh_of_pl ep, List.take_succ, he]
        rfl
    · subst e
      have ee : acc = es := by rw [ha, List.take_of_length_le (by omega)]
      subst ee
      refine (opTuple_own hp).mpr ?_
      simpa using hP
  rcases hv with z | z <;> subst z
  · simp -dsimp [W_frozen, sizeLine]
    exact main (.tup ds) rfl rfl hP
  · simp -dsimp [W_frozen, sizeLine]
    exact main (.lst ds) rfl rfl hP
theorem td_frz {n : Nat} {d : D} (h : TD n d) : ∀ r, n < r → FrzOk r d d := by
  induction h with
  | int => intro r hr; obtain ⟨r, rfl⟩ : ∃ q, r = q + 1 := ⟨r - 1, by omega⟩; exact frz_leaf rfl
  | str => intro r hr; obtain ⟨r, rfl⟩ : ∃ q, r = q + 1 := ⟨r - 1, by omega⟩; exact frz_leaf rfl
  | @tup n ds hl hd ih =>
    intro r hr
    obtain ⟨r, rfl⟩ : ∃ q, r = q + 1 := ⟨r - 1, by omega⟩
    have hpl : ds.all D.pl = true := List.all_eq_true.mpr fun m hm => (hd m hm).pl
    refine frz_seq (.inl rfl) rfl hl hpl hpl (fun d hm => (hd d hm).kn) fun k d e h1 h2 => ?_
    rw [h1] at h2
    cases h2
    exact ih d (List.mem_of_getElem? h1) r (by omega)
theorem all_get {ds : List D} {p : D → Bool} (h : ∀ (k : Nat) d, ds[k]? = some d → p d = true) : ds.all p = true := List.all_eq_true.mpr fun m hm => by
  obtain ⟨k, hk, e⟩ := List.mem_iff_getElem.mp hm
  exact h k m (by rw [List.getElem?_eq_getElem hk, e])
theorem ls_frz {n : Nat} {d e : D} (h : LS n d e) : ∀ r, n < r → FrzOk r e d := by
  induction h with
  | int => intro r hr; obtain ⟨r, rfl⟩ : ∃ q, r = q + 1 := ⟨r - 1, by omega⟩; exact frz_leaf rfl
  | str => intro r hr; obtain ⟨r, rfl⟩ : ∃ q, r = q + 1 := ⟨r - 1, by omega⟩; exact frz_leaf rfl
  | @tup n ds es hl he hd ih =>
    intro r hr
    obtain ⟨r, rfl⟩ : ∃ q, r = q + 1 := ⟨r - 1, by omega⟩
    have g1 : ∀ (k : Nat) d, ds[k]? = some d → ∃ e, es[k]? = some e ∧ LS n d e := fun k d hk => by
      have hk2 : k < es.length := by rw [he]; exact (List.getElem?_eq_some_iff.mp hk).1
      exact ⟨es[k], List.getElem?_eq_getElem hk2, hd k d es[k] hk (List.getElem?_eq_getElem hk2)⟩
    have g2 : ∀ (k : Nat) e, es[k]? = some e → ∃ d, ds[k]? = some d ∧ LS n d e := fun k e hk => by
      have hk2 : k < ds.length := by rw [← he]; exact (List.getElem?_eq_some_iff.mp hk).1
      exact ⟨ds[k], List.getElem?_eq_getElem hk2, hd k ds[k] e (List.getElem?_eq_getElem hk2) hk⟩
    refine frz_seq (.inr rfl) he.symm (by omega) (all_get fun k d hk => by obtain ⟨e, _, q⟩ := g1 k d hk; exact q.pl.1) (all_get fun k e hk => by obtain ⟨d, _, q⟩ := g2 k e hk; exact q.pl.2.1)
      (fun e hm => by
        obtain ⟨k, hk, ee⟩ := List.mem_iff_getElem.mp hm
        obtain ⟨d, _, q⟩ := g2 k e (by rw [List.getElem?_eq_getElem hk, ee])
        exact q.pl.2.2.2) fun k e d h1 h2 => ih k d e h2 h1 r (by omega)
/-- the answer told, the answer due -/
def VeOk (r : Nat) (d : D) : Prop := ∀ (X : XD) (P : D → List D → Prop), P (.bl true) [d, d] → F__law_very r X [d, d] P
theorem s_same {X : XD} {d : D} {P : D → List D → Prop} (h : (∃ i, d = .int i) ∨ ∃ z, d = .str z) (hP : P (.bl true) [d, d]) : F__law_same X [d, d] P := by
  rw [F__law_same_eq]
  rcases h with ⟨i, rfl⟩ | ⟨z, rfl⟩
  · simp -dsimp [W__law_same]
    exact hP
  · simp -dsimp [W__law_same]
    exact hP
theorem td_ve {n : Nat} {d : D} (h : TD n d) : ∀ r, n < r → VeOk r d := by
  induction h with
  | int =>
    intro r hr X P hP
    obtain ⟨r, rfl⟩ : ∃ q, r = q + 1 := ⟨r - 1, by omega⟩
    rw [F__law_very_eq]
    simp -dsimp [W__law_very]
    refine s_same (.inl ⟨_, rfl⟩) (go ?_)
    simp -dsimp
    exact hP
  | str =>
    intro r hr X P hP
    obtain ⟨r, rfl⟩ : ∃ q, r = q + 1 := ⟨r - 1, by omega⟩
    rw [F__law_very_eq]
    simp -dsimp [W__law_very]
    refine s_same (.inr ⟨_, rfl⟩) (go ?_)
    simp -dsimp
    exact hP
  | @tup n ds hl hd ih =>
    intro r hr X P hP
    obtain ⟨r, rfl⟩ : ∃ q, r = q + 1 := ⟨r - 1, by omega⟩
    rw [F__law_very_eq]
    simp -dsimp [W__law_very]
    refine ⟨rgOk_of (by omega) (by omega), ?_⟩
    refine for_inv (fun k ρ => ∃ a, ρ = [.tup ds, .tup ds, a]) ⟨_, rfl⟩ (fun k ρ N hk ⟨a, e⟩ hN => ?_) fun ρ ⟨a, e⟩ => ?_
    · subst e
      have hk2 : ds[k]? = some ds[k] := List.getElem?_eq_getElem hk
      have hm := hd ds[k] (List.getElem_mem _)
      simp -dsimp
      refine ix_of rfl (atI_n hk2) ?_
      simp -dsimp
      refine ix_of rfl (atI_n hk2) ?_
      simp -dsimp [hm.pl]
      refine ih ds[k] (List.getElem_mem _) r (by omega) _ _ (go ?_)
      simp -dsimp
      exact hN _ ⟨_, rfl⟩
    · subst e
      simp -dsimp
      exact hP
end K75

end
section
set_option maxHeartbeats 1000000
namespace K75
open PySem PySem.Spec PyProof.Rows L2 FL
@[simp] theorem it_yes {p : D → Prop} : opIx (.kd "ITEMS" [("yes", .str ""), ("no", .str ""), ("same", .str "xx"), ("head", .str "xx"), ("above", .str "xx"), ("first", .str "xxm"), ("mark", .str "xm"), ("in", .str "xA"), ("not", .str "s"), ("and", .str "p"), ("or", .str "p"), ("some", .str "ns"), ("all", .str "ns"), ("least", .str "kxs")]) (.str "yes") p ↔ p (.str "") := ixKd (i := 0) (q := ("yes", .str "")) (by decide +kernel) rfl
@[simp] theorem it_no {p : D → Prop} : opIx (.kd "ITEMS" [("yes", .str ""), ("no", .str ""), ("same", .str "xx"), ("head", .str "xx"), ("above", .str "xx"), ("first", .str "xxm"), ("mark", .str "xm"), ("in", .str "xA"), ("not", .str "s"), ("and", .str "p"), ("or", .str "p"), ("some", .str "ns"), ("all", .str "ns"), ("least", .str "kxs")]) (.str "no") p ↔ p (.str "") := ixKd (i := 1) (q := ("no", .str "")) (by decide +kernel) rfl
@[simp] theorem it_same {p : D → Prop} : opIx (.kd "ITEMS" [("yes", .str ""), ("no", .str ""), ("same", .str "xx"), ("head", .str "xx"), ("above", .str "xx"), ("first", .str "xxm"), ("mark", .str "xm"), ("in", .str "xA"), ("not", .str "s"), ("and", .str "p"), ("or", .str "p"), ("some", .str "ns"), ("all", .str "ns"), ("least", .str "kxs")]) (.str "same") p ↔ p (.str "xx") := ixKd (i := 2) (q := ("same", .str "xx")) (by decide +kernel) rfl
@[simp] theorem it_head {p : D → Prop} : opIx (.kd "ITEMS" [("yes", .str ""), ("no", .str ""), ("same", .str "xx"), ("head", .str "xx"), ("above", .str "xx"), ("first", .str "xxm"), ("mark", .str "xm"), ("in", .str "xA"), ("not", .str "s"), ("and", .str "p"), ("or", .str "p"), ("some", .str "ns"), ("all", .str "ns"), ("least", .str "kxs")]) (.str "head") p ↔ p (.str "xx") := ixKd (i := 3) (q := ("head", .str "xx")) (by decide +kernel) rfl
@[simp] theorem it_above {p : D → Prop} : opIx (.kd "ITEMS" [("yes", .str ""), ("no", .str ""), ("same", .str "xx"), ("head", .str "xx"), ("above", .str "xx"), ("first", .str "xxm"), ("mark", .str "xm"), ("in", .str "xA"), ("not", .str "s"), ("and", .str "p"), ("or", .str "p"), ("some", .str "ns"), ("all", .str "ns"), ("least", .str "kxs")]) (.str "above") p ↔ p (.str "xx") := ixKd (i := 4) (q := ("above", .str "xx")) (by decide +kernel) rfl
@[simp] theorem it_first {p : D → Prop} : opIx (.kd "ITEMS" [("yes", .str ""), ("no", .str ""), ("same", .str "xx"), ("head", .str "xx"), ("above", .str "xx"), ("first", .str "xxm"), ("mark", .str "xm"), ("in", .str "xA"), ("not", .str "s"), ("and", .str "p"), ("or", .str "p"), ("some", .str "ns"), ("all", .str "ns"), ("least", .str "kxs")]) (.str "first") p ↔ p (.str "xxm") := ixKd (i := 5) (q := ("first", .str "xxm")) (by decide +kernel) rfl
@[simp] theorem it_mark {p : D → Prop} : opIx (.kd "ITEMS" [("yes", .str ""), ("no", .str ""), ("same", .str "xx"), ("head", .str "xx"), ("above", .str "xx"), ("first", .str "xxm"), ("mark", .str "xm"), ("in", .str "xA"), ("not", .str "s"), ("and", .str "p"), ("or", .str "p"), ("some", .str "ns"), ("all", .str "ns"), ("least", .str "kxs")]) (.str "mark") p ↔ p (.str "xm") := ixKd (i := 6) (q := ("mark", .str "xm")) (by decide +kernel) rfl
@[simp] theorem it_in {p : D → Prop} : opIx (.kd "ITEMS" [("yes", .str ""), ("no", .str ""), ("same", .str "xx"), ("head", .str "xx"), ("above", .str "xx"), ("first", .str "xxm"), ("mark", .str "xm"), ("in", .str "xA"), ("not", .str "s"), ("and", .str "p"), ("or", .str "p"), ("some", .str "ns"), ("all", .str "ns"), ("least", .str "kxs")]) (.str "in") p ↔ p (.str "xA") := ixKd (i := 7) (q := ("in", .str "xA")) (by decide +kernel) rfl
@[simp] theorem it_not {p : D → Prop} : opIx (.kd "ITEMS" [("yes", .str ""), ("no", .str ""), ("same", .str "xx"), ("head", .str "xx"), ("above", .str "xx"), ("first", .str "xxm"), ("mark", .str "xm"), ("in", .str "xA"), ("not", .str "s"), ("and", .str "p"), ("or", .str "p"), ("some", .str "ns"), ("all", .str "ns"), ("least", .str "kxs")]) (.str "not") p ↔ p (.str "s") := ixKd (i := 8) (q := ("not", .str "s")) (by decide +kernel) rfl
@[simp] theorem it_and {p : D → Prop} : opIx (.kd "ITEMS" [("yes", .str ""), ("no", .str ""), ("same", .str "xx"), ("head", .str "xx"), ("above", .str "xx"), ("first", .str "xxm"), ("mark", .str "xm"), ("in", .str "xA"), ("not", .str "s"), ("and", .str "p"), ("or", .str "p"), ("some", .str "ns"), ("all", .str "ns"), ("least", .str "kxs")]) (.str "and") p ↔ p (.str "p") := ixKd (i := 9) (q := ("and", .str "p")) (by decide +kernel) rfl
@[simp] theorem it_or {p : D → Prop} : opIx (.kd "ITEMS" [("yes", .str ""), ("no", .str ""), ("same", .str "xx"), ("head", .str "xx"), ("above", .str "xx"), ("first", .str "xxm"), ("mark", .str "xm"), ("in", .str "xA"), ("not", .str "s"), ("and", .str "p"), ("or", .str "p"), ("some", .str "ns"), ("all", .str "ns"), ("least", .str "kxs")]) (.str "or") p ↔ p (.str "p") := ixKd (i := 10) (q := ("or", .str "p")) (by decide +kernel) rfl
@[simp] theorem it_some {p : D → Prop} : opIx (.kd "ITEMS" [("yes", .str ""), ("no", .str ""), ("same", .str "xx"), ("head", .str "xx"), ("above", .str "xx"), ("first", .str "xxm"), ("mark", .str "xm"), ("in", .str "xA"), ("not", .str "s"), ("and", .str "p"), ("or", .str "p"), ("some", .str "ns"), ("all", .str "ns"), ("least", .str "kxs")]) (.str "some") p ↔ p (.str "ns") := ixKd (i := 11) (q := ("some", .str "ns")) (by decide +kernel) rfl
@[simp] theorem it_all {p : D → Prop} : opIx (.kd "ITEMS" [("yes", .str ""), ("no", .str ""), ("same", .str "xx"), ("head", .str "xx"), ("above", .str "xx"), ("first", .str "xxm"), ("mark", .str "xm"), ("in", .str "xA"), ("not", .str "s"), ("and", .str "p"), ("or", .str "p"), ("some", .str "ns"), ("all", .str "ns"), ("least", .str "kxs")]) (.str "all") p ↔ p (.str "ns") := ixKd (i := 12) (q := ("all", .str "ns")) (by decide +kernel) rfl
@[simp] theorem it_least {p : D → Prop} : opIx (.kd "ITEMS" [("yes", .str ""), ("no", .str ""), ("same", .str "xx"), ("head", .str "xx"), ("above", .str "xx"), ("first", .str "xxm"), ("mark", .str "xm"), ("in", .str "xA"), ("not", .str "s"), ("and", .str "p"), ("or", .str "p"), ("some", .str "ns"), ("all", .str "ns"), ("least", .str "kxs")]) (.str "least") p ↔ p (.str "kxs") := ixKd (i := 13) (q := ("least", .str "kxs")) (by decide +kernel) rfl
@[simp] theorem ln_e : ("" : Str).length = 0 := by decide +kernel
@[simp] theorem ln_kxs : ("kxs" : Str).length = 3 := by decide +kernel
@[simp] theorem ch_kxs_0 {p : D → Prop} : opIx (.str "kxs") (.int 0) p ↔ p (.str ⟨#[107]⟩) := ixStr (by decide +kernel) (by decide +kernel)
@[simp] theorem ch_kxs_1 {p : D → Prop} : opIx (.str "kxs") (.int 1) p ↔ p (.str ⟨#[120]⟩) := ixStr (by decide +kernel) (by decide +kernel)
@[simp] theorem ch_kxs_2 {p : D → Prop} : opIx (.str "kxs") (.int 2) p ↔ p (.str ⟨#[115]⟩) := ixStr (by decide +kernel) (by decide +kernel)
@[simp] theorem ln_ns : ("ns" : Str).length = 2 := by decide +kernel
@[simp] theorem ch_ns_0 {p : D → Prop} : opIx (.str "ns") (.int 0) p ↔ p (.str ⟨#[110]⟩) := ixStr (by decide +kernel) (by decide +kernel)
@[simp] theorem ch_ns_1 {p : D → Prop} : opIx (.str "ns") (.int 1) p ↔ p (.str ⟨#[115]⟩) := ixStr (by decide +kernel) (by decide +kernel)
@[simp] theorem ln_p : ("p" : Str).length = 1 := by decide +kernel
@[simp] theorem ch_p_0 {p : D → Prop} : opIx (.str "p") (.int 0) p ↔ p (.str ⟨#[112]⟩) := ixStr (by decide +kernel) (by decide +kernel)
@[simp] theorem ln_s : ("s" : Str).length = 1 := by decide +kernel
@[simp] theorem ch_s_0 {p : D → Prop} : opIx (.str "s") (.int 0) p ↔ p (.str ⟨#[115]⟩) := ixStr (by decide +kernel) (by decide +kernel)
@[simp] theorem ln_xA : ("xA" : Str).length = 2 := by decide +kernel
@[simp] theorem ch_xA_0 {p : D → Prop} : opIx (.str "xA") (.int 0) p ↔ p (.str ⟨#[120]⟩) := ixStr (by decide +kernel) (by decide +kernel)
@[simp] theorem ch_xA_1 {p : D → Prop} : opIx (.str "xA") (.int 1) p ↔ p (.str ⟨#[65]⟩) := ixStr (by decide +kernel) (by decide +kernel)
@[simp] theorem ln_xm : ("xm" : Str).length = 2 := by decide +kernel
@[simp] theorem ch_xm_0 {p : D → Prop} : opIx (.str "xm") (.int 0) p ↔ p (.str ⟨#[120]⟩) := ixStr (by decide +kernel) (by decide +kernel)
@[simp] theorem ch_xm_1 {p : D → Prop} : opIx (.str "xm") (.int 1) p ↔ p (.str ⟨#[109]⟩) := ixStr (by decide +kernel) (by decide +kernel)
@[simp] theorem ln_xx : ("xx" : Str).length = 2 := by decide +kernel
@[simp] theorem ch_xx_0 {p : D → Prop} : opIx (.str "xx") (.int 0) p ↔ p (.str ⟨#[120]⟩) := ixStr (by decide +kernel) (by decide +kernel)
@[simp] theorem ch_xx_1 {p : D → Prop} : opIx (.str "xx") (.int 1) p ↔ p (.str ⟨#[120]⟩) := ixStr (by decide +kernel) (by decide +kernel)
@[simp] theorem ln_xxm : ("xxm" : Str).length = 3 := by decide +kernel
@[simp] theorem ch_xxm_0 {p : D → Prop} : opIx (.str "xxm") (.int 0) p ↔ p (.str ⟨#[120]⟩) := ixStr (by decide +kernel) (by decide +kernel)
@[simp] theorem ch_xxm_1 {p : D → Prop} : opIx (.str "xxm") (.int 1) p ↔ p (.str ⟨#[120]⟩) := ixStr (by decide +kernel) (by decide +kernel)
@[simp] theorem ch_xxm_2 {p : D → Prop} : opIx (.str "xxm") (.int 2) p ↔ p (.str ⟨#[109]⟩) := ixStr (by decide +kernel) (by decide +kernel)
@[simp] theorem cq_C65_s : decide ((⟨#[65]⟩ : Str) = "s") = false := by decide +kernel
@[simp] theorem cr_C65_s : ((⟨#[65]⟩ : Str) = "s") = False := by simp only [eq_iff_iff]; decide +kernel
@[simp] theorem cq_C65_p : decide ((⟨#[65]⟩ : Str) = "p") = false := by decide +kernel
@[simp] theorem cr_C65_p : ((⟨#[65]⟩ : Str) = "p") = False := by simp only [eq_iff_iff]; decide +kernel
@[simp] theorem ci_C65 : inStr ⟨#[65]⟩ "xA" = true := by decide +kernel
@[simp] theorem cq_C107_s : decide ((⟨#[107]⟩ : Str) = "s") = false := by decide +kernel
@[simp] theorem cr_C107_s : ((⟨#[107]⟩ : Str) = "s") = False := by simp only [eq_iff_iff]; decide +kernel
@[simp] theorem cq_C107_p : decide ((⟨#[107]⟩ : Str) = "p") = false := by decide +kernel
@[simp] theorem cr_C107_p : ((⟨#[107]⟩ : Str) = "p") = False := by simp only [eq_iff_iff]; decide +kernel
@[simp] theorem ci_C107 : inStr ⟨#[107]⟩ "xA" = false := by decide +kernel
@[simp] theorem cq_C109_s : decide ((⟨#[109]⟩ : Str) = "s") = false := by decide +kernel
@[simp] theorem cr_C109_s : ((⟨#[109]⟩ : Str) = "s") = False := by simp only [eq_iff_iff]; decide +kernel
@[simp] theorem cq_C109_p : decide ((⟨#[109]⟩ : Str) = "p") = false := by decide +kernel
@[simp] theorem cr_C109_p : ((⟨#[109]⟩ : Str) = "p") = False := by simp only [eq_iff_iff]; decide +kernel
@[simp] theorem ci_C109 : inStr ⟨#[109]⟩ "xA" = false := by decide +kernel
@[simp] theorem cq_C110_s : decide ((⟨#[110]⟩ : Str) = "s") = false := by decide +kernel
@[simp] theorem cr_C110_s : ((⟨#[110]⟩ : Str) = "s") = False := by simp only [eq_iff_iff]; decide +kernel
@[simp] theorem cq_C110_p : decide ((⟨#[110]⟩ : Str) = "p") = false := by decide +kernel
@[simp] theorem cr_C110_p : ((⟨#[110]⟩ : Str) = "p") = False := by simp only [eq_iff_iff]; decide +kernel
@[simp] theorem ci_C110 : inStr ⟨#[110]⟩ "xA" = false := by decide +kernel
@[simp] theorem cq_C112_s : decide ((⟨#[112]⟩ : Str) = "s") = false := by decide +kernel
@[simp] theorem cr_C112_s : ((⟨#[112]⟩ : Str) = "s") = False := by simp only [eq_iff_iff]; decide +kernel
@[simp] theorem cq_C112_p : decide ((⟨#[112]⟩ : Str) = "p") = true := by decide +kernel
@[simp] theorem cr_C112_p : ((⟨#[112]⟩ : Str) = "p") = True := by simp only [eq_iff_iff]; decide +kernel
@[simp] theorem ci_C112 : inStr ⟨#[112]⟩ "xA" = false := by decide +kernel
@[simp] theorem cq_C115_s : decide ((⟨#[115]⟩ : Str) = "s") = true := by decide +kernel
@[simp] theorem cr_C115_s : ((⟨#[115]⟩ : Str) = "s") = True := by simp only [eq_iff_iff]; decide +kernel
@[simp] theorem cq_C115_p : decide ((⟨#[115]⟩ : Str) = "p") = false := by decide +kernel
@[simp] theorem cr_C115_p : ((⟨#[115]⟩ : Str) = "p") = False := by simp only [eq_iff_iff]; decide +kernel
@[simp] theorem ci_C115 : inStr ⟨#[115]⟩ "xA" = false := by decide +kernel
@[simp] theorem cq_C120_s : decide ((⟨#[120]⟩ : Str) = "s") = false := by decide +kernel
@[simp] theorem cr_C120_s : ((⟨#[120]⟩ : Str) = "s") = False := by simp only [eq_iff_iff]; decide +kernel
@[simp] theorem cq_C120_p : decide ((⟨#[120]⟩ : Str) = "p") = false := by decide +kernel
@[simp] theorem cr_C120_p : ((⟨#[120]⟩ : Str) = "p") = False := by simp only [eq_iff_iff]; decide +kernel
@[simp] theorem ci_C120 : inStr ⟨#[120]⟩ "xA" = true := by decide +kernel
@[simp] theorem kq_yes_some : (("yes" : Str) = "some") = False := by simp only [eq_iff_iff]; decide +kernel
@[simp] theorem kq_yes_all : (("yes" : Str) = "all") = False := by simp only [eq_iff_iff]; decide +kernel
@[simp] theorem kq_yes_least : (("yes" : Str) = "least") = False := by simp only [eq_iff_iff]; decide +kernel
@[simp] theorem kq_yes_not : (("yes" : Str) = "not") = False := by simp only [eq_iff_iff]; decide +kernel
@[simp] theorem kq_yes_and : (("yes" : Str) = "and") = False := by simp only [eq_iff_iff]; decide +kernel
@[simp] theorem kq_yes_or : (("yes" : Str) = "or") = False := by simp only [eq_iff_iff]; decide +kernel
@[simp] theorem ky_yes : (("yes" : Str) = "y") = False := by simp only [eq_iff_iff]; decide +kernel
@[simp] theorem kq_no_some : (("no" : Str) = "some") = False := by simp only [eq_iff_iff]; decide +kernel
@[simp] theorem kq_no_all : (("no" : Str) = "all") = False := by simp only [eq_iff_iff]; decide +kernel
@[simp] theorem kq_no_least : (("no" : Str) = "least") = False := by simp only [eq_iff_iff]; decide +kernel
@[simp] theorem kq_no_not : (("no" : Str) = "not") = False := by simp only [eq_iff_iff]; decide +kernel
@[simp] theorem kq_no_and : (("no" : Str) = "and") = False := by simp only [eq_iff_iff]; decide +kernel
@[simp] theorem kq_no_or : (("no" : Str) = "or") = False := by simp only [eq_iff_iff]; decide +kernel
@[simp] theorem ky_no : (("no" : Str) = "y") = False := by simp only [eq_iff_iff]; decide +kernel
@[simp] theorem kq_same_some : (("same" : Str) = "some") = False := by simp only [eq_iff_iff]; decide +kernel
@[simp] theorem kq_same_all : (("same" : Str) = "all") = False := by simp only [eq_iff_iff]; decide +kernel
@[simp] theorem kq_same_least : (("same" : Str) = "least") = False := by simp only [eq_iff_iff]; decide +kernel
@[simp] theorem kq_same_not : (("same" : Str) = "not") = False := by simp only [eq_iff_iff]; decide +kernel
@[simp] theorem kq_same_and : (("same" : Str) = "and") = False := by simp only [eq_iff_iff]; decide +kernel
@[simp] theorem kq_same_or : (("same" : Str) = "or") = False := by simp only [eq_iff_iff]; decide +kernel
@[simp] theorem ky_same : (("same" : Str) = "y") = False := by simp only [eq_iff_iff]; decide +kernel
@[simp] theorem kq_head_some : (("head" : Str) = "some") = False := by simp only [eq_iff_iff]; decide +kernel
@[simp] theorem kq_head_all : (("head" : Str) = "all") = False := by simp only [eq_iff_iff]; decide +kernel
@[simp] theorem kq_head_least : (("head" : Str) = "least") = False := by simp only [eq_iff_iff]; decide +kernel
@[simp] theorem kq_head_not : (("head" : Str) = "not") = False := by simp only [eq_iff_iff]; decide +kernel
@[simp] theorem kq_head_and : (("head" : Str) = "and") = False := by simp only [eq_iff_iff]; decide +kernel
@[simp] theorem kq_head_or : (("head" : Str) = "or") = False := by simp only [eq_iff_iff]; decide +kernel
@[simp] theorem ky_head : (("head" : Str) = "y") = False := by simp only [eq_iff_iff]; decide +kernel
@[simp] theorem kq_above_some : (("above" : Str) = "some") = False := by simp only [eq_iff_iff]; decide +kernel
@[simp] theorem kq_above_all : (("above" : Str) = "all") = False := by simp only [eq_iff_iff]; decide +kernel
@[simp] theorem kq_above_least : (("above" : Str) = "least") = False := by simp only [eq_iff_iff]; decide +kernel
@[simp] theorem kq_above_not : (("above" : Str) = "not") = False := by simp only [eq_iff_iff]; decide +kernel
@[simp] theorem kq_above_and : (("above" : Str) = "and") = False := by simp only [eq_iff_iff]; decide +kernel
@[simp] theorem kq_above_or : (("above" : Str) = "or") = False := by simp only [eq_iff_iff]; decide +kernel
@[simp] theorem ky_above : (("above" : Str) = "y") = False := by simp only [eq_iff_iff]; decide +kernel
@[simp] theorem kq_first_some : (("first" : Str) = "some") = False := by simp only [eq_iff_iff]; decide +kernel
@[simp] theorem kq_first_all : (("first" : Str) = "all") = False := by simp only [eq_iff_iff]; decide +kernel
@[simp] theorem kq_first_least : (("first" : Str) = "least") = False := by simp only [eq_iff_iff]; decide +kernel
@[simp] theorem kq_first_not : (("first" : Str) = "not") = False := by simp only [eq_iff_iff]; decide +kernel
@[simp] theorem kq_first_and : (("first" : Str) = "and") = False := by simp only [eq_iff_iff]; decide +kernel
@[simp] theorem kq_first_or : (("first" : Str) = "or") = False := by simp only [eq_iff_iff]; decide +kernel
@[simp] theorem ky_first : (("first" : Str) = "y") = False := by simp only [eq_iff_iff]; decide +kernel
@[simp] theorem kq_mark_some : (("mark" : Str) = "some") = False := by simp only [eq_iff_iff]; decide +kernel
@[simp] theorem kq_mark_all : (("mark" : Str) = "all") = False := by simp only [eq_iff_iff]; decide +kernel
@[simp] theorem kq_mark_least : (("mark" : Str) = "least") = False := by simp only [eq_iff_iff]; decide +kernel
@[simp] theorem kq_mark_not : (("mark" : Str) = "not") = False := by simp only [eq_iff_iff]; decide +kernel
@[simp] theorem kq_mark_and : (("mark" : Str) = "and") = False := by simp only [eq_iff_iff]; decide +kernel
@[simp] theorem kq_mark_or : (("mark" : Str) = "or") = False := by simp only [eq_iff_iff]; decide +kernel
@[simp] theorem ky_mark : (("mark" : Str) = "y") = False := by simp only [eq_iff_iff]; decide +kernel
@[simp] theorem kq_in_some : (("in" : Str) = "some") = False := by simp only [eq_iff_iff]; decide +kernel
@[simp] theorem kq_in_all : (("in" : Str) = "all") = False := by simp only [eq_iff_iff]; decide +kernel
@[simp] theorem kq_in_least : (("in" : Str) = "least") = False := by simp only [eq_iff_iff]; decide +kernel
@[simp] theorem kq_in_not : (("in" : Str) = "not") = False := by simp only [eq_iff_iff]; decide +kernel
@[simp] theorem kq_in_and : (("in" : Str) = "and") = False := by simp only [eq_iff_iff]; decide +kernel
@[simp] theorem kq_in_or : (("in" : Str) = "or") = False := by simp only [eq_iff_iff]; decide +kernel
@[simp] theorem ky_in : (("in" : Str) = "y") = False := by simp only [eq_iff_iff]; decide +kernel
@[simp] theorem kq_not_some : (("not" : Str) = "some") = False := by simp only [eq_iff_iff]; decide +kernel
@[simp] theorem kq_not_all : (("not" : Str) = "all") = False := by simp only [eq_iff_iff]; decide +kernel
@[simp] theorem kq_not_least : (("not" : Str) = "least") = False := by simp only [eq_iff_iff]; decide +kernel
@[simp] theorem kq_not_and : (("not" : Str) = "and") = False := by simp only [eq_iff_iff]; decide +kernel
@[simp] theorem kq_not_or : (("not" : Str) = "or") = False := by simp only [eq_iff_iff]; decide +kernel
@[simp] theorem ky_not : (("not" : Str) = "y") = False := by simp only [eq_iff_iff]; decide +kernel
@[simp] theorem kq_and_some : (("and" : Str) = "some") = False := by simp only [eq_iff_iff]; decide +kernel
@[simp] theorem kq_and_all : (("and" : Str) = "all") = False := by simp only [eq_iff_iff]; decide +kernel
@[simp] theorem kq_and_least : (("and" : Str) = "least") = False := by simp only [eq_iff_iff]; decide +kernel
@[simp] theorem kq_and_not : (("and" : Str) = "not") = False := by simp only [eq_iff_iff]; decide +kernel
@[simp] theorem kq_and_or : (("and" : Str) = "or") = False := by simp only [eq_iff_iff]; decide +kernel
@[simp] theorem ky_and : (("and" : Str) = "y") = False := by simp only [eq_iff_iff]; decide +kernel
@[simp] theorem kq_or_some : (("or" : Str) = "some") = False := by simp only [eq_iff_iff]; decide +kernel
@[simp] theorem kq_or_all : (("or" : Str) = "all") = False := by simp only [eq_iff_iff]; decide +kernel
@[simp] theorem kq_or_least : (("or" : Str) = "least") = False := by simp only [eq_iff_iff]; decide +kernel
@[simp] theorem kq_or_not : (("or" : Str) = "not") = False := by simp only [eq_iff_iff]; decide +kernel
@[simp] theorem kq_or_and : (("or" : Str) = "and") = False := by simp only [eq_iff_iff]; decide +kernel
@[simp] theorem ky_or : (("or" : Str) = "y") = False := by simp only [eq_iff_iff]; decide +kernel
@[simp] theorem kq_some_all : (("some" : Str) = "all") = False := by simp only [eq_iff_iff]; decide +kernel
@[simp] theorem kq_some_least : (("some" : Str) = "least") = False := by simp only [eq_iff_iff]; decide +kernel
@[simp] theorem kq_some_not : (("some" : Str) = "not") = False := by simp only [eq_iff_iff]; decide +kernel
@[simp] theorem kq_some_and : (("some" : Str) = "and") = False := by simp only [eq_iff_iff]; decide +kernel
@[simp] theorem kq_some_or : (("some" : Str) = "or") = False := by simp only [eq_iff_iff]; decide +kernel
@[simp] theorem ky_some : (("some" : Str) = "y") = False := by simp only [eq_iff_iff]; decide +kernel
@[simp] theorem kq_all_some : (("all" : Str) = "some") = False := by simp only [eq_iff_iff]; decide +kernel
@[simp] theorem kq_all_least : (("all" : Str) = "least") = False := by simp only [eq_iff_iff]; decide +kernel
@[simp] theorem kq_all_not : (("all" : Str) = "not") = False := by simp only [eq_iff_iff]; decide +kernel
@[simp] theorem kq_all_and : (("all" : Str) = "and") = False := by simp only [eq_iff_iff]; decide +kernel
@[simp] theorem kq_all_or : (("all" : Str) = "or") = False := by simp only [eq_iff_iff]; decide +kernel
@[simp] theorem ky_all : (("all" : Str) = "y") = False := by simp only [eq_iff_iff]; decide +kernel
@[simp] theorem kq_least_some : (("least" : Str) = "some") = False := by simp only [eq_iff_iff]; decide +kernel
@[simp] theorem kq_least_all : (("least" : Str) = "all") = False := by simp only [eq_iff_iff]; decide +kernel
@[simp] theorem kq_least_not : (("least" : Str) = "not") = False := by simp only [eq_iff_iff]; decide +kernel
@[simp] theorem kq_least_and : (("least" : Str) = "and") = False := by simp only [eq_iff_iff]; decide +kernel
@[simp] theorem kq_least_or : (("least" : Str) = "or") = False := by simp only [eq_iff_iff]; decide +kernel
@[simp] theorem ky_least : (("least" : Str) = "y") = False := by simp only [eq_iff_iff]; decide +kernel
theorem fr0 {i : Nat} {f : WS} {X : XD} {E : WEnds} {lo : Int} {k : Nat} {ρ : List D} : wForR i f X E lo k 0 ρ ↔ E.nx ρ := Iff.rfl
theorem fr1 {i : Nat} {f : WS} {X : XD} {E : WEnds} {lo : Int} {k : Nat} {ρ : List D} : wForR i f X E lo k 1 ρ ↔ f X (E.lp (wForR i f X E lo (k + 1) 0)) (ρ.set i (.int (lo + k))) := Iff.rfl
theorem fr2 {i : Nat} {f : WS} {X : XD} {E : WEnds} {lo : Int} {k : Nat} {ρ : List D} : wForR i f X E lo k 2 ρ ↔ f X (E.lp (wForR i f X E lo (k + 1) 1)) (ρ.set i (.int (lo + k))) := Iff.rfl
theorem fr3 {i : Nat} {f : WS} {X : XD} {E : WEnds} {lo : Int} {k : Nat} {ρ : List D} : wForR i f X E lo k 3 ρ ↔ f X (E.lp (wForR i f X E lo (k + 1) 2)) (ρ.set i (.int (lo + k))) := Iff.rfl
/-- y is called x -/
def sw (z : Str) : Str := if z = "y" then "x" else z
/-- a saying that is n deep, and the same with x for y -/
inductive SY : Nat → D → D → Prop
  | zero {n} (k : Str) : k = "yes" ∨ k = "no" → SY n (.tup [.str k]) (.tup [.str k])
  | two {n} (k a b : Str) : k = "head" ∨ k = "above" ∨ k = "same" ∨ k = "in" → SY n (.tup [.str k, .str a, .str b]) (.tup [.str k, .str (sw a), .str (sw b)])
  | first {n} (a b : Str) (m : Int) : SY n (.tup [.str "first", .str a, .str b, .int m]) (.tup [.str "first", .str (sw a), .str (sw b), .int m])
  | mark {n} (a : Str) (m : Int) : SY n (.tup [.str "mark", .str a, .int m]) (.tup [.str "mark", .str (sw a), .int m])
  | not {n s t} : SY n s t → SY (n + 1) (.tup [.str "not", s]) (.tup [.str "not", t])
  | many {n} (k : Str) (ps ts : List D) : k = "and" ∨ k = "or" → ps.length < 1000 → ts.length = ps.length → (∀ (i : Nat) p t, ps[i]? = some p → ts[i]? = some t → SY n p t) → SY (n + 1) (.tup [.str k, .tup ps]) (.tup [.str k, .tup ts])
  | bind {n s t} (k nm : Str) : k = "some" ∨ k = "all" → nm ≠ "y" → SY n s t → SY (n + 1) (.tup [.str k, .str nm, s]) (.tup [.str k, .str nm, t])
  | least {n s t} (m : Int) (nm : Str) : nm ≠ "y" → SY n s t → SY (n + 1) (.tup [.str "least", .int m, .str nm, s]) (.tup [.str "least", .int m, .str nm, t])
theorem SY.kn {n : Nat} {d t : D} (h : SY n d t) : d.known = true ∧ t.known = true ∧ d.pl = true ∧ t.pl = true := by cases h <;> exact ⟨rfl, rfl, rfl, rfl⟩
def TuOk (r : Nat) (d t : D) : Prop := ∀ (X : XD) (P : D → List D → Prop), P t [d] → F__law_turned r X [d] P
theorem tu_many {r : Nat} {ps ts : List D} (hl : ts.length = ps.length) (hs : ps.length < 1000) (hp : ps.all D.pl = true) (ht : ts.all D.pl = true) (hk : ∀ p ∈ ps, p.known = true) (ih : ∀ (i : Nat) p t, ps[i]? = some p → ts[i]? = some t → TuOk r p t)
    {v : D} {Q : List D → List D → Prop} {ρ1 ρ2 ρ3 : D} (h : Q ts [v, ρ1, ρ2, ρ3, .und]) : wLcL [4] (gN 4) wYes (wSh (wCall (F__law_turned r) [true] (wCons (wVar 4) wNil))) ps [] [v, ρ1, ρ2, ρ3, .und] Q := by
  refine lcl_inv (fun k acc ρ => acc = ts.take k ∧ ρ = [v, ρ1, ρ2, ρ3, .und]) ⟨by simp, rfl⟩ (fun k d acc ρ N hd ⟨ha, e⟩ hN => ?_) fun acc ρ ⟨ha, e⟩ => ?_
  · subst e
    have hkl : k < ps.length := (List.getElem?_eq_some_iff.mp hd).1
    have he : ts[k]? = some ts[k] := List.getElem?_eq_getElem (by omega)
    have dp : d.pl = true := List.all_eq_true.mp hp d (List.mem_of_getElem? hd)
    have ep : ts[k].pl = true := List.all_eq_true.mp ht _ (List.getElem_mem _)
    simp -dsimp [dp, hk d (List.mem_of_getElem? hd)]
    refine ih k d ts[k] hd he _ _ (go ?_)
    simp -dsimp [dp]
    refine ⟨?_, hN _ _ ⟨?_, by simp⟩⟩
    · rw [ha, List.length_take]
      unfold sizeLine
      omega
    · rw [ha, sh_of_pl ep, List.take_succ, he]
      rfl
  · subst e
    have ee : acc = ts := by rw [ha, List.take_of_length_le (by omega)]
    subst ee
    exact h
theorem fl0 {g : WG} {f : WS} {X : XD} {E : WEnds} {ρ : List D} : wForL g f X E [] ρ ↔ E.nx ρ := Iff.rfl
theorem fl1 {g : WG} {f : WS} {X : XD} {E : WEnds} {d : D} {ds ρ : List D} : wForL g f X E (d :: ds) ρ ↔ g d ρ fun ρ1 => f X (E.lp (wForL g f X E ds)) ρ1 := Iff.rfl
theorem s_turned {n : Nat} {d t : D} (h : SY n d t) : ∀ r, n < r → TuOk r d t := by
  induction h with
  | zero k hk =>
    intro r hr X P hP
    obtain ⟨r, rfl⟩ : ∃ q, r = q + 1 := ⟨r - 1, by omega⟩
    rw [F__law_turned_eq]
    rcases hk with e | e <;> subst e <;> simp -dsimp [W__law_turned, sizeLine, opTuple_own, fl0, fl1] <;> exact hP
  | two k a b hk =>
    intro r hr X P hP
    obtain ⟨r, rfl⟩ : ∃ q, r = q + 1 := ⟨r - 1, by omega⟩
    rw [F__law_turned_eq]
    rcases hk with e | e | e | e <;> subst e <;> by_cases ha : a = "y" <;> by_cases hb : b = "y" <;> simp -dsimp [W__law_turned, sizeLine, opTuple_own, fl0, fl1, sw, ha, hb] at hP ⊢ <;> exact hP
  | first a b m =>
    intro r hr X P hP
    obtain ⟨r, rfl⟩ : ∃ q, r = q + 1 := ⟨r - 1, by omega⟩
    rw [F__law_turned_eq]
    by_cases ha : a = "y" <;> by_cases hb : b = "y" <;> simp -dsimp [W__law_turned, sizeLine, opTuple_own, fl0, fl1, sw, ha, hb] at hP ⊢ <;> exact hP
  | mark a m =>
    intro r hr X P hP
    obtain ⟨r, rfl⟩ : ∃ q, r = q + 1 := ⟨r - 1, by omega⟩
    rw [F__law_turned_eq]
    by_cases ha : a = "y" <;> simp -dsimp [W__law_turned, sizeLine, opTuple_own, fl0, fl1, sw, ha] at hP ⊢ <;> exact hP
  | not h ih =>
    intro r hr X P hP
    obtain ⟨r, rfl⟩ : ∃ q, r = q + 1 := ⟨r - 1, by omega⟩
    rw [F__law_turned_eq]
    simp -dsimp [W__law_turned, sizeLine, h.kn]
    refine ih r (by omega) _ _ (go ?_)
    simp -dsimp [sizeLine, h.kn, sh_of_pl h.kn.2.2.2]
    exact hP
  | many k ps ts hk hs hl h ih =>
    intro r hr X P hP
    obtain ⟨r, rfl⟩ : ∃ q, r = q + 1 := ⟨r - 1, by omega⟩
    rw [F__law_turned_eq]
    have g1 : ∀ (i : Nat) p, ps[i]? = some p → p.known = true ∧ p.pl = true := fun i p hi => by
      have hk2 : i < ts.length := by rw [hl]; exact (List.getElem?_eq_some_iff.mp hi).1
      have q := (h i p ts[i] hi (List.getElem?_eq_getElem hk2)).kn
      exact ⟨q.1, q.2.2.1⟩
    have g2 : ∀ (i : Nat) t, ts[i]? = some t → t.pl = true := fun i t hi => by
      have hk2 : i < ps.length := by rw [← hl]; exact (List.getElem?_eq_some_iff.mp hi).1
      exact (h i ps[i] t (List.getElem?_eq_getElem hk2) hi).kn.2.2.2
    have tp : ts.all D.pl = true := all_get g2
    have kn : ∀ p ∈ ps, p.known = true := fun p hp => by
      obtain ⟨i, hi, e⟩ := List.mem_iff_getElem.mp hp
      exact (g1 i p (by rw [List.getElem?_eq_getElem hi, e])).1
    rcases hk with e | e <;> subst e
    · simp -dsimp [W__law_turned, sizeLine]
      refine tu_many hl hs (all_get fun i p hi => (g1 i p hi).2) tp kn (fun i p t h1 h2 => ih i p t h1 h2 r (by omega)) (go ?_)
      simp -dsimp
      refine (opTuple_own tp).mpr ?_
      simp -dsimp [sizeLine]
      exact hP
    · simp -dsimp [W__law_turned, sizeLine]
      refine tu_many hl hs (all_get fun i p hi => (g1 i p hi).2) tp kn (fun i p t h1 h2 => ih i p t h1 h2 r (by omega)) (go ?_)
      simp -dsimp
      refine (opTuple_own tp).mpr ?_
      simp -dsimp [sizeLine]
      exact hP
  | bind k nm hk hn h ih =>
    intro r hr X P hP
    obtain ⟨r, rfl⟩ : ∃ q, r = q + 1 := ⟨r - 1, by omega⟩
    rw [F__law_turned_eq]
    rcases hk with e | e <;> subst e
    · simp -dsimp [W__law_turned, sizeLine, h.kn]
      refine ih r (by omega) _ _ (go ?_)
      simp -dsimp [sizeLine, h.kn, sh_of_pl h.kn.2.2.2]
      exact hP
    · simp -dsimp [W__law_turned, sizeLine, h.kn]
      refine ih r (by omega) _ _ (go ?_)
      simp -dsimp [sizeLine, h.kn, sh_of_pl h.kn.2.2.2]
      exact hP
  | least m nm hn h ih =>
    intro r hr X P hP
    obtain ⟨r, rfl⟩ : ∃ q, r = q + 1 := ⟨r - 1, by omega⟩
    rw [F__law_turned_eq]
    simp -dsimp [W__law_turned, sizeLine, h.kn]
    refine ih r (by omega) _ _ (go ?_)
    simp -dsimp [sizeLine, h.kn, sh_of_pl h.kn.2.2.2]
    exact hP
end K75

end
section
set_option maxHeartbeats 1000000
namespace K75
open PySem PySem.Spec PyProof.Rows L2 FL
theorem s_bound0 {X : XD} {k : Str} {ds : List D} {P : D → List D → Prop} (h1 : k ≠ "some") (h2 : k ≠ "all") (h3 : k ≠ "least") (h : P .non [.tup (.str k :: ds)]) : F_bound_name X [.tup (.str k :: ds)] P := by
  rw [F_bound_name_eq]
  simp -dsimp [W_bound_name, h1, h2, h3]
  exact h
theorem s_bound1 {X : XD} {k nm : Str} {ds : List D} {P : D → List D → Prop} (hk : k = "some" ∨ k = "all") (h : P (.str nm) [.tup (.str k :: .str nm :: ds)]) : F_bound_name X [.tup (.str k :: .str nm :: ds)] P := by
  rw [F_bound_name_eq]
  rcases hk with e | e <;> subst e <;> simp -dsimp [W_bound_name] <;> exact h
theorem s_bound2 {X : XD} {m : Int} {nm : Str} {ds : List D} {P : D → List D → Prop} (h : P (.str nm) [.tup (.str "least" :: .int m :: .str nm :: ds)]) : F_bound_name X [.tup (.str "least" :: .int m :: .str nm :: ds)] P := by
  rw [F_bound_name_eq]
  simp -dsimp [W_bound_name]
  exact h
def WiOk (r : Nat) (d t : D) : Prop := ∀ (X : XD) (P : D → List D → Prop), P t [d, .str "y", .str "x"] → F_with_name r X [d, .str "y", .str "x"] P
theorem wi_many {r : Nat} {ps ts : List D} (hl : ts.length = ps.length) (hs : ps.length < 1000) (hp : ps.all D.pl = true) (ht : ts.all D.pl = true) (hk : ∀ p ∈ ps, p.known = true) (ih : ∀ (i : Nat) p t, ps[i]? = some p → ts[i]? = some t → WiOk r p t)
    {v s3 s4 s5 s6 : D} {Q : List D → List D → Prop} (h : Q ts [v, .str "y", .str "x", s3, s4, s5, s6, .und]) : wLcL [7] (gN 7) wYes (wSh (wCall (F_with_name r) [true, true, true] (wCons (wVar 7) (wCons (wVar 1) (wCons (wVar 2) wNil))))) ps [] [v, .str "y", .str "x", s3, s4, s5, s6, .und] Q := by
  refine lcl_inv (fun k acc ρ => acc = ts.take k ∧ ρ = [v, .str "y", .str "x", s3, s4, s5, s6, .und]) ⟨by simp, rfl⟩ (fun k d acc ρ N hd ⟨ha, e⟩ hN => ?_) fun acc ρ ⟨ha, e⟩ => ?_
  · subst e
    have hkl : k < ps.length := (List.getElem?_eq_some_iff.mp hd).1
    have he : ts[k]? = some ts[k] := List.getElem?_eq_getElem (by omega)
    have dp : d.pl = true := List.all_eq_true.mp hp d (List.mem_of_getElem? hd)
    have ep : ts[k].pl = true := List.all_eq_true.mp ht _ (List.getElem_mem _)
    simp -dsimp [dp, hk d (List.mem_of_getElem? hd)]
    refine ih k d ts[k] hd he _ _ (go ?_)
    simp -dsimp [dp]
    refine ⟨?_, hN _ _ ⟨?_, by simp⟩⟩
    · rw [ha, List.length_take]
      unfold sizeLine
      omega
    · rw [ha, sh_of_pl ep, List.take_succ, he]
      rfl
  · subst e
    have ee : acc = ts := by rw [ha, List.take_of_length_le (by omega)]
    subst ee
    exact h
theorem s_with {n : Nat} {d t : D} (h : SY n d t) : ∀ r, n < r → WiOk r d t := by
  induction h with
  | zero k hk =>
    intro r hr X P hP
    obtain ⟨r, rfl⟩ : ∃ q, r = q + 1 := ⟨r - 1, by omega⟩
    rw [F_with_name_eq]
    rcases hk with e | e <;> subst e <;> simp -dsimp [W_with_name] <;> refine s_bound0 (by decide +kernel) (by decide +kernel) (by decide +kernel) (go ?_) <;> simp -dsimp [sizeLine, opTuple_own, rgOk, fr0, fr1, fr2, fr3] <;> exact hP
  | two k a b hk =>
    intro r hr X P hP
    obtain ⟨r, rfl⟩ : ∃ q, r = q + 1 := ⟨r - 1, by omega⟩
    rw [F_with_name_eq]
    rcases hk with e | e | e | e <;> subst e <;> by_cases ha : a = "y" <;> by_cases hb : b = "y" <;> simp -dsimp [W_with_name] <;> refine s_bound0 (by decide +kernel) (by decide +kernel) (by decide +kernel) (go ?_) <;>
      simp -dsimp [sizeLine, opTuple_own, rgOk, fr0, fr1, fr2, fr3, sw, ha, hb] at hP ⊢ <;> exact hP
  | first a b m =>
    intro r hr X P hP
    obtain ⟨r, rfl⟩ : ∃ q, r = q + 1 := ⟨r - 1, by omega⟩
    rw [F_with_name_eq]
    by_cases ha : a = "y" <;> by_cases hb : b = "y" <;> simp -dsimp [W_with_name] <;> refine s_bound0 (by decide +kernel) (by decide +kernel) (by decide +kernel) (go ?_) <;>
      simp -dsimp [sizeLine, opTuple_own, rgOk, fr0, fr1, fr2, fr3, sw, ha, hb] at hP ⊢ <;> exact hP
  | mark a m =>
    intro r hr X P hP
    obtain ⟨r, rfl⟩ : ∃ q, r = q + 1 := ⟨r - 1, by omega⟩
    rw [F_with_name_eq]
    by_cases ha : a = "y" <;> simp -dsimp [W_with_name] <;> refine s_bound0 (by decide +kernel) (by decide +kernel) (by decide +kernel) (go ?_) <;>
      simp -dsimp [sizeLine, opTuple_own, rgOk, fr0, fr1, fr2, fr3, sw, ha] at hP ⊢ <;> exact hP
  | not h ih =>
    intro r hr X P hP
    obtain ⟨r, rfl⟩ : ∃ q, r = q + 1 := ⟨r - 1, by omega⟩
    rw [F_with_name_eq]
    simp -dsimp [W_with_name]
    refine s_bound0 (by decide +kernel) (by decide +kernel) (by decide +kernel) (go ?_)
    simp -dsimp [sizeLine, opTuple_own, rgOk, fr0, fr1, fr2, fr3, h.kn, sh_of_pl h.kn.2.2.1]
    refine ih r (by omega) _ _ (go ?_)
    simp -dsimp [sizeLine, opTuple_own, rgOk, fr0, fr1, fr2, fr3, h.kn, sh_of_pl h.kn.2.2.2]
    exact hP
  | many k ps ts hk hs hl h ih =>
    intro r hr X P hP
    obtain ⟨r, rfl⟩ : ∃ q, r = q + 1 := ⟨r - 1, by omega⟩
    rw [F_with_name_eq]
    have g1 : ∀ (i : Nat) p, ps[i]? = some p → p.known = true ∧ p.pl = true := fun i p hi => by
      have hk2 : i < ts.length := by rw [hl]; exact (List.getElem?_eq_some_iff.mp hi).1
      have q := (h i p ts[i] hi (List.getElem?_eq_getElem hk2)).kn
      exact ⟨q.1, q.2.2.1⟩
    have g2 : ∀ (i : Nat) t, ts[i]? = some t → t.pl = true := fun i t hi => by
      have hk2 : i < ps.length := by rw [← hl]; exact (List.getElem?_eq_some_iff.mp hi).1
      exact (h i ps[i] t (List.getElem?_eq_getElem hk2) hi).kn.2.2.2
    have tp : ts.all D.pl = true := all_get g2
    have kn : ∀ p ∈ ps, p.known = true := fun p hp => by
      obtain ⟨i, hi, e⟩ := List.mem_iff_getElem.mp hp
      exact (g1 i p (by rw [List.getElem?_eq_getElem hi, e])).1
    rcases hk with e | e <;> subst e
    · simp -dsimp [W_with_name]
      refine s_bound0 (by decide +kernel) (by decide +kernel) (by decide +kernel) (go ?_)
      simp -dsimp [sizeLine, rgOk, fr0, fr1, fr2, fr3]
      refine wi_many hl hs (all_get fun i p hi => (g1 i p hi).2) tp kn (fun i p t h1 h2 => ih i p t h1 h2 r (by omega)) (go ?_)
      simp -dsimp
      refine (opTuple_own tp).mpr ?_
      simp -dsimp [sizeLine, opTuple_own, fr0]
      exact hP
    · simp -dsimp [W_with_name]
      refine s_bound0 (by decide +kernel) (by decide +kernel) (by decide +kernel) (go ?_)
      simp -dsimp [sizeLine, rgOk, fr0, fr1, fr2, fr3]
      refine wi_many hl hs (all_get fun i p hi => (g1 i p hi).2) tp kn (fun i p t h1 h2 => ih i p t h1 h2 r (by omega)) (go ?_)
      simp -dsimp
      refine (opTuple_own tp).mpr ?_
      simp -dsimp [sizeLine, opTuple_own, fr0]
      exact hP
  | bind k nm hk hn h ih =>
    intro r hr X P hP
    obtain ⟨r, rfl⟩ : ∃ q, r = q + 1 := ⟨r - 1, by omega⟩
    rw [F_with_name_eq]
    rcases hk with e | e <;> subst e
    · simp -dsimp [W_with_name]
      refine s_bound1 (.inl rfl) (go ?_)
      simp -dsimp [sizeLine, opTuple_own, rgOk, fr0, fr1, fr2, fr3, h.kn, sh_of_pl h.kn.2.2.1, hn]
      refine ih r (by omega) _ _ (go ?_)
      simp -dsimp [sizeLine, opTuple_own, rgOk, fr0, fr1, fr2, fr3, h.kn, sh_of_pl h.kn.2.2.2]
      exact hP
    · simp -dsimp [W_with_name]
      refine s_bound1 (.inr rfl) (go ?_)
      simp -dsimp [sizeLine, opTuple_own, rgOk, fr0, fr1, fr2, fr3, h.kn, sh_of_pl h.kn.2.2.1, hn]
      refine ih r (by omega) _ _ (go ?_)
      simp -dsimp [sizeLine, opTuple_own, rgOk, fr0, fr1, fr2, fr3, h.kn, sh_of_pl h.kn.2.2.2]
      exact hP
  | least m nm hn h ih =>
    intro r hr X P hP
    obtain ⟨r, rfl⟩ : ∃ q, r = q + 1 := ⟨r - 1, by omega⟩
    rw [F_with_name_eq]
    simp -dsimp [W_with_name]
    refine s_bound2 (go ?_)
    simp -dsimp [sizeLine, opTuple_own, rgOk, fr0, fr1, fr2, fr3, h.kn, sh_of_pl h.kn.2.2.1, hn]
    refine ih r (by omega) _ _ (go ?_)
    simp -dsimp [sizeLine, opTuple_own, rgOk, fr0, fr1, fr2, fr3, h.kn, sh_of_pl h.kn.2.2.2]
    exact hP
end K75

end
section
set_option maxHeartbeats 1000000
namespace K75
open PySem PySem.Spec PyProof.Rows L2 FL
theorem TD.up {n m : Nat} {d : D} (h : TD n d) : n ≤ m → TD m d := by
  intro l
  induction h generalizing m with
  | int => exact .int
  | str h => exact .str h
  | tup h1 h2 ih =>
    obtain ⟨q, rfl⟩ : ∃ q, m = q + 1 := ⟨m - 1, by omega⟩
    exact .tup h1 fun d hd => ih d hd (by omega)
def signed (d : D) : D := .tup [.str "some", .str "y", .tup [.str "and", .tup [.tup [.str "in", .str "y", .str "C"], d]]]
def allS (d : D) : D := .tup [.str "all", .str "x", .tup [.str "or", .tup [.tup [.str "not", .tup [.str "in", .str "x", .str "C"]], signed d]]]
def OUT (d t : D) : D := .tup [.tup [.str "not", .tup [.str "some", .str "y", d]], .tup [.str "least", .int 2, .str "y", d], t, .tup [.str "and", .tup [.tup [.str "some", .str "x", .tup [.str "in", .str "x", .str "C"]], allS d]]]
theorem td_out {m : Nat} {d t : D} (h : TD m d) (ht : TD m t) : TD (m + 10) (OUT d t) := by
  have s : ∀ {k : Nat} {z : Str}, PyData.strOk z = true → TD k (.str z) := .str
  have y0 : PyData.strOk "y" = true := by decide +kernel
  have x0 : PyData.strOk "x" = true := by decide +kernel
  have c0 : PyData.strOk "C" = true := by decide +kernel
  have n0 : PyData.strOk "in" = true := by decide +kernel
  have so : PyData.strOk "some" = true := by decide +kernel
  have sa : PyData.strOk "all" = true := by decide +kernel
  have sn : PyData.strOk "not" = true := by decide +kernel
  have sl : PyData.strOk "least" = true := by decide +kernel
  have an : PyData.strOk "and" = true := by decide +kernel
  have og : PyData.strOk "or" = true := by decide +kernel
  have l2 : ∀ {k : Nat} {a b : D}, TD k a → TD k b → TD (k + 1) (.tup [a, b]) := fun h1 h2 => .tup (by simp) fun d hd => by
    simp at hd
    rcases hd with e | e <;> subst e <;> assumption
  have l3 : ∀ {k : Nat} {a b c : D}, TD k a → TD k b → TD k c → TD (k + 1) (.tup [a, b, c]) := fun h1 h2 h3 => .tup (by simp) fun d hd => by
    simp at hd
    rcases hd with e | e | e <;> subst e <;> assumption
  have l4 : ∀ {k : Nat} {a b c e : D}, TD k a → TD k b → TD k c → TD k e → TD (k + 1) (.tup [a, b, c, e]) := fun h1 h2 h3 h4 => .tup (by simp) fun d hd => by
    simp at hd
    rcases hd with e | e | e | e <;> subst e <;> assumption
  have iy : ∀ {k : Nat}, TD (k + 1) (.tup [.str "in", .str "y", .str "C"]) := l3 (s n0) (s y0) (s c0)
  have ix : ∀ {k : Nat}, TD (k + 1) (.tup [.str "in", .str "x", .str "C"]) := l3 (s n0) (s x0) (s c0)
  have sg : TD (m + 4) (signed d) := l3 (s so) (s y0) (l2 (s an) (l2 (k := m + 1) (iy (k := 0) |>.up (m := m + 1) (by omega)) (h.up (by omega))))
  have al : TD (m + 7) (allS d) := l3 (s sa) (s x0) (l2 (s og) (l2 (k := m + 4) ((l2 (k := 1) (s sn) (ix (k := 0))).up (by omega)) sg))
  exact l4 (k := m + 9) ((l2 (k := m + 1) (s sn) (l3 (s so) (s y0) h)).up (by omega)) ((l4 (k := m) (s sl) .int (s y0) h).up (by omega)) (ht.up (by omega)) (l2 (s an) (l2 (k := m + 7) ((l3 (k := 1) (s so) (s x0) (ix (k := 0))).up (by omega)) al))
theorem s_ren {X : XD} {n m : Nat} {d t : D} {P : D → List D → Prop} (h : SY n d t) (hm : TD m d) (h1 : n < 60) (h2 : m < 110) (hP : P t [d, .str "y", .str "x"]) : F_renamed_saying X [d, .str "y", .str "x"] P := by
  rw [F_renamed_saying_eq]
  simp -dsimp [W_renamed_saying, h.kn]
  refine td_frz hm 110 h2 _ _ (go ?_)
  simp -dsimp [h.kn]
  refine s_with h 60 h1 _ _ (go ?_)
  simp -dsimp [h.kn]
  exact hP
theorem s_sign {X : XD} {n m : Nat} {v d t : D} {P : D → List D → Prop} (h : SY n d t) (hm : TD m d) (h1 : n < 60) (h2 : m < 110) (hv : FrzOk 110 v d) (vp : v.pl = true) (vk : v.known = true) (hP : ∀ e, P (OUT d t) [e]) : F_signing_sayings X [v] P := by
  rw [F_signing_sayings_eq]
  simp -dsimp [W_signing_sayings, vp, vk]
  refine hv _ _ (go ?_)
  simp -dsimp [h.kn, sizeLine, sh_of_pl h.kn.2.2.1]
  refine s_ren h hm h1 h2 (go ?_)
  simp -dsimp [h.kn, sizeLine, sh_of_pl h.kn.2.2.1, sh_of_pl h.kn.2.2.2]
  exact hP _
theorem s_faults {X : XD} {n : Nat} {d t : D} {P : D → List D → Prop} (h : SY n d t) (h1 : n < 60) (hP : P (OUT d t) [d]) : F__law_faults X [d] P := by
  rw [F__law_faults_eq]
  simp -dsimp [W__law_faults, h.kn, sizeLine, sh_of_pl h.kn.2.2.1]
  refine s_turned h 60 h1 _ _ (go ?_)
  simp -dsimp [h.kn, sizeLine, sh_of_pl h.kn.2.2.1, sh_of_pl h.kn.2.2.2]
  exact hP
end K75

end
section
set_option maxHeartbeats 1000000
namespace K75
open PySem PySem.Spec PyProof.Rows L2 FL
def ow : D → D
  | .lst es => .own es
  | d => d
theorem pick_list {Q : D → D → Prop} : ∀ ds : List D, (∀ d ∈ ds, ∃ e, Q d e) → ∃ es : List D, es.length = ds.length ∧ ∀ (k : Nat) d e, ds[k]? = some d → es[k]? = some e → Q d e
  | [], _ => ⟨[], rfl, fun k d e h => by simp at h⟩
  | d :: ds, h => by
    obtain ⟨e, he⟩ := h d List.mem_cons_self
    obtain ⟨es, h1, h2⟩ := pick_list ds fun d hd => h d (List.mem_cons_of_mem _ hd)
    refine ⟨e :: es, by simp [h1], fun k d' e' hd hee => ?_⟩
    cases k with
    | zero => cases hd; cases hee; exact he
    | succ k => exact h2 k d' e' (by simpa using hd) (by simpa using hee)
theorem LS.es_pl {n : Nat} {ds es : List D} (hl : es.length = ds.length) (hd : ∀ (k : Nat) d e, ds[k]? = some d → es[k]? = some e → LS n d e) : es.all D.pl = true := all_get fun k e hk => by
  have hk2 : k < ds.length := by rw [← hl]; exact (List.getElem?_eq_some_iff.mp hk).1
  exact (hd k ds[k] e (List.getElem?_eq_getElem hk2) hk).pl.2.1
theorem ow_sh {n : Nat} {d e : D} (h : LS n d e) : (ow e).sh = e := by
  cases h with
  | int => rfl
  | str => rfl
  | tup h1 h2 h3 =>
    show D.lst (D.shs _) = _
    rw [shs_of_pl (LS.es_pl h2 h3)]
def LiOk (r : Nat) (d e : D) : Prop := ∀ (X : XD) (P : D → List D → Prop), P (ow e) [d] → F__law_listed r X [d] P
theorem s_listed {n : Nat} {d : D} (h : TD n d) : ∃ e, LS n d e ∧ ∀ r, n < r → LiOk r d e := by
  induction h with
  | int =>
    refine ⟨_, .int, fun r hr X P hP => ?_⟩
    obtain ⟨r, rfl⟩ : ∃ q, r = q + 1 := ⟨r - 1, by omega⟩
    rw [F__law_listed_eq]
    simp -dsimp [W__law_listed]
    exact hP
  | str hz =>
    refine ⟨_, .str hz, fun r hr X P hP => ?_⟩
    obtain ⟨r, rfl⟩ : ∃ q, r = q + 1 := ⟨r - 1, by omega⟩
    rw [F__law_listed_eq]
    simp -dsimp [W__law_listed]
    exact hP
  | @tup n ds hl hd ih =>
    obtain ⟨es, h1, h2⟩ := pick_list (Q := fun d e => LS n d e ∧ ∀ r, n < r → LiOk r d e) ds ih
    refine ⟨.lst es, .tup hl h1 fun k d e a b => (h2 k d e a b).1, fun r hr X P hP => ?_⟩
    obtain ⟨r, rfl⟩ : ∃ q, r = q + 1 := ⟨r - 1, by omega⟩
    rw [F__law_listed_eq]
    simp -dsimp [W__law_listed]
    refine lcl_inv (fun k acc ρ => acc = es.take k ∧ ρ = [.tup ds, .und]) ⟨by simp, rfl⟩ (fun k d acc ρ N hdk ⟨ha, e⟩ hN => ?_) fun acc ρ ⟨ha, e⟩ => ?_
    · subst e
      have hkl : k < ds.length := (List.getElem?_eq_some_iff.mp hdk).1
      have he : es[k]? = some es[k] := List.getElem?_eq_getElem (by omega)
      have q := h2 k d es[k] hdk he
      simp -dsimp [q.1.pl]
      refine q.2 r (by omega) _ _ (go ?_)
      simp -dsimp [q.1.pl]
      refine ⟨?_, hN _ _ ⟨?_, by simp⟩⟩
      · rw [ha, List.length_take]
        unfold sizeLine
        omega
      · rw [ha, ow_sh q.1, List.take_succ, he]
        rfl
    · subst e
      have ee : acc = es := by rw [ha, List.take_of_length_le (by omega)]
      subst ee
      refine go ?_
      simp -dsimp
      exact hP
theorem ls_py {n : Nat} {d e : D} (h : LS n d e) : e.dat = true ∧ e.py.canLay0 = true ∧ e.py.depth ≤ n := by
  induction h with
  | int => exact ⟨rfl, rfl, Nat.zero_le _⟩
  | str hz => exact ⟨rfl, hz, Nat.zero_le _⟩
  | @tup n ds es hl he hd ih =>
    have main : ∀ es : List D, (∀ e ∈ es, e.dat = true ∧ e.py.canLay0 = true ∧ e.py.depth ≤ n) → D.dats es = true ∧ PyData.canLayAll0 (D.pys es) = true ∧ PyData.depthAll (D.pys es) ≤ n := by
      intro es
      induction es with
      | nil => intro _; exact ⟨rfl, rfl, Nat.zero_le _⟩
      | cons e es ih2 =>
        intro h
        obtain ⟨a1, a2, a3⟩ := h e List.mem_cons_self
        obtain ⟨b1, b2, b3⟩ := ih2 fun x hx => h x (List.mem_cons_of_mem _ hx)
        refine ⟨?_, ?_, ?_⟩
        · show (e.dat && D.dats es) = true
          rw [a1, b1]; rfl
        · show (e.py.canLay0 && PyData.canLayAll0 (D.pys es)) = true
          rw [a2, b2]; rfl
        · show max e.py.depth (PyData.depthAll (D.pys es)) ≤ n
          omega
    obtain ⟨a, b, c⟩ := main es fun e hm => by
      obtain ⟨k, hk, ee⟩ := List.mem_iff_getElem.mp hm
      have hk2 : k < ds.length := by omega
      exact ih k ds[k] e (List.getElem?_eq_getElem hk2) (by rw [List.getElem?_eq_getElem hk, ee])
    exact ⟨a, b, Nat.succ_le_succ c⟩
theorem ne_list {n : Nat} {ds es : List D} {p : D → Prop} (h : LS n (.tup ds) (.lst es)) (hn : n ≤ 64) (hp : p (.bl false)) : opNe (.lst es) (.own es) p := by
  obtain ⟨a, b, c⟩ := ls_py h
  have sh : SeqAt.shaped (D.lst es).py = true := by
    show ((D.lst es).py.canLay0 && decide ((D.lst es).py.depth ≤ 64)) = true
    rw [b, decide_eq_true (by omega)]; rfl
  refine ⟨.inr ⟨a, a, sh, sh⟩, ?_⟩
  have e : D.eqv (.lst es) (.own es) = true := SeqAt.eqv_refl _ b
  rw [e]
  exact hp
abbrev nI (ns : List Int) : List D := ns.map D.int
abbrev nS (ns : List Str) : List D := ns.map D.str
theorem nI_pl (ns : List Int) : (nI ns).all D.pl = true := by simp [List.all_map]
theorem nS_pl (ns : List Str) : (nS ns).all D.pl = true := by simp [List.all_map]
theorem s_take {X : XD} {r : List Int} {s : Int} {P : D → List D → Prop} (hs : 0 < s) (h : ∀ r' v, 0 ≤ v → v < s → P (.int v) [.own (nI r'), .int s]) : F__law_take X [.own (nI r), .int s] P := by
  rw [F__law_take_eq]
  cases r with
  | nil =>
    simp -dsimp [W__law_take]
    exact h [] 0 (by omega) hs
  | cons a r =>
    have e1 : ¬ ((r.length : Int) + 1 = 0) := by omega
    simp -dsimp [W__law_take, e1]
    refine ⟨0, ?_, .int a, rfl, ?_⟩
    · unfold seqIndex?
      simp
    · simp -dsimp [hs]
      exact h r _ (Int.emod_nonneg _ (by omega)) (Int.emod_lt_of_pos _ hs)
/-- an atom and the same with x for y -/
def AT (d : D) : Prop := ∃ t, SY 0 d t ∧ TD 1 d ∧ TD 1 t
def okS (z : Str) : Prop := PyData.strOk z = true
theorem sw_ok {z : Str} (h : okS z) : okS (sw z) := by
  unfold sw
  split
  · show PyData.strOk _ = true
    decide +kernel
  · exact h
theorem td_l {n : Nat} {ds : List D} (h : ds.length < 1000) (hd : ds.all (fun d => match d with | .int _ => true | .str z => PyData.strOk z | _ => false) = true) : TD (n + 1) (.tup ds) := .tup h fun d hm => by
  have q := List.all_eq_true.mp hd d hm
  cases d <;> first | exact .int | exact .str q | cases q
theorem at_two {k a b : Str} (hk : k = "head" ∨ k = "above" ∨ k = "same" ∨ k = "in") (ha : okS a) (hb : okS b) : AT (.tup [.str k, .str a, .str b]) := by
  have k0 : PyData.strOk k = true := by rcases hk with e | e | e | e <;> subst e <;> decide +kernel
  refine ⟨_, .two k a b hk, td_l (by simp) ?_, td_l (by simp) ?_⟩
  · simp; exact ⟨k0, ha, hb⟩
  · simp; exact ⟨k0, sw_ok ha, sw_ok hb⟩
theorem at_first {a b : Str} {m : Int} (ha : okS a) (hb : okS b) : AT (.tup [.str "first", .str a, .str b, .int m]) := by
  have k0 : PyData.strOk "first" = true := by decide +kernel
  refine ⟨_, .first a b m, td_l (by simp) ?_, td_l (by simp) ?_⟩
  · simp; exact ⟨k0, ha, hb⟩
  · simp; exact ⟨k0, sw_ok ha, sw_ok hb⟩
theorem at_mark {a : Str} {m : Int} (ha : okS a) : AT (.tup [.str "mark", .str a, .int m]) := by
  have k0 : PyData.strOk "mark" = true := by decide +kernel
  refine ⟨_, .mark a m, td_l (by simp) ?_, td_l (by simp) ?_⟩
  · simp; exact ⟨k0, ha⟩
  · simp; exact ⟨k0, sw_ok ha⟩
theorem at_zero {k : Str} (hk : k = "yes" ∨ k = "no") : AT (.tup [.str k]) := by
  have k0 : PyData.strOk k = true := by rcases hk with e | e <;> subst e <;> decide +kernel
  exact ⟨_, .zero k hk, td_l (by simp) (by simp; exact k0), td_l (by simp) (by simp; exact k0)⟩
theorem ix_str {ts : List Str} {v : Int} {p : D → Prop} (h0 : 0 ≤ v) (h1 : v < ts.length) (h : ∀ z ∈ ts, p (.str z)) : opIx (.own (nS ts)) (.int v) p := by
  have e : ts[v.toNat]? = some ts[v.toNat] := List.getElem?_eq_getElem (by omega)
  have e2 : (nS ts)[v.toNat]? = some (.str ts[v.toNat]) := by rw [List.getElem?_map, e]; rfl
  exact ix_of (sq_own (nS_pl ts)) (atI_int h0 e2) (h _ (List.getElem_mem _))
theorem ix_mem {xs : List D} {v : Int} {p : D → Prop} (hp : xs.all D.pl = true) (h0 : 0 ≤ v) (h1 : v < xs.length) (h : ∀ x ∈ xs, p x) : opIx (.own xs) (.int v) p := by
  have e : xs[v.toNat]? = some xs[v.toNat] := List.getElem?_eq_getElem (by omega)
  exact ix_of (sq_own hp) (atI_int h0 e) (h _ (List.getElem_mem _))
theorem s_atom {X : XD} {r : List Int} {ts ss : List Str} {P : D → List D → Prop} (ht : 0 < ts.length) (ht2 : ts.length < 100) (hs2 : ss.length < 100) (hT : ∀ z ∈ ts, okS z) (hS : ∀ z ∈ ss, okS z)
    (h : ∀ d r', AT d → P d [.own (nI r'), .own (nS ts), .own (nS ss)]) : F__law_atom X [.own (nI r), .own (nS ts), .own (nS ss)] P := by
  rw [F__law_atom_eq]
  simp -dsimp [W__law_atom]
  refine s_take (by omega) fun r1 v1 a0 a1 => go ?_
  simp -dsimp
  refine ix_str a0 a1 fun one h1 => ?_
  simp -dsimp
  refine s_take (by omega) fun r2 v2 a0 a1 => go ?_
  simp -dsimp
  refine ix_str a0 a1 fun two h2 => ?_
  simp -dsimp
  refine s_take (by omega) fun r3 kind k0 k1 => go ?_
  simp -dsimp
  refine s_take (by omega) fun r4 v4 a0 a1 => go ?_
  simp -dsimp
  refine s_take (by omega) fun r5 v5 a0 a1 => go ?_
  simp -dsimp [sizeLine]
  refine s_take (by omega) fun r6 v6 a0 a1 => go ?_
  simp -dsimp [sizeLine]
  refine ix_mem rfl a0 (by simpa using a1) fun x hx => ?_
  obtain ⟨m, rfl⟩ : ∃ m, x = .int m := by
    simp at hx
    rcases hx with e | e | e | e <;> exact ⟨_, e⟩
  simp -dsimp [sizeLine]
  refine addL rfl rfl (by simp [sizeLine]) ?_
  simp -dsimp [sizeLine]
  have o1 := hT one h1
  have o2 := hT two h2
  have menu : ∀ x ∈ ([.tup [.str "head", .str one, .str two], .tup [.str "first", .str one, .str two, .int m], .tup [.str "above", .str one, .str two], .tup [.str "same", .str one, .str two], .tup [.str "mark", .str one, .int m],
      .tup [.str "mark", .str two, .int m], .tup [.str "yes"], .tup [.str "no"], .tup [.str "above", .str two, .str one]] : List D), AT x := by
    intro x hx
    simp at hx
    rcases hx with e | e | e | e | e | e | e | e | e <;> subst e
    · exact at_two (.inl rfl) o1 o2
    · exact at_first o1 o2
    · exact at_two (.inr (.inl rfl)) o1 o2
    · exact at_two (.inr (.inr (.inl rfl))) o1 o2
    · exact at_mark o1
    · exact at_mark o2
    · exact at_zero (.inl rfl)
    · exact at_zero (.inr rfl)
    · exact at_two (.inr (.inl rfl)) o2 o1
  by_cases c1 : 5 ≤ kind
  · by_cases c2 : 0 < ss.length
    · simp -dsimp [c1, c2]
      refine s_take (by omega) fun r7 v7 a0 a1 => go ?_
      simp -dsimp [sizeLine]
      refine ix_str a0 a1 fun z hz => ?_
      simp -dsimp [sizeLine]
      exact h _ _ (at_two (.inr (.inr (.inr rfl))) o1 (hS z hz))
    · simp -dsimp [c1, c2]
      refine ix_mem rfl k0 (by simpa using k1) fun x hx => ?_
      simp -dsimp
      exact h x _ (menu x hx)
  · simp -dsimp [c1]
    refine ix_mem rfl k0 (by simpa using k1) fun x hx => ?_
    simp -dsimp
    exact h x _ (menu x hx)
end K75

end
section
set_option maxHeartbeats 4000000
namespace K75
open PySem PySem.Spec PyProof.Rows L2 FL
theorem SY.up {n : Nat} {d t : D} (h : SY n d t) : ∀ m, n ≤ m → SY m d t := by
  induction h with
  | zero k hk => intro m _; exact .zero k hk
  | two k a b hk => intro m _; exact .two k a b hk
  | first a b c => intro m _; exact .first a b c
  | mark a c => intro m _; exact .mark a c
  | not h ih => intro m hm; obtain ⟨q, rfl⟩ : ∃ q, m = q + 1 := ⟨m - 1, by omega⟩; exact .not (ih q (by omega))
  | many k ps ts hk hs hl h ih => intro m hm; obtain ⟨q, rfl⟩ : ∃ q, m = q + 1 := ⟨m - 1, by omega⟩; exact .many k ps ts hk hs hl fun i p t a b => ih i p t a b q (by omega)
  | bind k nm hk hn h ih => intro m hm; obtain ⟨q, rfl⟩ : ∃ q, m = q + 1 := ⟨m - 1, by omega⟩; exact .bind k nm hk hn (ih q (by omega))
  | least c nm hn h ih => intro m hm; obtain ⟨q, rfl⟩ : ∃ q, m = q + 1 := ⟨m - 1, by omega⟩; exact .least c nm hn (ih q (by omega))
def RU (n m : Nat) (d : D) : Prop := ∃ t, SY n d t ∧ TD m d ∧ TD m t
theorem RU.up {n m n' m' : Nat} {d : D} (h : RU n m d) (a : n ≤ n') (b : m ≤ m') : RU n' m' d := by
  obtain ⟨t, h1, h2, h3⟩ := h
  exact ⟨t, h1.up n' a, h2.up b, h3.up b⟩
theorem RU.kn {n m : Nat} {d : D} (h : RU n m d) : d.known = true ∧ d.pl = true := by
  obtain ⟨t, h1, _⟩ := h
  exact ⟨h1.kn.1, h1.kn.2.2.1⟩
theorem ru_at {d : D} (h : AT d) : RU 0 1 d := h
theorem tl2 {k : Nat} {a b : D} (h1 : TD k a) (h2 : TD k b) : TD (k + 1) (.tup [a, b]) := .tup (by simp) fun d hd => by
  simp at hd
  rcases hd with e | e <;> subst e <;> assumption
theorem tl3 {k : Nat} {a b c : D} (h1 : TD k a) (h2 : TD k b) (h3 : TD k c) : TD (k + 1) (.tup [a, b, c]) := .tup (by simp) fun d hd => by
  simp at hd
  rcases hd with e | e | e <;> subst e <;> assumption
theorem tl4 {k : Nat} {a b c d : D} (h1 : TD k a) (h2 : TD k b) (h3 : TD k c) (h4 : TD k d) : TD (k + 1) (.tup [a, b, c, d]) := .tup (by simp) fun x hd => by
  simp at hd
  rcases hd with e | e | e | e <;> subst e <;> assumption
theorem ru_not {n m : Nat} {d : D} (h : RU n m d) : RU (n + 1) (m + 1) (.tup [.str "not", d]) := by
  obtain ⟨t, h1, h2, h3⟩ := h
  have k : PyData.strOk "not" = true := by decide +kernel
  exact ⟨_, .not h1, tl2 (.str k) h2, tl2 (.str k) h3⟩
theorem ru_bind {n m : Nat} {k nm : Str} {d : D} (h : RU n m d) (hk : k = "some" ∨ k = "all") (hn : nm ≠ "y") (ho : okS nm) : RU (n + 1) (m + 1) (.tup [.str k, .str nm, d]) := by
  obtain ⟨t, h1, h2, h3⟩ := h
  have k0 : PyData.strOk k = true := by rcases hk with e | e <;> subst e <;> decide +kernel
  exact ⟨_, .bind k nm hk hn h1, tl3 (.str k0) (.str ho) h2, tl3 (.str k0) (.str ho) h3⟩
theorem ru_least {n m : Nat} {i : Int} {nm : Str} {d : D} (h : RU n m d) (hn : nm ≠ "y") (ho : okS nm) : RU (n + 1) (m + 1) (.tup [.str "least", .int i, .str nm, d]) := by
  obtain ⟨t, h1, h2, h3⟩ := h
  have k : PyData.strOk "least" = true := by decide +kernel
  exact ⟨_, .least i nm hn h1, tl4 (.str k) .int (.str ho) h2, tl4 (.str k) .int (.str ho) h3⟩
theorem ru_many {n m : Nat} {k : Str} {ps : List D} (hk : k = "and" ∨ k = "or") (hs : ps.length < 1000) (h : ∀ p ∈ ps, RU n m p) : RU (n + 1) (m + 2) (.tup [.str k, .tup ps]) := by
  have k0 : PyData.strOk k = true := by rcases hk with e | e <;> subst e <;> decide +kernel
  obtain ⟨ts, h1, h2⟩ := pick_list (Q := fun d t => SY n d t ∧ TD m d ∧ TD m t) ps h
  refine ⟨_, .many k ps ts hk hs h1 fun i p t a b => (h2 i p t a b).1, tl2 (.str k0) (.tup hs fun p hp => ?_), tl2 (.str k0) (.tup (by omega) fun t ht => ?_)⟩
  · obtain ⟨t, _, q, _⟩ := h p hp
    exact q
  · obtain ⟨i, hi, e⟩ := List.mem_iff_getElem.mp ht
    have hi2 : i < ps.length := by omega
    exact (h2 i ps[i] t (List.getElem?_eq_getElem hi2) (by rw [List.getElem?_eq_getElem hi, e])).2.2
theorem s_rule : ∀ (deep : Nat), deep ≤ 5 → ∀ fuel, deep < fuel → ∀ (X : XD) (r : List Int) (ts ss : List Str) (P : D → List D → Prop), 0 < ts.length → ts.length + deep < 100 → ss.length + deep < 100 → (∀ z ∈ ts, okS z) → (∀ z ∈ ss, okS z) →
    (∀ d r', RU deep (2 * deep + 1) d → P d [.own (nI r'), .int deep, .own (nS ts), .own (nS ss)]) → F__law_rule fuel X [.own (nI r), .int deep, .own (nS ts), .own (nS ss)] P := by
  intro deep
  induction deep with
  | zero =>
    intro hd fuel hf X r ts ss P t0 t1 s1 hT hS h
    obtain ⟨fuel, rfl⟩ : ∃ q, fuel = q + 1 := ⟨fuel - 1, by omega⟩
    rw [F__law_rule_eq]
    simp -dsimp [W__law_rule]
    refine s_take (by omega) fun r1 kind k0 k1 => go ?_
    simp -dsimp
    refine s_atom t0 (by omega) (by omega) hT hS fun d r2 hd => go ?_
    simp -dsimp
    exact h d r2 (ru_at hd)
  | succ n ih =>
    intro hd fuel hf X r ts ss P t0 t1 s1 hT hS h
    obtain ⟨fuel, rfl⟩ : ∃ q, fuel = q + 1 := ⟨fuel - 1, by omega⟩
    rw [F__law_rule_eq]
    generalize hdd : ((n + 1 : Nat) : Int) = dd at *
    have h1 : dd - 1 = (n : Int) := by omega
    have n0 : ¬ dd = 0 := by omega
    simp -dsimp [W__law_rule]
    refine s_take (by omega) fun r1 kind k0 k1 => go ?_
    by_cases c5 : dd = 5 ∧ kind < 5
    · have f1 : ¬ 6 + kind % 3 < 5 := by omega
      have f2 : ¬ 6 + kind % 3 = 5 := by omega
      have f3 : 6 + kind % 3 < 9 := by omega
      have kk := c5.2
      obtain ⟨en, ed⟩ : n = 4 ∧ dd = 5 := by omega
      subst en ed
      simp -dsimp [kk, f1, f2, f3]
      refine s_take (by omega) fun r2 v2 a0 a1 => go ?_
      simp -dsimp
      refine ⟨rgOk_of (by omega) (by omega), ?_⟩
      refine lcl_inv (fun k acc ρ => ∃ r', acc.length = k ∧ (∀ p ∈ acc, RU 4 (2 * 4 + 1) p) ∧ ρ = [.own (nI r'), .int 5, .own (nS ts), .own (nS ss), .int (6 + kind % 3), .und, .und, .und, .und]) ⟨r2, rfl, (fun _ h => nomatch h), rfl⟩ (fun k d acc ρ N hd ⟨r', hl, hg, e⟩ hN => ?_) fun acc ρ ⟨r', hl, hg, e⟩ => ?_
      · subst e
        obtain ⟨kl, rfl⟩ := rgL_get hd
        simp -dsimp [h1]
        refine ih (by omega) fuel (by omega) _ _ _ _ _ t0 (by omega) (by omega) hT hS fun d r3 hd => go ?_
        simp -dsimp [hd.kn, sizeLine]
        refine ⟨by omega, hN _ _ ⟨r3, by simp [hl], fun p hp => ?_, rfl⟩⟩
        rcases List.mem_append.mp hp with z | z
        · exact hg p z
        · rw [List.mem_singleton.mp z, sh_of_pl hd.kn.2]
          exact hd
      · subst e
        rw [rgL_len] at hl
        refine go ?_
        have apl : acc.all D.pl = true := List.all_eq_true.mpr fun m hm => (hg m hm).kn.2
        simp -dsimp [sizeLine, shs_of_pl apl]
        refine ix_mem rfl (Int.emod_nonneg _ (by omega)) (by have := Int.emod_lt_of_pos (6 + kind % 3) (show (0 : Int) < 2 by omega); simpa using this) fun x hx => ?_
        obtain ⟨z, rfl, hz⟩ : ∃ z, x = .str z ∧ (z = "and" ∨ z = "or") := by
          simp at hx
          rcases hx with e | e
          · exact ⟨_, e, .inl rfl⟩
          · exact ⟨_, e, .inr rfl⟩
        simp -dsimp [sizeLine, opTuple_own, apl]
        exact h _ _ (ru_many hz (by omega) hg)
    have c5' : dd = 5 → ¬ kind < 5 := fun e k => c5 ⟨e, k⟩
    by_cases b1 : kind < 5
    · have d5 : ¬ dd = 5 := fun e => c5 ⟨e, b1⟩
      simp -dsimp [d5, b1]
      refine s_atom t0 (by omega) (by omega) hT hS fun d r2 hd => go ?_
      simp -dsimp
      exact h d r2 ((ru_at hd).up (by omega) (by omega))
    by_cases b2 : kind = 5
    · subst b2
      simp -dsimp [n0, h1]
      refine ih (by omega) fuel (by omega) _ _ _ _ _ t0 (by omega) (by omega) hT hS fun d r3 hd => go ?_
      simp -dsimp [hd.kn, sizeLine, sh_of_pl hd.kn.2]
      exact h _ _ ((ru_not hd).up (by omega) (by omega))
    by_cases b3 : kind < 9
    · simp -dsimp [n0, b1, b2, b3]
      refine s_take (by omega) fun r2 v2 a0 a1 => go ?_
      simp -dsimp
      refine ⟨rgOk_of (by omega) (by omega), ?_⟩
      refine lcl_inv (fun k acc ρ => ∃ r', acc.length = k ∧ (∀ p ∈ acc, RU n (2 * n + 1) p) ∧ ρ = [.own (nI r'), .int dd, .own (nS ts), .own (nS ss), .int (kind), .und, .und, .und, .und]) ⟨r2, rfl, (fun _ h => nomatch h), rfl⟩ (fun k d acc ρ N hd ⟨r', hl, hg, e⟩ hN => ?_) fun acc ρ ⟨r', hl, hg, e⟩ => ?_
      · subst e
        obtain ⟨kl, rfl⟩ := rgL_get hd
        simp -dsimp [h1]
        refine ih (by omega) fuel (by omega) _ _ _ _ _ t0 (by omega) (by omega) hT hS fun d r3 hd => go ?_
        simp -dsimp [hd.kn, sizeLine]
        refine ⟨by omega, hN _ _ ⟨r3, by simp [hl], fun p hp => ?_, rfl⟩⟩
        rcases List.mem_append.mp hp with z | z
        · exact hg p z
        · rw [List.mem_singleton.mp z, sh_of_pl hd.kn.2]
          exact hd
      · subst e
        rw [rgL_len] at hl
        refine go ?_
        have apl : acc.all D.pl = true := List.all_eq_true.mpr fun m hm => (hg m hm).kn.2
        simp -dsimp [sizeLine, shs_of_pl apl]
        refine ix_mem rfl (Int.emod_nonneg _ (by omega)) (by have := Int.emod_lt_of_pos (kind) (show (0 : Int) < 2 by omega); simpa using this) fun x hx => ?_
        obtain ⟨z, rfl, hz⟩ : ∃ z, x = .str z ∧ (z = "and" ∨ z = "or") := by
          simp at hx
          rcases hx with e | e
          · exact ⟨_, e, .inl rfl⟩
          · exact ⟨_, e, .inr rfl⟩
        simp -dsimp [sizeLine, opTuple_own, apl]
        exact h _ _ (ru_many hz (by omega) hg)
    · have e2 : ¬ kind < 5 := by omega
      have e3 : ¬ kind = 5 := by omega
      have e4 : ¬ kind < 9 := by omega
      have nd : (n + 1 : Nat) ≤ 5 := hd
      have ixT : ∀ p : D → Prop, (∀ z : Str, z ≠ "y" → okS z → p (.str z)) → opIx (.own [.str "a", .str "yy", .str "boss", .str "xy", .str "c", .str "q"]) (.int dd) p := fun p hp => by
        refine ix_mem rfl (by omega) (by simp; omega) fun x hx => ?_
        simp at hx
        rcases hx with e | e | e | e | e | e <;> subst e <;> exact hp _ (by decide +kernel) (by show PyData.strOk _ = true; decide +kernel)
      have ixL : ∀ p : D → Prop, (∀ z : Str, z ≠ "y" → okS z → p (.str z)) → opIx (.own [.str "A", .str "B", .str "CC", .str "LOT", .str "D", .str "E"]) (.int dd) p := fun p hp => by
        refine ix_mem rfl (by omega) (by simp; omega) fun x hx => ?_
        simp at hx
        rcases hx with e | e | e | e | e | e <;> subst e <;> exact hp _ (by decide +kernel) (by show PyData.strOk _ = true; decide +kernel)
      have ixB : ∀ p : D → Prop, (∀ z : Str, z = "some" ∨ z = "all" → p (.str z)) → opIx (.own [.str "some", .str "all"]) (.int (kind % 2)) p := fun p hp => by
        refine ix_mem rfl (Int.emod_nonneg _ (by omega)) (by have := Int.emod_lt_of_pos kind (show (0 : Int) < 2 by omega); simpa using this) fun x hx => ?_
        simp at hx
        rcases hx with e | e <;> subst e
        · exact hp _ (.inl rfl)
        · exact hp _ (.inr rfl)
      have snocS : ∀ (l : List Str) (z : Str), nS l ++ [.str z] = nS (l ++ [z]) := fun l z => by simp
      have snocO : ∀ (l : List Str) (z : Str), (∀ x ∈ l, okS x) → okS z → ∀ x ∈ l ++ [z], okS x := fun l z hl hz x hx => by
        rcases List.mem_append.mp hx with q | q
        · exact hl x q
        · rw [List.mem_singleton.mp q]; exact hz
      simp -dsimp [e2, e3, e4, n0, sizeLine]
      refine ixT _ fun tm tm1 tm2 => ?_
      simp -dsimp [sizeLine]
      refine ixL _ fun lt lt1 lt2 => ?_
      by_cases e5 : kind < 11
      · simp -dsimp [e5, sizeLine]
        refine ixB _ fun kw hkw => ?_
        simp -dsimp [h1, sizeLine]
        refine addL (nS_pl ts) rfl (by simp [sizeLine]; omega) ?_
        rw [snocS]
        simp -dsimp [-List.map_append, h1, sizeLine]
        refine ih (by omega) fuel (by omega) _ _ _ _ _ (by simp) (by simp; omega) (by omega) (snocO ts tm hT tm2) hS fun d r3 hd => go ?_
        simp -dsimp [hd.kn, sizeLine, sh_of_pl hd.kn.2]
        exact h _ _ ((ru_bind hd hkw tm1 tm2).up (by omega) (by omega))
      · by_cases e6 : kind = 11
        · simp -dsimp [e5, e6, sizeLine]
          refine s_take (by omega) fun r2 v2 a0 a1 => go ?_
          simp -dsimp [h1, sizeLine]
          refine addL (nS_pl ts) rfl (by simp [sizeLine]; omega) ?_
          rw [snocS]
          simp -dsimp [-List.map_append, h1, sizeLine]
          refine ih (by omega) fuel (by omega) _ _ _ _ _ (by simp) (by simp; omega) (by omega) (snocO ts tm hT tm2) hS fun d r3 hd => go ?_
          simp -dsimp [hd.kn, sizeLine, sh_of_pl hd.kn.2]
          exact h _ _ ((ru_least hd tm1 tm2).up (by omega) (by omega))
        · simp -dsimp [e5, e6, sizeLine]
          refine ixB _ fun kw hkw => ?_
          simp -dsimp [h1, sizeLine]
          refine addL (nS_pl ss) rfl (by simp [sizeLine]; omega) ?_
          rw [snocS]
          simp -dsimp [-List.map_append, h1, sizeLine]
          refine ih (by omega) fuel (by omega) _ _ _ _ _ t0 (by omega) (by simp; omega) hT (snocO ss lt hS lt2) fun d r3 hd => go ?_
          simp -dsimp [hd.kn, sizeLine, sh_of_pl hd.kn.2]
          exact h _ _ ((ru_bind hd hkw lt1 lt2).up (by omega) (by omega))
end K75

end
section
set_option maxHeartbeats 1000000
namespace K75
open PySem PySem.Spec PyProof.Rows L2 FL
theorem nI_get {ns : List Int} {k : Nat} {i : Int} (h : ns[k]? = some i) : (nI ns)[k]? = some (.int i) := by rw [List.getElem?_map, h]; rfl
theorem s_cell {X : XD} {ns : List Int} {k : Int} {P : D → List D → Prop} (h0 : 0 ≤ k) (hk : k < 1000) (h : ∀ c, P (.int c) [.flst (nI ns), .int k]) : F__law_cell X [.flst (nI ns), .int k] P := by
  rw [F__law_cell_eq]
  by_cases c : k < ns.length
  · simp -dsimp [W__law_cell, c]
    have hk2 : k.toNat < ns.length := by omega
    refine ix_of rfl (atI_int h0 (nI_get (List.getElem?_eq_getElem hk2))) ?_
    simp -dsimp
    exact h _
  · simp -dsimp [W__law_cell, c]
    refine fol_inv (fun j ρ => ∃ s d, sm s ∧ ρ = [.flst (nI ns), .int k, .int s, d]) ⟨17, _, by unfold sm; omega, rfl⟩ (fun j d ρ N hd ⟨s, d', hs, e⟩ hN => ?_) fun ρ ⟨s, d', hs, e⟩ => ?_
    · subst e
      rw [List.getElem?_map] at hd
      obtain ⟨v, hv, rfl⟩ := Option.map_eq_some_iff.mp hd
      simp -dsimp
      refine ⟨cmulS hs (by unfold sm; omega), hN _ ⟨_, _, ?_, rfl⟩⟩
      have a1 := Int.emod_nonneg (s * 31 + v % 1000003) (show (1000003 : Int) ≠ 0 by omega)
      have a2 := Int.emod_lt_of_pos (s * 31 + v % 1000003) (show (0 : Int) < 1000003 by omega)
      unfold sm
      omega
    · subst e
      simp -dsimp
      have b1 := sm_bits hs
      unfold sm at hs
      refine ⟨cmulW (bits_up (j := 65) (by omega) (by decide)) (by omega), ?_, h _⟩
      refine cmulW (bits_up (j := 90) ?_ (by decide)) (by omega)
      rw [Int.natAbs_mul]
      have c1 : (s + 7).natAbs < 2 ^ 65 := by omega
      have c2 : (k + 3).natAbs ≤ 2000 := by omega
      calc (s + 7).natAbs * (k + 3).natAbs ≤ 2 ^ 65 * 2000 := Nat.mul_le_mul (Nat.le_of_lt c1) c2
        _ < 2 ^ 90 := by decide
/-- digits below their sizes -/
def Good (sz row : List Int) : Prop := ∀ (i : Nat) (x s : Int), row[i]? = some x → sz[i]? = some s → 0 ≤ x ∧ x < s
theorem good_nil {sz : List Int} : Good sz [] := fun i x s h => by simp at h
theorem good_snoc {sz row : List Int} {x s : Int} (g : Good sz row) (hs : sz[row.length]? = some s) (h0 : 0 ≤ x) (h1 : x < s) : Good sz (row ++ [x]) := fun i y t hy ht => by
  by_cases c : i < row.length
  · rw [List.getElem?_append_left c] at hy
    exact g i y t hy ht
  · rw [List.getElem?_append_right (by omega)] at hy
    by_cases e : i = row.length
    · subst e
      rw [hs] at ht
      simp at hy
      cases ht
      subst hy
      exact ⟨h0, h1⟩
    · rw [List.getElem?_eq_none (by simp; omega)] at hy
      cases hy
theorem s_digits {X : XD} {c : Int} {sz : List Int} {P : D → List D → Prop} (hl : sz.length < 10000) (hz : ∀ s ∈ sz, 0 < s ∧ s < 10000)
    (h : ∀ row d, row.length = sz.length → Good sz row → P (.own (nI row)) [.int c, d]) : F__law_digits X [.int c, .own (nI sz)] P := by
  rw [F__law_digits_eq]
  have w1 : CPow 10 18 := by unfold CPow; omega
  have w2 : CPow 10 60 := by unfold CPow; omega
  have hsh : D.shs (nI sz) = nI sz := shs_of_pl (nI_pl sz)
  by_cases big : (1000000000000000000 : Int) ≤ c
  · simp -dsimp [W__law_digits, sizeLine, w1, w2, big, hsh]
    refine ⟨cmulW (by decide +kernel) (by decide +kernel), cmulW (by decide +kernel) (by decide +kernel), ?_⟩
    refine fol_inv (fun j ρ => ∃ row r d, row.length = j ∧ Good sz row ∧ ρ = [.int c, .lst (nI sz), .own (nI row), .int r, d, .und, .und, .und]) ⟨[], _, _, rfl, good_nil, rfl⟩ (fun j d ρ N hd ⟨row, r, d', hr, hg, e⟩ hN => ?_) fun ρ ⟨row, r, d', hr, hg, e⟩ => ?_
    · subst e
      rw [List.getElem?_map] at hd
      obtain ⟨s, hs, rfl⟩ := Option.map_eq_some_iff.mp hd
      obtain ⟨s0, s1⟩ := hz s (List.mem_of_getElem? hs)
      have rl : row.length < sz.length := by rw [hr]; exact (List.getElem?_eq_some_iff.mp hs).1
      simp -dsimp [sizeLine]
      refine ⟨s0, by omega, cdivW s0 (by omega), hN _ ⟨row ++ [r % s], _, _, by simp [hr], good_snoc hg (by rw [hr]; exact hs) (Int.emod_nonneg _ (by omega)) (Int.emod_lt_of_pos _ s0), by simp; exact ⟨rfl, rfl⟩⟩⟩
    · subst e
      simp -dsimp
      exact h row _ (by simpa using hr) hg
  · simp -dsimp [W__law_digits, sizeLine, w1, w2, big, hsh]
    refine ⟨rgOk_of (by omega) (by omega), ?_⟩
    refine for_inv (fun j ρ => ∃ row s a b, row.length = j ∧ Good sz row ∧ (0 ≤ s ∧ s < 2147483647) ∧ ρ = [.int c, .own (nI sz), .own (nI row), .int c, .und, .int s, a, b]) ⟨[], _, _, _, rfl, good_nil, ⟨Int.emod_nonneg _ (by omega), ?_⟩, rfl⟩ (fun j ρ N hj ⟨row, s, a, b, hr, hg, hs, e⟩ hN => ?_) fun ρ ⟨row, s, a, b, hr, hg, hs, e⟩ => ?_
    · have := Int.emod_lt_of_pos c (show (0 : Int) < 2147483629 by omega)
      omega
    · subst e
      have hj2 := List.getElem?_eq_getElem hj
      obtain ⟨s0, s1⟩ := hz sz[j] (List.getElem_mem hj)
      simp -dsimp [sizeLine]
      generalize es : (s * 48271 + 974711 * (j : Int) + 12345) % 2147483647 = s2
      have t0 : 0 ≤ s2 := by rw [← es]; exact Int.emod_nonneg _ (by omega)
      have t1 : s2 < 2147483647 := by rw [← es]; exact Int.emod_lt_of_pos _ (by omega)
      have u0 : 0 ≤ s2 / 65537 := Int.ediv_nonneg t0 (by omega)
      have u1 : s2 / 65537 ≤ s2 := Int.ediv_le_self _ t0
      refine ⟨cmulS (by unfold sm; omega) (by unfold sm; omega), cmulS (by unfold sm; omega) (by unfold sm; omega), cdivS (by omega) (by unfold sm; omega), cmulS (by unfold sm; omega) (by unfold sm; omega), cdivS (by omega) (by unfold sm; omega), ?_⟩
      refine (ix_own (nI_pl sz) (nI_get hj2)).mpr ?_
      simp -dsimp [sizeLine]
      refine ⟨s0, by omega, hN _ ⟨row ++ [_], _, _, _, by simp [hr], good_snoc hg (by rw [hr]; exact hj2) (Int.emod_nonneg _ (by omega)) (Int.emod_lt_of_pos _ s0), ⟨t0, t1⟩, by simp; exact ⟨rfl, rfl, rfl⟩⟩⟩
    · subst e
      simp -dsimp
      exact h row _ hr hg
end K75

end
section
set_option maxHeartbeats 4000000
namespace K75
open PySem PySem.Spec PyProof.Rows L2 FL
def OKD (d : D) : Prop := RU 39 45 d
theorem OKD.tup {d : D} (h : OKD d) : ∃ ds, d = .tup ds := by
  obtain ⟨t, h1, _⟩ := h
  cases h1 <;> exact ⟨_, rfl⟩
theorem rep40 (k : Nat) : (List.replicate k ([.int 5040] : List D)).flatten = nI (List.replicate k 5040) := by
  induction k with
  | zero => rfl
  | succ k ih => rw [List.replicate_succ, List.replicate_succ, List.flatten_cons, ih]; rfl
theorem mul_own {k : Int} {p : D → Prop} (h0 : 0 ≤ k) (h1 : k < 10000) (h : ∀ sz : List Int, (sz.length : Int) = k → (∀ s ∈ sz, 0 < s ∧ s < 10000) → p (.own (nI sz))) : opMul (.own [.int 5040]) (.int k) p := by
  refine ⟨[.int 5040], rfl, by omega, by omega, by simp [sizeLine]; omega, ?_⟩
  rw [rep40]
  refine h _ (by rw [List.length_replicate]; omega) fun s hs => ?_
  rw [List.mem_replicate] at hs
  rw [hs.2]
  omega
theorem ok_xy : ∀ z ∈ (["x", "y"] : List Str), okS z := by
  intro z hz
  simp at hz
  rcases hz with e | e <;> subst e <;> show PyData.strOk _ = true <;> decide +kernel
theorem ok_yx : ∀ z ∈ (["y", "x"] : List Str), okS z := by
  intro z hz
  simp at hz
  rcases hz with e | e <;> subst e <;> show PyData.strOk _ = true <;> decide +kernel
theorem five {row : List Int} (h : row.length = 5) : ∃ a b c d e, row = [a, b, c, d, e] := by
  match row, h with
  | [a, b, c, d, e], _ => exact ⟨a, b, c, d, e, rfl⟩
theorem ndig (k : Nat) : ∀ s ∈ List.replicate k (5040 : Int), 0 < s ∧ s < 10000 := fun s hs => by
  rw [List.mem_replicate] at hs
  rw [hs.2]
  omega
theorem x_ixO4 {e0 e1 e2 e3 d : D} {ds : List D} {p : D → Prop} (hh : (e0 :: e1 :: e2 :: e3 :: d :: ds).all D.pl = true) : opIx (.own (e0 :: e1 :: e2 :: e3 :: d :: ds)) (.int 4) p ↔ p d := ix_iff (sq_own hh) (atI_n (k := 4) rfl)
/-- the loop over the sayings -/
theorem s_loop {X : XD} {E : WEnds} {f0 x2 x3 x4 x5 x6 : D} {a b c d e : Int} {ds : List D} (he : e = 0 ∨ e = 1) (hds : ∀ d ∈ ds, OKD d) (hE : ∀ x7 x8 x9, E.nx [f0, .own [.int a, .int b, .int c, .int d, .int e], x2, x3, x4, x5, x6, x7, x8, x9]) (x7 x8 x9 : D) :
    wForL (gN 7) (wSeq (wAsg 8 (wVar 7)) (wSeq (wIf (wTest (wBin (cmpOf .Eq) (wBin opIx (wVar 1) (wC (.int 4))) (wC (.int 1)))) (wAsg 8 (wCall (F__law_listed 110) [true] (wCons (wVar 7) wNil))) wNext) (wSeq (wAsg 9 (wCall F_signing_sayings [false] (wCons (wVar 8) wNil))) (wSeq (wIf (wNotT (wTru (wCall (F__law_very 110) [true, true] (wCons (wVar 9) (wCons (wCall F__law_faults [true] (wCons (wVar 7) wNil)) wNil))))) (wRet [0] (wC (.bl false))) wNext) (wIf (wAndT (wTest (wBin (cmpOf .Eq) (wBin opIx (wVar 1) (wC (.int 4))) (wC (.int 1)))) (wTest (wBin (cmpOf .NotEq) (wVar 8) (wCall (F__law_listed 110) [true] (wCons (wVar 7) wNil))))) (wRet [0] (wC (.bl false))) wNext))))) X E ds
      [f0, .own [.int a, .int b, .int c, .int d, .int e], x2, x3, x4, x5, x6, x7, x8, x9] := by
  refine fol_inv (fun k ρ => ∃ x7 x8 x9, ρ = [f0, .own [.int a, .int b, .int c, .int d, .int e], x2, x3, x4, x5, x6, x7, x8, x9]) ⟨_, _, _, rfl⟩ (fun k s ρ N hk ⟨x7, x8, x9, ee⟩ hN => ?_) fun ρ ⟨x7, x8, x9, ee⟩ => ?_
  · subst ee
    have ok := hds s (List.mem_of_getElem? hk)
    obtain ⟨ss, rfl⟩ := ok.tup
    obtain ⟨t, q1, q2, q3⟩ := ok
    have tk := q1.kn
    rcases he with e0 | e1
    · subst e0
      simp -dsimp [x_ixO4]
      refine s_sign q1 q2 (by omega) (by omega) (td_frz q2 110 (by omega)) rfl rfl fun e2 => go ?_
      simp -dsimp [OUT]
      refine s_faults q1 (by omega) (go ?_)
      simp -dsimp [OUT]
      refine td_ve (td_out q2 q3) 110 (by omega) _ _ (go ?_)
      simp -dsimp [x_ixO4]
      exact hN _ ⟨_, _, _, rfl⟩
    · subst e1
      obtain ⟨l, l1, l2⟩ := s_listed q2
      obtain ⟨es, rfl⟩ : ∃ es, l = .lst es := by cases l1; exact ⟨_, rfl⟩
      have epl : es.all D.pl = true := by
        cases l1 with
        | tup h1 h2 h3 => exact LS.es_pl h2 h3
      simp -dsimp [x_ixO4]
      refine l2 110 (by omega) _ _ (go ?_)
      simp -dsimp [ow, shs_of_pl epl]
      refine s_sign q1 q2 (by omega) (by omega) (ls_frz l1 110 (by omega)) rfl rfl fun e2 => go ?_
      simp -dsimp [OUT]
      refine s_faults q1 (by omega) (go ?_)
      simp -dsimp [OUT]
      refine td_ve (td_out q2 q3) 110 (by omega) _ _ (go ?_)
      simp -dsimp [x_ixO4]
      refine l2 110 (by omega) _ _ (go ?_)
      simp -dsimp [ow]
      refine ne_list l1 (by omega) ?_
      simp -dsimp
      exact hN _ ⟨_, _, _, rfl⟩
  · subst ee
    exact hE _ _ _
end K75

end
section
set_option maxHeartbeats 4000000
namespace K75
open PySem PySem.Spec PyProof.Rows L2 FL
def T6 : WS := (wSeq (wAsg 6 (wCall (F__law_rule 8) [true, true, true, true] (wCons (wCall F__law_digits [true, true] (wCons (wCall F__law_cell [true, true] (wCons (wVar 0) (wCons (wC (.int 4)) wNil))) (wCons (wBin (binOf .Mult) (wCB opLst (wCons (wSh (wC (.int 5040))) wNil)) (wC (.int 40))) wNil))) (wCons (wC (.int 3)) (wCons (wCB opLst (wCons (wSh (wC (.str "y"))) (wCons (wSh (wC (.str "x"))) wNil))) (wCons (wCB opLst wNil) wNil)))))) (wSeq (wFor (wCB opLst (wCons (wSh (wVar 3)) (wCons (wSh (wVar 6)) (wCons (wSh (wCB opTup (wCons (wSh (wC (.str "head"))) (wCons (wSh (wC (.str "x"))) (wCons (wSh (wC (.str "y"))) wNil))))) (wCons (wSh (wCB opTup (wCons (wSh (wC (.str "no"))) wNil))) (wCons (wSh (wCB opTup (wCons (wSh (wC (.str "yes"))) wNil))) (wCons (wSh (wVar 3)) wNil))))))) (gN 7) (wSeq (wAsg 8 (wVar 7)) (wSeq (wIf (wTest (wBin (cmpOf .Eq) (wBin opIx (wVar 1) (wC (.int 4))) (wC (.int 1)))) (wAsg 8 (wCall (F__law_listed 110) [true] (wCons (wVar 7) wNil))) wNext) (wSeq (wAsg 9 (wCall F_signing_sayings [false] (wCons (wVar 8) wNil))) (wSeq (wIf (wNotT (wTru (wCall (F__law_very 110) [true, true] (wCons (wVar 9) (wCons (wCall F__law_faults [true] (wCons (wVar 7) wNil)) wNil))))) (wRet [0] (wC (.bl false))) wNext) (wIf (wAndT (wTest (wBin (cmpOf .Eq) (wBin opIx (wVar 1) (wC (.int 4))) (wC (.int 1)))) (wTest (wBin (cmpOf .NotEq) (wVar 8) (wCall (F__law_listed 110) [true] (wCons (wVar 7) wNil))))) (wRet [0] (wC (.bl false))) wNext)))))) (wRet [0] (wC (.bl true)))))
def T5 : WS := (wSeq (wIf (wTest (wBin (cmpOf .Eq) (wBin opIx (wVar 1) (wC (.int 0))) (wC (.int 2)))) (wRng1 (wCons (wBin opIx (wVar 1) (wC (.int 2))) wNil) 5 (wAsg 3 (wCB opTup (wCons (wSh (wC (.str "not"))) (wCons (wSh (wVar 3)) wNil))))) wNext) T6)
theorem W_split : W_law = (wSeq (wAsg 1 (wCall F__law_digits [true, true] (wCons (wCall F__law_cell [true, true] (wCons (wVar 0) (wCons (wC (.int 0)) wNil))) (wCons (wCB opLst (wCons (wSh (wC (.int 8))) (wCons (wSh (wC (.int 399))) (wCons (wSh (wC (.int 35))) (wCons (wSh (wC (.int 2))) (wCons (wSh (wC (.int 2))) wNil)))))) wNil)))) (wSeq (wAsg 2 (wBin (binOf .Add) (wCall F__law_digits [true, true] (wCons (wCall F__law_cell [true, true] (wCons (wVar 0) (wCons (wC (.int 1)) wNil))) (wCons (wBin (binOf .Mult) (wCB opLst (wCons (wSh (wC (.int 5040))) wNil)) (wC (.int 40))) wNil))) (wCall F__law_digits [true, true] (wCons (wCall F__law_cell [true, true] (wCons (wVar 0) (wCons (wC (.int 2)) wNil))) (wCons (wBin (binOf .Mult) (wCB opLst (wCons (wSh (wC (.int 5040))) wNil)) (wC (.int 40))) wNil))))) (wSeq (wAsg 3 (wCall (F__law_rule 8) [true, true, true, true] (wCons (wVar 2) (wCons (wC (.int 5)) (wCons (wCB opLst (wCons (wSh (wC (.str "x"))) (wCons (wSh (wC (.str "y"))) wNil))) (wCons (wCB opLst wNil) wNil)))))) (wSeq (wIf (wTest (wBin (cmpOf .Eq) (wBin opIx (wVar 1) (wC (.int 0))) (wC (.int 1)))) (wSeq (wAsg 4 (wCall F__law_digits [true, true] (wCons (wCall F__law_cell [true, true] (wCons (wVar 0) (wCons (wC (.int 3)) wNil))) (wCons (wBin (binOf .Mult) (wCB opLst (wCons (wSh (wC (.int 5040))) wNil)) (wC (.int 2400))) wNil)))) (wAsg 3 (wCB opTup (wCons (wSh (wBin opIx (wCB opLst (wCons (wSh (wC (.str "and"))) (wCons (wSh (wC (.str "or"))) wNil))) (wBin opIx (wVar 1) (wC (.int 3))))) (wCons (wSh (wCB opTuple (wCons (wLcR1 (wCons (wBin (binOf .Add) (wC (.int 2)) (wBin opIx (wVar 1) (wC (.int 1)))) wNil) (.name 5) wYes (wSh (wCall F__law_atom [true, true, true] (wCons (wVar 4) (wCons (wCB opLst (wCons (wSh (wC (.str "x"))) (wCons (wSh (wC (.str "y"))) wNil))) (wCons (wCB opLst wNil) wNil)))))) wNil))) wNil))))) wNext) T5)))) := rfl
abbrev E0 : WEnds := { nx := fun ρ => False, rt := fun d ρ => d = D.bl true, bk := fun ρ => False, ct := fun ρ => False }
theorem nI_app (r1 r2 : List Int) : nI r1 ++ nI r2 = nI (r1 ++ r2) := by simp
theorem s_T6 {E : WEnds} (hE : E.rt = fun d _ => d = .bl true) {ns : List Int} {x2 x4 x5 x6 x7 x8 x9 rule : D} {a b c d e : Int} (he : e = 0 ∨ e = 1) (hr : OKD rule) : T6 (fun _ _ => False) E [.flst (nI ns), .own [.int a, .int b, .int c, .int d, .int e], x2, rule, x4, x5, x6, x7, x8, x9] := by
  unfold T6
  simp -dsimp [sizeLine]
  refine s_cell (by omega) (by omega) fun cc => go ?_
  simp -dsimp [sizeLine]
  refine mul_own (by omega) (by omega) fun sz sl sp => ?_
  simp -dsimp [sizeLine]
  refine s_digits (by omega) sp fun row dd h1 h2 => go ?_
  simp -dsimp [sizeLine]
  refine s_rule 3 (by omega) 8 (by omega) _ _ ["y", "x"] [] _ (by simp) (by simp) (by simp) ok_yx (fun _ h => nomatch h) fun second r2 hs => go ?_
  simp -dsimp [sizeLine, hr.kn, hs.kn, sh_of_pl hr.kn.2, sh_of_pl hs.kn.2]
  refine s_loop he (fun x hx => ?_) (fun x7 x8 x9 => ?_) _ _ _
  · simp at hx
    have o1 : okS "x" := by show PyData.strOk _ = true; decide +kernel
    have o2 : okS "y" := by show PyData.strOk _ = true; decide +kernel
    rcases hx with q | q | q | q | q | q <;> subst q
    · exact hr
    · exact hs.up (by omega) (by omega)
    · exact (ru_at (at_two (.inl rfl) o1 o2)).up (by omega) (by omega)
    · exact (ru_at (at_zero (.inr rfl))).up (by omega) (by omega)
    · exact (ru_at (at_zero (.inl rfl))).up (by omega) (by omega)
    · exact hr
  · simp -dsimp [hE]
theorem s_T5 {E : WEnds} (hE : E.rt = fun d _ => d = .bl true) {ns : List Int} {x2 x4 x5 x6 x7 x8 x9 rule : D} {a b c d e : Int} (he : e = 0 ∨ e = 1) (hc : 0 ≤ c ∧ c < 35) (hr : RU 5 11 rule) : T5 (fun _ _ => False) E [.flst (nI ns), .own [.int a, .int b, .int c, .int d, .int e], x2, rule, x4, x5, x6, x7, x8, x9] := by
  unfold T5
  by_cases c2 : a = 2
  · simp -dsimp [c2, sizeLine]
    refine ⟨rgOk_of (by omega) (by omega), ?_⟩
    refine for_inv (fun k ρ => ∃ rule x5, RU (5 + k) (11 + k) rule ∧ ρ = [.flst (nI ns), .own [.int 2, .int b, .int c, .int d, .int e], x2, rule, x4, x5, x6, x7, x8, x9]) ⟨rule, _, hr, rfl⟩ (fun k ρ N hk ⟨rule, x5, h1, ee⟩ hN => ?_) fun ρ ⟨rule, x5, h1, ee⟩ => ?_
    · subst ee
      simp -dsimp [sizeLine, h1.kn, sh_of_pl h1.kn.2]
      exact hN _ ⟨_, _, (ru_not h1).up (by omega) (by omega), rfl⟩
    · subst ee
      simp -dsimp
      exact s_T6 hE he (h1.up (by omega) (by omega))
  · simp -dsimp [c2, sizeLine]
    exact s_T6 hE he (hr.up (by omega) (by omega))
theorem law_plain (ns : List Int) (hl : ns.length ≤ 63) : F_law (fun _ _ => False) [.flst (ns.map D.int)] (fun d _ => d = .bl true) := by
  rw [F_law_eq, W_split]
  simp -dsimp [sizeLine]
  refine s_cell (by omega) (by omega) fun c0 => go ?_
  simp -dsimp [sizeLine]
  refine s_digits (sz := [8, 399, 35, 2, 2]) (by decide) (by decide) fun row0 d0 hr0 hg0 => go ?_
  obtain ⟨a, b, c, d, e, rfl⟩ := five hr0
  have ga := hg0 0 a 8 rfl rfl
  have gb := hg0 1 b 399 rfl rfl
  have gc := hg0 2 c 35 rfl rfl
  have gd := hg0 3 d 2 rfl rfl
  have ge := hg0 4 e 2 rfl rfl
  simp -dsimp [sizeLine]
  refine s_cell (by omega) (by omega) fun c1 => go ?_
  simp -dsimp [sizeLine]
  refine mul_own (by omega) (by omega) fun sz1 sl1 sp1 => ?_
  simp -dsimp [sizeLine]
  refine s_digits (by omega) sp1 fun row1 dd1 h1 h2 => go ?_
  simp -dsimp [sizeLine]
  refine s_cell (by omega) (by omega) fun c2 => go ?_
  simp -dsimp [sizeLine]
  refine mul_own (by omega) (by omega) fun sz2 sl2 sp2 => ?_
  simp -dsimp [sizeLine]
  refine s_digits (by omega) sp2 fun row2 dd2 h3 h4 => go ?_
  simp -dsimp [sizeLine]
  refine addL (nI_pl _) (nI_pl _) (by simp [sizeLine]; omega) ?_
  rw [nI_app]
  simp -dsimp [-List.map_append, sizeLine]
  refine s_rule 5 (by omega) 8 (by omega) _ _ ["x", "y"] [] _ (by simp) (by simp) (by simp) ok_xy (fun _ h => nomatch h) fun rule r2 hs => go ?_
  have he : e = 0 ∨ e = 1 := by omega
  by_cases c3 : a = 1
  · simp -dsimp [sizeLine, c3]
    refine s_cell (by omega) (by omega) fun c4 => go ?_
    simp -dsimp [sizeLine]
    refine mul_own (by omega) (by omega) fun sz3 sl3 sp3 => ?_
    simp -dsimp [sizeLine]
    refine s_digits (by omega) sp3 fun row3 dd3 h5 h6 => go ?_
    simp -dsimp [sizeLine]
    refine ix_mem rfl (by omega) (by simpa using gd.2) fun x hx => ?_
    obtain ⟨z, rfl, hz⟩ : ∃ z, x = .str z ∧ (z = "and" ∨ z = "or") := by
      simp at hx
      rcases hx with e | e
      · exact ⟨_, e, .inl rfl⟩
      · exact ⟨_, e, .inr rfl⟩
    simp -dsimp [sizeLine]
    refine ⟨rgOk_of (by omega) (by omega), ?_⟩
    refine lcl_inv (fun k acc ρ => ∃ r', acc.length = k ∧ (∀ p ∈ acc, RU 0 1 p) ∧ ρ = [.flst (nI ns), .own [.int 1, .int b, .int c, .int d, .int e], .own (nI r2), rule, .own (nI r'), .und, .und, .und, .und, .und]) ⟨row3, rfl, (fun _ h => nomatch h), rfl⟩ (fun k d' acc ρ N hd ⟨r', hl, hg, ee⟩ hN => ?_) fun acc ρ ⟨r', hl, hg, ee⟩ => ?_
    · subst ee
      obtain ⟨kl, rfl⟩ := rgL_get hd
      simp -dsimp [sizeLine]
      refine s_atom (ts := ["x", "y"]) (ss := []) (by simp) (by simp) (by simp) ok_xy (fun _ h => nomatch h) fun d9 r3 had => go ?_
      have hru : RU 0 1 d9 := had
      simp -dsimp [hru.kn, sizeLine]
      refine ⟨by omega, hN _ _ ⟨r3, by simp [hl], fun p hp => ?_, rfl⟩⟩
      rcases List.mem_append.mp hp with q | q
      · exact hg p q
      · rw [List.mem_singleton.mp q, sh_of_pl hru.kn.2]
        exact hru
    · subst ee
      rw [rgL_len] at hl
      refine go ?_
      have apl : acc.all D.pl = true := List.all_eq_true.mpr fun m hm => (hg m hm).kn.2
      simp -dsimp [sizeLine, opTuple_own, apl]
      exact s_T5 rfl he gc ((ru_many hz (by omega) hg).up (by omega) (by omega))
  · simp -dsimp [sizeLine, c3]
    exact s_T5 rfl he gc hs
end K75

end
section
set_option maxHeartbeats 0
open PySem PySem.W PySem.Calls PyProof.Rows
theorem PySem.Challenge.cw_oneheadeach_k75_signing_sayings_holds : PySem.Challenge.rw_oneheadeach_k75_signing_sayings.Holds := by
  w_on; o_law
  refine HandSHeadRun.head_any (r := OpenLaw.row PySem.Challenge.rw_oneheadeach_k75_signing_sayings) (q := view (OpenLaw.row PySem.Challenge.rw_oneheadeach_k75_signing_sayings).prog [20]) (H := K75.hk) (ob := K75.ob) (M := 3000) (loose := K75.loose) (d := HandSHeadRun.topDef (OpenLaw.row PySem.Challenge.rw_oneheadeach_k75_signing_sayings).prog 20) (kwd := []) K75.ob_eq
    (by kernel_rfl) (fun s => by kernel_rfl) K75.run (by kernel_rfl) (by kernel_rfl) (by kernel_rfl) (by rfl) (by first | assumption | decide +kernel) (by decide +kernel) ⟨rfl, rfl, rfl, rfl, rfl, by decide +kernel⟩ ?hw ?hc
  case hw => w_witness2
  case hc =>
    refine L2.walk_ofE (l := PySem.Challenge.rw_oneheadeach_k75_signing_sayings) (n := 63) (k := 114) (x := "script") (CX := L2.CX0) rfl (by decide) (by kernel_rfl) ⟨rfl, by decide, by decide⟩ ?F (fun _ _ _ _ z => z)
    intro w mg fa h Y G hmg0
    obtain ⟨K, KX, c⟩ := Y
    have hmg : mg ("law" : PySem.Str) = some (.ref fa) := by
      have e : (HandSHeadRun.topDef (OpenLaw.row PySem.Challenge.rw_oneheadeach_k75_signing_sayings).prog 20).name = ("law" : PySem.Str) := by kernel_rfl
      rw [← e]
      exact hmg0
    have hd : FL.Hd K75.L w K mg h := ⟨⟨h, c⟩, KX, G⟩
    have e := hmg.symm.trans (hd.glo (by decide))
    cases e
    obtain ⟨fd, hb, hF⟩ := K75.ok_law (P := (PySem.Challenge.rw_oneheadeach_k75_signing_sayings).prog) ⟨h, c⟩
    exact ⟨K, fd, FL.spD ⟨K, w⟩ K75.F_law 1, KX, hb, fun H a ns hl _ hS => FL.law_sp hS (K75.law_plain ns hl), fun base KB GB => hF mg base KB GB⟩

end
