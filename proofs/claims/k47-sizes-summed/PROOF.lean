import PyProof.Rows.All
import Wide.All
import OpenK.AllK
import Wide.FinOn
import KE.KStateDown
import Lean
import HandS.ForMost
import HandS.Defaults
import HandS.IsInst
import HandS.Wide
import HandS.HeadHook1
import HandS.HeadHook3
import HandS.Style
import HandS.SortInts
import HandS.TupAny
import HandS.Text
import HandS.OwnEq
import HandS.Gcd
import HandS.More
import HandS.WideBits
import HandS.WideMore
import HandS.HeadHook4
import HandS.HeadEnd
import PySem.Challenge.RW_oneheadeach_k47_sizes_summed
import HandS.Head0
import HandS.Head1
import HandS.Head2
import HandS.HeadHook2
import HandS.Head3
set_option Elab.async false
set_option linter.all false
set_option maxRecDepth 100000
noncomputable section
section
set_option maxHeartbeats 1000000
/-! FL0: data D in place of heap objects; what represents what; ownership. -/
namespace FL
open PySem PySem.Spec PyProof.Rows L2

/-- the written part, the world -/
structure KW where
  F : PySem.W.Frag
  w : World
abbrev _root_.L2.Cx.kw (X : Cx) : KW := ⟨X.K, X.w⟩

inductive D where
  | und | non | bl (b : Bool) | int (i : Int) | str (x : Str)
  | lst (xs : List D) | flst (xs : List D) | tup (xs : List D) | own (xs : List D)
  | ins (C : Str) (ks : List Str) (xs : List D) | oins (C : Str) (ks : List Str) (xs : List D)
  | ty (n : String) | cls (C : Str)
  | kd (x : Str) (kvs : List (Str × D))

mutual
/-- the same, no more to be changed -/
def D.sh : D → D
  | .own xs => .lst (D.shs xs)
  | .oins C ks xs => .ins C ks (D.shs xs)
  | .und => .und
  | .non => .non
  | .bl b => .bl b
  | .int i => .int i
  | .str x => .str x
  | .lst xs => .lst xs
  | .flst xs => .flst xs
  | .tup xs => .tup xs
  | .ins C ks xs => .ins C ks xs
  | .ty n => .ty n
  | .cls C => .cls C
  | .kd x kvs => .kd x kvs
def D.shs : List D → List D
  | [] => []
  | d :: r => d.sh :: D.shs r
end
def Ex (H H' : Hp) : Prop := ∀ a o, H a = some o → H' a = some o
theorem Ex.refl (H : Hp) : Ex H H := fun _ _ h => h
theorem Ex.trans {H H1 H2 : Hp} (a : Ex H H1) (b : Ex H1 H2) : Ex H H2 := fun x o h => b x o (a x o h)
theorem Ex.new {H : Hp} {p : Addr} {o : HO} (h : H p = none) : Ex H (upd H p o) := fun a u e => by
  rw [upd_ne (ne_of_none e h)]
  exact e
/-- an object that B does not know may change -/
theorem Ex.mut {B H : Hp} {p : Addr} {o : HO} (e : Ex B H) (h : B p = none) : Ex B (upd H p o) := fun a u ha => by
  rw [upd_ne (ne_of_none ha h)]
  exact e a u ha
theorem ex_rd {H H' : Hp} {a : Addr} {u : HO} (e : Ex H H') (h : Rd H a u) : Rd H' a u := by
  rcases h with h | ⟨o, h⟩
  · exact Or.inl (e a _ h)
  · exact Or.inr ⟨o, e a _ h⟩
theorem ex_l {K : KW} {H H' : Hp} {a : Addr} {xs : List V} (e : Ex H H') (h : SqL K.F H a xs) : SqL K.F H' a xs := by
  rcases h with h | h
  · exact Or.inl (ex_rd e h)
  · exact Or.inr h
theorem ex_t {K : KW} {H H' : Hp} {a : Addr} {xs : List V} (e : Ex H H') (h : SqT K.F H a xs) : SqT K.F H' a xs := by
  rcases h with h | h
  · exact Or.inl (ex_rd e h)
  · exact Or.inr h

/-- a tuple: tracked, or of the top -/
def TQ (K : PySem.W.Frag) (H : Hp) (a : Addr) (xs : List V) : Prop := H a = some (.tup xs) ∨
    ∃ (o : Obj) (its : Array Value) (n : Nat), K.lookup a = some o ∧ o.cls = .type "tuple" ∧ o.data = .seq its n ∧ its.size ≤ sizeLine ∧ Vals xs its.toList
theorem TQ.sq {K : PySem.W.Frag} {H : Hp} {a : Addr} {xs : List V} (h : TQ K H a xs) : SqT K H a xs := h.elim (fun h => .of h) .inr
theorem ex_tq {K : PySem.W.Frag} {H H' : Hp} {a : Addr} {xs : List V} (e : Ex H H') (h : TQ K H a xs) : TQ K H' a xs := h.elim (fun h => .inl (e _ _ h)) .inr
/-- the entries of a dict of the top -/
def KD (K : KW) (x : Str) (kvs : List (Str × D)) (vs : List V) : Prop := vs.length = kvs.length ∧ ∀ z : Str, match (kvs.map (·.1)).findIdx? (· == z) with
  | none => PySem.W.nsIn K.F (He.ga K.F x) z = some none
  | some i => ∃ u v, PySem.W.nsIn K.F (He.ga K.F x) z = some (some u) ∧ vs[i]? = some v ∧ RelV v u
mutual
/-- v is d, for ever -/
inductive Rep (K : KW) (H : Hp) : V → D → Prop
  | und {v} : Rep K H v .und
  | non : Rep K H .non .non
  | bl {b} : Rep K H (.bl b) (.bl b)
  | int {i} : Rep K H (.int i) (.int i)
  | str {x} : Rep K H (.str x) (.str x)
  | ty {n} : Rep K H (.ty n) (.ty n)
  | cls {C} : Rep K H (.ref (He.ga K.F C)) (.cls C)
  | kd {x kvs es n vs} : KDict K.F K.w (He.ga K.F x) es n → KD K x kvs vs → Reps K H vs (kvs.map (·.2)) → Rep K H (.ref (He.ga K.F x)) (.kd x kvs)
  | lst {a vs ds} : H a = some (.lst vs) → Reps K H vs ds → Rep K H (.ref a) (.lst ds)
  | flst {a vs ds} : SqL K.F H a vs → Reps K H vs ds → Rep K H (.ref a) (.flst ds)
  | tup {a vs ds} : TQ K.F H a vs → Reps K H vs ds → Rep K H (.ref a) (.tup ds)
  | ins {a C dx fs ks vs ds} : H a = some (.ins (He.ga K.F C) dx fs) → fs.map (·.1) = ks → fs.map (·.2) = vs → Reps K H vs ds → Rep K H (.ref a) (.ins C ks ds)
inductive Reps (K : KW) (H : Hp) : List V → List D → Prop
  | nil : Reps K H [] []
  | cons {v d vs ds} : Rep K H v d → Reps K H vs ds → Reps K H (v :: vs) (d :: ds)
end
mutual
theorem Rep.mono {K : KW} {H H' : Hp} {v : V} {d : D} (e : Ex H H') (h : Rep K H v d) : Rep K H' v d := match h with
  | .und => .und
  | .non => .non
  | .bl => .bl
  | .int => .int
  | .str => .str
  | .ty => .ty
  | .cls => .cls
  | .kd a b r => .kd a b (Reps.mono e r)
  | .lst s r => .lst (e _ _ s) (Reps.mono e r)
  | .flst s r => .flst (ex_l e s) (Reps.mono e r)
  | .tup s r => .tup (ex_tq e s) (Reps.mono e r)
  | .ins s k u r => .ins (e _ _ s) k u (Reps.mono e r)
theorem Reps.mono {K : KW} {H H' : Hp} {vs : List V} {ds : List D} (e : Ex H H') (h : Reps K H vs ds) : Reps K H' vs ds := match h with
  | .nil => .nil
  | .cons a b => .cons (Rep.mono e a) (Reps.mono e b)
end
theorem Reps.length {K : KW} {H : Hp} : ∀ {vs : List V} {ds : List D}, Reps K H vs ds → vs.length = ds.length
  | _, _, .nil => rfl
  | _, _, .cons _ r => by rw [List.length_cons, List.length_cons, Reps.length r]
theorem Reps.get {K : KW} {H : Hp} : ∀ {vs : List V} {ds : List D} {i : Nat} {d : D}, Reps K H vs ds → ds[i]? = some d → ∃ v, vs[i]? = some v ∧ Rep K H v d
  | _, _, _, _, .nil, e => by simp at e
  | _, _, 0, _, .cons r _, e => by simp at e; subst e; exact ⟨_, rfl, r⟩
  | _, _, i + 1, d, .cons _ t, e => by
    obtain ⟨u, h1, h2⟩ := Reps.get (i := i) (d := d) t (by simpa using e)
    exact ⟨u, by simpa using h1, h2⟩

mutual
/-- the slot o holds d; fp: the objects that nobody else knows -/
inductive OS (K : KW) (B H : Hp) : Option V → D → List Addr → Prop
  | und {o} : OS K B H o .und []
  | sh {v d} : Rep K B v d → OS K B H (some v) d []
  | own {p vs os ds fp} : B p = none → H p = some (.lst vs) → vs.map some = os → OSs K B H os ds fp → OS K B H (some (.ref p)) (.own ds) (p :: fp)
  | oins {p C dx fs ks os ds fp} : B p = none → H p = some (.ins (He.ga K.F C) dx fs) → fs.map (·.1) = ks → (fs.map fun q => some q.2) = os → OSs K B H os ds fp → OS K B H (some (.ref p)) (.oins C ks ds) (p :: fp)
inductive OSs (K : KW) (B H : Hp) : List (Option V) → List D → List Addr → Prop
  | nil : OSs K B H [] [] []
  | cons {o d os ds f1 f2 fp} : OS K B H o d f1 → OSs K B H os ds f2 → fp = f1 ++ f2 → OSs K B H (o :: os) (d :: ds) fp
end
mutual
theorem OS.frame {K : KW} {B H B' H' : Hp} {o : Option V} {d : D} {fp : List Addr} (e : Ex B B') (hB : ∀ q ∈ fp, B' q = none) (hH : ∀ q ∈ fp, H' q = H q) (h : OS K B H o d fp) : OS K B' H' o d fp := match h with
  | .und => .und
  | .sh r => .sh (r.mono e)
  | .own (p := p) (fp := f) _ l m r => .own (hB p List.mem_cons_self) ((hH p List.mem_cons_self).trans l) m (OSs.frame e (fun q hq => hB q (List.mem_cons_of_mem _ hq)) (fun q hq => hH q (List.mem_cons_of_mem _ hq)) r)
  | .oins (p := p) (fp := f) _ l k m r => .oins (hB p List.mem_cons_self) ((hH p List.mem_cons_self).trans l) k m (OSs.frame e (fun q hq => hB q (List.mem_cons_of_mem _ hq)) (fun q hq => hH q (List.mem_cons_of_mem _ hq)) r)
theorem OSs.frame {K : KW} {B H B' H' : Hp} {os : List (Option V)} {ds : List D} {fp : List Addr} (e : Ex B B') (hB : ∀ q ∈ fp, B' q = none) (hH : ∀ q ∈ fp, H' q = H q) (h : OSs K B H os ds fp) : OSs K B' H' os ds fp := match h with
  | .nil => .nil
  | .cons (f1 := f1) (f2 := f2) a b z => .cons (OS.frame e (fun q hq => hB q (z ▸ List.mem_append_left _ hq)) (fun q hq => hH q (z ▸ List.mem_append_left _ hq)) a)
      (OSs.frame e (fun q hq => hB q (z ▸ List.mem_append_right _ hq)) (fun q hq => hH q (z ▸ List.mem_append_right _ hq)) b) z
end
mutual
theorem OS.there {K : KW} {B H : Hp} {o : Option V} {d : D} {fp : List Addr} (h : OS K B H o d fp) : ∀ q ∈ fp, B q = none ∧ ∃ u, H q = some u := match h with
  | .und => fun _ hq => nomatch hq
  | .sh _ => fun _ hq => nomatch hq
  | .own b l _ r => fun q hq => (List.mem_cons.mp hq).elim (fun e => e ▸ ⟨b, _, l⟩) (OSs.there r q)
  | .oins b l _ _ r => fun q hq => (List.mem_cons.mp hq).elim (fun e => e ▸ ⟨b, _, l⟩) (OSs.there r q)
theorem OSs.there {K : KW} {B H : Hp} {os : List (Option V)} {ds : List D} {fp : List Addr} (h : OSs K B H os ds fp) : ∀ q ∈ fp, B q = none ∧ ∃ u, H q = some u := match h with
  | .nil => fun _ hq => nomatch hq
  | .cons a b z => fun q hq => by
    rw [z] at hq
    exact (List.mem_append.mp hq).elim (OS.there a q) (OSs.there b q)
end
theorem OSs.len {K : KW} {B H : Hp} : ∀ {os : List (Option V)} {ds : List D} {fp : List Addr}, OSs K B H os ds fp → os.length = ds.length
  | _, _, _, .nil => rfl
  | _, _, _, .cons _ r _ => by rw [List.length_cons, List.length_cons, OSs.len r]

/-- B with what stands at fp -/
def kn (B H : Hp) (fp : List Addr) : Hp := fun q => if q ∈ fp then H q else B q
theorem kn_in {B H : Hp} {fp : List Addr} {q : Addr} (h : q ∈ fp) : kn B H fp q = H q := if_pos h
theorem kn_out {B H : Hp} {fp : List Addr} {q : Addr} (h : q ∉ fp) : kn B H fp q = B q := if_neg h
theorem kn_ex {B H : Hp} {fp : List Addr} (hB : ∀ q ∈ fp, B q = none) : Ex B (kn B H fp) := fun a o h => by
  have n : a ∉ fp := fun z => by rw [hB a z] at h; cases h
  rw [kn_out n]; exact h
theorem kn_le {B H : Hp} {fp : List Addr} (e : Ex B H) : Ex (kn B H fp) H := fun a o h => by
  by_cases z : a ∈ fp
  · rw [kn_in z] at h; exact h
  · rw [kn_out z] at h; exact e a o h

theorem Rep.sh {K : KW} {B : Hp} {v : V} {d : D} (h : Rep K B v d) : d.sh = d := by cases h <;> rfl
mutual
theorem OS.share {K : KW} {B H B' : Hp} {v : V} {d : D} {fp : List Addr} (e : Ex B B') (hk : ∀ q ∈ fp, B' q = H q) (h : OS K B H (some v) d fp) : Rep K B' v d.sh := match h with
  | .und => .und
  | .sh r => by rw [r.sh]; exact r.mono e
  | .own (p := p) (fp := f) b l m r => .lst ((hk p List.mem_cons_self).trans l) (OSs.share e (fun q hq => hk q (List.mem_cons_of_mem _ hq)) m r)
  | .oins (p := p) (fs := fs) (fp := f) b l k m r => .ins ((hk p List.mem_cons_self).trans l) k rfl (OSs.share e (fun q hq => hk q (List.mem_cons_of_mem _ hq)) (by rw [← m, List.map_map]; rfl) r)
theorem OSs.share {K : KW} {B H B' : Hp} {vs : List V} {os : List (Option V)} {ds : List D} {fp : List Addr} (e : Ex B B') (hk : ∀ q ∈ fp, B' q = H q) (m : vs.map some = os) (h : OSs K B H os ds fp) : Reps K B' vs (D.shs ds) := match h with
  | .nil => by
    have z : vs = [] := by simpa using m
    subst z
    exact .nil
  | .cons (o := o) (os := os2) (f1 := f1) (f2 := f2) a b z => by
    cases vs with
    | nil => cases m
    | cons v vs =>
      have m1 : some v = o := (List.cons.inj m).1
      have m2 : vs.map some = os2 := (List.cons.inj m).2
      subst m1
      exact .cons (OS.share e (fun q hq => hk q (z ▸ List.mem_append_left _ hq)) a) (OSs.share e (fun q hq => hk q (z ▸ List.mem_append_right _ hq)) m2 b)
end
/-- one slot taken out; what it holds may be put back, or anything else -/
theorem OSs.split {K : KW} {B H : Hp} : ∀ {os : List (Option V)} {ds : List D} {fp : List Addr} {i : Nat} {d : D}, OSs K B H os ds fp → ds[i]? = some d →
    ∃ o fi fr, os[i]? = some o ∧ OS K B H o d fi ∧ fp.Perm (fi ++ fr) ∧ ∀ {B' H' : Hp} {o' : Option V} {d' : D} {f' : List Addr}, Ex B B' → (∀ q ∈ fr, B' q = none) → (∀ q ∈ fr, H' q = H q) → OS K B' H' o' d' f' → ∃ fp', OSs K B' H' (os.set i o') (ds.set i d') fp' ∧ fp'.Perm (f' ++ fr)
  | _, _, _, _, _, .nil, e => by simp at e
  | _, _, _, 0, d, .cons (o := o) (os := os) (ds := ds) (f1 := f1) (f2 := f2) a b z, e => by
    have e1 : _ = d := Option.some.inj e
    subst e1
    refine ⟨o, f1, f2, rfl, a, z ▸ List.Perm.refl _, fun {B' H' o' d' f'} eB hB hH n => ⟨f' ++ f2, .cons n (b.frame eB hB hH) rfl, List.Perm.refl _⟩⟩
  | _, _, _, i + 1, d, .cons (o := o) (os := os) (ds := ds) (f1 := f1) (f2 := f2) a b z, e => by
    obtain ⟨o1, fi, fr, h1, h2, h3, h4⟩ := OSs.split (i := i) (d := d) b (by simpa using e)
    refine ⟨o1, fi, f1 ++ fr, by simpa using h1, h2, ?_, fun {B' H' o' d' f'} eB hB hH n => ?_⟩
    · rw [z]
      exact (List.Perm.append_left f1 h3).trans (by
        rw [← List.append_assoc, ← List.append_assoc]
        exact List.Perm.append_right fr List.perm_append_comm)
    · obtain ⟨fp', g1, g2⟩ := h4 eB (fun q hq => hB q (List.mem_append_right _ hq)) (fun q hq => hH q (List.mem_append_right _ hq)) n
      refine ⟨f1 ++ fp', .cons (a.frame eB (fun q hq => hB q (List.mem_append_left _ hq)) (fun q hq => hH q (List.mem_append_left _ hq))) g1 rfl, ?_⟩
      exact (List.Perm.append_left f1 g2).trans (by
        rw [← List.append_assoc, ← List.append_assoc]
        exact List.Perm.append_right fr List.perm_append_comm)
/-- the whole: what is known, the slots, their own objects -/
structure W (K : KW) (B H : Hp) (os : List (Option V)) (ds : List D) (fp : List Addr) : Prop where
  ex : Ex B H
  os : OSs K B H os ds fp
  nd : fp.Nodup
/-- from B, H to B', H': M may change, new things may come -/
structure Tr (B H : Hp) (M : List Addr) (B' H' : Hp) : Prop where
  bb : Ex B B'
  keep : ∀ q o, H q = some o → q ∉ M → H' q = some o
  bnew : ∀ q o, B' q = some o → B q = some o ∨ q ∈ M ∨ H q = none
def Sub (H : Hp) (M fp : List Addr) : Prop := ∀ q ∈ fp, q ∈ M ∨ H q = none
theorem Tr.refl {B H : Hp} {M : List Addr} : Tr B H M B H := ⟨Ex.refl _, fun _ _ h _ => h, fun _ _ h => .inl h⟩
theorem Sub.refl {H : Hp} {M : List Addr} : Sub H M M := fun _ h => .inl h
theorem Tr.trans {B H B1 H1 B2 H2 : Hp} {M M1 : List Addr} (a : Tr B H M B1 H1) (s : Sub H M M1) (b : Tr B1 H1 M1 B2 H2) : Tr B H M B2 H2 where
  bb := a.bb.trans b.bb
  keep := fun q o h n => b.keep q o (a.keep q o h n) fun z => (s q z).elim n fun e => by rw [h] at e; cases e
  bnew := fun q o h => by
    rcases b.bnew q o h with z | z | z
    · exact a.bnew q o z
    · exact .inr (s q z)
    · by_cases hm : q ∈ M
      · exact .inr (.inl hm)
      · cases e : H q with
        | none => exact .inr (.inr rfl)
        | some u => rw [a.keep q u e hm] at z; cases z
theorem Sub.trans {B H B1 H1 : Hp} {M M1 fp : List Addr} (a : Tr B H M B1 H1) (s : Sub H M M1) (t : Sub H1 M1 fp) : Sub H M fp := fun q hq => by
  rcases t q hq with z | z
  · exact s q z
  · by_cases hm : q ∈ M
    · exact .inl hm
    · cases e : H q with
      | none => exact .inr rfl
      | some u => rw [a.keep q u e hm] at z; cases z
/-- what stands aside of M stays -/
theorem OSs.aside {K : KW} {B H B' H' : Hp} {os : List (Option V)} {ds : List D} {fp M : List Addr} (h : OSs K B H os ds fp) (t : Tr B H M B' H') (n : ∀ q ∈ fp, q ∉ M) : OSs K B' H' os ds fp := by
  have th := h.there
  refine h.frame t.bb (fun q hq => ?_) fun q hq => ?_
  · cases e : B' q with
    | none => rfl
    | some u =>
      obtain ⟨b, u', hu⟩ := th q hq
      rcases t.bnew q u e with z | z | z
      · rw [b] at z; cases z
      · exact absurd z (n q hq)
      · rw [hu] at z; cases z
  · obtain ⟨b, u', hu⟩ := th q hq
    rw [hu, t.keep q u' hu (n q hq)]
theorem OS.aside {K : KW} {B H B' H' : Hp} {o : Option V} {d : D} {fp M : List Addr} (h : OS K B H o d fp) (t : Tr B H M B' H') (n : ∀ q ∈ fp, q ∉ M) : OS K B' H' o d fp := by
  have z : OSs K B H [o] [d] fp := .cons h .nil (by simp)
  cases z.aside t n with
  | cons a b e =>
    cases b
    rw [e]
    simpa using a
end FL

end
section
set_option maxHeartbeats 1000000
/-! FL1: weakest preconditions over data; the judgements; variables, arguments, operations by contents. -/
namespace FL
open PySem PySem.Spec PyProof.Rows L2
abbrev St := L2.St

inductive R where
  | val (d : D) | slot (i : Nat)
/-- an error: its class, its fields -/
structure Exc where
  cls : Str
  ks : List Str
  ds : List D
abbrev XD := Exc → List D → Prop
abbrev WE := XD → List D → (R → List D → Prop) → Prop
abbrev WA := XD → List D → (List R → List D → Prop) → Prop
abbrev WT := XD → List D → (Bool → List D → Prop) → Prop
structure WEnds where
  nx : List D → Prop
  rt : D → List D → Prop
  bk : List D → Prop
  ct : List D → Prop
abbrev WS := XD → WEnds → List D → Prop

def D.known : D → Bool
  | .und => false
  | _ => true
/-- not one's own -/
def D.pl : D → Bool
  | .own _ => false
  | .oins _ _ _ => false
  | _ => true
def dAt (ρ : List D) (i : Nat) : D := ρ.getD i .und
/-- what a result holds -/
def R.get (ρ : List D) : R → D
  | .val d => d
  | .slot i => dAt ρ i
/-- a result as a value: a slot's is shared from now on -/
def R.tk (ρ : List D) : R → D
  | .val d => d
  | .slot i => (dAt ρ i).sh
def R.en (ρ : List D) : R → List D
  | .val _ => ρ
  | .slot i => ρ.set i (dAt ρ i).sh

section
variable {K : KW} {B H B' H' : Hp} {σ : St} {ρ ρ' : List D} {fp : List Addr}
/-- results and their values -/
inductive ROs (K : KW) (B H : Hp) (σ : St) : List V → List R → List Addr → Prop
  | nil : ROs K B H σ [] [] []
  | val {v d vs rs f1 f2 fp} : OS K B H (some v) d f1 → ROs K B H σ vs rs f2 → fp = f1 ++ f2 → ROs K B H σ (v :: vs) (.val d :: rs) fp
  | slot {v i vs rs fp} : σ[i]? = some (some v) → ROs K B H σ vs rs fp → ROs K B H σ (v :: vs) (.slot i :: rs) fp
theorem ROs.there {vs : List V} {rs : List R} (h : ROs K B H σ vs rs fp) : ∀ q ∈ fp, B q = none ∧ ∃ u, H q = some u := by
  induction h with
  | nil => exact fun _ hq => nomatch hq
  | val a _ z ih =>
    intro q hq
    rw [z] at hq
    exact (List.mem_append.mp hq).elim (a.there q) (ih q)
  | slot _ _ ih => exact ih
theorem ROs.aside {vs : List V} {rs : List R} {M : List Addr} (h : ROs K B H σ vs rs fp) (t : Tr B H M B' H') (n : ∀ q ∈ fp, q ∉ M) : ROs K B' H' σ vs rs fp := by
  induction h with
  | nil => exact .nil
  | val a _ z ih => exact .val (a.aside t fun q hq => n q (z ▸ List.mem_append_left _ hq)) (ih fun q hq => n q (z ▸ List.mem_append_right _ hq)) z
  | slot e _ ih => exact .slot e (ih n)
theorem ROs.append {vs vs2 : List V} {rs rs2 : List R} {f1 f2 : List Addr} (h : ROs K B H σ vs rs f1) (h2 : ROs K B H σ vs2 rs2 f2) : ROs K B H σ (vs ++ vs2) (rs ++ rs2) (f1 ++ f2) := by
  induction h with
  | nil => exact h2
  | val a _ z ih => exact .val a ih (by rw [z, List.append_assoc])
  | slot e _ ih => exact .slot e ih
theorem ROs.length {vs : List V} {rs : List R} (h : ROs K B H σ vs rs fp) : vs.length = rs.length := by
  induction h with
  | nil => rfl
  | val _ _ _ ih => simp [ih]
  | slot _ _ ih => simp [ih]

theorem OSs.at {os : List (Option V)} {ds : List D} {i : Nat} {v : V} (h : OSs K B H os ds fp) (e : os[i]? = some (some v)) : ∃ f, OS K B H (some v) (dAt ds i) f := by
  have hl : i < ds.length := by
    rw [← h.len]
    exact (List.getElem?_eq_some_iff.mp e).1
  obtain ⟨o, fi, fr, h1, h2, _⟩ := h.split (i := i) (d := ds[i]) (List.getElem?_eq_getElem hl)
  rw [e] at h1
  cases h1
  refine ⟨fi, ?_⟩
  unfold dAt
  rw [List.getD_eq_getElem?_getD, List.getElem?_eq_getElem hl]
  exact h2
theorem OS.plain {v : V} {d : D} (h : OS K B H (some v) d fp) (p : d.pl = true) : Rep K B v d := by
  cases h with
  | und => exact .und
  | sh r => exact r
  | own => cases p
  | oins => cases p

theorem OS.some_of {o : Option V} {d : D} (h : OS K B H o d fp) (k : d.known = true) : ∃ v, o = some v := by
  cases h with
  | und => cases k
  | sh r => exact ⟨_, rfl⟩
  | own => exact ⟨_, rfl⟩
  | oins => exact ⟨_, rfl⟩
/-- values and what they hold, loosely -/
inductive Cont (K : KW) (B H : Hp) : List V → List D → Prop
  | nil : Cont K B H [] []
  | cons {v d vs ds f} : OS K B H (some v) d f → Cont K B H vs ds → Cont K B H (v :: vs) (d :: ds)
theorem ROs.cont {vs : List V} {rs : List R} {fp2 : List Addr} (h : ROs K B H σ vs rs fp) (g : OSs K B H σ ρ fp2) : Cont K B H vs (rs.map (R.get ρ)) := by
  induction h with
  | nil => exact .nil
  | val a _ z ih => exact .cons a ih
  | slot e _ ih =>
    obtain ⟨f, q⟩ := g.at e
    exact .cons q ih

structure PostRs (K : KW) (σ : St) (B H : Hp) (fp : List Addr) (rs : List R) (ρ' : List D) (vs : List V) (B' H' : Hp) : Prop where
  tr : Tr B H fp B' H'
  ex : Ex B' H'
  rep : ∃ fd fs, ROs K B' H' σ vs rs fd ∧ OSs K B' H' σ ρ' fs ∧ (fd ++ fs).Nodup ∧ Sub H fp (fd ++ fs)
/-- an error that leaves -/
structure PostX (K : KW) (σ : St) (B H : Hp) (fp : List Addr) (x : Exc) (ρ' : List D) (c : Value) (d : Option Addr) (B' H' : Hp) : Prop where
  tr : Tr B H fp B' H'
  ex : Ex B' H'
  rep : ∃ fs, OSs K B' H' σ ρ' fs ∧ fs.Nodup ∧ Sub H fp fs
  obj : ∃ a fl, c = .ref (He.ga K.F x.cls) ∧ d = some a ∧ H' a = some (.xd fl) ∧ fl.map (·.1) = x.ks ∧ Reps K B' (fl.map (·.2)) x.ds

theorem W.refl {os : List (Option V)} {ds : List D} (w : W K B H os ds fp) : PostRs K os B H fp [] ds [] B H := ⟨Tr.refl, w.ex, [], fp, .nil, w.os, w.nd, Sub.refl⟩
/-- what comes next starts here; then both are one -/
theorem PostRs.step {B1 H1 : Hp} {rs : List R} {ρ1 : List D} {vs : List V} (a : PostRs K σ B H fp rs ρ1 vs B1 H1) : ∃ f1, W K B1 H1 σ ρ1 f1 ∧
    (∀ {rs2 : List R} {ρ2 : List D} {vs2 : List V} {B2 H2 : Hp}, PostRs K σ B1 H1 f1 rs2 ρ2 vs2 B2 H2 → PostRs K σ B H fp (rs ++ rs2) ρ2 (vs ++ vs2) B2 H2) ∧
    (∀ {ρ2 : List D} {x : Exc} {c : Value} {d : Option Addr} {B2 H2 : Hp}, PostX K σ B1 H1 f1 x ρ2 c d B2 H2 → PostX K σ B H fp x ρ2 c d B2 H2) := by
  obtain ⟨t1, e1, fd, fs, r1, o1, n1, s1⟩ := a
  have nfs : fs.Nodup := (List.nodup_append.mp n1).2.1
  have dis : ∀ q ∈ fd, q ∉ fs := fun q h1 h2 => (List.nodup_append.mp n1).2.2 q h1 q h2 rfl
  have sfs : Sub H fp fs := fun q hq => s1 q (List.mem_append_right _ hq)
  refine ⟨fs, ⟨e1, o1, nfs⟩, fun {rs2 ρ2 vs2 B2 H2} p2 => ?_, fun {ρ2 x c d B2 H2} p2 => ?_⟩
  · obtain ⟨t2, e2, fd2, fs2, r2, o2, n2, s2⟩ := p2
    refine ⟨t1.trans sfs t2, e2, fd ++ fd2, fs2, (r1.aside t2 dis).append r2, o2, ?_, ?_⟩
    · rw [List.append_assoc]
      refine List.nodup_append.mpr ⟨(List.nodup_append.mp n1).1, n2, fun q hq q' hq' e => ?_⟩
      subst e
      rcases s2 q hq' with z | z
      · exact dis q hq z
      · obtain ⟨_, u, hu⟩ := r1.there q hq
        rw [z] at hu; cases hu
    · intro q hq
      rw [List.append_assoc] at hq
      rcases List.mem_append.mp hq with z | z
      · exact s1 q (List.mem_append_left _ z)
      · exact Sub.trans t1 sfs s2 q z
  · obtain ⟨t2, e2, ⟨fs2, o2, n2, s2⟩, ob⟩ := p2
    exact ⟨t1.trans sfs t2, e2, ⟨fs2, o2, n2, Sub.trans t1 sfs s2⟩, ob⟩
end

/-! ### the judgements -/
def tE (K : KW) (Wx : WX) (f : WE) : TE := fun σ H Q => ∃ B ρ fp X P, W K B H σ ρ fp ∧ f X ρ P ∧
  (∀ r ρ' v B' H', P r ρ' → PostRs K σ B H fp [r] ρ' [v] B' H' → Q v H') ∧ (∀ x ρ' c d B' H', X x ρ' → PostX K σ B H fp x ρ' c d B' H' → Wx c d σ H')
def tA (K : KW) (Wx : WX) (f : WA) : TA := fun σ H Q => ∃ B ρ fp X P, W K B H σ ρ fp ∧ f X ρ P ∧
  (∀ rs ρ' vs B' H', P rs ρ' → PostRs K σ B H fp rs ρ' vs B' H' → Q vs H') ∧ (∀ x ρ' c d B' H', X x ρ' → PostX K σ B H fp x ρ' c d B' H' → Wx c d σ H')
def tT (K : KW) (Wx : WX) (f : WT) : TT := fun σ H Q => ∃ B ρ fp X P, W K B H σ ρ fp ∧ f X ρ P ∧
  (∀ b ρ' B' H', P b ρ' → PostRs K σ B H fp [] ρ' [] B' H' → Q b H') ∧ (∀ x ρ' c d B' H', X x ρ' → PostX K σ B H fp x ρ' c d B' H' → Wx c d σ H')
abbrev PF (X : Cx) (Wx : WX) (e : Expr) (f : WE) : Prop := PE X e (tE X.kw Wx f)
abbrev PFA (X : Cx) (Wx : WX) (es : List Expr) (f : WA) : Prop := PA X es (tA X.kw Wx f)
abbrev PFT (X : Cx) (Wx : WX) (e : Expr) (f : WT) : Prop := PT X e (tT X.kw Wx f)

section
variable {X : Cx} {Wx : WX}
theorem pe_imp {e : Expr} {t t' : TE} (h : PE X e t) (i : ∀ σ H Q, t' σ H Q → t σ H Q) : PE X e t' := ⟨fun pins s σ H Q I hw => h.run pins s σ H Q I (i _ _ _ hw)⟩
theorem pa_imp {e : List Expr} {t t' : TA} (h : PA X e t) (i : ∀ σ H Q, t' σ H Q → t σ H Q) : PA X e t' := ⟨fun pos pins s σ H Q I hw => h.run pos pins s σ H Q I (i _ _ _ hw)⟩
theorem pt_imp {e : Expr} {t t' : TT} (h : PT X e t) (i : ∀ σ H Q, t' σ H Q → t σ H Q) : PT X e t' := ⟨fun pins s σ H Q I hw => h.run pins s σ H Q I (i _ _ _ hw)⟩
theorem pw_imp {e : Expr} {t t' : TT} (h : PW X e t) (i : ∀ σ H Q, t' σ H Q → t σ H Q) : PW X e t' := ⟨fun w pins s σ H Q I hw => h.run w pins s σ H Q I (i _ _ _ hw)⟩

/-! ### names, constants -/
def wVar (i : Nat) : WE := fun _ ρ P => (dAt ρ i).known = true ∧ P (.slot i) ρ
theorem pf_var {i : Nat} {e : Expr} (h : PE X e (tVar i)) : PF X Wx e (wVar i) := pe_imp h fun σ H Q => by
  rintro ⟨B, ρ, fp, Xd, P, w, ⟨hk, hP⟩, hQ, _⟩
  have hi : i < ρ.length := by
    unfold dAt at hk
    rw [List.getD_eq_getElem?_getD] at hk
    cases e : ρ[i]? with
    | none => rw [e] at hk; cases hk
    | some d => exact (List.getElem?_eq_some_iff.mp e).1
  obtain ⟨o, fi, fr, h1, h2, _⟩ := w.os.split (i := i) (d := ρ[i]) (List.getElem?_eq_getElem hi)
  have hd : dAt ρ i = ρ[i] := by
    unfold dAt
    rw [List.getD_eq_getElem?_getD, List.getElem?_eq_getElem hi]
    rfl
  rw [hd] at hk
  have hv : ∃ v, o = some v := h2.some_of hk
  obtain ⟨v, rfl⟩ := hv
  refine ⟨v, h1, hQ (.slot i) ρ v B H hP ⟨Tr.refl, w.ex, [], fp, .slot h1 .nil, w.os, w.nd, Sub.refl⟩⟩
def wC (d : D) : WE := fun _ ρ P => P (.val d) ρ
theorem pf_c {v : V} {d : D} {e : Expr} (h : PE X e (tC v)) (r : ∀ B, Rep X.kw B v d) : PF X Wx e (wC d) := pe_imp h fun σ H Q => by
  rintro ⟨B, ρ, fp, Xd, P, w, hP, hQ, _⟩
  exact hQ (.val d) ρ v B H hP ⟨Tr.refl, w.ex, [], fp, .val (f2 := []) (.sh (r B)) .nil rfl, w.os, w.nd, Sub.refl⟩

/-! ### arguments -/
def wNil : WA := fun _ ρ P => P [] ρ
def wCons (f : WE) (g : WA) : WA := fun X ρ P => f X ρ fun r ρ1 => g X ρ1 fun rs ρ2 => P (r :: rs) ρ2
theorem pfa_nil : PFA X Wx [] wNil := pa_imp pa_nil fun σ H Q => by
  rintro ⟨B, ρ, fp, Xd, P, w, hP, hQ, _⟩
  exact hQ [] ρ [] B H hP w.refl
theorem pfa_cons {e : Expr} {es : List Expr} {f : WE} {g : WA} (he : PF X Wx e f) (hs : PFA X Wx es g) (na : starEach (e :: es) X.env = (false, eval e X.env) :: starEach es X.env) : PFA X Wx (e :: es) (wCons f g) := pa_imp (pa_cons he hs na) fun σ H Q => by
  rintro ⟨B, ρ, fp, Xd, P, w, hP, hQ, hX⟩
  refine ⟨B, ρ, fp, Xd, _, w, hP, fun r ρ1 v B1 H1 h1 p1 => ?_, hX⟩
  obtain ⟨f1, w1, k, kx⟩ := p1.step
  exact ⟨B1, ρ1, f1, Xd, _, w1, h1, fun rs ρ2 vs B2 H2 h2 p2 => hQ _ ρ2 _ B2 H2 h2 (k p2), fun x ρ' c d B' H' hx px => hX x ρ' c d B' H' hx (kx px)⟩
end

/-! ### what an operation makes -/
structure New (K : KW) (B H : Hp) (d : D) (v : V) (B' H' : Hp) (fd : List Addr) : Prop where
  hh : Ex H H'
  bb : Ex B B'
  ex : Ex B' H'
  bnew : ∀ q o, B' q = some o → B q = some o ∨ H q = none
  os : OS K B' H' (some v) d fd
  nd : fd.Nodup
  new : ∀ q ∈ fd, H q = none
section
variable {K : KW} {B H B' H' : Hp} {σ : St} {ρ ρ' : List D} {fp : List Addr}
theorem New.same {d : D} {v : V} (e : Ex B H) (r : Rep K B v d) : New K B H d v B H [] := ⟨Ex.refl _, Ex.refl _, e, fun _ _ h => .inl h, .sh r, List.nodup_nil, fun _ h => nomatch h⟩
theorem Reps.oss {vs : List V} {ds : List D} (h : Reps K B vs ds) : OSs K B H (vs.map some) ds [] := match h with
  | .nil => .nil
  | .cons a b => .cons (.sh a) (Reps.oss b) rfl
theorem New.own {p : Addr} {vs : List V} {ds : List D} (e : Ex B H) (n : H p = none) (r : Reps K B vs ds) : New K B H (.own ds) (.ref p) B (upd H p (.lst vs)) [p] := by
  have bn : B p = none := by
    cases z : B p with
    | none => rfl
    | some o => rw [e p o z] at n; cases n
  exact ⟨Ex.new n, Ex.refl _, e.trans (Ex.new n), fun _ _ h => .inl h, .own bn upd_same rfl r.oss, by simp, fun q hq => by
    have z : q = p := by simpa using hq
    rw [z]; exact n⟩
theorem Ex.upd2 {p : Addr} {o : HO} (e : Ex B H) : Ex (upd B p o) (upd H p o) := fun a u h => by
  by_cases z : a = p
  · subst z; rw [upd_same] at h ⊢; exact h
  · rw [upd_ne z] at h ⊢; exact e a u h
theorem New.tup {p : Addr} {vs : List V} {ds : List D} (e : Ex B H) (n : H p = none) (r : Reps K B vs ds) : New K B H (.tup ds) (.ref p) (upd B p (.tup vs)) (upd H p (.tup vs)) [] := by
  have bn : B p = none := by
    cases z : B p with
    | none => rfl
    | some o => rw [e p o z] at n; cases n
  refine ⟨Ex.new n, Ex.new bn, e.upd2, fun q o h => ?_, .sh (.tup (.inl upd_same) (r.mono (Ex.new bn))), List.nodup_nil, fun _ h => nomatch h⟩
  by_cases z : q = p
  · rw [z]; exact .inr n
  · rw [upd_ne z] at h; exact .inl h
theorem New.tr {d : D} {v : V} {fd M : List Addr} (n : New K B H d v B' H' fd) : Tr B H M B' H' := ⟨n.bb, fun q o h _ => n.hh q o h, fun q o h => (n.bnew q o h).elim .inl fun z => .inr (.inr z)⟩
theorem OSs.grow {os : List (Option V)} {ds : List D} {d : D} {v : V} {fd : List Addr} (h : OSs K B H os ds fp) (n : New K B H d v B' H' fd) : OSs K B' H' os ds fp := h.aside (n.tr (M := [])) (fun _ _ => by simp)
/-- the results are used up, this is what comes -/
theorem PostRs.new {B1 H1 B2 H2 : Hp} {rs : List R} {ρ1 : List D} {vs : List V} {d : D} {v : V} {fd : List Addr} (a : PostRs K σ B H fp rs ρ1 vs B1 H1) (n : New K B1 H1 d v B2 H2 fd) : PostRs K σ B H fp [.val d] ρ1 [v] B2 H2 := by
  obtain ⟨t1, e1, f1, fs, r1, o1, n1, s1⟩ := a
  have nfs : fs.Nodup := (List.nodup_append.mp n1).2.1
  have sfs : Sub H fp fs := fun q hq => s1 q (List.mem_append_right _ hq)
  have t2 : Tr B1 H1 fs B2 H2 := n.tr
  refine ⟨t1.trans sfs t2, n.ex, fd, fs, .val (f2 := []) n.os .nil (by simp), o1.grow n, ?_, ?_⟩
  · refine List.nodup_append.mpr ⟨n.nd, nfs, fun q hq q' hq' e => ?_⟩
    subst e
    obtain ⟨_, u, hu⟩ := o1.there q hq'
    rw [n.new q hq] at hu; cases hu
  · intro q hq
    rcases List.mem_append.mp hq with z | z
    · exact Sub.trans t1 sfs (fun q hq => .inr (n.new q hq)) q z
    · exact sfs q z
theorem PostRs.cont {rs : List R} {vs : List V} (a : PostRs K σ B H fp rs ρ' vs B' H') : Cont K B' H' vs (rs.map (R.get ρ')) := by
  obtain ⟨_, _, _, _, r1, o1, _⟩ := a
  exact r1.cont o1
/-- the results are used up -/
theorem PostRs.drop {rs : List R} {vs : List V} (a : PostRs K σ B H fp rs ρ' vs B' H') : PostRs K σ B H fp [] ρ' [] B' H' := by
  obtain ⟨t1, e1, f1, fs, r1, o1, n1, s1⟩ := a
  exact ⟨t1, e1, [], fs, .nil, o1, (List.nodup_append.mp n1).2.1, fun q hq => s1 q (List.mem_append_right _ hq)⟩
theorem Cont.one {v : V} {d : D} (h : Cont K B H [v] [d]) : ∃ f, OS K B H (some v) d f := by
  cases h with
  | cons a _ => exact ⟨_, a⟩
theorem Cont.two {v v2 : V} {d d2 : D} (h : Cont K B H [v, v2] [d, d2]) : (∃ f, OS K B H (some v) d f) ∧ ∃ f, OS K B H (some v2) d2 f := by
  cases h with
  | cons a b => exact ⟨⟨_, a⟩, b.one⟩
end

/-! ### operations by contents -/
def OpD (K : KW) (r : R2) (op : D → D → (D → Prop) → Prop) : Prop := ∀ (B H : Hp) (x y : V) (d e : D) (f g : List Addr) (P : D → Prop) (Q : VK), Ex B H → OS K B H (some x) d f → OS K B H (some y) e g → op d e P →
  (∀ z v B' H' fd, P z → New K B H z v B' H' fd → Q v H') → r x y H Q
def UnD (K : KW) (r : V → Hp → VK → Prop) (op : D → (D → Prop) → Prop) : Prop := ∀ (B H : Hp) (x : V) (d : D) (f : List Addr) (P : D → Prop) (Q : VK), Ex B H → OS K B H (some x) d f → op d P →
  (∀ z v B' H' fd, P z → New K B H z v B' H' fd → Q v H') → r x H Q
def CallD (K : KW) (r : List V → Hp → VK → Prop) (op : List D → (D → Prop) → Prop) : Prop := ∀ (B H : Hp) (vs : List V) (ds : List D) (P : D → Prop) (Q : VK), Ex B H → Cont K B H vs ds → op ds P →
  (∀ z v B' H' fd, P z → New K B H z v B' H' fd → Q v H') → r vs H Q
def wBin (op : D → D → (D → Prop) → Prop) (f g : WE) : WE := fun X ρ P => f X ρ fun r1 ρ1 => g X ρ1 fun r2 ρ2 => op (r1.get ρ2) (r2.get ρ2) fun d => P (.val d) ρ2
def wUn (op : D → (D → Prop) → Prop) (f : WE) : WE := fun X ρ P => f X ρ fun r ρ1 => op (r.get ρ1) fun d => P (.val d) ρ1
def wCB (op : List D → (D → Prop) → Prop) (f : WA) : WE := fun X ρ P => f X ρ fun rs ρ1 => op (rs.map (R.get ρ1)) fun d => P (.val d) ρ1
section
variable {K : KW} {Wx : WX}
theorem imp_bin {r : R2} {op : D → D → (D → Prop) → Prop} {f g : WE} (o : OpD K r op) (σ : St) (H : Hp) (Q : VK) (h : tE K Wx (wBin op f g) σ H Q) : tOp r (tE K Wx f) (tE K Wx g) σ H Q := by
  obtain ⟨B, ρ, fp, Xd, P, w, hP, hQ, hX⟩ := h
  refine ⟨B, ρ, fp, Xd, _, w, hP, fun r1 ρ1 v B1 H1 h1 p1 => ?_, hX⟩
  obtain ⟨f1, w1, k, kx⟩ := p1.step
  refine ⟨B1, ρ1, f1, Xd, _, w1, h1, fun r2 ρ2 v2 B2 H2 h2 p2 => ?_, fun x ρ' c d B' H' hx px => hX x ρ' c d B' H' hx (kx px)⟩
  have p12 := k p2
  obtain ⟨⟨fa, oa⟩, fb, ob⟩ := p12.cont.two
  exact o B2 H2 v v2 _ _ fa fb _ Q p12.ex oa ob h2 fun z u B' H' fd hz n => hQ _ ρ2 u B' H' hz (p12.new n)
theorem imp_un {r : V → Hp → VK → Prop} {op : D → (D → Prop) → Prop} {f : WE} (o : UnD K r op) (σ : St) (H : Hp) (Q : VK) (h : tE K Wx (wUn op f) σ H Q) : tUn r (tE K Wx f) σ H Q := by
  obtain ⟨B, ρ, fp, Xd, P, w, hP, hQ, hX⟩ := h
  refine ⟨B, ρ, fp, Xd, _, w, hP, fun r1 ρ1 v B1 H1 h1 p1 => ?_, hX⟩
  obtain ⟨fa, oa⟩ := p1.cont.one
  exact o B1 H1 v _ fa _ Q p1.ex oa h1 fun z u B' H' fd hz n => hQ _ ρ1 u B' H' hz (p1.new n)
theorem imp_cb {r : List V → Hp → VK → Prop} {op : List D → (D → Prop) → Prop} {f : WA} (o : CallD K r op) (σ : St) (H : Hp) (Q : VK) (h : tE K Wx (wCB op f) σ H Q) : tCB r (tA K Wx f) σ H Q := by
  obtain ⟨B, ρ, fp, Xd, P, w, hP, hQ, hX⟩ := h
  refine ⟨B, ρ, fp, Xd, _, w, hP, fun rs ρ1 vs B1 H1 h1 p1 => ?_, hX⟩
  exact o B1 H1 vs _ _ Q p1.ex p1.cont h1 fun z u B' H' fd hz n => hQ _ ρ1 u B' H' hz (p1.new n)
end

/-! ### tests -/
def wTest (f : WE) : WT := fun X ρ P => f X ρ fun r ρ1 => ∃ b, r.get ρ1 = .bl b ∧ P b ρ1
section
variable {X : Cx} {Wx : WX}
theorem OS.bl_of {K : KW} {B H : Hp} {v : V} {b : Bool} {f : List Addr} (h : OS K B H (some v) (.bl b) f) : v = .bl b := by
  cases h with
  | sh r => cases r; rfl
theorem pft_test {e : Expr} {te : TE} {f : WE} (h : PT X e (tTest te)) (i : ∀ σ H Q, tE X.kw Wx f σ H Q → te σ H Q) : PFT X Wx e (wTest f) := pt_imp h fun σ H Q => by
  rintro ⟨B, ρ, fp, Xd, P, w, hP, hQ, hX⟩
  refine i σ H _ ⟨B, ρ, fp, Xd, _, w, hP, fun r ρ1 v B1 H1 ⟨b, e1, h1⟩ p1 => ?_, hX⟩
  obtain ⟨fa, oa⟩ := p1.cont.one
  rw [e1] at oa
  exact ⟨b, oa.bl_of, hQ b ρ1 B1 H1 h1 p1.drop⟩
def wAndT (f g : WT) : WT := fun X ρ P => f X ρ fun b ρ1 => if b = true then g X ρ1 P else P false ρ1
def wOrT (f g : WT) : WT := fun X ρ P => f X ρ fun b ρ1 => if b = true then P true ρ1 else g X ρ1 P
def wNotT (f : WT) : WT := fun X ρ P => f X ρ fun b ρ1 => P (!b) ρ1
theorem imp_seqT {K : KW} {f g : WT} {c : Bool} (σ : St) (H : Hp) (Q : Bool → Hp → Prop)
    (h : tT K Wx (fun X ρ P => f X ρ fun b ρ1 => if b = c then g X ρ1 P else P b ρ1) σ H Q) : tT K Wx f σ H fun b H1 => if b = c then tT K Wx g σ H1 Q else Q b H1 := by
  obtain ⟨B, ρ, fp, Xd, P, w, hP, hQ, hX⟩ := h
  refine ⟨B, ρ, fp, Xd, _, w, hP, fun b ρ1 B1 H1 h1 p1 => ?_, hX⟩
  by_cases e : b = c
  · rw [if_pos e] at h1 ⊢
    obtain ⟨f1, w1, k, kx⟩ := p1.step
    exact ⟨B1, ρ1, f1, Xd, _, w1, h1, fun b2 ρ2 B2 H2 h2 p2 => hQ b2 ρ2 B2 H2 h2 (k p2), fun x ρ' c d B' H' hx px => hX x ρ' c d B' H' hx (kx px)⟩
  · rw [if_neg e] at h1 ⊢
    exact hQ b ρ1 B1 H1 h1 p1
theorem imp_and {K : KW} {f g : WT} (σ : St) (H : Hp) (Q : Bool → Hp → Prop) (h : tT K Wx (wAndT f g) σ H Q) : tAnd (tT K Wx f) (tT K Wx g) σ H Q := by
  have e : (wAndT f g) = (fun X ρ P => f X ρ fun b ρ1 => if b = true then g X ρ1 P else P b ρ1) := by
    funext X ρ P
    unfold wAndT
    congr 1
    funext b ρ1
    cases b <;> rfl
  rw [e] at h
  have z := imp_seqT σ H Q h
  unfold tAnd
  have e2 : (fun (c : Bool) H1 => if c = true then tT K Wx g σ H1 Q else Q false H1) = (fun (b : Bool) H1 => if b = true then tT K Wx g σ H1 Q else Q b H1) := by
    funext b H1
    cases b <;> rfl
  rw [e2]
  exact z
theorem imp_or {K : KW} {f g : WT} (σ : St) (H : Hp) (Q : Bool → Hp → Prop) (h : tT K Wx (wOrT f g) σ H Q) : tOr (tT K Wx f) (tT K Wx g) σ H Q := by
  have e : (wOrT f g) = (fun X ρ P => f X ρ fun b ρ1 => if b = false then g X ρ1 P else P b ρ1) := by
    funext X ρ P
    unfold wOrT
    congr 1
    funext b ρ1
    cases b <;> simp
  rw [e] at h
  have z := imp_seqT σ H Q h
  unfold tOr
  have e2 : (fun (c : Bool) H1 => if c = true then Q true H1 else tT K Wx g σ H1 Q) = (fun (b : Bool) H1 => if b = false then tT K Wx g σ H1 Q else Q b H1) := by
    funext b H1
    cases b <;> simp
  rw [e2]
  exact z
theorem pft_not {a : Expr} {pos : Pos} {f : WT} (h : PFT X Wx a f) : PFT X Wx (.UnaryOp .Not a pos) (wNotT f) := pt_imp (pt_not h) fun σ H Q => by
  rintro ⟨B, ρ, fp, Xd, P, w, hP, hQ, hX⟩
  exact ⟨B, ρ, fp, Xd, _, w, hP, fun b ρ1 B1 H1 h1 p1 => hQ (!b) ρ1 B1 H1 h1 p1, hX⟩
end
end FL

end
section
set_option maxHeartbeats 1000000
/-! FL2: the operations. -/
namespace FL
open PySem PySem.Spec PyProof.Rows L2

/-- a list's items, where nothing of them is one's own -/
def D.lsq : D → Option (List D)
  | .own xs => if xs.all D.pl = true then some xs else none
  | .lst xs => some xs
  | .flst xs => some xs
  | _ => none
/-- .. of a list that may be laid beside another -/
def D.mlst : D → Option (List D)
  | .own xs => if xs.all D.pl = true then some xs else none
  | .lst xs => some xs
  | _ => none
def D.tsq : D → Option (List D)
  | .tup xs => some xs
  | _ => none
/-- a sequence's items -/
def D.sq : D → Option (List D)
  | .own xs => if xs.all D.pl = true then some xs else none
  | .lst xs => some xs
  | .flst xs => some xs
  | .tup xs => some xs
  | _ => none
def D.flat : D → Bool
  | .non => true
  | .bl _ => true
  | .int _ => true
  | .str _ => true
  | _ => false

section
variable {K : KW} {B H : Hp} {v : V} {d : D} {f : List Addr}
theorem OSs.plain : ∀ {vs : List V} {os : List (Option V)} {ds : List D} {fp : List Addr}, OSs K B H os ds fp → vs.map some = os → ds.all D.pl = true → Reps K B vs ds
  | vs, _, _, _, .nil, m, _ => by
    have z : vs = [] := by simpa using m
    subst z
    exact .nil
  | vs, _, _, _, .cons a b _, m, p => by
    cases vs with
    | nil => cases m
    | cons v vs =>
      have m1 := (List.cons.inj m).1
      have m2 := (List.cons.inj m).2
      subst m1
      rw [List.all_cons, Bool.and_eq_true] at p
      exact .cons (a.plain p.1) (OSs.plain b m2 p.2)
theorem OS.lsq {xs : List D} (e : Ex B H) (h : OS K B H (some v) d f) (z : d.lsq = some xs) : ∃ p vs, v = .ref p ∧ SqL K.F H p vs ∧ Reps K B vs xs := by
  cases h with
  | und => cases z
  | sh r => cases r <;> first
    | (cases z <;> done)
    | (rename_i a vs ds hl r; cases z; exact ⟨a, vs, rfl, .of (e _ _ hl), r⟩)
    | (rename_i a vs ds hl r; cases z; exact ⟨a, vs, rfl, ex_l e hl, r⟩)
  | @own p vs os ds fp b l m r =>
    have z : (if ds.all D.pl = true then some ds else none) = some xs := z
    split at z
    · rename_i hp
      cases z
      exact ⟨_, _, rfl, .of l, r.plain m (by assumption)⟩
    · cases z
  | oins => cases z
theorem OS.mlst {xs : List D} (e : Ex B H) (h : OS K B H (some v) d f) (z : d.mlst = some xs) : ∃ p vs, v = .ref p ∧ H p = some (.lst vs) ∧ Reps K B vs xs := by
  cases h with
  | und => cases z
  | sh r => cases r <;> first
    | (cases z <;> done)
    | (rename_i a vs ds hl r; cases z; exact ⟨a, vs, rfl, e _ _ hl, r⟩)
  | @own p vs os ds fp b l m r =>
    have z : (if ds.all D.pl = true then some ds else none) = some xs := z
    split at z
    · rename_i hp
      cases z
      exact ⟨_, _, rfl, l, r.plain m (by assumption)⟩
    · cases z
  | oins => cases z
theorem OS.tq {xs : List D} (e : Ex B H) (h : OS K B H (some v) d f) (z : d.tsq = some xs) : ∃ p vs, v = .ref p ∧ TQ K.F H p vs ∧ Reps K B vs xs := by
  cases h with
  | und => cases z
  | sh r => cases r <;> first
    | (cases z <;> done)
    | (rename_i a vs ds hl r; cases z; exact ⟨a, vs, rfl, ex_tq e hl, r⟩)
  | own => cases z
  | oins => cases z
theorem OS.tsq {xs : List D} (e : Ex B H) (h : OS K B H (some v) d f) (z : d.tsq = some xs) : ∃ p vs, v = .ref p ∧ SqT K.F H p vs ∧ Reps K B vs xs := by
  obtain ⟨p, vs, h1, h2, h3⟩ := h.tq e z
  exact ⟨p, vs, h1, h2.sq, h3⟩
theorem D.sq_or {xs : List D} (z : d.sq = some xs) : d.lsq = some xs ∨ d.tsq = some xs := by
  cases d <;> first
    | exact .inl z
    | exact .inr z
    | cases z
theorem OS.int_of {i : Int} (h : OS K B H (some v) (.int i) f) : v = .int i := by
  cases h with
  | sh r => cases r; rfl
theorem OS.str_of {x : Str} (h : OS K B H (some v) (.str x) f) : v = .str x := by
  cases h with
  | sh r => cases r; rfl
theorem OS.non_of (h : OS K B H (some v) .non f) : v = .non := by
  cases h with
  | sh r => cases r; rfl
theorem OS.ty_of {n : String} (h : OS K B H (some v) (.ty n) f) : v = .ty n := by
  cases h with
  | sh r => cases r; rfl
theorem OS.cls_of {C : Str} (h : OS K B H (some v) (.cls C) f) : v = .ref (He.ga K.F C) := by
  cases h with
  | sh r => cases r; rfl
theorem Rep.int_of {i : Int} (h : Rep K B v (.int i)) : v = .int i := by cases h; rfl
theorem Rep.str_of {x : Str} (h : Rep K B v (.str x)) : v = .str x := by cases h; rfl
theorem Rep.bl_of {b : Bool} (h : Rep K B v (.bl b)) : v = .bl b := by cases h; rfl
theorem Reps.ints : ∀ {vs : List V} {ns : List Int}, Reps K B vs (ns.map D.int) → vs = ns.map V.int
  | vs, [], h => by cases h; rfl
  | vs, n :: ns, h => by
    cases h with
    | cons a b => rw [a.int_of, Reps.ints b]; rfl
theorem Reps.strs : ∀ {vs : List V} {ns : List Str}, Reps K B vs (ns.map D.str) → vs = ns.map V.str
  | vs, [], h => by cases h; rfl
  | vs, n :: ns, h => by
    cases h with
    | cons a b => rw [a.str_of, Reps.strs b]; rfl
theorem Reps.bls : ∀ {vs : List V} {ns : List Bool}, Reps K B vs (ns.map D.bl) → vs = ns.map V.bl
  | vs, [], h => by cases h; rfl
  | vs, n :: ns, h => by
    cases h with
    | cons a b => rw [a.bl_of, Reps.bls b]; rfl
theorem Reps.of_ints : ∀ ns : List Int, Reps K B (ns.map V.int) (ns.map D.int)
  | [] => .nil
  | _ :: ns => .cons .int (Reps.of_ints ns)
theorem Reps.of_strs : ∀ ns : List Str, Reps K B (ns.map V.str) (ns.map D.str)
  | [] => .nil
  | _ :: ns => .cons .str (Reps.of_strs ns)
theorem Reps.append {vs vs2 : List V} {ds ds2 : List D} (h : Reps K B vs ds) (h2 : Reps K B vs2 ds2) : Reps K B (vs ++ vs2) (ds ++ ds2) := match h with
  | .nil => h2
  | .cons a b => .cons a (Reps.append b h2)
theorem Reps.take {vs : List V} {ds : List D} (n : Nat) (h : Reps K B vs ds) : Reps K B (vs.take n) (ds.take n) := match n, h with
  | 0, _ => .nil
  | _ + 1, .nil => .nil
  | n + 1, .cons a b => .cons a (Reps.take n b)
theorem Reps.drop {vs : List V} {ds : List D} (n : Nat) (h : Reps K B vs ds) : Reps K B (vs.drop n) (ds.drop n) := match n, h with
  | 0, h => h
  | _ + 1, .nil => .nil
  | n + 1, .cons _ b => Reps.drop n b
theorem Reps.rep {vs : List V} {ds : List D} (h : Reps K B vs ds) : ∀ n : Nat, Reps K B (List.replicate n vs).flatten (List.replicate n ds).flatten
  | 0 => .nil
  | n + 1 => by
    rw [List.replicate_succ, List.replicate_succ, List.flatten_cons, List.flatten_cons]
    exact h.append (Reps.rep h n)
end

/-! ### + - * // % ** -/
def opAdd (d e : D) (P : D → Prop) : Prop := match d, e with
  | .int i, .int j => P (.int (i + j))
  | .str a, .str b => a.length + b.length ≤ sizeLine ∧ P (.str (a ++ b))
  | .tup xs, .tup ys => xs.length + ys.length ≤ sizeLine ∧ P (.tup (xs ++ ys))
  | d, e => ∃ xs ys, d.mlst = some xs ∧ e.mlst = some ys ∧ xs.length + ys.length ≤ sizeLine ∧ P (.own (xs ++ ys))
def opSub (d e : D) (P : D → Prop) : Prop := match d, e with
  | .int i, .int j => P (.int (i - j))
  | _, _ => False
def opMul (d e : D) (P : D → Prop) : Prop := match d, e with
  | .int i, .int j => CMulW i j ∧ P (.int (i * j))
  | d, .int k => ∃ xs, d.mlst = some xs ∧ -(2 ^ 63) ≤ k ∧ k < 2 ^ 63 ∧ xs.length * k.toNat ≤ sizeLine ∧ P (.own (List.replicate k.toNat xs).flatten)
  | _, _ => False
def opFDiv (d e : D) (P : D → Prop) : Prop := match d, e with
  | .int i, .int j => CDivW i j ∧ P (.int (i / j))
  | _, _ => False
def opMod (d e : D) (P : D → Prop) : Prop := match d, e with
  | .int i, .int j => 0 < j ∧ P (.int (i % j))
  | _, _ => False
def opPow (d e : D) (P : D → Prop) : Prop := match d, e with
  | .int i, .int j => CPow i j ∧ P (.int (i ^ j.toNat))
  | _, _ => False
def opNeg (d : D) (P : D → Prop) : Prop := match d with
  | .int i => P (.int (-i))
  | _ => False
/-- an operation on two ints -/
def opI (C : Int → Int → Prop) (g : Int → Int → D) (d e : D) (P : D → Prop) : Prop := match d, e with
  | .int i, .int j => C i j ∧ P (g i j)
  | _, _ => False

def rAddD (K : KW) : R2 := fun x y H Q => (rI0 fun i j => .int (i + j)) x y H Q ∨ (∃ i j, x = .str i ∧ y = .str j ∧ i.length + j.length ≤ sizeLine ∧ Q (.str (i ++ j)) H) ∨ rCatA K.F x y H Q ∨ rCat x y H Q
def rMulD : R2 := fun x y H Q => (rI CMulW fun i j => .int (i * j)) x y H Q ∨ rRep x y H Q
section
variable {X : Cx} {K : KW}
theorem op_addD : OpR X (binaryOp .Add) (rAddD X.kw) := op_add.or (op_add_str.or (op_catA.or op_cat))
theorem op_mulD : OpR X (binaryOp .Mult) rMulD := op_mulW.or op_rep
theorem od_add : OpD K (rAddD K) opAdd := by
  intro B H x y d e f g P Q ex hx hy h k
  unfold opAdd at h
  split at h
  · exact .inl ⟨_, _, hx.int_of, hy.int_of, k _ _ B H [] h (.same ex .int)⟩
  · exact .inr (.inl ⟨_, _, hx.str_of, hy.str_of, h.1, k _ _ B H [] h.2 (.same ex .str)⟩)
  · obtain ⟨p, vs, rfl, s1, r1⟩ := hx.tsq ex rfl
    obtain ⟨q, ws, rfl, s2, r2⟩ := hy.tsq ex rfl
    obtain ⟨h2, h3⟩ := h
    refine .inr (.inr (.inl ⟨p, q, vs, ws, rfl, rfl, s1, s2, by rw [r1.length, r2.length]; exact h2, fun z => ?_, fun _ z => ?_, fun _ z p hp => k _ _ _ _ [] h3 (.tup ex hp (r1.append r2))⟩))
    · subst z
      cases r1
      cases hy with
      | sh r => exact k _ _ B H [] h3 (.same ex r)
    · subst z
      cases r2
      rw [List.append_nil] at h3
      cases hx with
      | sh r => exact k _ _ B H [] h3 (.same ex r)
  · obtain ⟨xs, ys, z1, z2, hl, hP⟩ := h
    obtain ⟨p, vs, rfl, s1, r1⟩ := hx.mlst ex z1
    obtain ⟨q, ws, rfl, s2, r2⟩ := hy.mlst ex z2
    exact .inr (.inr (.inr ⟨p, q, vs, ws, rfl, rfl, s1, s2, by rw [r1.length, r2.length]; exact hl, fun p hp => k _ _ _ _ [p] hP (.own ex hp (r1.append r2))⟩))
theorem od_sub : OpD K (rI0 fun i j => .int (i - j)) opSub := by
  intro B H x y d e f g P Q ex hx hy h k
  unfold opSub at h
  split at h
  · exact ⟨_, _, hx.int_of, hy.int_of, k _ _ B H [] h (.same ex .int)⟩
  · exact h.elim
theorem od_mul : OpD K rMulD opMul := by
  intro B H x y d e f g P Q ex hx hy h k
  unfold opMul at h
  split at h
  · exact .inl ⟨_, _, hx.int_of, hy.int_of, h.1, k _ _ B H [] h.2 (.same ex .int)⟩
  · obtain ⟨xs, z1, h1, h2, h3, hP⟩ := h
    obtain ⟨p, vs, rfl, s1, r1⟩ := hx.mlst ex z1
    exact .inr ⟨p, _, vs, rfl, hy.int_of, s1, h1, h2, by rw [r1.length]; exact h3, fun p hp => k _ _ _ _ [p] hP (.own ex hp (r1.rep _))⟩
  · exact h.elim
theorem od_fdiv : OpD K (rI CDivW fun i j => .int (i / j)) opFDiv := by
  intro B H x y d e f g P Q ex hx hy h k
  unfold opFDiv at h
  split at h
  · exact ⟨_, _, hx.int_of, hy.int_of, h.1, k _ _ B H [] h.2 (.same ex .int)⟩
  · exact h.elim
theorem od_mod : OpD K (rI (fun _ j => 0 < j) fun i j => .int (i % j)) opMod := by
  intro B H x y d e f g P Q ex hx hy h k
  unfold opMod at h
  split at h
  · exact ⟨_, _, hx.int_of, hy.int_of, h.1, k _ _ B H [] h.2 (.same ex .int)⟩
  · exact h.elim
theorem od_pow : OpD K (rI CPow fun i j => .int (i ^ j.toNat)) opPow := by
  intro B H x y d e f g P Q ex hx hy h k
  unfold opPow at h
  split at h
  · exact ⟨_, _, hx.int_of, hy.int_of, h.1, k _ _ B H [] h.2 (.same ex .int)⟩
  · exact h.elim
theorem ud_neg : UnD K (rU fun i => .int (-i)) opNeg := by
  intro B H x d f P Q ex hx h k
  unfold opNeg at h
  split at h
  · exact ⟨_, hx.int_of, k _ _ B H [] h (.same ex .int)⟩
  · exact h.elim
end

/-! ### < <= > >= -/
def rCmpI (p : Int → Int → Bool) : R2 := rI0 fun i j => .bl (p i j)
def opCmp (p : Int → Int → Bool) (d e : D) (P : D → Prop) : Prop := match d, e with
  | .int i, .int j => P (.bl (p i j))
  | _, _ => False
theorem od_cmp {K : KW} {p : Int → Int → Bool} : OpD K (rI0 fun i j => .bl (p i j)) (opCmp p) := by
  intro B H x y d e f g P Q ex hx hy h k
  unfold opCmp at h
  split at h
  · exact ⟨_, _, hx.int_of, hy.int_of, k _ _ B H [] h (.same ex .bl)⟩
  · exact h.elim

end FL

end
section
set_option maxHeartbeats 1000000
/-! FL3: == and in, is, subscripts, built-in functions. -/
namespace FL
open PySem PySem.Spec PyProof.Rows L2

/-! ### == -/
mutual
def D.py : D → PyData
  | .non => .none
  | .bl b => .bool b
  | .int i => .int i
  | .str x => .str x
  | .lst xs => .list (D.pys xs)
  | .flst xs => .list (D.pys xs)
  | .own xs => .list (D.pys xs)
  | .tup xs => .tuple (D.pys xs)
  | .und => .none
  | .ins _ _ _ => .none
  | .oins _ _ _ => .none
  | .ty _ => .none
  | .cls _ => .none
  | .kd _ _ => .none
def D.pys : List D → List PyData
  | [] => []
  | d :: r => d.py :: D.pys r
end
mutual
/-- none, bools, ints, texts, lists and tuples of such -/
def D.dat : D → Bool
  | .non => true
  | .bl _ => true
  | .int _ => true
  | .str _ => true
  | .lst xs => D.dats xs
  | .flst xs => D.dats xs
  | .own xs => D.dats xs
  | .tup xs => D.dats xs
  | .und => false
  | .ins _ _ _ => false
  | .oins _ _ _ => false
  | .ty _ => false
  | .cls _ => false
  | .kd _ _ => false
def D.dats : List D → Bool
  | [] => true
  | d :: r => d.dat && D.dats r
end
def D.eqv (d e : D) : Bool := PyData.eqv d.py e.py
section
variable {K : KW} {B H : Hp}
mutual
theorem Rep.dp {v : V} {d : D} (e : Ex B H) (h : Rep K B v d) (p : d.dat = true) : Dp K.F H v d.py := match h with
  | .non => .non
  | .bl (b := b) => .bl b
  | .int (i := i) => .int i
  | .str (x := x) => .str x
  | .lst s r => .lst (.of (e _ _ s)) (Reps.dp e r p)
  | .flst s r => .lst (ex_l e s) (Reps.dp e r p)
  | .tup s r => .tup (ex_t e s.sq) (Reps.dp e r p)
  | .und => by cases p
  | .ins _ _ _ _ => by cases p
  | .ty => by cases p
  | .cls => by cases p
  | .kd _ _ _ => by cases p
theorem Reps.dp {vs : List V} {ds : List D} (e : Ex B H) (h : Reps K B vs ds) (p : D.dats ds = true) : DpAll K.F H vs (D.pys ds) := match h with
  | .nil => .nil
  | .cons a b => by
    have q : _ ∧ _ := Bool.and_eq_true_iff.mp p
    exact .cons (Rep.dp e a q.1) (Reps.dp e b q.2)
end
mutual
theorem OS.dp {o : Option V} {v : V} {d : D} {f : List Addr} (e : Ex B H) (z : o = some v) (h : OS K B H o d f) (p : d.dat = true) : Dp K.F H v d.py := match h with
  | .und => by cases p
  | .sh r => by cases z; exact r.dp e p
  | .own b l m r => by cases z; exact .lst (.of l) (OSs.dp e m r p)
  | .oins _ _ _ _ _ => by cases p
theorem OSs.dp {os : List (Option V)} {vs : List V} {ds : List D} {f : List Addr} (e : Ex B H) (z : vs.map some = os) (h : OSs K B H os ds f) (p : D.dats ds = true) : DpAll K.F H vs (D.pys ds) := match h with
  | .nil => by
    have y : vs = [] := by simpa using z
    subst y
    exact .nil
  | .cons (o := o) (os := os2) a b _ => by
    have q : _ ∧ _ := Bool.and_eq_true_iff.mp p
    cases vs with
    | nil => cases z
    | cons v vs => exact .cons (OS.dp e (List.cons.inj z).1.symm a q.1) (OSs.dp e (List.cons.inj z).2 b q.2)
end
end
/-- the scalars that are told apart at once -/
def D.scl : D → D → Bool
  | .non, .non => true | .non, .int _ => true | .int _, .non => true | .non, .bl _ => true | .bl _, .non => true | .non, .str _ => true | .str _, .non => true
  | .int _, .int _ => true | .bl _, .bl _ => true | .str _, .str _ => true
  | .int _, .str _ => true | .str _, .int _ => true | .bl _, .str _ => true | .str _, .bl _ => true
  | _, _ => false
def eqOk (d e : D) : Prop := D.scl d e = true ∨ (d.dat = true ∧ e.dat = true ∧ SeqAt.shaped d.py = true ∧ SeqAt.shaped e.py = true)
def opEq (d e : D) (P : D → Prop) : Prop := eqOk d e ∧ P (.bl (D.eqv d e))
def opNe (d e : D) (P : D → Prop) : Prop := eqOk d e ∧ P (.bl (!D.eqv d e))
def rEqU (K : PySem.W.Frag) : R2 := fun x y H Q => rEq x y H Q ∨ rEqD K x y H Q
def rNeU (K : PySem.W.Frag) : R2 := fun x y H Q => rNe x y H Q ∨ rNeD K x y H Q
theorem scl_ok {K : KW} {B H : Hp} {x y : V} {d e : D} {f g : List Addr} (hx : OS K B H (some x) d f) (hy : OS K B H (some y) e g) (h : D.scl d e = true) : scal x y = true ∧ decide (x = y) = D.eqv d e := by
  cases d <;> cases e <;> first
    | (cases h; done)
    | (cases hx with | sh r1 => cases hy with | sh r2 => cases r1; cases r2; exact ⟨rfl, by first | (simp [D.eqv, D.py, PyData.eqv]; done) | (simp [D.eqv, D.py, PyData.eqv, beq_eq_decide]; done) | (unfold D.eqv D.py PyData.eqv; rw [Bool.eq_iff_iff]; simp)⟩)
section
variable {K : KW}
theorem od_eq : OpD K (rEqU K.F) opEq := by
  intro B H x y d e f g P Q ex hx hy h k
  obtain ⟨c | ⟨c1, c2, c3, c4⟩, hP⟩ := h
  · obtain ⟨s1, s2⟩ := scl_ok hx hy c
    exact .inl ⟨s1, by rw [s2]; exact k _ _ B H [] hP (.same ex .bl)⟩
  · exact .inr ⟨_, _, hx.dp ex rfl c1, hy.dp ex rfl c2, c3, c4, k _ _ B H [] hP (.same ex .bl)⟩
theorem od_ne : OpD K (rNeU K.F) opNe := by
  intro B H x y d e f g P Q ex hx hy h k
  obtain ⟨c | ⟨c1, c2, c3, c4⟩, hP⟩ := h
  · obtain ⟨s1, s2⟩ := scl_ok hx hy c
    exact .inl ⟨s1, by rw [s2]; exact k _ _ B H [] hP (.same ex .bl)⟩
  · exact .inr ⟨_, _, hx.dp ex rfl c1, hy.dp ex rfl c2, c3, c4, k _ _ B H [] hP (.same ex .bl)⟩
end
theorem op_eqU {X : Cx} (hu : X.A.units + 64 < cLine) : OpR X (compareOp .Eq) (rEqU X.K) := op_eq.or (op_eqD hu)
theorem op_neU {X : Cx} (hu : X.A.units + 64 < cLine) : OpR X (compareOp .NotEq) (rNeU X.K) := op_ne.or (op_neD hu)

/-! ### is -/
def D.isN : D → Bool
  | .non => true
  | _ => false
def opIs (neg : Bool) (d e : D) (P : D → Prop) : Prop := match e with
  | .non => d.known = true ∧ P (.bl (neg != d.isN))
  | .bl b => ∃ a, d = .bl a ∧ P (.bl (neg != decide (a = b)))
  | _ => False
def rIsU : R2 := fun x y H Q => (y = .non ∧ Q (.bl (decide (x = .non))) H) ∨ rIsB x y H Q
def rIsNotU : R2 := fun x y H Q => (y = .non ∧ Q (.bl (!decide (x = .non))) H) ∨ rNotB x y H Q
theorem op_isU {X : Cx} : OpR X (compareOp .Is) rIsU := op_isN.or op_isBl
theorem op_isNotU {X : Cx} : OpR X (compareOp .IsNot) rIsNotU := op_notN.or op_notBl
theorem isN_ok {K : KW} {B H : Hp} {x : V} {d : D} {f : List Addr} (hx : OS K B H (some x) d f) (k : d.known = true) : decide (x = .non) = d.isN := by
  cases hx with
  | und => cases k
  | sh r => cases r <;> first | rfl | (cases k; done) | simp [D.isN]
  | own => simp [D.isN]
  | oins => simp [D.isN]
theorem od_is {K : KW} : OpD K rIsU (opIs false) := by
  intro B H x y d e f g P Q ex hx hy h k
  cases e with
  | non =>
    obtain ⟨h1, h2⟩ := h
    refine .inl ⟨hy.non_of, ?_⟩
    rw [isN_ok hx h1]
    exact k _ _ B H [] (by simpa using h2) (.same ex .bl)
  | bl b =>
    obtain ⟨a, rfl, h2⟩ := h
    exact .inr ⟨a, b, hx.bl_of, hy.bl_of, k _ _ B H [] (by simpa using h2) (.same ex .bl)⟩
  | _ => exact h.elim
theorem od_isNot {K : KW} : OpD K rIsNotU (opIs true) := by
  intro B H x y d e f g P Q ex hx hy h k
  cases e with
  | non =>
    obtain ⟨h1, h2⟩ := h
    refine .inl ⟨hy.non_of, ?_⟩
    rw [isN_ok hx h1]
    exact k _ _ B H [] (by simpa using h2) (.same ex .bl)
  | bl b =>
    obtain ⟨a, rfl, h2⟩ := h
    exact .inr ⟨a, b, hx.bl_of, hy.bl_of, k _ _ B H [] (by simpa using h2) (.same ex .bl)⟩
  | _ => exact h.elim

/-! ### in -/
def inD (d : D) (xs : List D) : Bool := xs.any fun y => D.eqv y d
theorem flat_ok {K : KW} {B : Hp} {v : V} {d : D} (h : Rep K B v d) (f : d.flat = true) : flatV v = true := by
  cases h <;> first | rfl | cases f
theorem eqV_ok {K : KW} {B : Hp} {v w : V} {d e : D} (h : Rep K B v d) (g : Rep K B w e) (f : d.flat = true) (f2 : e.flat = true) : eqV v w = D.eqv d e := by
  cases h <;> first
    | (cases f; done)
    | (cases g <;> first
        | (cases f2; done)
        | rfl
        | (simp [eqV, D.eqv, D.py, PyData.eqv]; done))
theorem flats_ok {K : KW} {B : Hp} : ∀ {vs : List V} {ds : List D}, Reps K B vs ds → ds.all D.flat = true → vs.all flatV = true
  | _, _, .nil, _ => rfl
  | _, _, .cons a b, h => by
    rw [List.all_cons, Bool.and_eq_true] at h ⊢
    exact ⟨flat_ok a h.1, flats_ok b h.2⟩
theorem inV_ok {K : KW} {B : Hp} {v : V} {d : D} (h : Rep K B v d) (f : d.flat = true) : ∀ {vs : List V} {ds : List D}, Reps K B vs ds → ds.all D.flat = true → inV v vs = inD d ds
  | _, _, .nil, _ => rfl
  | _, _, .cons a b, g => by
    rw [List.all_cons, Bool.and_eq_true] at g
    show (eqV _ v || inV v _) = (D.eqv _ d || inD d _)
    rw [eqV_ok a h g.1 f, inV_ok h f b g.2]
/-- the place of a key in a dict of the top -/
def kdIx (kvs : List (Str × D)) (z : Str) : Option Nat := (kvs.map (·.1)).findIdx? (· == z)
/-- a text within a text -/
def inStr (a b : Str) : Bool := !(Builtin.Str.occurrences b a 0 b.length 1).isEmpty
def rStrIn (neg : Bool) : R2 := fun x y H Q => ∃ i j, x = .str i ∧ y = .str j ∧ Q (.bl (neg != inStr i j)) H
def opIn (neg : Bool) (d e : D) (P : D → Prop) : Prop := match e with
  | .kd _ kvs => ∃ z, d = .str z ∧ P (.bl (neg != (kdIx kvs z).isSome))
  | .str b => ∃ a, d = .str a ∧ P (.bl (neg != inStr a b))
  | e => ∃ xs, e.sq = some xs ∧ d.flat = true ∧ xs.all D.flat = true ∧ P (.bl (neg != inD d xs))
def rKdIn (K : KW) (neg : Bool) : R2 := fun x y H Q => ∃ (a : Addr) (es : Array DictEntry) (n : Nat) (z : Str) (r : Option Value), KDict K.F K.w a es n ∧ x = .str z ∧ y = .ref a ∧ PySem.W.nsIn K.F a z = some r ∧ Q (.bl (neg != r.isSome)) H
def rInU (K : KW) (neg : Bool) : R2 := fun x y H Q => rIn K.F neg x y H Q ∨ rKdIn K neg x y H Q ∨ rStrIn neg x y H Q
theorem op_inU {X : Cx} : OpR X (compareOp .In) (rInU X.kw false) := op_in_seq.or (OpR.or (r := rKdIn X.kw false) (r' := rStrIn false) (fun pins s σ H x y v u Q I rx ry ⟨a, es, n, z, r, D, hx, hy, e, q⟩ =>
  op_in_kd (X := X) D pins s σ H x y v u Q I rx ry ⟨z, r, hx, hy, e, by simpa using q⟩) fun pins s σ H x y v u Q I rx ry ⟨i, j, hx, hy, q⟩ => op_in_str pins s σ H x y v u Q I rx ry ⟨i, j, hx, hy, by simpa [inStr] using q⟩)
theorem op_notInU {X : Cx} : OpR X (compareOp .NotIn) (rInU X.kw true) := op_notIn_seq.or (OpR.or (r := rKdIn X.kw true) (r' := rStrIn true) (fun pins s σ H x y v u Q I rx ry ⟨a, es, n, z, r, D, hx, hy, e, q⟩ =>
  op_notIn_kd (X := X) D pins s σ H x y v u Q I rx ry ⟨z, r, hx, hy, e, by simpa using q⟩) fun pins s σ H x y v u Q I rx ry ⟨i, j, hx, hy, q⟩ => op_notIn_str pins s σ H x y v u Q I rx ry ⟨i, j, hx, hy, by simpa [inStr] using q⟩)
theorem kd_none {K : KW} {x : Str} {kvs : List (Str × D)} {vs : List V} (h : KD K x kvs vs) {z : Str} (e : kdIx kvs z = none) : PySem.W.nsIn K.F (He.ga K.F x) z = some none := by
  have q := h.2 z
  unfold kdIx at e
  rw [e] at q
  exact q
theorem kd_some {K : KW} {x : Str} {kvs : List (Str × D)} {vs : List V} (h : KD K x kvs vs) {z : Str} {i : Nat} (e : kdIx kvs z = some i) : ∃ u v, PySem.W.nsIn K.F (He.ga K.F x) z = some (some u) ∧ vs[i]? = some v ∧ RelV v u := by
  have q := h.2 z
  unfold kdIx at e
  rw [e] at q
  exact q
theorem flat_pl {d : D} (h : d.flat = true) : d.pl = true := by cases d <;> first | rfl | cases h
theorem in_sq {K : KW} {neg : Bool} {B H : Hp} {x y : V} {d e : D} {f g : List Addr} {xs : List D} {Q : VK} (ex : Ex B H) (hx : OS K B H (some x) d f) (hy : OS K B H (some y) e g) (h1 : e.sq = some xs) (h2 : d.flat = true) (h3 : xs.all D.flat = true)
    (h4 : Q (.bl (neg != inD d xs)) H) : rIn K.F neg x y H Q := by
  have rx := hx.plain (flat_pl h2)
  have fin : ∀ vs, Reps K B vs xs → flatV x = true ∧ vs.all flatV = true ∧ Q (.bl (if neg then !inV x vs else inV x vs)) H := fun vs r => by
    refine ⟨flat_ok rx h2, flats_ok r h3, ?_⟩
    rw [inV_ok rx h2 r h3]
    cases neg
    · simpa using h4
    · simpa using h4
  rcases D.sq_or h1 with z | z
  · obtain ⟨p, vs, rfl, s, r⟩ := hy.lsq ex z
    exact ⟨p, vs, rfl, .inl s, fin vs r⟩
  · obtain ⟨p, vs, rfl, s, r⟩ := hy.tsq ex z
    exact ⟨p, vs, rfl, .inr s, fin vs r⟩
theorem od_in {K : KW} (neg : Bool) : OpD K (rInU K neg) (opIn neg) := by
  intro B H x y d e f g P Q ex hx hy h k
  have gen : (∃ xs, e.sq = some xs ∧ d.flat = true ∧ xs.all D.flat = true ∧ P (.bl (neg != inD d xs))) → rInU K neg x y H Q := fun ⟨xs, h1, h2, h3, h4⟩ =>
    .inl (in_sq ex hx hy h1 h2 h3 (k _ _ B H [] h4 (.same ex .bl)))
  cases e with
  | kd nm kvs =>
    obtain ⟨z, rfl, h1⟩ := h
    cases hy with
    | sh r =>
      cases r with
      | kd a b r =>
        refine .inr (.inl ?_)
        cases q : kdIx kvs z with
        | none =>
          rw [q] at h1
          exact ⟨_, _, _, z, none, a, hx.str_of, rfl, kd_none b q, k _ _ B H [] h1 (.same ex .bl)⟩
        | some i =>
          rw [q] at h1
          obtain ⟨u, v, e1, _⟩ := kd_some b q
          exact ⟨_, _, _, z, some u, a, hx.str_of, rfl, e1, k _ _ B H [] h1 (.same ex .bl)⟩
  | str b =>
    obtain ⟨a, rfl, h1⟩ := h
    exact .inr (.inr ⟨a, b, hx.str_of, hy.str_of, k _ _ B H [] h1 (.same ex .bl)⟩)
  | _ => exact gen h
end FL

end
section
set_option maxHeartbeats 1000000
/-! FL4: sharing; subscripts, built-in functions, displays. -/
namespace FL
open PySem PySem.Spec PyProof.Rows L2

/-! ### sharing -/
section
variable {K : KW} {B H B' H' : Hp} {σ : St} {ρ ρ' : List D} {fp : List Addr}
/-- a result is shared from now on -/
theorem PostRs.share {r : R} {v : V} (a : PostRs K σ B H fp [r] ρ' [v] B' H') : ∃ B2, PostRs K σ B H fp [.val (r.tk ρ').sh] (r.en ρ') [v] B2 H' := by
  obtain ⟨t1, e1, fd, fs, r1, o1, n1, s1⟩ := a
  have nfs : fs.Nodup := (List.nodup_append.mp n1).2.1
  have dis : ∀ q ∈ fd, q ∉ fs := fun q h1 h2 => (List.nodup_append.mp n1).2.2 q h1 q h2 rfl
  have trk : ∀ M : List Addr, (∀ q ∈ M, q ∈ fd ++ fs) → Tr B H fp (kn B' H' M) H' := fun M hM => by
    have hn : ∀ q ∈ M, B' q = none := fun q hq => by
      rcases List.mem_append.mp (hM q hq) with z | z
      · exact (r1.there q z).1
      · exact (o1.there q z).1
    refine ⟨t1.bb.trans (kn_ex hn), t1.keep, fun q o h => ?_⟩
    by_cases z : q ∈ M
    · rcases s1 q (hM q z) with y | y
      · exact .inr (.inl y)
      · exact .inr (.inr y)
    · rw [kn_out z] at h
      exact t1.bnew q o h
  cases r1 with
  | @val _ d _ _ f1 f2 _ os rr z =>
    cases rr
    have z1 : fd = f1 := by simpa using z
    subst z1
    have hn : ∀ q ∈ fd, B' q = none := fun q hq => (os.there q hq).1
    refine ⟨kn B' H' fd, trk fd (fun q hq => List.mem_append_left _ hq), kn_le e1, [], fs, .val (f2 := []) (.sh (os.share (kn_ex hn) fun q hq => kn_in hq)) .nil rfl, ?_, by simpa using nfs, fun q hq => s1 q (List.mem_append_right _ (by simpa using hq))⟩
    exact o1.frame (kn_ex hn) (fun q hq => by rw [kn_out fun y => dis q y hq]; exact (o1.there q hq).1) fun _ _ => rfl
  | @slot _ i _ _ _ e rr =>
    cases rr
    have hl : i < ρ'.length := by
      rw [← o1.len]
      exact (List.getElem?_eq_some_iff.mp e).1
    have hd : ρ'[i]? = some (dAt ρ' i) := by
      unfold dAt
      rw [List.getD_eq_getElem?_getD, List.getElem?_eq_getElem hl]
      rfl
    obtain ⟨o, fi, fr, h1, h2, h3, h4⟩ := o1.split hd
    rw [e] at h1
    cases h1
    have nd2 : (fi ++ fr).Nodup := h3.nodup_iff.mp nfs
    have hn : ∀ q ∈ fi, B' q = none := fun q hq => (h2.there q hq).1
    have mem : ∀ q, q ∈ fi ++ fr → q ∈ fs := fun q hq => h3.mem_iff.mpr hq
    have rep : Rep K (kn B' H' fi) v (dAt ρ' i).sh := h2.share (kn_ex hn) fun q hq => kn_in hq
    obtain ⟨fp', g1, g2⟩ := h4 (B' := kn B' H' fi) (H' := H') (o' := some v) (d' := (dAt ρ' i).sh) (f' := []) (kn_ex hn) (fun q hq => by
        rw [kn_out fun y => (List.nodup_append.mp nd2).2.2 q y q hq rfl]
        exact (o1.there q (mem q (List.mem_append_right _ hq))).1) (fun _ _ => rfl) (.sh rep)
    have es : σ.set i (some v) = σ := by
      apply List.ext_getElem?
      intro j
      by_cases hj : i = j
      · subst hj
        rw [List.getElem?_set_self (List.getElem?_eq_some_iff.mp e).1, e]
      · rw [List.getElem?_set_ne hj]
    rw [es] at g1
    have g2' : fp'.Perm fr := by simpa using g2
    refine ⟨kn B' H' fi, trk fi (fun q hq => List.mem_append_right _ (mem q (List.mem_append_left _ hq))), kn_le e1, [], fp', .val (f2 := []) (.sh ?_) .nil rfl, g1, ?_, fun q hq => ?_⟩
    · show Rep K (kn B' H' fi) v (dAt ρ' i).sh.sh
      rw [rep.sh]
      exact rep
    · simpa using g2'.nodup_iff.mpr (List.nodup_append.mp nd2).2.1
    · have q1 : q ∈ fp' := by simpa using hq
      exact s1 q (List.mem_append_right _ (mem q (List.mem_append_right _ (g2'.mem_iff.mp q1))))
/-- a result taken as a value: a temporary stays one's own -/
theorem PostRs.take {r : R} {v : V} (a : PostRs K σ B H fp [r] ρ' [v] B' H') : ∃ B2, PostRs K σ B H fp [.val (r.tk ρ')] (r.en ρ') [v] B2 H' := by
  cases r with
  | val d => exact ⟨B', a⟩
  | slot i =>
    obtain ⟨B2, h⟩ := a.share
    refine ⟨B2, ?_⟩
    have e : ((R.slot i).tk ρ').sh = (R.slot i).tk ρ' := by
      show (dAt ρ' i).sh.sh = (dAt ρ' i).sh
      obtain ⟨_, _, _, _, r1, _⟩ := h
      cases r1 with
      | val os rr z =>
        cases hdd : (dAt ρ' i) <;> rfl
    rw [← e]
    exact h
end
/-- needs sharing before it is looked into -/
def D.deep : D → Bool
  | .own xs => !xs.all D.pl
  | _ => false
def wSh (f : WE) : WE := fun X ρ P => f X ρ fun r ρ1 => P (.val (r.tk ρ1).sh) (r.en ρ1)
def wTk (f : WE) : WE := fun X ρ P => f X ρ fun r ρ1 => P (.val (r.tk ρ1)) (r.en ρ1)
def wFix (f : WE) : WE := fun X ρ P => f X ρ fun r ρ1 => if (r.get ρ1).deep = true then P (.val (r.tk ρ1).sh) (r.en ρ1) else P r ρ1
section
variable {X : Cx} {Wx : WX} {e : Expr} {f : WE}
theorem imp_sh {K : KW} (σ : St) (H : Hp) (Q : VK) (h : tE K Wx (wSh f) σ H Q) : tE K Wx f σ H Q := by
  obtain ⟨B, ρ, fp, Xd, P, w, hP, hQ, hX⟩ := h
  refine ⟨B, ρ, fp, Xd, _, w, hP, fun r ρ1 v B1 H1 h1 p1 => ?_, hX⟩
  obtain ⟨B2, p2⟩ := p1.share
  exact hQ _ _ v B2 H1 h1 p2
theorem imp_tk {K : KW} (σ : St) (H : Hp) (Q : VK) (h : tE K Wx (wTk f) σ H Q) : tE K Wx f σ H Q := by
  obtain ⟨B, ρ, fp, Xd, P, w, hP, hQ, hX⟩ := h
  refine ⟨B, ρ, fp, Xd, _, w, hP, fun r ρ1 v B1 H1 h1 p1 => ?_, hX⟩
  obtain ⟨B2, p2⟩ := p1.take
  exact hQ _ _ v B2 H1 h1 p2
theorem imp_fix {K : KW} (σ : St) (H : Hp) (Q : VK) (h : tE K Wx (wFix f) σ H Q) : tE K Wx f σ H Q := by
  obtain ⟨B, ρ, fp, Xd, P, w, hP, hQ, hX⟩ := h
  refine ⟨B, ρ, fp, Xd, _, w, hP, fun r ρ1 v B1 H1 h1 p1 => ?_, hX⟩
  by_cases c : (r.get ρ1).deep = true
  · rw [if_pos c] at h1
    obtain ⟨B2, p2⟩ := p1.share
    exact hQ _ _ v B2 H1 h1 p2
  · rw [if_neg c] at h1
    exact hQ _ _ v B1 H1 h1 p1
theorem pf_sh (h : PF X Wx e f) : PF X Wx e (wSh f) := pe_imp h imp_sh
theorem pf_tk (h : PF X Wx e f) : PF X Wx e (wTk f) := pe_imp h imp_tk
theorem pf_fix (h : PF X Wx e f) : PF X Wx e (wFix f) := pe_imp h imp_fix
end
end FL

end
section
set_option maxHeartbeats 1000000
/-! FL5: subscripts, built-in functions, displays, fields. -/
namespace FL
open PySem PySem.Spec PyProof.Rows L2

/-! ### a[i] -/
theorem Reps.atI {K : KW} {B : Hp} {vs : List V} {ds : List D} {i : Int} {d : D} (h : Reps K B vs ds) (e : atI ds i = some d) : ∃ v, L2.atI vs i = some v ∧ Rep K B v d := by
  unfold L2.atI at e ⊢
  rw [h.length]
  cases q : ixN ds.length i with
  | none => rw [q] at e; cases e
  | some j =>
    rw [q] at e
    have e2 : ds[j]? = some d := e
    obtain ⟨v, h1, h2⟩ := h.get e2
    exact ⟨v, h1, h2⟩
def opIx (d e : D) (P : D → Prop) : Prop := match d with
  | .str z => ∃ i c, e = .int i ∧ z.length ≤ sizeLine ∧ atI z.cps.toList i = some c ∧ P (.str ⟨#[c]⟩)
  | .kd _ kvs => ∃ z i q, e = .str z ∧ kdIx kvs z = some i ∧ kvs[i]? = some q ∧ P q.2
  | d => ∃ xs i x, d.sq = some xs ∧ e = .int i ∧ atI xs i = some x ∧ P x
def rIxKd (K : KW) : R2 := fun x y H Q => ∃ (a : Addr) (es : Array DictEntry) (n : Nat) (z : Str) (u0 : Value) (v0 : V), KDict K.F K.w a es n ∧ x = .ref a ∧ y = .str z ∧ PySem.W.nsIn K.F a z = some (some u0) ∧ RelV v0 u0 ∧ Q v0 H
def rIxU (K : KW) : R2 := fun x y H Q => rIx K.F x y H Q ∨ rIxKd K x y H Q
theorem ix_kdU {X : Cx} : IxR X (rIxKd X.kw) := by
  intro value slice pins s σ H x y v u Q I rx ry ⟨a, es, n, z, u0, v0, D, hx, hy, e, r, q⟩ hs
  subst hx
  have e1 : v = Value.ref a := rx
  subst e1
  exact tail_any (ops := [.ref a, u]) (kd_type D I) PySem.F.slot_dict_getitem.lookup (op_item_kd (X := X) D pins s σ H (.ref a) y (.ref a) u Q I rfl ry ⟨z, u0, v0, rfl, hy, e, r, q⟩) hs
theorem ix_U {X : Cx} : IxR X (rIxU X.kw) := ix_seq.or ix_kdU
theorem od_ix {K : KW} : OpD K (rIxU K) opIx := by
  intro B H x y d e f g P Q ex hx hy h k
  have gen : (∃ xs i z, d.sq = some xs ∧ e = .int i ∧ atI xs i = some z ∧ P z) → rIxU K x y H Q := fun ⟨xs, i, z, h1, h2, h3, h4⟩ => by
    subst h2
    have ey := hy.int_of
    rcases D.sq_or h1 with q | q
    · obtain ⟨p, vs, rfl, s, r⟩ := hx.lsq ex q
      obtain ⟨v, a1, a2⟩ := r.atI h3
      exact .inl (.inl ⟨p, vs, i, v, rfl, ey, s, a1, k _ _ B H [] h4 (.same ex a2)⟩)
    · obtain ⟨p, vs, rfl, s, r⟩ := hx.tsq ex q
      obtain ⟨v, a1, a2⟩ := r.atI h3
      exact .inl (.inr (.inl ⟨p, vs, i, v, rfl, ey, s, a1, k _ _ B H [] h4 (.same ex a2)⟩))
  cases d with
  | str z =>
    obtain ⟨i, c, rfl, h1, h2, h3⟩ := h
    exact .inl (.inr (.inr ⟨z, i, c, hx.str_of, hy.int_of, h1, h2, k _ _ B H [] h3 (.same ex .str)⟩))
  | kd nm kvs =>
    obtain ⟨z, i, q, rfl, h1, h2, h3⟩ := h
    cases hx with
    | sh r =>
      cases r with
      | kd a b r =>
        obtain ⟨u, v, e1, e2, e3⟩ := kd_some b h1
        obtain ⟨v2, g1, g2⟩ := r.get (i := i) (d := q.2) (by rw [List.getElem?_map, h2]; rfl)
        rw [e2] at g1
        cases g1
        exact .inr ⟨_, _, _, z, u, v, a, rfl, hy.str_of, e1, e3, k _ _ B H [] h3 (.same ex g2)⟩
  | _ => exact gen h
theorem plainIx {b : Expr} (h : (match b with | .Slice _ _ _ _ => false | _ => true) = true) : PlainIx b := by
  intro o i
  cases b <;> first | rfl | cases h

/-! ### displays -/
def opTup (ds : List D) (P : D → Prop) : Prop := ds.all D.pl = true ∧ ds.length ≤ sizeLine ∧ P (.tup ds)
def opLst (ds : List D) (P : D → Prop) : Prop := ds.all D.pl = true ∧ ds.length ≤ sizeLine ∧ P (.own ds)
theorem Cont.plain {K : KW} {B H : Hp} : ∀ {vs : List V} {ds : List D}, Cont K B H vs ds → ds.all D.pl = true → Reps K B vs ds
  | _, _, .nil, _ => .nil
  | _, _, .cons a b, h => by
    rw [List.all_cons, Bool.and_eq_true] at h
    exact .cons (a.plain h.1) (Cont.plain b h.2)
def rTupD : List V → Hp → VK → Prop := fun xs H1 Q => xs.length ≤ sizeLine ∧ ∀ p, H1 p = none → Q (.ref p) (upd H1 p (.tup xs))
def rLstD : List V → Hp → VK → Prop := fun xs H1 Q => xs.length ≤ sizeLine ∧ ∀ p, H1 p = none → Q (.ref p) (upd H1 p (.lst xs))
theorem cd_tup {K : KW} : CallD K rTupD opTup := by
  intro B H vs ds P Q ex c h k
  obtain ⟨h1, h2, h3⟩ := h
  have r := c.plain h1
  exact ⟨by rw [r.length]; exact h2, fun p hp => k _ _ _ _ [] h3 (.tup ex hp r)⟩
theorem cd_lst {K : KW} : CallD K rLstD opLst := by
  intro B H vs ds P Q ex c h k
  obtain ⟨h1, h2, h3⟩ := h
  have r := c.plain h1
  exact ⟨by rw [r.length]; exact h2, fun p hp => k _ _ _ _ [p] h3 (.own ex hp r)⟩

/-! ### built-in functions -/
def D.itemsN : D → Option Nat
  | .own xs => some xs.length
  | .lst xs => some xs.length
  | .flst xs => some xs.length
  | .tup xs => some xs.length
  | _ => none
def opLen (ds : List D) (P : D → Prop) : Prop := match ds with
  | [.str z] => z.length ≤ sizeLine ∧ P (.int z.length)
  | [d] => ∃ n, d.itemsN = some n ∧ P (.int n)
  | _ => False
theorem OS.itemsN {K : KW} {B H : Hp} {v : V} {d : D} {f : List Addr} {n : Nat} (e : Ex B H) (h : OS K B H (some v) d f) (z : d.itemsN = some n) : ∃ p vs, v = .ref p ∧ (SqL K.F H p vs ∨ SqT K.F H p vs) ∧ vs.length = n := by
  cases h with
  | und => cases z
  | sh r => cases r <;> first
    | (cases z <;> done)
    | (rename_i a vs ds hl r; cases z; exact ⟨a, vs, rfl, .inl (.of (e _ _ hl)), r.length⟩)
    | (rename_i a vs ds hl r; cases z; exact ⟨a, vs, rfl, .inl (ex_l e hl), r.length⟩)
    | (rename_i a vs ds hl r; cases z; exact ⟨a, vs, rfl, .inr (ex_tq e hl).sq, r.length⟩)
  | @own p vs os ds fp b l m r =>
    cases z
    refine ⟨p, vs, rfl, .inl (.of l), ?_⟩
    rw [← r.len, ← m, List.length_map]
  | oins => cases z
theorem cd_len {K : KW} : CallD K (fun xs H Q => ∃ x n, xs = [x] ∧ LenV K.F x H n ∧ Q (.int n) H) opLen := by
  intro B H vs ds P Q ex c h k
  unfold opLen at h
  split at h
  · cases c with
    | cons a b =>
      cases b
      have e := a.str_of
      subst e
      exact ⟨_, _, rfl, ⟨h.1, rfl⟩, k _ _ B H [] h.2 (.same ex .int)⟩
  · cases c with
    | cons a b =>
      cases b
      obtain ⟨n, h1, h2⟩ := h
      obtain ⟨p, ws, rfl, s, l⟩ := a.itemsN ex h1
      refine ⟨_, n, rfl, ?_, k _ _ B H [] h2 (.same ex .int)⟩
      rcases s with s | s
      · exact .inl ⟨ws, s, l.symm⟩
      · exact .inr ⟨ws, s, l.symm⟩
  · exact h.elim
def opList (ds : List D) (P : D → Prop) : Prop := match ds with
  | [d] => ∃ xs, d.sq = some xs ∧ P (.own xs)
  | _ => False
def opTuple (ds : List D) (P : D → Prop) : Prop := match ds with
  | [d] => ∃ xs, d.sq = some xs ∧ P (.tup xs)
  | _ => False
theorem D.tsq_eq {d : D} {xs : List D} (h : d.tsq = some xs) : d = .tup xs := by
  cases d <;> first | (cases h; rfl) | cases h
theorem cd_list {K : KW} : CallD K (fun xs H Q => ∃ p ys, xs = [.ref p] ∧ (SqL K.F H p ys ∨ SqT K.F H p ys) ∧ ∀ l, H l = none → Q (.ref l) (upd H l (.lst ys))) opList := by
  intro B H vs ds P Q ex c h k
  unfold opList at h
  split at h
  · cases c with
    | cons a b =>
      cases b
      obtain ⟨xs, h1, h2⟩ := h
      rcases D.sq_or h1 with z | z
      · obtain ⟨p, ws, rfl, s, r⟩ := a.lsq ex z
        exact ⟨p, ws, rfl, .inl s, fun l hl => k _ _ _ _ [l] h2 (.own ex hl r)⟩
      · obtain ⟨p, ws, rfl, s, r⟩ := a.tsq ex z
        exact ⟨p, ws, rfl, .inr s, fun l hl => k _ _ _ _ [l] h2 (.own ex hl r)⟩
  · exact h.elim
theorem cd_tuple {K : KW} : CallD K (fun xs H Q => ∃ p ys, xs = [.ref p] ∧ ((SqL K.F H p ys ∧ ∀ l, H l = none → Q (.ref l) (upd H l (.tup ys))) ∨ (SqT K.F H p ys ∧ Q (.ref p) H))) opTuple := by
  intro B H vs ds P Q ex c h k
  unfold opTuple at h
  split at h
  · cases c with
    | cons a b =>
      cases b
      obtain ⟨xs, h1, h2⟩ := h
      rcases D.sq_or h1 with z | z
      · obtain ⟨p, ws, rfl, s, r⟩ := a.lsq ex z
        exact ⟨p, ws, rfl, .inl ⟨s, fun l hl => k _ _ _ _ [] h2 (.tup ex hl r)⟩⟩
      · obtain ⟨p, ws, rfl, s, r⟩ := a.tq ex z
        have e := D.tsq_eq z
        subst e
        exact ⟨p, ws, rfl, .inr ⟨s.sq, k _ _ B H [] h2 (.same ex (a.plain rfl))⟩⟩
  · exact h.elim
def opInt (ds : List D) (P : D → Prop) : Prop := match ds with
  | [.int i] => P (.int i)
  | [.bl b] => P (.int (if b then 1 else 0))
  | _ => False
theorem cd_int {K : KW} : CallD K (fun xs H Q => (∃ i, xs = [.int i] ∧ Q (.int i) H) ∨ ∃ k, xs = [.bl k] ∧ Q (.int (if k then 1 else 0)) H) opInt := by
  intro B H vs ds P Q ex c h k
  unfold opInt at h
  split at h
  · cases c with
    | cons a b =>
      cases b
      rw [a.int_of]
      exact .inl ⟨_, rfl, k _ _ B H [] h (.same ex .int)⟩
  · cases c with
    | cons a b =>
      cases b
      rw [a.bl_of]
      exact .inr ⟨_, rfl, k _ _ B H [] h (.same ex .int)⟩
  · exact h.elim
def opMax (ds : List D) (P : D → Prop) : Prop := match ds with
  | [.int i, .int j] => P (.int (if j > i then j else i))
  | [d] => ∃ ns : List Int, d.lsq = some (ns.map D.int) ∧ 0 < ns.length ∧ ∀ m, m ∈ ns → (∀ y, y ∈ ns → y ≤ m) → P (.int m)
  | _ => False
def opMin (ds : List D) (P : D → Prop) : Prop := match ds with
  | [.int i, .int j] => P (.int (if j < i then j else i))
  | [d] => ∃ ns : List Int, d.lsq = some (ns.map D.int) ∧ 0 < ns.length ∧ ∀ m, m ∈ ns → (∀ y, y ∈ ns → m ≤ y) → P (.int m)
  | _ => False
def rMaxU (K : PySem.W.Frag) : List V → Hp → VK → Prop := fun xs H Q => (∃ i j, xs = [.int i, .int j] ∧ Q (.int (if j > i then j else i)) H) ∨ rMax K xs H Q
def rMinU (K : PySem.W.Frag) : List V → Hp → VK → Prop := fun xs H Q => (∃ i j, xs = [.int i, .int j] ∧ Q (.int (if j < i then j else i)) H) ∨ rMin K xs H Q
theorem cd_max {K : KW} : CallD K (rMaxU K.F) opMax := by
  intro B H vs ds P Q ex c h k
  unfold opMax at h
  split at h
  · cases c with
    | cons a b =>
      cases b with
      | cons a2 b =>
        cases b
        rw [a.int_of, a2.int_of]
        exact .inl ⟨_, _, rfl, k _ _ B H [] h (.same ex .int)⟩
  · cases c with
    | cons a b =>
      cases b
      obtain ⟨ns, h1, h2, h3⟩ := h
      obtain ⟨p, ws, rfl, s, r⟩ := a.lsq ex h1
      have e := r.ints
      subst e
      exact .inr ⟨p, ns, rfl, s, h2, fun m a b => k _ _ B H [] (h3 m a b) (.same ex .int)⟩
  · exact h.elim
theorem cd_min {K : KW} : CallD K (rMinU K.F) opMin := by
  intro B H vs ds P Q ex c h k
  unfold opMin at h
  split at h
  · cases c with
    | cons a b =>
      cases b with
      | cons a2 b =>
        cases b
        rw [a.int_of, a2.int_of]
        exact .inl ⟨_, _, rfl, k _ _ B H [] h (.same ex .int)⟩
  · cases c with
    | cons a b =>
      cases b
      obtain ⟨ns, h1, h2, h3⟩ := h
      obtain ⟨p, ws, rfl, s, r⟩ := a.lsq ex h1
      have e := r.ints
      subst e
      exact .inr ⟨p, ns, rfl, s, h2, fun m a b => k _ _ B H [] (h3 m a b) (.same ex .int)⟩
  · exact h.elim
def opSum (ds : List D) (P : D → Prop) : Prop := match ds with
  | [d] => ∃ ns : List Int, d.lsq = some (ns.map D.int) ∧ P (.int ns.sum)
  | _ => False
theorem cd_sum {K : KW} : CallD K (rSum K.F) opSum := by
  intro B H vs ds P Q ex c h k
  unfold opSum at h
  split at h
  · cases c with
    | cons a b =>
      cases b
      obtain ⟨ns, h1, h2⟩ := h
      obtain ⟨p, ws, rfl, s, r⟩ := a.lsq ex h1
      have e := r.ints
      subst e
      exact ⟨p, ns, rfl, s, k _ _ B H [] h2 (.same ex .int)⟩
  · exact h.elim
/-- sorted(xs): ints, any number; texts, fewer than 64 -/
def opSorted (ds : List D) (P : D → Prop) : Prop := match ds with
  | [d] => (∃ ns : List Int, d.lsq = some (ns.map D.int) ∧ ∀ ms : List Int, ms.Perm ns → ms.Pairwise (· ≤ ·) → P (.own (ms.map D.int)))
  | _ => False
theorem cd_sorted {K : KW} : CallD K (rSortedI K.F) opSorted := by
  intro B H vs ds P Q ex c h k
  unfold opSorted at h
  split at h
  · cases c with
    | cons a b =>
      cases b
      obtain ⟨ns, h1, h2⟩ := h
      obtain ⟨p, ws, rfl, s, r⟩ := a.lsq ex h1
      have e := r.ints
      subst e
      exact ⟨p, ns, rfl, s, fun ms q a b hq => k _ _ _ _ [q] (h2 ms a b) (.own ex hq (Reps.of_ints ms))⟩
  · exact h.elim

/-! ### isinstance -/
/-- the built-in type of a datum -/
def D.tyN : D → Option String
  | .non => some "NoneType"
  | .bl _ => some "bool"
  | .int _ => some "int"
  | .str _ => some "str"
  | .lst _ => some "list"
  | .flst _ => some "list"
  | .own _ => some "list"
  | .tup _ => some "tuple"
  | _ => none
theorem OS.tyx {K : KW} {B H : Hp} {v : V} {d : D} {f : List Addr} {t : String} (e : Ex B H) (h : OS K B H (some v) d f) (z : d.tyN = some t) : TyX K.F H v (.type t) := by
  cases h with
  | und => cases z
  | sh r =>
    cases r with
    | non => cases z; exact .base .non
    | bl => cases z; exact .base (.bl _)
    | int => cases z; exact .base (.int _)
    | str => cases z; exact .base (.str _)
    | lst l r => cases z; exact .base (.lst (e _ _ l))
    | flst l r =>
      cases z
      rcases ex_l e l with (h | ⟨o, h⟩) | ⟨o, its, n, h1, h2, _⟩
      · exact .base (.lst h)
      · exact .base (.frz h)
      · exact .kList h1 h2
    | tup l r =>
      cases z
      rcases ex_tq e l with h | ⟨o, its, n, h1, h2, _⟩
      · exact .base (.tup h)
      · exact .kTuple h1 h2
    | _ => cases z
  | own b l m r => cases z; exact .base (.lst l)
  | oins => cases z
def kitAnyB (t : String) : List String → Option Bool
  | [] => some false
  | c :: cs => match kitB t c with
    | some true => some true
    | some false => kitAnyB t cs
    | none => none
theorem kitAnyB_ok {K : PySem.W.Frag} {t : String} : ∀ {cs : List String} {b : Bool}, kitAnyB t cs = some b → PySem.W.kitAny K (.type t) (cs.map Value.type) = some b
  | [], b, h => by
    cases h
    exact kitAny_nil
  | c :: cs, b, h => by
    unfold kitAnyB at h
    split at h
    · rename_i q
      cases h
      exact kitAny_cons (kit_ty q) (fun z => nomatch z) fun _ => rfl
    · rename_i q
      exact kitAny_cons (kit_ty q) (fun _ => kitAnyB_ok h) fun z => nomatch z
    · cases h
/-- all of them built-in types -/
def tyNames : List D → Option (List String)
  | [] => some []
  | .ty n :: r => (tyNames r).map (n :: ·)
  | _ :: _ => none
theorem tyNames_ok {K : KW} {B : Hp} : ∀ {vs : List V} {ds : List D} {cs : List String}, Reps K B vs ds → tyNames ds = some cs → Paired ClsV vs (cs.map Value.type)
  | _, [], cs, .nil, h => by cases h; exact .nil
  | _, d :: ds, cs, .cons a b, h => by
    cases d <;> first
      | (cases h; done)
      | (cases hq : tyNames ds with
          | none => simp [tyNames, hq] at h
          | some r =>
            simp [tyNames, hq] at h
            subst h
            cases a
            exact .cons (.ty _) (tyNames_ok b hq))
def opIsi (ds : List D) (P : D → Prop) : Prop := match ds with
  | [d, .ty n] => ∃ t b, d.tyN = some t ∧ kitB t n = some b ∧ P (.bl b)
  | [d, .tup cs] => ∃ t b ns, d.tyN = some t ∧ tyNames cs = some ns ∧ kitAnyB t ns = some b ∧ P (.bl b)
  | _ => False
def rIsiU (K : PySem.W.Frag) : List V → Hp → VK → Prop := fun xs H Q => rIsi K xs H Q ∨ rIsiT K xs H Q ∨ rIsiK K xs H Q
theorem cd_isi {K : KW} : CallD K (rIsiU K.F) opIsi := by
  intro B H vs ds P Q ex c h k
  unfold opIsi at h
  split at h
  · cases c with
    | cons a b =>
      cases b with
      | cons a2 b =>
        cases b
        obtain ⟨t, b, h1, h2, h3⟩ := h
        rw [a2.ty_of]
        exact .inl ⟨_, _, _, _, b, rfl, .ty _, a.tyx ex h1, kit_ty h2, k _ _ B H [] h3 (.same ex .bl)⟩
  · cases c with
    | cons a b =>
      cases b with
      | cons a2 b =>
        cases b
        obtain ⟨t, b, ns, h1, h2, h3, h4⟩ := h
        obtain ⟨p, ws, rfl, s, r⟩ := a2.tq ex rfl
        rcases s with s | s
        · exact .inr (.inl ⟨_, p, ws, _, _, b, rfl, s, tyNames_ok r h2, a.tyx ex h1, kitAnyB_ok h3, k _ _ B H [] h4 (.same ex .bl)⟩)
        · obtain ⟨⟨oc, od, dt, sl⟩, its, n, e1, e2, e3, _, e5⟩ := s
          have e6 := ClsV.all (tyNames_ok r h2) e5
          have e2 : oc = .type "tuple" := e2
          have e3 : dt = .seq its n := e3
          subst e2 e3
          refine .inr (.inr ⟨_, p, od, ns.map Value.type, n, sl, _, b, rfl, ?_, a.tyx ex h1, kitAnyB_ok h3, k _ _ B H [] h4 (.same ex .bl)⟩)
          rw [e1, ← e6]
  · exact h.elim
end FL

end
section
set_option maxHeartbeats 1000000
/-! FL6: statements. -/
namespace FL
open PySem PySem.Spec PyProof.Rows L2

/-- behind a statement: the slots may be others, but those of kp -/
structure PostG (K : KW) (kp : List Nat) (σ : St) (B H : Hp) (fp : List Addr) (σ' : St) (rs : List R) (ρ' : List D) (vs : List V) (B' H' : Hp) : Prop where
  kept : ∀ i ∈ kp, σ'[i]? = σ[i]?
  tr : Tr B H fp B' H'
  ex : Ex B' H'
  rep : ∃ fd fs, ROs K B' H' σ' vs rs fd ∧ OSs K B' H' σ' ρ' fs ∧ (fd ++ fs).Nodup ∧ Sub H fp (fd ++ fs)
structure PostXS (K : KW) (kp : List Nat) (σ : St) (B H : Hp) (fp : List Addr) (σ' : St) (x : Exc) (ρ' : List D) (c : Value) (d : Option Addr) (B' H' : Hp) : Prop where
  kept : ∀ i ∈ kp, σ'[i]? = σ[i]?
  tr : Tr B H fp B' H'
  ex : Ex B' H'
  rep : ∃ fs, OSs K B' H' σ' ρ' fs ∧ fs.Nodup ∧ Sub H fp fs
  obj : ∃ a fl, c = .ref (He.ga K.F x.cls) ∧ d = some a ∧ H' a = some (.xd fl) ∧ fl.map (·.1) = x.ks ∧ Reps K B' (fl.map (·.2)) x.ds
section
variable {K : KW} {kp : List Nat} {B H B' H' : Hp} {σ σ' : St} {ρ ρ' : List D} {fp : List Addr}
theorem PostRs.g {rs : List R} {vs : List V} (a : PostRs K σ B H fp rs ρ' vs B' H') : PostG K kp σ B H fp σ rs ρ' vs B' H' := ⟨fun _ _ => rfl, a.tr, a.ex, a.rep⟩
theorem PostX.xs {x : Exc} {c : Value} {d : Option Addr} (a : PostX K σ B H fp x ρ' c d B' H') : PostXS K kp σ B H fp σ x ρ' c d B' H' := ⟨fun _ _ => rfl, a.tr, a.ex, a.rep, a.obj⟩
theorem W.g (w : W K B H σ ρ fp) : PostG K kp σ B H fp σ [] ρ [] B H := w.refl.g
/-- what comes next starts here; then both are one -/
theorem PostG.step {B1 H1 : Hp} {σ1 : St} {ρ1 : List D} (a : PostG K kp σ B H fp σ1 [] ρ1 [] B1 H1) : ∃ f1, W K B1 H1 σ1 ρ1 f1 ∧
    (∀ {σ2 : St} {rs2 : List R} {ρ2 : List D} {vs2 : List V} {B2 H2 : Hp}, PostG K kp σ1 B1 H1 f1 σ2 rs2 ρ2 vs2 B2 H2 → PostG K kp σ B H fp σ2 rs2 ρ2 vs2 B2 H2) ∧
    (∀ {σ2 : St} {ρ2 : List D} {x : Exc} {c : Value} {d : Option Addr} {B2 H2 : Hp}, PostXS K kp σ1 B1 H1 f1 σ2 x ρ2 c d B2 H2 → PostXS K kp σ B H fp σ2 x ρ2 c d B2 H2) := by
  obtain ⟨k1, t1, e1, fd, fs, r1, o1, n1, s1⟩ := a
  cases r1
  have n1 : fs.Nodup := by simpa using n1
  have s1 : Sub H fp fs := by simpa using s1
  refine ⟨fs, ⟨e1, o1, n1⟩, fun {σ2 rs2 ρ2 vs2 B2 H2} p2 => ?_, fun {σ2 ρ2 x c d B2 H2} p2 => ?_⟩
  · obtain ⟨k2, t2, e2, fd2, fs2, r2, o2, n2, s2⟩ := p2
    exact ⟨fun i hi => (k2 i hi).trans (k1 i hi), t1.trans s1 t2, e2, fd2, fs2, r2, o2, n2, Sub.trans t1 s1 s2⟩
  · obtain ⟨k2, t2, e2, ⟨fs2, o2, n2, s2⟩, ob⟩ := p2
    exact ⟨fun i hi => (k2 i hi).trans (k1 i hi), t1.trans s1 t2, e2, ⟨fs2, o2, n2, Sub.trans t1 s1 s2⟩, ob⟩
/-- from behind an expression -/
theorem PostRs.stepG {B1 H1 : Hp} {rs : List R} {vs : List V} {ρ1 : List D} (a : PostRs K σ B H fp rs ρ1 vs B1 H1) : ∃ f1, W K B1 H1 σ ρ1 f1 ∧
    (∀ {σ2 : St} {rs2 : List R} {ρ2 : List D} {vs2 : List V} {B2 H2 : Hp}, PostG K kp σ B1 H1 f1 σ2 rs2 ρ2 vs2 B2 H2 → PostG K kp σ B H fp σ2 rs2 ρ2 vs2 B2 H2) ∧
    (∀ {σ2 : St} {ρ2 : List D} {x : Exc} {c : Value} {d : Option Addr} {B2 H2 : Hp}, PostXS K kp σ B1 H1 f1 σ2 x ρ2 c d B2 H2 → PostXS K kp σ B H fp σ2 x ρ2 c d B2 H2) := a.drop.g.step

/-- a slot is set to a temporary -/
theorem PostRs.setSlot {B1 H1 : Hp} {ρ1 : List D} {v : V} {d : D} {i : Nat} (a : PostRs K σ B H fp [.val d] ρ1 [v] B1 H1) (hi : i ∉ kp) : PostG K kp σ B H fp (σ.set i (some v)) [] (ρ1.set i d) [] B1 H1 := by
  obtain ⟨t1, e1, fd, fs, r1, o1, n1, s1⟩ := a
  cases r1 with
  | @val _ _ _ _ f1 f2 _ os rr z =>
    cases rr
    have z1 : fd = f1 := by simpa using z
    subst z1
    have kept : ∀ j ∈ kp, (σ.set i (some v))[j]? = σ[j]? := fun j hj => List.getElem?_set_ne fun e => hi (by rw [e]; exact hj)
    by_cases hl : i < ρ1.length
    · obtain ⟨o, fi, fr, h1, h2, h3, h4⟩ := o1.split (List.getElem?_eq_getElem hl)
      have mem : ∀ q ∈ fr, q ∈ fs := fun q hq => h3.mem_iff.mpr (List.mem_append_right _ hq)
      obtain ⟨fp', g1, g2⟩ := h4 (Ex.refl B1) (fun q hq => (o1.there q (mem q hq)).1) (fun _ _ => rfl) os
      refine ⟨kept, t1, e1, [], fp', .nil, g1, ?_, fun q hq => ?_⟩
      · have nfr : fr.Nodup := (List.nodup_append.mp (h3.nodup_iff.mp (List.nodup_append.mp n1).2.1)).2.1
        have : (fd ++ fr).Nodup := List.nodup_append.mpr ⟨(List.nodup_append.mp n1).1, nfr, fun q hq q' hq' e => (List.nodup_append.mp n1).2.2 q hq q' (mem q' hq') e⟩
        simpa using g2.nodup_iff.mpr this
      · have q1 : q ∈ fd ++ fr := g2.mem_iff.mp (by simpa using hq)
        rcases List.mem_append.mp q1 with y | y
        · exact s1 q (List.mem_append_left _ y)
        · exact s1 q (List.mem_append_right _ (mem q y))
    · have hl2 : ¬ i < σ.length := by rw [o1.len]; exact hl
      rw [List.set_eq_of_length_le (by omega), List.set_eq_of_length_le (by omega)]
      exact ⟨fun _ _ => rfl, t1, e1, [], fs, .nil, o1, by simpa using (List.nodup_append.mp n1).2.1, fun q hq => s1 q (List.mem_append_right _ (by simpa using hq))⟩
/-- a slot is given away -/
theorem PostRs.move {B1 H1 : Hp} {ρ1 : List D} {v : V} {i : Nat} (a : PostRs K σ B H fp [.slot i] ρ1 [v] B1 H1) : PostRs K σ B H fp [.val (dAt ρ1 i)] (ρ1.set i .und) [v] B1 H1 := by
  obtain ⟨t1, e1, fd, fs, r1, o1, n1, s1⟩ := a
  cases r1 with
  | @slot _ _ _ _ _ e rr =>
    cases rr
    have hl : i < ρ1.length := by
      rw [← o1.len]
      exact (List.getElem?_eq_some_iff.mp e).1
    have hd : ρ1[i]? = some (dAt ρ1 i) := by
      unfold dAt
      rw [List.getD_eq_getElem?_getD, List.getElem?_eq_getElem hl]
      rfl
    obtain ⟨o, fi, fr, h1, h2, h3, h4⟩ := o1.split hd
    rw [e] at h1
    cases h1
    have n2 : (fi ++ fr).Nodup := h3.nodup_iff.mp (by simpa using n1)
    have mem : ∀ q ∈ fr, q ∈ fs := fun q hq => h3.mem_iff.mpr (List.mem_append_right _ hq)
    obtain ⟨fp', g1, g2⟩ := h4 (o' := some v) (d' := .und) (Ex.refl B1) (fun q hq => (o1.there q (mem q hq)).1) (fun _ _ => rfl) .und
    have es : σ.set i (some v) = σ := by
      apply List.ext_getElem?
      intro j
      by_cases hj : i = j
      · subst hj
        rw [List.getElem?_set_self (List.getElem?_eq_some_iff.mp e).1, e]
      · rw [List.getElem?_set_ne hj]
    rw [es] at g1
    have g2 : fp'.Perm fr := by simpa using g2
    refine ⟨t1, e1, fi, fp', .val (f2 := []) h2 .nil (by simp), g1, ?_, fun q hq => s1 q ?_⟩
    · exact (List.Perm.append_left fi g2).nodup_iff.mpr n2
    · have : q ∈ fi ++ fr := (List.Perm.append_left fi g2).mem_iff.mp hq
      simpa using h3.mem_iff.mpr this
end

/-! ### the judgements -/
def tS (K : KW) (Wx : WX) (kp : List Nat) (f : WS) : TS := fun D σ H => ∃ B ρ fp X E, W K B H σ ρ fp ∧ f X E ρ ∧
  (∀ σ' ρ' B' H', E.nx ρ' → PostG K kp σ B H fp σ' [] ρ' [] B' H' → D.nx σ' H') ∧
  (∀ d σ' ρ' v B' H', E.rt d ρ' → PostG K kp σ B H fp σ' [.val d] ρ' [v] B' H' → D.rt v H') ∧
  (∀ σ' ρ' B' H', E.bk ρ' → PostG K kp σ B H fp σ' [] ρ' [] B' H' → D.bk σ' H') ∧
  (∀ σ' ρ' B' H', E.ct ρ' → PostG K kp σ B H fp σ' [] ρ' [] B' H' → D.ct σ' H') ∧
  (∀ x σ' ρ' c d B' H', X x ρ' → PostXS K kp σ B H fp σ' x ρ' c d B' H' → Wx c d σ' H')
abbrev PFS (X : Cx) (Wx : WX) (kp : List Nat) (st : Stmt) (f : WS) : Prop := PS X st (tS X.kw Wx kp f)
abbrev PFSs (X : Cx) (Wx : WX) (kp : List Nat) (st : List Stmt) (f : WS) : Prop := PSs X st (tS X.kw Wx kp f)
theorem ps_imp {X : Cx} {st : Stmt} {t t' : TS} (h : PS X st t) (i : ∀ D σ H, t' D σ H → t D σ H) : PS X st t' := ⟨fun pins s σ H D I hw => h.run pins s σ H D I (i _ _ _ hw)⟩
theorem pss_imp {X : Cx} {st : List Stmt} {t t' : TS} (h : PSs X st t) (i : ∀ D σ H, t' D σ H → t D σ H) : PSs X st t' := ⟨fun pins s σ H D I hw => h.run pins s σ H D I (i _ _ _ hw)⟩

/-- the wish of an expression within a statement: the slots as they stand -/
def wNext : WS := fun _ E ρ => E.nx ρ
def wSeq (f g : WS) : WS := fun X E ρ => f X { E with nx := g X E } ρ
def wBreak : WS := fun _ E ρ => E.bk ρ
def wCont : WS := fun _ E ρ => E.ct ρ
def wNever : WS := fun _ _ _ => False
def wAsg (i : Nat) (f : WE) : WS := fun X E ρ => f X ρ fun r ρ1 => E.nx ((r.en ρ1).set i (r.tk ρ1))
def wExpr (f : WE) : WS := fun X E ρ => f X ρ fun _ ρ1 => E.nx ρ1
def wIf (c : WT) (f g : WS) : WS := fun X E ρ => c X ρ fun b ρ1 => if b = true then f X E ρ1 else g X E ρ1
def wRet (kp : List Nat) (f : WE) : WS := fun X E ρ => f X ρ fun r ρ1 => match r with
  | .val d => E.rt d ρ1
  | .slot i => if i ∈ kp then E.rt (dAt ρ1 i).sh (ρ1.set i (dAt ρ1 i).sh) else E.rt (dAt ρ1 i) (ρ1.set i .und)
def wRetN : WS := fun _ E ρ => E.rt .non ρ
section
variable {X : Cx} {Wx : WX} {kp : List Nat}
theorem imp_next {K : KW} (D : Ends) (σ : St) (H : Hp) (h : tS K Wx kp wNext D σ H) : tNext D σ H := by
  obtain ⟨B, ρ, fp, Xd, E, w, hf, hn, _⟩ := h
  exact hn σ ρ B H hf w.g
theorem imp_break {K : KW} (D : Ends) (σ : St) (H : Hp) (h : tS K Wx kp wBreak D σ H) : tBreak D σ H := by
  obtain ⟨B, ρ, fp, Xd, E, w, hf, _, _, hn, _⟩ := h
  exact hn σ ρ B H hf w.g
theorem imp_cont {K : KW} (D : Ends) (σ : St) (H : Hp) (h : tS K Wx kp wCont D σ H) : tCont D σ H := by
  obtain ⟨B, ρ, fp, Xd, E, w, hf, _, _, _, hn, _⟩ := h
  exact hn σ ρ B H hf w.g
theorem imp_never {K : KW} (D : Ends) (σ : St) (H : Hp) (h : tS K Wx kp wNever D σ H) : tNever D σ H := by
  obtain ⟨B, ρ, fp, Xd, E, w, hf, _⟩ := h
  exact hf
theorem imp_seq {K : KW} {f g : WS} (D : Ends) (σ : St) (H : Hp) (h : tS K Wx kp (wSeq f g) D σ H) : tSeq (tS K Wx kp f) (tS K Wx kp g) D σ H := by
  obtain ⟨B, ρ, fp, Xd, E, w, hf, hn, hr, hb, hc, hx⟩ := h
  refine ⟨B, ρ, fp, Xd, { E with nx := g Xd E }, w, hf, fun σ1 ρ1 B1 H1 h1 p1 => ?_, hr, hb, hc, hx⟩
  obtain ⟨f1, w1, k, kx⟩ := p1.step
  exact ⟨B1, ρ1, f1, Xd, E, w1, h1, fun σ' ρ' B' H' h p => hn σ' ρ' B' H' h (k p), fun d σ' ρ' v B' H' h p => hr d σ' ρ' v B' H' h (k p),
    fun σ' ρ' B' H' h p => hb σ' ρ' B' H' h (k p), fun σ' ρ' B' H' h p => hc σ' ρ' B' H' h (k p), fun x σ' ρ' c d B' H' h p => hx x σ' ρ' c d B' H' h (kx p)⟩
theorem imp_asg {K : KW} {i : Nat} {f : WE} (hi : i ∉ kp) (D : Ends) (σ : St) (H : Hp) (h : tS K Wx kp (wAsg i f) D σ H) : tAsg (tE K Wx f) (gName i) D σ H := by
  obtain ⟨B, ρ, fp, Xd, E, w, hf, hn, hr, hb, hc, hx⟩ := h
  refine ⟨B, ρ, fp, Xd, _, w, hf, fun r ρ1 v B1 H1 h1 p1 => ?_, fun x ρ' c d B' H' h p => hx x σ ρ' c d B' H' h p.xs⟩
  obtain ⟨B2, p2⟩ := p1.take
  exact hn _ _ B2 H1 h1 (p2.setSlot hi)
theorem imp_expr {K : KW} {f : WE} (D : Ends) (σ : St) (H : Hp) (h : tS K Wx kp (wExpr f) D σ H) : tDrop (tE K Wx f) D σ H := by
  obtain ⟨B, ρ, fp, Xd, E, w, hf, hn, hr, hb, hc, hx⟩ := h
  exact ⟨B, ρ, fp, Xd, _, w, hf, fun r ρ1 v B1 H1 h1 p1 => hn _ _ B1 H1 h1 p1.drop.g, fun x ρ' c d B' H' h p => hx x σ ρ' c d B' H' h p.xs⟩
theorem imp_if {K : KW} {c : WT} {f g : WS} (D : Ends) (σ : St) (H : Hp) (h : tS K Wx kp (wIf c f g) D σ H) : tIfS (tT K Wx c) (tS K Wx kp f) (tS K Wx kp g) D σ H := by
  obtain ⟨B, ρ, fp, Xd, E, w, hf, hn, hr, hb, hc, hx⟩ := h
  refine ⟨B, ρ, fp, Xd, _, w, hf, fun b ρ1 B1 H1 h1 p1 => ?_, fun x ρ' c d B' H' h p => hx x σ ρ' c d B' H' h p.xs⟩
  obtain ⟨f1, w1, k, kx⟩ := p1.stepG (kp := kp)
  have fin : ∀ u : WS, u Xd E ρ1 → tS K Wx kp u D σ H1 := fun u hu => ⟨B1, ρ1, f1, Xd, E, w1, hu, fun σ' ρ' B' H' h p => hn σ' ρ' B' H' h (k p), fun d σ' ρ' v B' H' h p => hr d σ' ρ' v B' H' h (k p),
    fun σ' ρ' B' H' h p => hb σ' ρ' B' H' h (k p), fun σ' ρ' B' H' h p => hc σ' ρ' B' H' h (k p), fun x σ' ρ' c d B' H' h p => hx x σ' ρ' c d B' H' h (kx p)⟩
  cases b with
  | true => exact fin f h1
  | false => exact fin g h1
theorem imp_ret {K : KW} {f : WE} (D : Ends) (σ : St) (H : Hp) (h : tS K Wx kp (wRet kp f) D σ H) : tRet (tE K Wx f) D σ H := by
  obtain ⟨B, ρ, fp, Xd, E, w, hf, hn, hr, hb, hc, hx⟩ := h
  refine ⟨B, ρ, fp, Xd, _, w, hf, fun r ρ1 v B1 H1 h1 p1 => ?_, fun x ρ' c d B' H' h p => hx x σ ρ' c d B' H' h p.xs⟩
  cases r with
  | val d => exact hr d σ ρ1 v B1 H1 h1 p1.g
  | slot i =>
    by_cases c : i ∈ kp
    · have h1 : (if i ∈ kp then E.rt (dAt ρ1 i).sh (ρ1.set i (dAt ρ1 i).sh) else E.rt (dAt ρ1 i) (ρ1.set i .und)) := h1
      rw [if_pos c] at h1
      obtain ⟨B2, p2⟩ := p1.take
      exact hr _ σ _ v B2 H1 h1 p2.g
    · have h1 : (if i ∈ kp then E.rt (dAt ρ1 i).sh (ρ1.set i (dAt ρ1 i).sh) else E.rt (dAt ρ1 i) (ρ1.set i .und)) := h1
      rw [if_neg c] at h1
      exact hr _ σ _ v B1 H1 h1 p1.move.g
theorem imp_retN {K : KW} (D : Ends) (σ : St) (H : Hp) (h : tS K Wx kp wRetN D σ H) : tRetN D σ H := by
  obtain ⟨B, ρ, fp, Xd, E, w, hf, hn, hr, hb, hc, hx⟩ := h
  exact hr .non σ ρ .non B H hf ⟨fun _ _ => rfl, Tr.refl, w.ex, [], fp, .val (f1 := []) (f2 := []) (.sh .non) .nil rfl, w.os, w.nd, Sub.refl⟩
end

/-! ### loops -/
def wWhile (c : WT) (f : WS) : WS := fun X E ρ => ∃ I : Nat → List D → Prop, (∃ m, I m ρ) ∧ ∀ m ρ, I m ρ →
  c X ρ fun b ρ1 => if b = true then f X { E with nx := fun ρ' => ∃ m', m' < m ∧ I m' ρ', ct := fun ρ' => ∃ m', m' < m ∧ I m' ρ', bk := E.nx } ρ1 else E.nx ρ1
/-- what a target does with a datum -/
abbrev WG := D → List D → (List D → Prop) → Prop
def gN (i : Nat) : WG := fun d ρ P => P (ρ.set i d)
def wForL (g : WG) (f : WS) (X : XD) (E : WEnds) : List D → List D → Prop
  | [], ρ => E.nx ρ
  | d :: ds, ρ => g d ρ fun ρ1 => f X { E with nx := wForL g f X E ds, ct := wForL g f X E ds, bk := E.nx } ρ1
def wForR (i : Nat) (f : WS) (X : XD) (E : WEnds) (lo : Int) : Nat → Nat → List D → Prop
  | _, 0, ρ => E.nx ρ
  | k, n + 1, ρ => f X { E with nx := wForR i f X E lo (k + 1) n, ct := wForR i f X E lo (k + 1) n, bk := E.nx } (ρ.set i (.int (lo + k)))
section
variable {X : Cx} {Wx : WX} {kp : List Nat}
theorem imp_while {K : KW} {c : WT} {f : WS} (D : Ends) (σ : St) (H : Hp) (h : tS K Wx kp (wWhile c f) D σ H) : tWhile (tT K Wx c) (tS K Wx kp f) D σ H := by
  obtain ⟨B, ρ, fp, Xd, E, w, ⟨I, ⟨m0, hm0⟩, hI⟩, hn, hr, hb, hc, hx⟩ := h
  refine ⟨fun m σ1 H1 => ∃ B1 ρ1, I m ρ1 ∧ PostG K kp σ B H fp σ1 [] ρ1 [] B1 H1, ⟨m0, B, ρ, hm0, w.g⟩, fun m σ1 H1 ⟨B1, ρ1, i1, p1⟩ => ?_⟩
  obtain ⟨f1, w1, k, kx⟩ := p1.step
  have z := hI m ρ1 i1
  refine ⟨B1, ρ1, f1, Xd, _, w1, z, fun b ρ2 B2 H2 h2 p2 => ?_, fun x ρ' c d B' H' h p => hx x σ1 ρ' c d B' H' h (kx p.xs)⟩
  cases b with
  | false => exact hn σ1 ρ2 B2 H2 h2 (k p2.g)
  | true =>
    obtain ⟨f2, w2, k2, kx2⟩ := p2.stepG (kp := kp)
    refine ⟨fun σ' H' => ∃ B' ρ', (∃ m', m' < m ∧ I m' ρ') ∧ PostG K kp σ B H fp σ' [] ρ' [] B' H', fun σ' H' ⟨B', ρ', ⟨m', lt, i'⟩, p'⟩ => ⟨m', lt, B', ρ', i', p'⟩, ?_⟩
    exact ⟨B2, ρ2, f2, Xd, _, w2, h2, fun σ' ρ' B' H' h p => ⟨B', ρ', h, k (k2 p)⟩, fun d σ' ρ' v B' H' h p => hr d σ' ρ' v B' H' h (k (k2 p)),
      fun σ' ρ' B' H' h p => hn σ' ρ' B' H' h (k (k2 p)), fun σ' ρ' B' H' h p => ⟨B', ρ', h, k (k2 p)⟩, fun x σ' ρ' c d B' H' h p => hx x σ' ρ' c d B' H' h (kx (kx2 p))⟩
end
end FL

end
section
set_option maxHeartbeats 1000000
/-! FL7: for loops, comprehensions. -/
namespace FL
open PySem PySem.Spec PyProof.Rows L2

/-- what is walked: a list or a tuple -/
def iSeq (K : PySem.W.Frag) (tl : TE) : TI := fun σ H R => tl σ H fun x H1 => (∃ a, x = .ref a ∧ (∃ xs, SqL K H1 a xs) ∧ R (Itl K a) H1) ∨ (∃ a, x = .ref a ∧ (∃ xs, SqT K H1 a xs) ∧ R (Itt K a) H1)
theorem pi_seq {X : Cx} {tg l : Expr} {tl : TE} (hl : PE X l tl) : PI X tg l (iSeq X.K tl) := ⟨fun pins s σ H R I h =>
  thn (hl.run pins s σ H _ I h) fun v s1 ⟨x, H1, I1, r1, q1⟩ => by
    have fok : ∀ b ∈ [s1.heap.objs.size], FpOk X pins H1 b := fun b hb => by
      rw [List.mem_singleton.mp hb]
      exact I1.fpOk (Nat.le_refl _) (I1.hok.fresh (Nat.le_refl _))
    rcases q1 with ⟨a, rfl, ⟨xs, hq⟩, q⟩ | ⟨a, rfl, ⟨xs, hq⟩, q⟩
    · cases r1
      obtain ⟨its, _, p, _⟩ := I1.list hq
      exact wpAny_pyIter_list p.isList ⟨_, [s1.heap.objs.size], _, _, H1, rfl, I1.kept (t' := s1.toks) (fun _ _ e => Heap.get?_push_of_some _ e), turn_list a _, ⟨_, Heap.get?_push_size _ rfl, rfl, rfl⟩, fok, q⟩
    · cases r1
      obtain ⟨its, _, p, _⟩ := I1.tuple hq
      exact wpAny_pyIter_tuple (show s1.heap.IsTuple a its.toArray from p) ⟨_, [s1.heap.objs.size], _, _, H1, rfl, I1.kept (t' := s1.toks) (fun _ _ e => Heap.get?_push_of_some _ e), turn_tuple a _, ⟨_, Heap.get?_push_size _ rfl, rfl, rfl⟩, fok, q⟩⟩

/-- a target by data: what it stores -/
def GOk (K : KW) (kp : List Nat) (t : TG) (g : WG) : Prop := ∀ (σ : St) (B H : Hp) (ρ : List D) (fp : List Addr) (v : V) (d : D) (P : List D → Prop) (Q : St → Hp → Prop), W K B H σ ρ fp → Rep K B v d → g d ρ P →
  (∀ σ' ρ', P ρ' → PostG K kp σ B H fp σ' [] ρ' [] B H → Q σ' H) → t v σ H Q
theorem gok_name {K : KW} {kp : List Nat} {i : Nat} (hi : i ∉ kp) : GOk K kp (gName i) (gN i) := by
  intro σ B H ρ fp v d P Q w r h k
  have p : PostRs K σ B H fp [.val d] ρ [v] B H := ⟨Tr.refl, w.ex, [], fp, .val (f1 := []) (f2 := []) (.sh r) .nil rfl, w.os, w.nd, Sub.refl⟩
  exact k _ _ h (p.setSlot hi)
/-- (a, b, ..): plain targets -/
def gNs : List Nat → List D → List D → (List D → Prop) → Prop
  | [], [], ρ, P => P ρ
  | i :: is, d :: ds, ρ, P => gNs is ds (ρ.set i d) P
  | _, _, _, _ => False
def gT (is : List Nat) : WG := fun d ρ P => ∃ xs, d.tsq = some xs ∧ gNs is xs ρ P
def gNsT : List Nat → TGs
  | [] => gNil
  | i :: is => gCons (gName i) (gNsT is)
theorem gns_ok {K : KW} {kp : List Nat} : ∀ {is : List Nat} (hi : ∀ i ∈ is, i ∉ kp) {σ : St} {B H : Hp} {ρ : List D} {fp : List Addr} {vs : List V} {ds : List D} {P : List D → Prop} {Q : St → Hp → Prop}, W K B H σ ρ fp → Reps K B vs ds → gNs is ds ρ P →
    (∀ σ' ρ', P ρ' → PostG K kp σ B H fp σ' [] ρ' [] B H → Q σ' H) → gNsT is vs σ H Q
  | [], _, σ, B, H, ρ, fp, vs, ds, P, Q, w, r, h, k => by
    cases r with
    | nil => exact ⟨rfl, k σ ρ h w.g⟩
    | cons => exact h.elim
  | i :: is, hi, σ, B, H, ρ, fp, vs, ds, P, Q, w, r, h, k => by
    cases r with
    | nil => exact h.elim
    | @cons v d vs ds a b =>
      have p : PostRs K σ B H fp [.val d] ρ [v] B H := ⟨Tr.refl, w.ex, [], fp, .val (f1 := []) (f2 := []) (.sh a) .nil rfl, w.os, w.nd, Sub.refl⟩
      obtain ⟨f1, w1, k1, _⟩ := (p.setSlot (kp := kp) (hi i List.mem_cons_self)).step
      exact ⟨v, vs, rfl, gns_ok (fun j hj => hi j (List.mem_cons_of_mem _ hj)) w1 b h fun σ' ρ' hp pg => k σ' ρ' hp (k1 pg)⟩
theorem gns_len : ∀ {is : List Nat} {ds ρ : List D} {P : List D → Prop}, gNs is ds ρ P → ds.length = is.length
  | [], [], _, _, _ => rfl
  | [], _ :: _, _, _, h => h.elim
  | _ :: _, [], _, _, h => h.elim
  | i :: is, d :: ds, ρ, P, h => by
    rw [List.length_cons, List.length_cons, gns_len (is := is) (ds := ds) (ρ := ρ.set i d) (P := P) h]
theorem gok_tup {K : KW} {kp : List Nat} {is : List Nat} (hi : ∀ i ∈ is, i ∉ kp) : GOk K kp (gTup K.F is.length (gNsT is)) (gT is) := by
  intro σ B H ρ fp v d P Q w r h k
  obtain ⟨xs, h1, h2⟩ := h
  obtain ⟨p, vs, rfl, s, r2⟩ := (OS.sh (H := H) r).tsq w.ex h1
  exact ⟨p, vs, rfl, s, by rw [r2.length]; exact gns_len h2, gns_ok hi w r2 h2 k⟩

theorem sh_pl (d : D) : d.sh.pl = true := by cases d <;> rfl
def wFor (f : WE) (g : WG) (b : WS) : WS := fun X E ρ => f X ρ fun r ρ1 => ∃ xs, ((r.tk ρ1).sh).sq = some xs ∧ wForL g b X E xs (r.en ρ1)
section
variable {X : Cx} {Wx : WX} {kp : List Nat}
/-- the walk over a sequence that stands -/
theorem for_core {K : KW} {tg : TG} {g : WG} {b : WS} (hg : GOk K kp tg g) {Dn : Ends} {σ : St} {B H B1 H1 : Hp} {fp : List Addr} {ρ1 : List FL.D} {Xd : XD} {E : WEnds} {J : It} {vs : List V} {ds : List FL.D}
    (p1 : PostG K kp σ B H fp σ [] ρ1 [] B1 H1) (r : Reps K B1 vs ds) (hw : wForL g b Xd E ds ρ1)
    (go : ∀ i H', Ex B1 H' → i < vs.length → J.go i H') (stop : ∀ H', Ex B1 H' → J.stop vs.length H') (yld : ∀ i H' x H'', Ex B1 H' → J.yld i H' x H'' → H'' = H' ∧ (∀ v, vs[i]? = some v → x = v))
    (hn : ∀ σ' ρ' B' H', E.nx ρ' → PostG K kp σ B H fp σ' [] ρ' [] B' H' → Dn.nx σ' H')
    (hr : ∀ d σ' ρ' v B' H', E.rt d ρ' → PostG K kp σ B H fp σ' [.val d] ρ' [v] B' H' → Dn.rt v H')
    (hx : ∀ x σ' ρ' c d B' H', Xd x ρ' → PostXS K kp σ B H fp σ' x ρ' c d B' H' → Wx c d σ' H') :
    ∃ W : Nat → Nat → St → Hp → Prop, (∃ m, W 0 m σ H1) ∧ ∀ i m σ H, W i m σ H →
      (J.stop i H ∧ Dn.nx σ H) ∨ (J.go i H ∧ ∃ N : St → Hp → Prop, (∀ σ' H', N σ' H' → ∃ m', m' < m ∧ W (i + 1) m' σ' H') ∧ ∀ x H', J.yld i H x H' → tg x σ H' fun σ2 H2 => tS K Wx kp b { Dn with nx := N, ct := N, bk := Dn.nx } σ2 H2) := by
  have inv : ∀ i m σ2 H2, (m = vs.length - i ∧ i ≤ vs.length ∧ ∃ B2 ρ2, wForL g b Xd E (ds.drop i) ρ2 ∧ PostG K kp σ B H fp σ2 [] ρ2 [] B2 H2 ∧ Ex B1 B2) → (J.stop i H2 ∧ Dn.nx σ2 H2) ∨ (J.go i H2 ∧ ∃ N : St → Hp → Prop, (∀ σ' H', N σ' H' → ∃ m', m' < m ∧
      (m' = vs.length - (i + 1) ∧ i + 1 ≤ vs.length ∧ ∃ B2 ρ2, wForL g b Xd E (ds.drop (i + 1)) ρ2 ∧ PostG K kp σ B H fp σ' [] ρ2 [] B2 H' ∧ Ex B1 B2)) ∧ ∀ x H', J.yld i H2 x H' → tg x σ2 H' fun σ3 H3 => tS K Wx kp b { Dn with nx := N, ct := N, bk := Dn.nx } σ3 H3) := by
    rintro i m σ2 H2 ⟨hm, hi, B2, ρ2, hwi, p2, e2⟩
    have ex2 : Ex B1 H2 := e2.trans p2.ex
    by_cases hlt : i < vs.length
    · have hd : i < ds.length := by rw [← r.length]; exact hlt
      rw [List.drop_eq_getElem_cons hd] at hwi
      refine .inr ⟨go i H2 ex2 hlt, fun σ' H' => ∃ B3 ρ3, wForL g b Xd E (ds.drop (i + 1)) ρ3 ∧ PostG K kp σ B H fp σ' [] ρ3 [] B3 H' ∧ Ex B1 B3, fun σ' H' ⟨B3, ρ3, q1, q2, q3⟩ => ⟨_, by omega, rfl, hlt, B3, ρ3, q1, q2, q3⟩, fun x H' hy => ?_⟩
      obtain ⟨rfl, hv⟩ := yld i H2 x H' ex2 hy
      obtain ⟨v, a1, a2⟩ := r.get (List.getElem?_eq_getElem hd)
      have ev := hv v a1
      subst ev
      obtain ⟨f2, w2, k2, kx2⟩ := p2.step
      refine hg σ2 B2 H' ρ2 f2 x _ _ _ w2 (a2.mono e2) hwi fun σ3 ρ3 h3 p3 => ?_
      obtain ⟨f3, w3, k3, kx3⟩ := p3.step
      exact ⟨B2, ρ3, f3, Xd, _, w3, h3, fun σ' ρ' B' H' h p => ⟨B', ρ', h, k2 (k3 p), e2.trans p.tr.bb⟩, fun d σ' ρ' v B' H' h p => hr d σ' ρ' v B' H' h (k2 (k3 p)),
        fun σ' ρ' B' H' h p => hn σ' ρ' B' H' h (k2 (k3 p)), fun σ' ρ' B' H' h p => ⟨B', ρ', h, k2 (k3 p), e2.trans p.tr.bb⟩, fun x σ' ρ' c d B' H' h p => hx x σ' ρ' c d B' H' h (kx2 (kx3 p))⟩
    · have ei : i = vs.length := by omega
      subst ei
      rw [List.drop_eq_nil_of_le (by rw [r.length]; exact Nat.le_refl _)] at hwi
      exact .inl ⟨stop H2 ex2, hn σ2 ρ2 B2 H2 hwi p2⟩
  exact ⟨_, ⟨_, rfl, Nat.zero_le _, B1, ρ1, by rw [List.drop_zero]; exact hw, p1, Ex.refl B1⟩, inv⟩
theorem imp_for {K : KW} {f : WE} {tg : TG} {g : WG} {b : WS} (hg : GOk K kp tg g) (Dn : Ends) (σ : St) (H : Hp) (h : tS K Wx kp (wFor f g b) Dn σ H) : tFor (iSeq K.F (tE K Wx f)) tg (tS K Wx kp b) Dn σ H := by
  obtain ⟨B, ρ, fp, Xd, E, w, hf, hn, hr, hb, hc, hx⟩ := h
  refine ⟨B, ρ, fp, Xd, _, w, hf, fun r ρ1 v B1 H1 ⟨xs, h1, h2⟩ p1 => ?_, fun x ρ' c d B' H' h p => hx x σ ρ' c d B' H' h p.xs⟩
  obtain ⟨B2, p2⟩ := p1.share
  obtain ⟨fa, oa⟩ := p2.cont.one
  have p2' : PostG K kp σ B H fp σ [] (r.en ρ1) [] B2 H1 := p2.drop.g
  have rep : Rep K B2 v (r.tk ρ1).sh := oa.plain (sh_pl _)
  rcases D.sq_or h1 with z | z
  · obtain ⟨p, vs, rfl, s, rr⟩ := (OS.sh (H := B2) rep).lsq (Ex.refl B2) z
    exact .inl ⟨p, rfl, ⟨vs, ex_l p2.ex s⟩, for_core hg p2' rr h2 (fun i H' e hi => ⟨vs, vs[i], ex_l e s, List.getElem?_eq_getElem hi⟩) (fun H' e => ⟨vs, ex_l e s, Nat.le_refl _⟩)
      (fun i H' x H'' e ⟨y1, y2⟩ => ⟨y1, fun v hv => by have q := y2 vs (ex_l e s); rw [hv] at q; exact (Option.some.inj q).symm⟩) hn hr hx⟩
  · obtain ⟨p, vs, rfl, s, rr⟩ := (OS.sh (H := B2) rep).tsq (Ex.refl B2) z
    exact .inr ⟨p, rfl, ⟨vs, ex_t p2.ex s⟩, for_core hg p2' rr h2 (fun i H' e hi => ⟨vs, vs[i], ex_t e s, List.getElem?_eq_getElem hi⟩) (fun H' e => ⟨vs, ex_t e s, Nat.le_refl _⟩)
      (fun i H' x H'' e ⟨y1, y2⟩ => ⟨y1, fun v hv => by have q := y2 vs (ex_t e s); rw [hv] at q; exact (Option.some.inj q).symm⟩) hn hr hx⟩
/-- for i in range(n), range(a, b) -/
def rgOk (j : Int) : Prop := -(2 ^ 62) ≤ j ∧ j < 2 ^ 62
def wRng1 (f : WA) (i : Nat) (b : WS) : WS := fun X E ρ => f X ρ fun rs ρ1 => ∃ j : Int, rs.map (R.get ρ1) = [.int j] ∧ rgOk j ∧ wForR i b X E 0 0 j.toNat ρ1
def wRng2 (f : WA) (i : Nat) (b : WS) : WS := fun X E ρ => f X ρ fun rs ρ1 => ∃ a j : Int, rs.map (R.get ρ1) = [.int a, .int j] ∧ rgOk a ∧ rgOk j ∧ wForR i b X E a 0 (j - a).toNat ρ1
theorem rng_core {K : KW} {ix : Nat} {b : WS} (hi : ix ∉ kp) {Dn : Ends} {σ : St} {B H B1 H1 : Hp} {fp : List Addr} {ρ1 : List FL.D} {Xd : XD} {E : WEnds} {lo : Int} {n : Nat}
    (p1 : PostG K kp σ B H fp σ [] ρ1 [] B1 H1) (hw : wForR ix b Xd E lo 0 n ρ1)
    (hn : ∀ σ' ρ' B' H', E.nx ρ' → PostG K kp σ B H fp σ' [] ρ' [] B' H' → Dn.nx σ' H')
    (hr : ∀ d σ' ρ' v B' H', E.rt d ρ' → PostG K kp σ B H fp σ' [.val d] ρ' [v] B' H' → Dn.rt v H')
    (hx : ∀ x σ' ρ' c d B' H', Xd x ρ' → PostXS K kp σ B H fp σ' x ρ' c d B' H' → Wx c d σ' H') :
    ∃ W : Nat → Nat → St → Hp → Prop, (∃ m, W 0 m σ H1) ∧ ∀ i m σ H, W i m σ H →
      ((Itr lo n).stop i H ∧ Dn.nx σ H) ∨ ((Itr lo n).go i H ∧ ∃ N : St → Hp → Prop, (∀ σ' H', N σ' H' → ∃ m', m' < m ∧ W (i + 1) m' σ' H') ∧ ∀ x H', (Itr lo n).yld i H x H' → gName ix x σ H' fun σ2 H2 => tS K Wx kp b { Dn with nx := N, ct := N, bk := Dn.nx } σ2 H2) := by
  refine ⟨fun i m σ2 H2 => m = n - i ∧ i ≤ n ∧ ∃ B2 ρ2, wForR ix b Xd E lo i (n - i) ρ2 ∧ PostG K kp σ B H fp σ2 [] ρ2 [] B2 H2, ⟨n, by omega, Nat.zero_le _, B1, ρ1, hw, p1⟩, ?_⟩
  rintro i m σ2 H2 ⟨hm, hin, B2, ρ2, hwi, p2⟩
  by_cases hlt : i < n
  · have e : n - i = (n - (i + 1)) + 1 := by omega
    rw [e] at hwi
    refine .inr ⟨hlt, fun σ' H' => ∃ B3 ρ3, wForR ix b Xd E lo (i + 1) (n - (i + 1)) ρ3 ∧ PostG K kp σ B H fp σ' [] ρ3 [] B3 H', fun σ' H' ⟨B3, ρ3, q1, q2⟩ => ⟨_, by omega, rfl, hlt, B3, ρ3, q1, q2⟩, fun x H' hy => ?_⟩
    obtain ⟨rfl, rfl⟩ : H' = H2 ∧ x = .int (lo + i) := hy
    obtain ⟨f2, w2, k2, kx2⟩ := p2.step
    refine gok_name (K := K) (kp := kp) hi σ2 B2 H' ρ2 f2 (.int (lo + i)) (.int (lo + i)) _ _ w2 .int hwi fun σ3 ρ3 h3 p3 => ?_
    obtain ⟨f3, w3, k3, kx3⟩ := p3.step
    exact ⟨B2, ρ3, f3, Xd, _, w3, h3, fun σ' ρ' B' H' h p => ⟨B', ρ', h, k2 (k3 p)⟩, fun d σ' ρ' v B' H' h p => hr d σ' ρ' v B' H' h (k2 (k3 p)),
      fun σ' ρ' B' H' h p => hn σ' ρ' B' H' h (k2 (k3 p)), fun σ' ρ' B' H' h p => ⟨B', ρ', h, k2 (k3 p)⟩, fun x σ' ρ' c d B' H' h p => hx x σ' ρ' c d B' H' h (kx2 (kx3 p))⟩
  · have ei : i = n := by omega
    subst ei
    rw [Nat.sub_self] at hwi
    exact .inl ⟨Nat.le_refl _, hn σ2 ρ2 B2 H2 hwi p2⟩
theorem ints1 {K : KW} {B H : Hp} {vs : List V} {ds : List FL.D} {j : Int} (c : Cont K B H vs ds) (e : ds = [.int j]) : vs = [.int j] := by
  subst e
  cases c with
  | cons a b =>
    cases b
    rw [a.int_of]
theorem ints2 {K : KW} {B H : Hp} {vs : List V} {ds : List FL.D} {i j : Int} (c : Cont K B H vs ds) (e : ds = [.int i, .int j]) : vs = [.int i, .int j] := by
  subst e
  cases c with
  | cons a b =>
    rw [a.int_of, ints1 b rfl]
theorem imp_rng1 {K : KW} {f : WA} {ix : Nat} {b : WS} (hi : ix ∉ kp) (Dn : Ends) (σ : St) (H : Hp) (h : tS K Wx kp (wRng1 f ix b) Dn σ H) : tFor (iRng1 (tA K Wx f)) (gName ix) (tS K Wx kp b) Dn σ H := by
  obtain ⟨B, ρ, fp, Xd, E, w, hf, hn, hr, hb, hc, hx⟩ := h
  refine ⟨B, ρ, fp, Xd, _, w, hf, fun rs ρ1 vs B1 H1 ⟨j, h1, h2, h3⟩ p1 => ?_, fun x ρ' c d B' H' h p => hx x σ ρ' c d B' H' h p.xs⟩
  exact ⟨j, ints1 p1.cont h1, h2.1, h2.2, rng_core hi p1.drop.g h3 hn hr hx⟩
theorem imp_rng2 {K : KW} {f : WA} {ix : Nat} {b : WS} (hi : ix ∉ kp) (Dn : Ends) (σ : St) (H : Hp) (h : tS K Wx kp (wRng2 f ix b) Dn σ H) : tFor (iRng2 (tA K Wx f)) (gName ix) (tS K Wx kp b) Dn σ H := by
  obtain ⟨B, ρ, fp, Xd, E, w, hf, hn, hr, hb, hc, hx⟩ := h
  refine ⟨B, ρ, fp, Xd, _, w, hf, fun rs ρ1 vs B1 H1 ⟨a, j, h1, h2, h2', h3⟩ p1 => ?_, fun x ρ' c d B' H' h p => hx x σ ρ' c d B' H' h p.xs⟩
  exact ⟨a, j, ints2 p1.cont h1, ⟨h2.1, h2.2, h2'.1, h2'.2⟩, rng_core hi p1.drop.g h3 hn hr hx⟩
end
end FL

end
section
set_option maxHeartbeats 1000000
/-! FL8: lists that change. -/
namespace FL
open PySem PySem.Spec PyProof.Rows L2
section
variable {K : KW} {kp : List Nat} {B H B' H' : Hp} {σ σ' : St} {ρ ρ' : List D} {fp : List Addr}
theorem set_self {σ : St} {i : Nat} {v : V} (e : σ[i]? = some (some v)) : σ.set i (some v) = σ := by
  apply List.ext_getElem?
  intro j
  by_cases hj : i = j
  · subst hj
    rw [List.getElem?_set_self (List.getElem?_eq_some_iff.mp e).1, e]
  · rw [List.getElem?_set_ne hj]
theorem dAt_get {i : Nat} (hl : i < ρ.length) : ρ[i]? = some (dAt ρ i) := by
  unfold dAt
  rw [List.getD_eq_getElem?_getD, List.getElem?_eq_getElem hl]
  rfl
/-- what a slot holds becomes a temporary -/
theorem PostRs.out {rs : List R} {vs : List V} {i : Nat} {v : V} (a : PostRs K σ B H fp rs ρ' vs B' H') (e : σ[i]? = some (some v)) :
    PostRs K σ B H fp (.val (dAt ρ' i) :: rs) (ρ'.set i .und) (v :: vs) B' H' := by
  obtain ⟨t1, e1, fd, fs, r1, o1, n1, s1⟩ := a
  have hl : i < ρ'.length := by
    rw [← o1.len]
    exact (List.getElem?_eq_some_iff.mp e).1
  obtain ⟨o, fi, fr, h1, h2, h3, h4⟩ := o1.split (dAt_get hl)
  rw [e] at h1
  cases h1
  have mem : ∀ q ∈ fr, q ∈ fs := fun q hq => h3.mem_iff.mpr (List.mem_append_right _ hq)
  obtain ⟨fp', g1, g2⟩ := h4 (o' := some v) (d' := .und) (Ex.refl B') (fun q hq => (o1.there q (mem q hq)).1) (fun _ _ => rfl) .und
  rw [set_self e] at g1
  have g2 : fp'.Perm fr := by simpa using g2
  have pm : (fd ++ fs).Perm ((fi ++ fd) ++ fp') := by
    refine (List.Perm.append_left fd (h3.trans (List.Perm.append_left fi g2.symm))).trans ?_
    rw [← List.append_assoc]
    exact List.Perm.append_right fp' List.perm_append_comm
  exact ⟨t1, e1, fi ++ fd, fp', .val h2 r1 rfl, g1, pm.nodup_iff.mp n1, fun q hq => s1 q (pm.mem_iff.mpr hq)⟩
/-- and back -/
theorem PostRs.back {rs : List R} {vs : List V} {i : Nat} {v : V} {d : D} (a : PostRs K σ B H fp (.val d :: rs) ρ' (v :: vs) B' H') (e : σ[i]? = some (some v)) : PostRs K σ B H fp rs (ρ'.set i d) vs B' H' := by
  obtain ⟨t1, e1, fd, fs, r1, o1, n1, s1⟩ := a
  cases r1 with
  | @val _ _ _ _ f1 f2 _ os rr z =>
    have hl : i < ρ'.length := by
      rw [← o1.len]
      exact (List.getElem?_eq_some_iff.mp e).1
    obtain ⟨o, fi, fr, h1, h2, h3, h4⟩ := o1.split (dAt_get hl)
    have mem : ∀ q ∈ fr, q ∈ fs := fun q hq => h3.mem_iff.mpr (List.mem_append_right _ hq)
    obtain ⟨fp', g1, g2⟩ := h4 (o' := some v) (d' := d) (Ex.refl B') (fun q hq => (o1.there q (mem q hq)).1) (fun _ _ => rfl) os
    rw [set_self e] at g1
    have n2 : (f1 ++ f2 ++ fs).Nodup := z ▸ n1
    have nfr : fr.Nodup := (List.nodup_append.mp (h3.nodup_iff.mp (List.nodup_append.mp n2).2.1)).2.1
    have n12 := List.nodup_append.mp (List.nodup_append.mp n2).1
    have d12 := (List.nodup_append.mp n2).2.2
    refine ⟨t1, e1, f2, fp', rr, g1, ?_, fun q hq => ?_⟩
    · refine (List.Perm.append_left f2 g2).nodup_iff.mpr ?_
      refine List.nodup_append.mpr ⟨n12.2.1, List.nodup_append.mpr ⟨n12.1, nfr, fun q hq q' hq' e => d12 q (List.mem_append_left _ hq) q' (mem q' hq') e⟩, fun q hq q' hq' e => ?_⟩
      rcases List.mem_append.mp hq' with y | y
      · exact n12.2.2 q' y q hq e.symm
      · exact d12 q (List.mem_append_right _ hq) q' (mem q' y) e
    · rcases List.mem_append.mp hq with y | y
      · exact s1 q (List.mem_append_left _ (z ▸ List.mem_append_right _ y))
      · rcases List.mem_append.mp (g2.mem_iff.mp y) with x | x
        · exact s1 q (List.mem_append_left _ (z ▸ List.mem_append_left _ x))
        · exact s1 q (List.mem_append_right _ (mem q x))
theorem ROs.frame {vs : List V} {rs : List R} (e : Ex B B') (hB : ∀ q ∈ fp, B' q = none) (hH : ∀ q ∈ fp, H' q = H q) (h : ROs K B H σ vs rs fp) : ROs K B' H' σ vs rs fp := by
  induction h with
  | nil => exact .nil
  | val a _ z ih => exact .val (a.frame e (fun q hq => hB q (z ▸ List.mem_append_left _ hq)) fun q hq => hH q (z ▸ List.mem_append_left _ hq)) (ih (fun q hq => hB q (z ▸ List.mem_append_right _ hq)) fun q hq => hH q (z ▸ List.mem_append_right _ hq)) z
  | slot e' _ ih => exact .slot e' (ih hB hH)
theorem OSs.len2 {os : List (Option V)} {ds : List D} {vs : List V} (h : OSs K B H os ds fp) (m : vs.map some = os) : vs.length = ds.length := by
  rw [← h.len, ← m, List.length_map]
theorem OSs.snoc {v : V} {d : D} : ∀ {os : List (Option V)} {vs : List V} {ds : List D} {f1 f2 : List Addr}, OSs K B H os ds f1 → vs.map some = os → OS K B H (some v) d f2 → OSs K B H ((vs ++ [v]).map some) (ds ++ [d]) (f1 ++ f2)
  | _, vs, _, _, f2, .nil, m, h => by
    have z : vs = [] := by simpa using m
    subst z
    exact .cons h .nil (by simp)
  | _, vs, _, _, f2, .cons a b z, m, h => by
    cases vs with
    | nil => cases m
    | cons w vs =>
      have m1 := (List.cons.inj m).1
      have m2 := (List.cons.inj m).2
      subst m1
      exact .cons a (OSs.snoc b m2 h) (by rw [z, List.append_assoc])
/-- one's own list is written: the new items are of these objects -/
theorem PostRs.write {ds ds' : List D} {p : Addr} {vs' : List V} {rs : List R} {vs : List V} {rs0 : List R} {ws0 : List V}
    (a : PostRs K σ B H fp (.val (.own ds) :: rs0) ρ' (.ref p :: ws0) B' H')
    (k : ∀ us f f0, OSs K B' H' (us.map some) ds f → H' p = some (.lst us) → ROs K B' H' σ ws0 rs0 f0 → ∃ g g0 gx, OSs K B' H' (vs'.map some) ds' g ∧ ROs K B' H' σ vs rs g0 ∧ (f ++ f0).Perm ((g ++ g0) ++ gx)) :
    PostRs K σ B H fp (.val (.own ds') :: rs) ρ' (.ref p :: vs) B' (upd H' p (.lst vs')) := by
  obtain ⟨t1, e1, fd, fs, r1, o1, n1, s1⟩ := a
  cases r1 with
  | @val _ _ _ _ f1 f2 _ os rr z =>
    cases os with
    | sh r => cases r
    | @own _ us oo _ f bn l m r =>
      subst m
      obtain ⟨g, g0, gx, h1, h2, h3⟩ := k us f f2 r l rr
      have pm0 : fd.Perm (((p :: g) ++ g0) ++ gx) := by rw [z]; exact List.Perm.cons p h3
      have nd0 : ((((p :: g) ++ g0) ++ gx) ++ fs).Nodup := (List.Perm.append_right fs pm0).nodup_iff.mp n1
      have nd : (((p :: g) ++ g0) ++ fs).Nodup := by
        refine nd0.sublist ?_
        exact List.Sublist.append_right (List.sublist_append_left _ _) fs
      have pm : ∀ q, q ∈ (p :: g) ++ g0 → q ∈ fd := fun q hq => pm0.mem_iff.mpr (List.mem_append_left _ hq)
      have nd1 := List.nodup_append.mp nd
      have ndp : p ∉ g ∧ p ∉ g0 := by
        have q := (List.nodup_cons.mp nd1.1).1
        exact ⟨fun x => q (List.mem_append_left _ x), fun x => q (List.mem_append_right _ x)⟩
      have ndf : p ∉ fs := fun x => nd1.2.2 p List.mem_cons_self p x rfl
      have hin : p ∈ fd ++ fs := List.mem_append_left _ (pm p List.mem_cons_self)
      have mf : ∀ q ∈ fd, q ∈ fd ++ fs := fun q hq => List.mem_append_left _ hq
      have there : ∀ q ∈ g ++ g0, B' q = none := fun q hq => by
        rcases List.mem_append.mp hq with x | x
        · exact (h1.there q x).1
        · exact (h2.there q x).1
      refine ⟨⟨t1.bb, fun q o h n => ?_, t1.bnew⟩, e1.mut bn, (p :: g) ++ g0, fs, ?_, ?_, nd, fun q hq => s1 q ((List.mem_append.mp hq).elim (fun y => List.mem_append_left _ (pm q y)) fun y => List.mem_append_right _ y)⟩
      · have hne : q ≠ p := fun x => by
          subst x
          rcases s1 q hin with y | y
          · exact n y
          · rw [y] at h; cases h
        rw [upd_ne hne]
        exact t1.keep q o h n
      · refine .val (f1 := p :: g) (f2 := g0) (.own bn upd_same rfl ?_) ?_ rfl
        · exact h1.frame (Ex.refl B') (fun q hq => there q (List.mem_append_left _ hq)) fun q hq => upd_ne fun x => ndp.1 (by rw [← x]; exact hq)
        · exact h2.frame (Ex.refl B') (fun q hq => there q (List.mem_append_right _ hq)) fun q hq => upd_ne fun x => ndp.2 (by rw [← x]; exact hq)
      · exact o1.frame (Ex.refl B') (fun q hq => (o1.there q hq).1) fun q hq => upd_ne fun x => ndf (by rw [← x]; exact hq)
/-- appended -/
theorem PostRs.app {ds : List D} {d : D} {p : Addr} {y : V} {rs : List R} {vs : List V} (a : PostRs K σ B H fp (.val (.own ds) :: .val d :: rs) ρ' (.ref p :: y :: vs) B' H') :
    ∃ us, H' p = some (.lst us) ∧ us.length = ds.length ∧ PostRs K σ B H fp (.val (.own (ds ++ [d])) :: rs) ρ' (.ref p :: vs) B' (upd H' p (.lst (us ++ [y]))) := by
  have a' := a
  obtain ⟨_, _, _, _, r1, _⟩ := a'
  cases r1 with
  | val os _ _ =>
    cases os with
    | sh r => cases r
    | @own _ us oo _ f bn l m r =>
      refine ⟨us, l, r.len2 m, a.write fun ws g g0 h1 h2 h3 => ?_⟩
      rw [l] at h2
      cases h2
      cases h3 with
      | @val _ _ _ _ f1 f2 _ os2 rr z => exact ⟨g ++ f1, f2, [], OSs.snoc h1 rfl os2, rr, by rw [z, List.append_nil, List.append_assoc]⟩
end
end FL

end
section
set_option maxHeartbeats 1000000
/-! FL9: append, pop, x[i] = v, x[i] op= v, x op= v. -/
namespace FL
open PySem PySem.Spec PyProof.Rows L2

def D.isOwn : D → Bool
  | .own _ => true
  | _ => false
def wApp (i : Nat) (f : WE) : WE := fun X ρ P => (dAt ρ i).isOwn = true ∧ f X ρ fun r ρ1 => match dAt (r.en ρ1) i with
  | .own xs => xs.length < sizeLine ∧ P (.val .non) ((r.en ρ1).set i (.own (xs ++ [r.tk ρ1])))
  | _ => False
def wPop (i : Nat) : WE := fun _ ρ P => match dAt ρ i with
  | .own xs => ∃ d, xs[xs.length - 1]? = some d ∧ P (.val d) (ρ.set i (.own xs.dropLast))
  | _ => False
def wPopAt (i : Nat) (f : WE) : WE := fun X ρ P => (dAt ρ i).isOwn = true ∧ f X ρ fun r ρ1 => match dAt ρ1 i, r.get ρ1 with
  | .own xs, .int k => ∃ j d, -(2 ^ 63) ≤ k ∧ k < 2 ^ 63 ∧ seqIndex? k xs.length = some j ∧ xs[j]? = some d ∧ P (.val d) (ρ1.set i (.own (xs.eraseIdx j)))
  | _, _ => False
section
variable {K : KW} {kp : List Nat} {B H B' H' : Hp} {σ σ' : St} {ρ ρ' : List D} {fp : List Addr} {Wx : WX}
theorem own_slot {i : Nat} (w : W K B H σ ρ fp) (h : (dAt ρ i).isOwn = true) : ∃ p us xs, σ[i]? = some (some (.ref p)) ∧ dAt ρ i = .own xs ∧ H p = some (.lst us) ∧ us.length = xs.length := by
  have hl : i < ρ.length := by
    by_cases c : i < ρ.length
    · exact c
    · unfold dAt at h
      rw [List.getD_eq_getElem?_getD, List.getElem?_eq_none (by omega)] at h
      cases h
  obtain ⟨o, fi, fr, h1, h2, _⟩ := w.os.split (dAt_get hl)
  cases e : dAt ρ i with
  | own xs =>
    rw [e] at h2
    cases h2 with
    | sh r => cases r
    | own b l m r => exact ⟨_, _, xs, h1, rfl, l, r.len2 m⟩
  | _ => rw [e] at h; cases h
theorem tyV_lst {K : PySem.W.Frag} {p : Addr} {us : List V} (l : H p = some (.lst us)) : tyV K "list" (.ref p) H := .inl ⟨rfl, us, .of l⟩
theorem PostRs.popd {ds : List D} {p : Addr} {us : List V} {j : Nat} {d : D} (a : PostRs K σ B H fp [.val (.own ds)] ρ' [.ref p] B' H') (l : H' p = some (.lst us)) (hj : ds[j]? = some d) :
    ∃ y, us[j]? = some y ∧ PostRs K σ B H fp [.val (.own (ds.eraseIdx j)), .val d] ρ' [.ref p, y] B' (upd H' p (.lst (us.eraseIdx j))) := by
  have key : ∀ {os : List (Option V)} {us : List V} {ds : List D} {j : Nat} {d : D} {f : List Addr}, OSs K B' H' os ds f → us.map some = os → ds[j]? = some d →
      ∃ y g g0, us[j]? = some y ∧ OSs K B' H' ((us.eraseIdx j).map some) (ds.eraseIdx j) g ∧ OS K B' H' (some y) d g0 ∧ f.Perm (g ++ g0) := by
    intro os
    induction os with
    | nil =>
      intro us ds j d f h m e
      cases h
      simp at e
    | cons o os ih =>
      intro us ds j d f h m e
      cases h with
      | @cons _ d0 _ ds f1 f2 _ a b z =>
        cases us with
        | nil => cases m
        | cons u us =>
          have m1 : some u = o := (List.cons.inj m).1
          have m2 := (List.cons.inj m).2
          subst m1
          cases j with
          | zero =>
            have e1 : d0 = d := Option.some.inj e
            subst e1
            exact ⟨u, f2, f1, rfl, by rw [List.eraseIdx_cons_zero, List.eraseIdx_cons_zero, m2]; exact b, a, by rw [z]; exact List.perm_append_comm⟩
          | succ j =>
            obtain ⟨y, g, g0, k1, k2, k3, k4⟩ := ih b m2 (show ds[j]? = some d by simpa using e)
            refine ⟨y, f1 ++ g, g0, by simpa using k1, ?_, k3, ?_⟩
            · rw [List.eraseIdx_cons_succ, List.eraseIdx_cons_succ, List.map_cons]
              exact .cons a k2 rfl
            · rw [z, List.append_assoc]
              exact List.Perm.append_left f1 k4
  have a' := a
  obtain ⟨_, _, _, _, r1, _⟩ := a'
  cases r1 with
  | val os _ _ =>
    cases os with
    | sh r => cases r
    | @own _ us2 oo _ f bn l2 m r =>
      rw [l] at l2
      cases l2
      obtain ⟨y, g, g0, k1, k2, k3, k4⟩ := key r m hj
      refine ⟨y, k1, a.write fun ws f' f0 h1 h2 h3 => ?_⟩
      rw [l] at h2
      cases h2
      cases h3
      obtain ⟨y', g', g0', q1, q2, q3, q4⟩ := key h1 rfl hj
      rw [k1] at q1
      cases q1
      exact ⟨g', g0', [], q2, .val (f2 := []) q3 .nil (by simp), by simpa using q4⟩
theorem imp_app {i : Nat} {f : WE} (σ : St) (H : Hp) (Q : VK) (h : tE K Wx (wApp i f) σ H Q) : tBM K.F "list" rAppend (tVar i) (tCons (tE K Wx f) tNil) σ H Q := by
  obtain ⟨B, ρ, fp, Xd, P, w, ⟨ho, hf⟩, hQ, hX⟩ := h
  obtain ⟨p, us, xs, e1, e2, e3, _⟩ := own_slot w ho
  refine ⟨.ref p, e1, tyV_lst e3, B, ρ, fp, Xd, _, w, hf, fun r ρ1 v B1 H1 h1 p1 => ?_, hX⟩
  obtain ⟨B2, p2⟩ := p1.take
  have p3 := p2.out e1
  split at h1
  · rename_i ys hy
    rw [hy] at p3
    obtain ⟨us1, l1, l2, p4⟩ := p3.app
    obtain ⟨h1, h2⟩ := h1
    refine ⟨p, us1, v, rfl, rfl, l1, by rw [l2]; exact h1, hQ _ _ .non B2 _ h2 ?_⟩
    have p5 := p4.back e1
    rw [List.set_set] at p5
    exact p5.new (.same p5.ex .non)
  · exact h1.elim
theorem imp_pop {i : Nat} (σ : St) (H : Hp) (Q : VK) (h : tE K Wx (wPop i) σ H Q) : tBM0 K.F "list" rPop (tVar i) σ H Q := by
  obtain ⟨B, ρ, fp, Xd, P, w, hf, hQ, hX⟩ := h
  have ho : (dAt ρ i).isOwn = true := by
    have hf : (match dAt ρ i with
      | .own xs => ∃ d, xs[xs.length - 1]? = some d ∧ P (.val d) (ρ.set i (.own xs.dropLast))
      | _ => False) := hf
    split at hf
    · rename_i q; rw [q]; rfl
    · exact hf.elim
  obtain ⟨p, us, xs, e1, e2, e3, e4⟩ := own_slot w ho
  have hf : (match dAt ρ i with
      | .own xs => ∃ d, xs[xs.length - 1]? = some d ∧ P (.val d) (ρ.set i (.own xs.dropLast))
      | _ => False) := hf
  rw [e2] at hf
  obtain ⟨d, h1, h2⟩ := hf
  have p3 := (w.refl).out e1
  rw [e2] at p3
  obtain ⟨y, k1, k2⟩ := p3.popd e3 h1
  have z1 : xs.eraseIdx (xs.length - 1) = xs.dropLast := List.eraseIdx_length_sub_one
  have z2 : us.eraseIdx (xs.length - 1) = us.dropLast := by rw [← e4]; exact List.eraseIdx_length_sub_one
  rw [z1, z2] at k2
  refine ⟨.ref p, e1, tyV_lst e3, p, us, y, rfl, rfl, e3, by rw [e4]; exact k1, ?_⟩
  have p5 := k2.back e1
  rw [List.set_set] at p5
  exact hQ _ _ y B _ h2 p5
theorem imp_popAt {i : Nat} {f : WE} (σ : St) (H : Hp) (Q : VK) (h : tE K Wx (wPopAt i f) σ H Q) : tBM K.F "list" rPopAt (tVar i) (tCons (tE K Wx f) tNil) σ H Q := by
  obtain ⟨B, ρ, fp, Xd, P, w, ⟨ho, hf⟩, hQ, hX⟩ := h
  obtain ⟨p, us, xs, e1, e2, e3, _⟩ := own_slot w ho
  refine ⟨.ref p, e1, tyV_lst e3, B, ρ, fp, Xd, _, w, hf, fun r ρ1 v B1 H1 h1 p1 => ?_, hX⟩
  obtain ⟨fa, oa⟩ := p1.cont.one
  split at h1
  · rename_i ys k hy hk
    rw [hk] at oa
    have p3 := p1.drop.out e1
    obtain ⟨fs, w1, _⟩ := p1.step
    obtain ⟨p', us1, xs1, g1, g2, g3, g4⟩ := own_slot w1 (i := i) (by rw [hy]; rfl)
    rw [e1] at g1
    cases g1
    rw [hy] at g2
    cases g2
    rw [hy] at p3
    obtain ⟨j, d, h1, h2, h3, h4, h5⟩ := h1
    obtain ⟨y, k1, k2⟩ := p3.popd g3 h4
    have p5 := k2.back e1
    rw [List.set_set] at p5
    exact ⟨p, us1, k, j, y, rfl, by rw [oa.int_of], g3, h1, h2, by rw [g4]; exact h3, k1, hQ _ _ y B1 _ h5 p5⟩
  · exact h1.elim

/-! ### x[i] = v -/
def wSetIx (i : Nat) (f g : WE) : WS := fun X E ρ => f X ρ fun r ρ1 => (dAt (r.en ρ1) i).isOwn = true ∧ g X (r.en ρ1) fun r2 ρ2 => match dAt ρ2 i, r2.get ρ2 with
  | .own xs, .int k => ∃ j, ixN xs.length k = some j ∧ E.nx (ρ2.set i (.own (xs.set j (r.tk ρ1))))
  | _, _ => False
/-- x[i] op= e -/
def wAugIx (op : D → D → (D → Prop) → Prop) (i : Nat) (g f : WE) : WS := fun X E ρ => (dAt ρ i).isOwn = true ∧ g X ρ fun r2 ρ2 => match dAt ρ2 i, r2.get ρ2 with
  | .own xs, .int k => ∃ j d, ixN xs.length k = some j ∧ xs[j]? = some d ∧ d.flat = true ∧ f X ρ2 fun r3 ρ3 => op d (r3.get ρ3) fun z => match dAt ρ3 i with
      | .own ys => ys.length = xs.length ∧ E.nx (ρ3.set i (.own (ys.set j z)))
      | _ => False
  | _, _ => False
theorem PostRs.setd {ds : List D} {p : Addr} {us : List V} {j : Nat} {d : D} {y : V} {rs : List R} {vs : List V} (a : PostRs K σ B H fp (.val (.own ds) :: .val d :: rs) ρ' (.ref p :: y :: vs) B' H') (l : H' p = some (.lst us)) (hj : j < ds.length) :
    PostRs K σ B H fp (.val (.own (ds.set j d)) :: rs) ρ' (.ref p :: vs) B' (upd H' p (.lst (us.set j y))) := by
  refine a.write fun ws f f0 h1 h2 h3 => ?_
  rw [l] at h2
  cases h2
  cases h3 with
  | @val _ _ _ _ f1 f2 _ os2 rr z =>
    obtain ⟨o, fi, fr, g1, g2, g3, g4⟩ := h1.split (List.getElem?_eq_getElem hj)
    obtain ⟨fp', k1, k2⟩ := g4 (Ex.refl B') (fun q hq => (h1.there q (g3.mem_iff.mpr (List.mem_append_right _ hq))).1) (fun _ _ => rfl) os2
    refine ⟨fp', f2, fi, by rw [List.map_set]; exact k1, rr, ?_⟩
    rw [z]
    have a1 : (f ++ (f1 ++ f2)).Perm ((fi ++ fr) ++ (f1 ++ f2)) := List.Perm.append_right _ g3
    have a2 : ((fp' ++ f2) ++ fi).Perm (((f1 ++ fr) ++ f2) ++ fi) := List.Perm.append_right fi (List.Perm.append_right f2 k2)
    refine a1.trans (List.Perm.trans ?_ a2.symm)
    have b1 : ((fi ++ fr) ++ (f1 ++ f2)).Perm ((fr ++ (f1 ++ f2)) ++ fi) := by
      rw [List.append_assoc]
      exact List.perm_append_comm
    refine b1.trans (List.Perm.append_right fi ?_)
    rw [← List.append_assoc]
    exact List.Perm.append_right f2 List.perm_append_comm
/-- the results of an expression, one of them a slot that is one's own -/
theorem imp_setIx {i : Nat} {f g : WE} (Dn : Ends) (σ : St) (H : Hp) (h : tS K Wx kp (wSetIx i f g) Dn σ H) : tAsg (tE K Wx f) (gSub (tVar i) (tE K Wx g) rSetL) Dn σ H := by
  obtain ⟨B, ρ, fp, Xd, E, w, hf, hn, hr, hb, hc, hx⟩ := h
  refine ⟨B, ρ, fp, Xd, _, w, hf, fun r ρ1 v B1 H1 ⟨ho, h1⟩ p1 => ?_, fun x ρ' c d B' H' h p => hx x σ ρ' c d B' H' h p.xs⟩
  obtain ⟨B2, p2⟩ := p1.take
  obtain ⟨f1, w1, k1, kx1⟩ := p2.step
  obtain ⟨p, us, xs, e1, e2, e3, _⟩ := own_slot w1 ho
  refine ⟨.ref p, e1, B2, r.en ρ1, f1, Xd, _, w1, h1, fun r2 ρ2 v2 B3 H3 h2 p3 => ?_, fun x ρ' c d B' H' h p => hx x σ ρ' c d B' H' h (kx1 p).xs⟩
  obtain ⟨fa, oa⟩ := p3.cont.one
  split at h2
  · rename_i ys k hy hk
    rw [hk] at oa
    obtain ⟨fs, w3, _⟩ := p3.step
    obtain ⟨p', us1, xs1, g1, g2, g3, g4⟩ := own_slot w3 (i := i) (by rw [hy]; rfl)
    rw [e1] at g1
    cases g1
    rw [hy] at g2
    cases g2
    obtain ⟨j, h3, h4⟩ := h2
    have p4 := (k1 p3.drop).out e1
    rw [hy] at p4
    have p5 := p4.setd g3 (ixN_seq h3).2.1
    have p6 := p5.back e1
    rw [List.set_set] at p6
    exact ⟨p, us1, k, j, rfl, oa.int_of, g3, by rw [g4]; exact h3, hn σ _ B3 _ h4 p6.g⟩
  · exact h2.elim
/-- x op= e -/
def wAug (op : D → D → (D → Prop) → Prop) (i : Nat) (f : WE) : WS := fun X E ρ => (dAt ρ i).flat = true ∧ f X ρ fun r ρ1 => op (dAt ρ i) (r.get ρ1) fun d => E.nx (ρ1.set i d)
theorem flat_slot {i : Nat} (w : W K B H σ ρ fp) (h : (dAt ρ i).flat = true) : ∃ v, σ[i]? = some (some v) ∧ Rep K B v (dAt ρ i) := by
  have hl : i < ρ.length := by
    by_cases c : i < ρ.length
    · exact c
    · unfold dAt at h
      rw [List.getD_eq_getElem?_getD, List.getElem?_eq_none (by omega)] at h
      cases h
  obtain ⟨o, fi, fr, h1, h2, _⟩ := w.os.split (dAt_get hl)
  have hk : (dAt ρ i).known = true := by
    cases e : dAt ρ i <;> first | rfl | (rw [e] at h; cases h)
  obtain ⟨v, rfl⟩ := h2.some_of hk
  exact ⟨v, h1, h2.plain (flat_pl h)⟩
theorem imp_aug {i : Nat} {f : WE} {op : D → D → (D → Prop) → Prop} {ti : TIp} (o : OpD K ti op) (hi : i ∉ kp) (Dn : Ends) (σ : St) (H : Hp) (h : tS K Wx kp (wAug op i f) Dn σ H) : tAug i (tE K Wx f) ti Dn σ H := by
  obtain ⟨B, ρ, fp, Xd, E, w, ⟨ho, hf⟩, hn, hr, hb, hc, hx⟩ := h
  obtain ⟨v0, e1, r0⟩ := flat_slot w ho
  refine ⟨v0, e1, B, ρ, fp, Xd, _, w, hf, fun r ρ1 v B1 H1 h1 p1 => ?_, fun x ρ' c d B' H' h p => hx x σ ρ' c d B' H' h p.xs⟩
  obtain ⟨fa, oa⟩ := p1.cont.one
  exact o B1 H1 v0 v _ _ [] fa _ _ p1.ex (.sh (r0.mono p1.tr.bb)) oa h1 fun z u B' H' fd hz n => hn _ _ B' H' hz ((p1.new n).setSlot hi)
theorem imp_augIx {i : Nat} {f g : WE} {op : D → D → (D → Prop) → Prop} {ti : TIp} (o : OpD K ti op) (Dn : Ends) (σ : St) (H : Hp) (h : tS K Wx kp (wAugIx op i g f) Dn σ H) :
    tAugS (tVar i) (tE K Wx g) (tE K Wx f) (rIxL K.F) ti rSetL Dn σ H := by
  obtain ⟨B, ρ, fp, Xd, E, w, ⟨ho, hf⟩, hn, hr, hb, hc, hx⟩ := h
  obtain ⟨p, us, xs, e1, e2, e3, _⟩ := own_slot w ho
  refine ⟨.ref p, e1, B, ρ, fp, Xd, _, w, hf, fun r2 ρ2 v2 B1 H1 h1 p1 => ?_, fun x ρ' c d B' H' h p => hx x σ ρ' c d B' H' h p.xs⟩
  obtain ⟨fa, oa⟩ := p1.cont.one
  split at h1
  · rename_i ys k hy hk
    rw [hk] at oa
    obtain ⟨f1, w1, k1, kx1⟩ := p1.drop.step
    obtain ⟨p', us1, xs1, g1, g2, g3, g4⟩ := own_slot w1 (i := i) (by rw [hy]; rfl)
    rw [e1] at g1
    cases g1
    rw [hy] at g2
    cases g2
    obtain ⟨j, d, h2, h3, h4, h5⟩ := h1
    obtain ⟨oo, fi, fr, q1, q2, _⟩ := w1.os.split (i := i) (d := dAt ρ2 i) (dAt_get (by rw [← w1.os.len]; exact (List.getElem?_eq_some_iff.mp e1).1))
    rw [e1] at q1
    cases q1
    rw [hy] at q2
    have item : ∃ x, us1[j]? = some x ∧ Rep K B1 x d := by
      cases q2 with
      | sh r => cases r
      | @own _ us2 oo2 _ f' bn l2 m r =>
        rw [g3] at l2
        cases l2
        obtain ⟨o3, f3, _, z1, z2, _⟩ := r.split h3
        have hj : j < us1.length := by rw [g4]; exact (List.getElem?_eq_some_iff.mp h3).1
        rw [← m, List.getElem?_map, List.getElem?_eq_getElem hj] at z1
        cases z1
        exact ⟨us1[j], List.getElem?_eq_getElem hj, z2.plain (flat_pl h4)⟩
    obtain ⟨x, x1, x2⟩ := item
    have at1 : atI us1 k = some x := by
      unfold atI
      rw [g4, h2]
      exact x1
    refine ⟨p, us1, k, x, rfl, oa.int_of, .of g3, at1, B1, ρ2, f1, Xd, _, w1, h5, fun r3 ρ3 v3 B2 H2 h6 p2 => ?_, fun x ρ' c d B' H' h p => hx x σ ρ' c d B' H' h (kx1 p).xs⟩
    obtain ⟨fb, ob⟩ := p2.cont.one
    have p2' := k1 p2
    refine o B2 H2 x v3 _ _ [] fb _ _ p2.ex (.sh (x2.mono p2.tr.bb)) ob h6 fun z u B' H' fd hz n => ?_
    have p3 := p2'.new n
    have p4 := p3.out e1
    split at hz
    · rename_i zs hzz
      rw [hzz] at p4
      obtain ⟨fs, w4, _⟩ := p3.step
      obtain ⟨p', us2, xs2, y1, y2, y3, y4⟩ := own_slot w4 (i := i) (by rw [hzz]; rfl)
      rw [e1] at y1
      cases y1
      rw [hzz] at y2
      cases y2
      have hjz : j < zs.length := by rw [hz.1]; exact (List.getElem?_eq_some_iff.mp h3).1
      have p5 := p4.setd y3 hjz
      have p6 := p5.back e1
      rw [List.set_set] at p6
      exact ⟨p, us2, k, j, rfl, oa.int_of, y3, by rw [y4, hz.1]; exact h2, hn σ _ B' _ hz.2 p6.g⟩
    · exact hz.elim
  · exact h1.elim
end
end FL

end
section
set_option maxHeartbeats 1000000
/-! FL10: fields; promises of defs; calls. -/
namespace FL
open PySem PySem.Spec PyProof.Rows L2

theorem pget_list {X : Cx} : PGet X (rIxL X.K) := by
  intro pins s σ H o i ov iv Q I ro ri ⟨p, xs, k, z, ho, hk, hq, he, q⟩
  subst ho hk
  cases ro
  obtain ⟨t, rfl⟩ := ri
  obtain ⟨its, r, pl, hz⟩ := I.list hq
  obtain ⟨j, h1, h2, h3, h4, h5⟩ := atI_get he
  obtain ⟨u, eu, ru⟩ := r.get h2
  have hl := r.length
  have hn := line63
  have fin : EP X pins σ Q u s := ⟨z, H, I, ru, q⟩
  by_cases h0 : 0 ≤ k
  · have hj : k.toNat = j := by
      rw [seqIndex_of h0 h5] at h1
      exact Option.some.inj h1
    exact wpAny_getItem_list pl.isList h0 (by omega) (by rw [hj]; simpa using eu) fin
  · have hj : (k + (its.toArray.size : Int)).toNat = j := by
      rw [seqIndex_neg (by omega) h4] at h1
      rw [List.size_toArray, ← hl]
      exact Option.some.inj h1
    exact wpAny_getItem_list_neg pl.isList (by omega) (by rw [List.size_toArray]; omega) (by omega) (by rw [hj]; simpa using eu) fin

/-! ### fields -/
/-- classes and their fields -/
abbrev CTab : Type := List (Str × List Str)
def CTab.has (t : CTab) (C f : Str) : Bool := t.any fun q => q.1 == C && q.2.contains f
def CTabOk (K : KW) (t : CTab) : Prop := ∀ q ∈ t, Cls K.F (He.ga K.F q.1) ∧ ∀ f ∈ q.2, NoAttr K.F (He.ga K.F q.1) f
theorem CTabOk.at {K : KW} {t : CTab} (ok : CTabOk K t) {C f : Str} (h : t.has C f = true) : Cls K.F (He.ga K.F C) ∧ NoAttr K.F (He.ga K.F C) f := by
  unfold CTab.has at h
  obtain ⟨q, h1, h2⟩ := List.any_eq_true.mp h
  rw [Bool.and_eq_true] at h2
  have e := eq_of_beq h2.1
  have m := List.contains_iff_mem.mp h2.2
  rw [← e]
  exact ⟨(ok q h1).1, (ok q h1).2 f m⟩
def fIx (ks : List Str) (f : Str) : Option Nat := ks.findIdx? (· == f)
theorem lookup_fIx {α : Type} {f : Str} {j : Nat} {v : α} : ∀ {fs : List (Str × α)}, fIx (fs.map (·.1)) f = some j → (fs.map (·.2))[j]? = some v → fs.lookup f = some v
  | [], h, _ => by cases h
  | (k, x) :: r, h, e => by
    unfold fIx at h
    rw [List.map_cons, List.findIdx?_cons] at h
    by_cases c : k = f
    · subst c
      rw [if_pos (beq_self_eq_true _)] at h
      cases h
      have e1 : x = v := by simpa using e
      rw [← e1]
      simp [List.lookup]
    · have c1 : (k == f) = false := beq_eq_false_iff_ne.mpr c
      have c2 : (f == k) = false := beq_eq_false_iff_ne.mpr (Ne.symm c)
      have h : Option.map (fun i => i + 1) (List.findIdx? (fun x => x == f) (r.map (·.1))) = some j := by
        rw [← h]
        show _ = if (k == f) = true then some 0 else _
        rw [c1] <;> rfl
      obtain ⟨i, h1, h2⟩ := Option.map_eq_some_iff.mp h
      subst h2
      rw [List.lookup_cons, c2]
      exact lookup_fIx (j := i) h1 (by simpa using e)
def opFld (t : CTab) (f : Str) (d : D) (P : D → Prop) : Prop := match d with
  | .ins C ks xs => t.has C f = true ∧ ∃ j x, fIx ks f = some j ∧ xs[j]? = some x ∧ x.pl = true ∧ P x
  | .oins C ks xs => t.has C f = true ∧ ∃ j x, fIx ks f = some j ∧ xs[j]? = some x ∧ x.pl = true ∧ P x
  | _ => False
def rFld (K : PySem.W.Frag) (f : Str) : V → Hp → VK → Prop := fun x H1 Q => ∃ a C dx fs v, x = .ref a ∧ H1 a = some (.ins C dx fs) ∧ Cls K C ∧ NoAttr K C f ∧ fs.lookup f = some v ∧ Q v H1
theorem ud_fld {K : KW} {t : CTab} (ok : CTabOk K t) {f : Str} : UnD K (rFld K.F f) (opFld t f) := by
  intro B H x d fa P Q ex hx h k
  cases d with
  | ins C ks xs =>
    obtain ⟨h1, j, z, h2, h3, h4, h5⟩ := h
    obtain ⟨c1, c2⟩ := ok.at h1
    cases hx with
    | sh r =>
      cases r with
      | ins s kk vv rr =>
        subst kk vv
        obtain ⟨v, a1, a2⟩ := rr.get h3
        exact ⟨_, _, _, _, v, rfl, ex _ _ s, c1, c2, lookup_fIx h2 a1, k _ _ B H [] h5 (.same ex a2)⟩
  | oins C ks xs =>
    obtain ⟨h1, j, z, h2, h3, h4, h5⟩ := h
    obtain ⟨c1, c2⟩ := ok.at h1
    cases hx with
    | sh r => cases r
    | oins b l kk m rr =>
      subst kk m
      obtain ⟨o, fi, fr, q1, q2, _⟩ := rr.split h3
      rw [List.getElem?_map] at q1
      cases e : (_ : List (Str × V))[j]? with
      | none => rw [e] at q1; cases q1
      | some q =>
        rw [e] at q1
        cases q1
        exact ⟨_, _, _, _, q.2, rfl, l, c1, c2, lookup_fIx h2 (by rw [List.getElem?_map, e]; rfl), k _ _ B H [] h5 (.same ex (q2.plain h4))⟩
  | _ => exact h.elim
theorem imp_fld {K : KW} {Wx : WX} {t : CTab} (ok : CTabOk K t) {f : Str} {g : WE} (σ : St) (H : Hp) (Q : VK) (h : tE K Wx (wUn (opFld t f) g) σ H Q) : tFld K.F (tE K Wx g) f σ H Q := imp_un (ud_fld ok) σ H Q h
/-- self.f = v -/
def putK (ks : List Str) (xs : List D) (f : Str) (d : D) : List Str × List D := match fIx ks f with
  | some j => (ks, xs.set j d)
  | none => (ks ++ [f], xs ++ [d])
def wSetFld (t : CTab) (i : Nat) (f : Str) (g : WE) : WS := fun X E ρ => g X ρ fun r ρ1 => match dAt (r.en ρ1) i with
  | .oins C ks xs => t.has C f = true ∧ xs.length < 1000 ∧ xs.all D.pl = true ∧ E.nx ((r.en ρ1).set i (.oins C (putK ks xs f (r.tk ρ1).sh).1 (putK ks xs f (r.tk ρ1).sh).2))
  | _ => False
theorem putF_map (f : Str) (v : V) : ∀ fs : List (Str × V), (putF f v fs).map (·.1) = (match fIx (fs.map (·.1)) f with | some _ => fs.map (·.1) | none => fs.map (·.1) ++ [f]) ∧
    (putF f v fs).map (·.2) = (match fIx (fs.map (·.1)) f with | some j => (fs.map (·.2)).set j v | none => fs.map (·.2) ++ [v])
  | [] => ⟨rfl, rfl⟩
  | (k, x) :: r => by
    obtain ⟨i1, i2⟩ := putF_map f v r
    unfold fIx at i1 i2 ⊢
    rw [show putF f v ((k, x) :: r) = (if k = f then (k, v) :: r else (k, x) :: putF f v r) from rfl]
    by_cases c : k = f
    · rw [if_pos c]
      subst c
      have z : List.findIdx? (fun x => x == k) (List.map (·.1) ((k, x) :: r)) = some 0 := by
        rw [List.map_cons, List.findIdx?_cons]
        show (if (k == k) = true then _ else _) = _
        rw [beq_self_eq_true]; rfl
      rw [z]
      exact ⟨rfl, rfl⟩
    · rw [if_neg c]
      have c1 : (k == f) = false := beq_eq_false_iff_ne.mpr c
      have z : List.findIdx? (fun x => x == f) (List.map (·.1) ((k, x) :: r)) = Option.map (fun i => i + 1) (List.findIdx? (fun x => x == f) (r.map (·.1))) := by
        rw [List.map_cons, List.findIdx?_cons]
        show (if (k == f) = true then _ else _) = _
        rw [c1]; rfl
      rw [z]
      cases q : List.findIdx? (fun x => x == f) (r.map (·.1)) with
      | none =>
        rw [q] at i1 i2
        exact ⟨by rw [List.map_cons, i1]; rfl, by rw [List.map_cons, i2]; rfl⟩
      | some j =>
        rw [q] at i1 i2
        exact ⟨by rw [List.map_cons, i1]; rfl, by rw [List.map_cons, i2]; rfl⟩
theorem Reps.set {K : KW} {B : Hp} {v : V} {d : D} (r : Rep K B v d) : ∀ {vs : List V} {ds : List D} (i : Nat), Reps K B vs ds → Reps K B (vs.set i v) (ds.set i d)
  | _, _, _, .nil => .nil
  | _, _, 0, .cons _ t => .cons r t
  | _, _, i + 1, .cons q t => .cons q (Reps.set r i t)
section
variable {K : KW} {kp : List Nat} {B H B' H' : Hp} {σ σ' : St} {ρ ρ' : List D} {fp : List Addr} {Wx : WX}
theorem imp_setFld {t : CTab} (ok : CTabOk K t) {i : Nat} {f : Str} {g : WE} (Dn : Ends) (σ : St) (H : Hp) (h : tS K Wx kp (wSetFld t i f g) Dn σ H) : sFld K.F (tVar i) (tE K Wx g) f Dn σ H := by
  obtain ⟨B, ρ, fp, Xd, E, w, hf, hn, hr, hb, hc, hx⟩ := h
  refine ⟨B, ρ, fp, Xd, _, w, hf, fun r ρ1 v B1 H1 h1 p1 => ?_, fun x ρ' c d B' H' h p => hx x σ ρ' c d B' H' h p.xs⟩
  obtain ⟨B2, p2⟩ := p1.share
  split at h1
  · rename_i C ks xs hy
    obtain ⟨t1, e1, fd, fs, r1, o1, n1, s1⟩ := p2
    have hl : i < (r.en ρ1).length := by
      by_cases c : i < (r.en ρ1).length
      · exact c
      · unfold dAt at hy
        rw [List.getD_eq_getElem?_getD, List.getElem?_eq_none (by omega)] at hy
        cases hy
    obtain ⟨o, fi, fr, g1, g2, g3, g4⟩ := o1.split (dAt_get hl)
    rw [hy] at g2
    have rep : Rep K B2 v (r.tk ρ1).sh := by
      cases r1 with
      | val os _ _ => exact os.plain (sh_pl _)
    obtain ⟨h1, h2, h3, h4⟩ := h1
    obtain ⟨c1, c2⟩ := ok.at h1
    cases g2 with
    | sh r => cases r
    | @oins p _ dx fl _ oo _ f0 b l kk m rr =>
      subst kk m
      have items : Reps K B2 (fl.map (·.2)) xs := rr.plain (by rw [List.map_map]; rfl) h3
      have hlen : fl.length = xs.length := by rw [← items.length, List.length_map]
      refine ⟨.ref p, g1, p, He.ga K.F C, dx, fl, rfl, l, c1, c2, by rw [hlen]; exact h2, hn σ _ B2 _ h4 ?_⟩
      have nfs := (List.nodup_append.mp n1).2.1
      have nd2 : (p :: f0 ++ fr).Nodup := g3.nodup_iff.mp nfs
      have mem : ∀ q, q ∈ p :: f0 ++ fr → q ∈ fs := fun q hq => g3.mem_iff.mpr hq
      have pfr : p ∉ fr := fun x => (List.nodup_append.mp nd2).2.2 p List.mem_cons_self p x rfl
      have new : OS K B2 (upd H1 p (.ins (He.ga K.F C) dx (putF f v fl))) (some (.ref p)) (.oins C (putK (fl.map (·.1)) xs f (r.tk ρ1).sh).1 (putK (fl.map (·.1)) xs f (r.tk ρ1).sh).2) [p] := by
        obtain ⟨k1, k2⟩ := putF_map f v fl
        have rs : Reps K B2 ((putF f v fl).map (·.2)) (putK (fl.map (·.1)) xs f (r.tk ρ1).sh).2 := by
          rw [k2]
          unfold putK
          cases fIx (fl.map (·.1)) f with
          | none => exact items.append (.cons rep .nil)
          | some j => exact Reps.set rep j items
        refine .oins b upd_same ?_ rfl (by have z := rs.oss (H := upd H1 p (.ins (He.ga K.F C) dx (putF f v fl))); rw [List.map_map] at z; exact z)
        rw [k1]
        unfold putK
        cases fIx (fl.map (·.1)) f <;> rfl
      obtain ⟨fp', q1, q2⟩ := g4 (H' := upd H1 p (.ins (He.ga K.F C) dx (putF f v fl))) (Ex.refl B2) (fun q hq => (o1.there q (mem q (List.mem_append_right _ hq))).1) (fun q hq => upd_ne fun x => pfr (by rw [← x]; exact hq)) new
      rw [set_self g1] at q1
      have hp : p ∈ fs := mem p (List.mem_append_left _ List.mem_cons_self)
      refine ⟨fun _ _ => rfl, ⟨t1.bb, fun q o h n => ?_, t1.bnew⟩, e1.mut b, [], fp', .nil, q1, ?_, fun q hq => ?_⟩
      · have hne : q ≠ p := fun x => by
          subst x
          rcases s1 q (List.mem_append_right _ hp) with y | y
          · exact n y
          · rw [y] at h; cases h
        rw [upd_ne hne]
        exact t1.keep q o h n
      · rw [List.nil_append]
        exact q2.nodup_iff.mpr (List.nodup_cons.mpr ⟨pfr, (List.nodup_append.mp nd2).2.1⟩)
      · have hq' : q ∈ [p] ++ fr := q2.mem_iff.mp (by simpa using hq)
        rcases List.mem_append.mp hq' with y | y
        · rw [List.mem_singleton.mp y]; exact s1 p (List.mem_append_right _ hp)
        · exact s1 q (List.mem_append_right _ (mem q (List.mem_append_right _ y)))
  · exact h1.elim
end
end FL

end
section
set_option maxHeartbeats 1000000
/-! FL11: promises of defs, calls. -/
namespace FL
open PySem PySem.Spec PyProof.Rows L2

abbrev WF := XD → List D → (D → List D → Prop) → Prop
/-- a def's promise by data -/
def spD (K : KW) (F : WF) (n : Nat) : Sp := fun vs H Q E => vs.length = n ∧ ∃ B ds fp X P, W K B H (vs.map some) ds fp ∧ F X ds P ∧
  (∀ d ds' v B' H', P d ds' → PostRs K (vs.map some) B H fp [.val d] ds' [v] B' H' → Q v H') ∧ (∀ x ds' c d B' H', X x ds' → PostX K (vs.map some) B H fp x ds' c d B' H' → E c d H')

section
variable {K : KW} {kp : List Nat} {B H B' H' : Hp} {σ σ' : St} {ρ ρ' : List D} {fp : List Addr} {Wx : WX}
theorem OSs.append {os os2 : List (Option V)} {ds ds2 : List D} {f f2 : List Addr} (h : OSs K B H os ds f) (h2 : OSs K B H os2 ds2 f2) : OSs K B H (os ++ os2) (ds ++ ds2) (f ++ f2) := match h with
  | .nil => h2
  | .cons a b z => .cons a (OSs.append b h2) (by rw [z, List.append_assoc])
theorem OSs.unds : ∀ n : Nat, OSs K B H (List.replicate n none) (List.replicate n .und) []
  | 0 => .nil
  | n + 1 => .cons .und (OSs.unds n) rfl

/-- the parameters at the end: those of kp -/
def finD (kp : List Nat) : Nat → Nat → List D → List D
  | _, 0, _ => []
  | i, n + 1, [] => .und :: finD kp (i + 1) n []
  | i, n + 1, d :: r => (if i ∈ kp then d else .und) :: finD kp (i + 1) n r
theorem fin_ok {kp : List Nat} : ∀ {ws os : List (Option V)} {ds : List D} {f : List Addr} {i : Nat}, OSs K B H os ds f → (∀ j, j < ws.length → i + j ∈ kp → os[j]? = ws[j]?) →
    ∃ f', OSs K B H ws (finD kp i ws.length ds) f' ∧ f'.Sublist f
  | [], os, ds, f, i, h, _ => ⟨[], .nil, List.nil_sublist _⟩
  | w :: ws, os, ds, f, i, h, hk => by
    cases h with
    | nil =>
      obtain ⟨f', h1, h2⟩ := fin_ok (kp := kp) (ws := ws) (os := []) (ds := []) (f := []) (i := i + 1) .nil fun j hj hm => by
        have q := hk (j + 1) (by simpa using hj) (by rw [← Nat.add_assoc, Nat.add_right_comm]; exact hm)
        simpa using q
      exact ⟨f', .cons (f1 := []) .und h1 (by simp), h2⟩
    | @cons o d os ds f1 f2 _ a b z =>
      obtain ⟨f', h1, h2⟩ := fin_ok (ws := ws) (i := i + 1) b fun j hj hm => by
        have q := hk (j + 1) (by simpa using hj) (by rw [← Nat.add_assoc, Nat.add_right_comm]; exact hm)
        simpa using q
      by_cases c : i ∈ kp
      · have q := hk 0 (by simp) (by simpa using c)
        have e : o = w := by simpa using q
        subst e
        refine ⟨f1 ++ f', .cons (by rw [if_pos c]; exact a) h1 rfl, ?_⟩
        rw [z]
        exact List.Sublist.append_left h2 f1
      · refine ⟨f', .cons (f1 := []) (by rw [if_neg c]; exact .und) h1 (by simp), ?_⟩
        rw [z]
        exact h2.trans (List.sublist_append_right _ _)

/-- a def by its body -/
def wFn (n m : Nat) (kp : List Nat) (f : WS) : WF := fun X ds P => ds.length = n ∧ f (fun x ρ => X x (finD kp 0 n ρ)) ⟨fun ρ => P .non (finD kp 0 n ρ), fun d ρ => P d (finD kp 0 n ρ), fun _ => False, fun _ => False⟩ (ds ++ List.replicate (m - n) .und)
theorem fn_body {N : List Str} {n : Nat} {f : WS} {vs : List V} {Q : VK} {E : XK} (h : spD K (wFn n N.length kp f) n vs H Q E) :
    tS K (fun c d _ H' => E c d H') kp f { nx := fun _ H' => Q .non H', rt := Q } (L2.start N vs) H := by
  obtain ⟨hl, B, ds, fp, X, P, w, ⟨hd, hf⟩, hQ, hX⟩ := h
  have w0 : W K B H (L2.start N vs) (ds ++ List.replicate (N.length - n) .und) fp := by
    refine ⟨w.ex, ?_, w.nd⟩
    have z := w.os.append (OSs.unds (K := K) (B := B) (H := H) (N.length - n))
    rw [List.append_nil] at z
    unfold L2.start
    rw [hl]
    exact z
  have hlen : (vs.map some).length = n := by rw [List.length_map]; exact hl
  have fin : ∀ {σ' : St} {ρ' : List D} {rs : List R} {us : List V} {B' H' : Hp}, (∀ r ∈ rs, ∃ d, r = .val d) → PostG K kp (L2.start N vs) B H fp σ' rs ρ' us B' H' → PostRs K (vs.map some) B H fp rs (finD kp 0 n ρ') us B' H' := by
    intro σ' ρ' rs us B' H' hv ⟨k1, t1, e1, fd, fs, r1, o1, n1, s1⟩
    have key : ∃ f', OSs K B' H' (vs.map some) (finD kp 0 (vs.map some).length ρ') f' ∧ f'.Sublist fs := fin_ok o1 fun j hj hm => by
      have q := k1 j (by simpa using hm)
      rw [q]
      unfold L2.start
      rw [List.getElem?_append_left hj]
    rw [hlen] at key
    obtain ⟨f', g1, g2⟩ := key
    have r2 : ROs K B' H' (vs.map some) us rs fd := by
      clear n1 s1
      induction r1 with
      | nil => exact .nil
      | val a _ z ih => exact .val a (ih fun r hr => hv r (List.mem_cons_of_mem _ hr)) z
      | slot e _ ih =>
        obtain ⟨d, hd⟩ := hv _ List.mem_cons_self
        cases hd
    exact ⟨t1, e1, fd, f', r2, g1, n1.sublist (List.Sublist.append_left g2 fd), fun q hq => s1 q ((List.Sublist.append_left g2 fd).subset hq)⟩
  exact ⟨B, _, fp, _, _, w0, hf, fun σ' ρ' B' H' hp pg => hQ .non _ .non B' H' hp ((fin (rs := []) (us := []) (fun r hr => absurd hr List.not_mem_nil) pg).new (.same pg.ex .non)), fun d σ' ρ' v B' H' hp pg => hQ d _ v B' H' hp (fin (fun r hr => ⟨d, List.mem_singleton.mp hr⟩) pg),
    fun _ _ _ _ z _ => z.elim, fun _ _ _ _ z _ => z.elim, fun x σ' ρ' c d B' H' hp px => by
      obtain ⟨k1, t1, e1, ⟨fs, o1, n1, s1⟩, ob⟩ := px
      have pr := fin (rs := []) (us := []) (fun r hr => absurd hr List.not_mem_nil) ⟨k1, t1, e1, [], fs, .nil, o1, by simpa using n1, by simpa using s1⟩
      obtain ⟨t2, e2, fd2, fs2, r2, o2, n2, s2⟩ := pr
      exact hX x _ c d B' H' hp ⟨t2, e2, ⟨fs2, o2, (List.nodup_append.mp n2).2.1, fun q hq => s2 q (List.mem_append_right _ hq)⟩, ob⟩⟩

/-! ### arguments handed over -/
theorem ROs.snoc {vs : List V} {rs : List R} {v : V} {r : R} {f1 f2 : List Addr} (h : ROs K B H σ vs rs f1) (h2 : ROs K B H σ [v] [r] f2) : ROs K B H σ (vs ++ [v]) (rs ++ [r]) (f1 ++ f2) := h.append h2
/-- the first result comes last -/
theorem PostRs.rot {r : R} {rs : List R} {v : V} {vs : List V} (a : PostRs K σ B H fp (r :: rs) ρ' (v :: vs) B' H') : PostRs K σ B H fp (rs ++ [r]) ρ' (vs ++ [v]) B' H' := by
  obtain ⟨t1, e1, fd, fs, r1, o1, n1, s1⟩ := a
  cases r1 with
  | @val _ _ _ _ f1 f2 _ os rr z =>
    have pm : (fd ++ fs).Perm ((f2 ++ f1) ++ fs) := by
      rw [z]
      exact List.Perm.append_right fs List.perm_append_comm
    exact ⟨t1, e1, f2 ++ f1, fs, rr.snoc (.val (f2 := []) os .nil (by simp)), o1, pm.nodup_iff.mp n1, fun q hq => s1 q (pm.mem_iff.mpr hq)⟩
  | slot e rr => exact ⟨t1, e1, fd, fs, by simpa using rr.snoc (.slot e .nil), o1, n1, s1⟩
/-- a slot's datum that is not one's own, as a value -/
theorem PostRs.headPl {i : Nat} {rs : List R} {v : V} {vs : List V} (a : PostRs K σ B H fp (.slot i :: rs) ρ' (v :: vs) B' H') (p : (dAt ρ' i).pl = true) : PostRs K σ B H fp (.val (dAt ρ' i) :: rs) ρ' (v :: vs) B' H' := by
  obtain ⟨t1, e1, fd, fs, r1, o1, n1, s1⟩ := a
  cases r1 with
  | slot e rr =>
    obtain ⟨f, q⟩ := o1.at e
    exact ⟨t1, e1, fd, fs, .val (f1 := []) (.sh (q.plain p)) rr (by simp), o1, n1, s1⟩
theorem PostRs.headSlot {i : Nat} {rs : List R} {v : V} {vs : List V} (a : PostRs K σ B H fp (.slot i :: rs) ρ' (v :: vs) B' H') : σ[i]? = some (some v) ∧ PostRs K σ B H fp rs ρ' vs B' H' := by
  obtain ⟨t1, e1, fd, fs, r1, o1, n1, s1⟩ := a
  cases r1 with
  | slot e rr => exact ⟨e, t1, e1, fd, fs, rr, o1, n1, s1⟩
/-- a temporary is shared -/
theorem PostRs.headSh {d : D} {rs : List R} {v : V} {vs : List V} (a : PostRs K σ B H fp (.val d :: rs) ρ' (v :: vs) B' H') : ∃ B2, Ex B' B2 ∧ PostRs K σ B H fp (.val d.sh :: rs) ρ' (v :: vs) B2 H' := by
  obtain ⟨t1, e1, fd, fs, r1, o1, n1, s1⟩ := a
  cases r1 with
  | @val _ _ _ _ f1 f2 _ os rr z =>
    have hn : ∀ q ∈ f1, B' q = none := fun q hq => (os.there q hq).1
    have n2 : ((f1 ++ f2) ++ fs).Nodup := z ▸ n1
    have n12 := List.nodup_append.mp (List.nodup_append.mp n2).1
    have d12 := (List.nodup_append.mp n2).2.2
    refine ⟨kn B' H' f1, kn_ex hn, ⟨t1.bb.trans (kn_ex hn), t1.keep, fun q o h => ?_⟩, kn_le e1, f2, fs, .val (f1 := []) (f2 := f2) (.sh (os.share (kn_ex hn) fun q hq => kn_in hq)) ?_ rfl, ?_, ?_, fun q hq => s1 q ?_⟩
    · by_cases y : q ∈ f1
      · rcases s1 q (List.mem_append_left _ (z ▸ List.mem_append_left _ y)) with x | x
        · exact .inr (.inl x)
        · exact .inr (.inr x)
      · rw [kn_out y] at h
        exact t1.bnew q o h
    · exact rr.frame (kn_ex hn) (fun q hq => by rw [kn_out fun y => n12.2.2 q y q hq rfl]; exact (rr.there q hq).1) fun _ _ => rfl
    · exact o1.frame (kn_ex hn) (fun q hq => by rw [kn_out fun y => d12 q (List.mem_append_left _ y) q hq rfl]; exact (o1.there q hq).1) fun _ _ => rfl
    · exact List.nodup_append.mpr ⟨n12.2.1, (List.nodup_append.mp n2).2.1, fun q hq q' hq' => d12 q (List.mem_append_right _ hq) q' hq'⟩
    · rcases List.mem_append.mp hq with y | y
      · exact List.mem_append_left _ (z ▸ List.mem_append_right _ y)
      · exact List.mem_append_right _ y
theorem PostRs.headDrop {d : D} {rs : List R} {v : V} {vs : List V} (a : PostRs K σ B H fp (.val d :: rs) ρ' (v :: vs) B' H') : PostRs K σ B H fp rs ρ' vs B' H' := by
  obtain ⟨t1, e1, fd, fs, r1, o1, n1, s1⟩ := a
  cases r1 with
  | @val _ _ _ _ f1 f2 _ os rr z =>
    have n2 : (f1 ++ (f2 ++ fs)).Nodup := by rw [← List.append_assoc]; exact z ▸ n1
    refine ⟨t1, e1, f2, fs, rr, o1, (List.nodup_append.mp n2).2.1, fun q hq => s1 q ?_⟩
    rcases List.mem_append.mp hq with y | y
    · exact List.mem_append_left _ (z ▸ List.mem_append_right _ y)
    · exact List.mem_append_right _ y
/-- one argument: its datum, the slots behind, the slot that gets it back -/
def arg1 (k : Bool) (r : R) (ρ : List D) : D × List D × Option Nat := match r with
  | .val d => (d, ρ, none)
  | .slot i => if (dAt ρ i).pl = true then (dAt ρ i, ρ, none) else if k = true then (dAt ρ i, ρ.set i .und, some i) else ((dAt ρ i).sh, ρ.set i (dAt ρ i).sh, none)
def argD : List Bool → List R → List D → List D × List D × List (Option Nat)
  | k :: ks, r :: rs, ρ => ((arg1 k r ρ).1 :: (argD ks rs (arg1 k r ρ).2.1).1, (argD ks rs (arg1 k r ρ).2.1).2.1, (arg1 k r ρ).2.2 :: (argD ks rs (arg1 k r ρ).2.1).2.2)
  | _, _, ρ => ([], ρ, [])
def putB : List (Option Nat) → List D → List D → List D
  | none :: ms, _ :: ds, ρ => putB ms ds ρ
  | some i :: ms, d :: ds, ρ => putB ms ds (ρ.set i d)
  | _, _, ρ => ρ
/-- which slots get which values back -/
def Backs (σ : St) : List (Option Nat) → List V → Prop
  | m :: ms, v :: vs => (∀ i, m = some i → σ[i]? = some (some v)) ∧ Backs σ ms vs
  | _, _ => True
theorem PostRs.args : ∀ {ks : List Bool} {rs : List R} {vs : List V} {ρ : List D} {ds0 : List D} {ws : List V} {B1 : Hp}, PostRs K σ B H fp (rs ++ ds0.map R.val) ρ (vs ++ ws) B1 H' → vs.length = rs.length → ks.length = rs.length →
    ∃ B2, Ex B1 B2 ∧ PostRs K σ B H fp ((ds0 ++ (argD ks rs ρ).1).map R.val) (argD ks rs ρ).2.1 (ws ++ vs) B2 H' ∧ Backs σ (argD ks rs ρ).2.2 vs
  | ks, [], [], ρ, ds0, ws, B1, a, _, _ => by
    refine ⟨B1, Ex.refl B1, ?_, ?_⟩
    · cases ks <;> simpa [argD] using a
    · cases ks <;> trivial
  | k :: ks, r :: rs, v :: vs, ρ, ds0, ws, B1, a, hl, hk => by
    have step : ∃ B2, Ex B1 B2 ∧ PostRs K σ B H fp (.val (arg1 k r ρ).1 :: (rs ++ ds0.map R.val)) (arg1 k r ρ).2.1 (v :: (vs ++ ws)) B2 H' ∧ ∀ i, (arg1 k r ρ).2.2 = some i → σ[i]? = some (some v) := by
      cases r with
      | val d => exact ⟨B1, Ex.refl B1, a, fun i h => nomatch h⟩
      | slot i =>
        unfold arg1
        by_cases c : (dAt ρ i).pl = true
        · simp only [if_pos c]
          exact ⟨B1, Ex.refl B1, a.headPl c, fun i h => nomatch h⟩
        · obtain ⟨e, b⟩ := PostRs.headSlot (rs := rs ++ ds0.map R.val) (vs := vs ++ ws) a
          simp only [if_neg c]
          by_cases c2 : k = true
          · simp only [if_pos c2]
            exact ⟨B1, Ex.refl B1, b.out e, fun j h => by cases h; exact e⟩
          · simp only [if_neg c2]
            obtain ⟨B2, eb, b2⟩ := (b.out e).headSh
            have b3 := b2.back e
            rw [List.set_set] at b3
            refine ⟨B2, eb, ?_, fun j h => nomatch h⟩
            have hl : i < (ρ.set i (dAt ρ i).sh).length := by
              obtain ⟨_, _, _, _, _, o1, _⟩ := b3
              rw [← o1.len]
              exact (List.getElem?_eq_some_iff.mp e).1
            have ed : dAt (ρ.set i (dAt ρ i).sh) i = (dAt ρ i).sh := by
              unfold dAt
              rw [List.getD_eq_getElem?_getD, List.getElem?_set_self (by simpa using hl)]
              rfl
            have b4 : PostRs K σ B H fp (.slot i :: (rs ++ ds0.map R.val)) (ρ.set i (dAt ρ i).sh) (v :: (vs ++ ws)) B2 H' := by
              obtain ⟨t1, e1, fd, fs, r1, o1, n1, s1⟩ := b3
              exact ⟨t1, e1, fd, fs, .slot e r1, o1, n1, s1⟩
            have b5 := b4.headPl (by rw [ed]; exact sh_pl _)
            rw [ed] at b5
            exact b5
    obtain ⟨B2, eb, b, bk⟩ := step
    have b2 := b.rot
    rw [List.append_assoc, List.append_assoc] at b2
    have e : (ds0.map R.val ++ [R.val (arg1 k r ρ).1]) = (ds0 ++ [(arg1 k r ρ).1]).map R.val := by simp
    rw [e] at b2
    obtain ⟨B3, eb3, b3, bk3⟩ := PostRs.args (ks := ks) (rs := rs) (vs := vs) (ds0 := ds0 ++ [(arg1 k r ρ).1]) (ws := ws ++ [v]) b2 (by simpa using hl) (by simpa using hk)
    refine ⟨B3, eb.trans eb3, ?_, bk, bk3⟩
    show PostRs K σ B H fp ((ds0 ++ (arg1 k r ρ).1 :: (argD ks rs (arg1 k r ρ).2.1).1).map R.val) _ _ _ _
    rw [List.append_assoc, List.append_assoc] at b3
    exact b3
theorem PostRs.putback : ∀ {ms : List (Option Nat)} {ds : List D} {vs : List V} {ρ : List D} {rs0 : List R} {ws : List V} {B1 : Hp}, PostRs K σ B H fp (ds.map R.val ++ rs0) ρ (vs ++ ws) B1 H' → vs.length = ds.length → Backs σ ms vs →
    ms.length = ds.length → PostRs K σ B H fp rs0 (putB ms ds ρ) ws B1 H'
  | [], [], [], ρ, rs0, ws, B1, a, _, _, _ => a
  | m :: ms, d :: ds, v :: vs, ρ, rs0, ws, B1, a, hl, hb, hm => by
    have a : PostRs K σ B H fp (.val d :: (ds.map R.val ++ rs0)) ρ (v :: (vs ++ ws)) B1 H' := a
    cases m with
    | none => exact PostRs.putback (ms := ms) (ds := ds) (vs := vs) a.headDrop (by simpa using hl) hb.2 (by simpa using hm)
    | some i => exact PostRs.putback (ms := ms) (ds := ds) (vs := vs) (a.back (hb.1 i rfl)) (by simpa using hl) hb.2 (by simpa using hm)
theorem argD_len : ∀ {ks : List Bool} {rs : List R} {ρ : List D}, ks.length = rs.length → (argD ks rs ρ).1.length = rs.length ∧ (argD ks rs ρ).2.2.length = rs.length
  | [], [], _, _ => ⟨rfl, rfl⟩
  | k :: ks, r :: rs, ρ, h => by
    obtain ⟨h1, h2⟩ := argD_len (ks := ks) (rs := rs) (ρ := (arg1 k r ρ).2.1) (by simpa using h)
    exact ⟨by show _ + 1 = _; rw [h1]; rfl, by show _ + 1 = _; rw [h2]; rfl⟩
/-- f(..) -/
def wCall (F : WF) (ks : List Bool) (fs : WA) : WE := fun X ρ P => fs X ρ fun rs ρ1 => ks.length = rs.length ∧
  F (fun x ds' => X x (putB (argD ks rs ρ1).2.2 ds' (argD ks rs ρ1).2.1)) (argD ks rs ρ1).1 fun d ds' => P (.val d) (putB (argD ks rs ρ1).2.2 ds' (argD ks rs ρ1).2.1)
theorem vals_os {vs : List V} {ds : List D} {fd : List Addr} (h : ROs K B H σ vs (ds.map R.val) fd) : OSs K B H (vs.map some) ds fd := by
  induction ds generalizing vs fd with
  | nil => cases h; exact .nil
  | cons d ds ih =>
    cases h with
    | val a b z => exact .cons a (ih b) z
theorem os_vals {vs : List V} {ds : List D} {fd : List Addr} (h : OSs K B H (vs.map some) ds fd) : ROs K B H σ vs (ds.map R.val) fd := by
  induction ds generalizing vs fd with
  | nil =>
    cases vs with
    | nil => cases h; exact .nil
    | cons => cases h
  | cons d ds ih =>
    cases vs with
    | nil => cases h
    | cons v vs =>
      cases h with
      | cons a b z => exact .val a (ih b) z
/-- a call, from its arguments on -/
theorem call_core0 {F : WF} {n : Nat} {ds : List D} {vs : List V} {B1 H1 : Hp} {ρ2 : List D} {Xd : Exc → List D → Prop} {P : D → List D → Prop} {Q : VK} {E : XK}
    (p : PostRs K σ B H fp (ds.map R.val) ρ2 vs B1 H1) (hn : vs.length = n) (hF : F Xd ds P)
    (hQ : ∀ d ds' v B' H', P d ds' → ds'.length = vs.length → PostRs K σ B H fp (ds'.map R.val ++ [.val d]) ρ2 (vs ++ [v]) B' H' → Q v H')
    (hX : ∀ x ds' c d B' H', Xd x ds' → ds'.length = vs.length → PostRs K σ B H fp (ds'.map R.val) ρ2 vs B' H' → (∃ a fl, c = .ref (He.ga K.F x.cls) ∧ d = some a ∧ H' a = some (.xd fl) ∧ fl.map (·.1) = x.ks ∧ Reps K B' (fl.map (·.2)) x.ds) → E c d H') : spD K F n vs H1 Q E := by
  obtain ⟨t1, e1, fd, fs, r1, o1, n1, s1⟩ := p
  have hl : vs.length = ds.length := by rw [r1.length, List.length_map]
  have nfd := (List.nodup_append.mp n1).1
  have dis : ∀ q ∈ fs, q ∉ fd := fun q h1 h2 => (List.nodup_append.mp n1).2.2 q h2 q h1 rfl
  have sfd : Sub H fp fd := fun q hq => s1 q (List.mem_append_left _ hq)
  refine ⟨hn, B1, ds, fd, _, _, ⟨e1, vals_os r1, nfd⟩, hF, fun d ds' v B' H' hp pr => ?_, fun x ds' c d B' H' hp px => ?_⟩
  · obtain ⟨t2, e2, fd2, fs2, r2, o2, n2, s2⟩ := pr
    have hl2 : ds'.length = vs.length := by rw [← o2.len, List.length_map]
    have o3 := o1.aside t2 dis
    have dis2 : ∀ q ∈ fd2 ++ fs2, q ∉ fs := fun q h1 h2 => by
      rcases s2 q h1 with z | z
      · exact dis q h2 z
      · obtain ⟨_, u, hu⟩ := o1.there q h2
        rw [z] at hu; cases hu
    cases r2 with
    | @val _ _ _ _ g1 g2 _ os rr z =>
      cases rr
      have z : fd2 = g1 := by simpa using z
      subst z
      refine hQ d ds' v B' H' hp hl2 ⟨t1.trans sfd t2, e2, fs2 ++ fd2, fs, (os_vals o2).snoc (.val (f2 := []) os .nil (by simp)), o3, ?_, fun q hq => ?_⟩
      · refine List.nodup_append.mpr ⟨(List.perm_append_comm (l₁ := fd2) (l₂ := fs2)).nodup_iff.mp n2, (List.nodup_append.mp n1).2.1, fun q hq q' hq' e => ?_⟩
        subst e
        exact dis2 q ((List.perm_append_comm (l₁ := fs2) (l₂ := fd2)).mem_iff.mp hq) hq'
      · rcases List.mem_append.mp hq with y | y
        · exact Sub.trans t1 sfd s2 q ((List.perm_append_comm (l₁ := fs2) (l₂ := fd2)).mem_iff.mp y)
        · exact s1 q (List.mem_append_right _ y)
  · obtain ⟨t2, e2, ⟨fs2, o2, n2, s2⟩, ob⟩ := px
    have hl2 : ds'.length = vs.length := by rw [← o2.len, List.length_map]
    have o3 := o1.aside t2 dis
    have dis2 : ∀ q ∈ fs2, q ∉ fs := fun q h1 h2 => by
      rcases s2 q h1 with z | z
      · exact dis q h2 z
      · obtain ⟨_, u, hu⟩ := o1.there q h2
        rw [z] at hu; cases hu
    refine hX x ds' c d B' H' hp hl2 ⟨t1.trans sfd t2, e2, fs2, fs, os_vals o2, o3, ?_, fun q hq => ?_⟩ ob
    · exact List.nodup_append.mpr ⟨n2, (List.nodup_append.mp n1).2.1, fun q hq q' hq' e => by subst e; exact dis2 q hq hq'⟩
    · rcases List.mem_append.mp hq with y | y
      · exact Sub.trans t1 sfd s2 q y
      · exact s1 q (List.mem_append_right _ y)
theorem PostRs.px {x : Exc} {c : Value} {d : Option Addr} (a : PostRs K σ B H fp [] ρ' [] B' H') (ob : ∃ a fl, c = .ref (He.ga K.F x.cls) ∧ d = some a ∧ H' a = some (.xd fl) ∧ fl.map (·.1) = x.ks ∧ Reps K B' (fl.map (·.2)) x.ds) :
    PostX K σ B H fp x ρ' c d B' H' := by
  obtain ⟨t3, e3, fd3, fs3, r3, o4, n3, s3⟩ := a
  exact ⟨t3, e3, ⟨fs3, o4, (List.nodup_append.mp n3).2.1, fun q hq => s3 q (List.mem_append_right _ hq)⟩, ob⟩
theorem call_core {F : WF} {n : Nat} {ms : List (Option Nat)} {ds : List D} {vs : List V} {B1 H1 : Hp} {ρ2 : List D} {Xd : XD} {P : R → List D → Prop} {Q : VK} {E : XK}
    (p : PostRs K σ B H fp (ds.map R.val) ρ2 vs B1 H1) (bk : Backs σ ms vs) (hm : ms.length = ds.length) (hn : vs.length = n)
    (hF : F (fun x ds' => Xd x (putB ms ds' ρ2)) ds fun d ds' => P (.val d) (putB ms ds' ρ2))
    (hQ : ∀ r ρ' v B' H', P r ρ' → PostRs K σ B H fp [r] ρ' [v] B' H' → Q v H') (hX : ∀ x ρ' c d B' H', Xd x ρ' → PostX K σ B H fp x ρ' c d B' H' → E c d H') : spD K F n vs H1 Q E := by
  have hl : vs.length = ds.length := by
    obtain ⟨_, _, _, _, r1, _⟩ := p
    rw [r1.length, List.length_map]
  refine call_core0 p hn hF (fun d ds' v B' H' hp hl2 pr => hQ _ _ v B' H' hp (pr.putback hl2.symm bk (by rw [hm, hl2, hl]))) fun x ds' c d B' H' hp hl2 pr ob => ?_
  have all : PostRs K σ B H fp (ds'.map R.val ++ []) ρ2 (vs ++ []) B' H' := by rw [List.append_nil, List.append_nil]; exact pr
  exact hX x _ c d B' H' hp ((all.putback (ms := ms) hl2.symm bk (by rw [hm, hl2, hl])).px ob)
theorem imp_call {F : WF} {ks : List Bool} {fs : WA} {n : Nat} {E : XK} (hn : ks.length = n) (hE : ∀ σ c d H, E c d H ↔ Wx c d σ H) (σ : St) (H : Hp) (Q : VK) (h : tE K Wx (wCall F ks fs) σ H Q) : tCall (spD K F n) [] E (tA K Wx fs) σ H Q := by
  obtain ⟨B, ρ, fp, Xd, P, w, hf, hQ, hX⟩ := h
  refine ⟨B, ρ, fp, Xd, _, w, hf, fun rs ρ1 vs B1 H1 ⟨hk, hF⟩ p1 => ?_, hX⟩
  have hl : vs.length = rs.length := by
    obtain ⟨_, _, _, _, r1, _⟩ := p1
    exact r1.length
  obtain ⟨B2, _, p2, bk⟩ := PostRs.args (ks := ks) (rs := rs) (vs := vs) (ds0 := []) (ws := []) (by simpa using p1) hl hk
  obtain ⟨l1, l2⟩ := argD_len (ρ := ρ1) hk
  show spD K F n (vs ++ []) H1 Q E
  rw [List.append_nil]
  exact call_core (by simpa using p2) bk (by rw [l1, l2]) (by rw [hl, ← hk, hn]) hF hQ fun x ρ' c d B' H' hx px => (hE σ c d H').mpr (hX x ρ' c d B' H' hx px)
/-- a new thing beside the results -/
theorem PostRs.addNew {B1 H1 B2 H2 : Hp} {rs : List R} {ρ1 : List D} {vs : List V} {d : D} {v : V} {fd : List Addr} (a : PostRs K σ B H fp rs ρ1 vs B1 H1) (n : New K B1 H1 d v B2 H2 fd) : PostRs K σ B H fp (.val d :: rs) ρ1 (v :: vs) B2 H2 := by
  obtain ⟨f1, w1, k, _⟩ := a.step
  have b : PostRs K σ B1 H1 f1 [.val d] ρ1 [v] B2 H2 := w1.refl.new n
  obtain ⟨t1, e1, g1, g2, r1, o1, n1, s1⟩ := k b
  have sp : ∀ {ws : List V} {ss : List R} {g : List Addr}, ROs K B2 H2 σ (ws ++ [v]) (ss ++ [.val d]) g → ws.length = ss.length → ∃ h, ROs K B2 H2 σ (v :: ws) (.val d :: ss) h ∧ g.Perm h := by
    intro ws ss
    induction ss generalizing ws with
    | nil =>
      intro g h hl
      have : ws = [] := by simpa using hl
      subst this
      exact ⟨g, h, List.Perm.refl _⟩
    | cons s ss ih =>
      intro g h hl
      cases ws with
      | nil => simp at hl
      | cons w ws =>
        have h : ROs K B2 H2 σ (w :: (ws ++ [v])) (s :: (ss ++ [.val d])) g := h
        cases h with
        | @val _ _ _ _ f1 f2 _ os rr z =>
          obtain ⟨h, q1, q2⟩ := ih rr (by simpa using hl)
          cases q1 with
          | @val _ _ _ _ g1 g2 _ os2 rr2 z2 =>
            refine ⟨g1 ++ (f1 ++ g2), .val os2 (.val os rr2 rfl) rfl, ?_⟩
            rw [z2] at q2
            rw [z]
            refine (List.Perm.append_left f1 q2).trans ?_
            rw [← List.append_assoc, ← List.append_assoc]
            exact List.Perm.append_right g2 List.perm_append_comm
        | slot e rr =>
          obtain ⟨h, q1, q2⟩ := ih rr (by simpa using hl)
          cases q1 with
          | val os2 rr2 z2 => exact ⟨h, .val os2 (.slot e rr2) z2, q2⟩
  have hl : vs.length = rs.length := by
    obtain ⟨_, _, _, _, r1, _⟩ := a
    exact r1.length
  obtain ⟨h, q1, q2⟩ := sp r1 hl
  exact ⟨t1, e1, h, g2, q1, o1, (List.Perm.append_right g2 q2).nodup_iff.mp n1, fun q hq => s1 q ((List.Perm.append_right g2 q2).mem_iff.mpr hq)⟩
/-- C(..), the instance shared from now on -/
def wMake (C : Str) (F : WF) (ks : List Bool) (fs : WA) : WE := fun X ρ P => fs X ρ fun rs ρ1 => ks.length = rs.length ∧
  F (fun x ds' => X x (putB (argD ks rs ρ1).2.2 ds'.tail (argD ks rs ρ1).2.1)) (.oins C [] [] :: (argD ks rs ρ1).1) fun d ds' => d = .non ∧ P (.val (dAt ds' 0).sh) (putB (argD ks rs ρ1).2.2 ds'.tail (argD ks rs ρ1).2.1)
theorem imp_make {C : Str} {F : WF} {ks : List Bool} {fs : WA} {n : Nat} {E : XK} (hn : ks.length + 1 = n) (hE : ∀ σ c d H, E c d H ↔ Wx c d σ H) (σ : St) (H : Hp) (Q : VK) (h : tE K Wx (wMake C F ks fs) σ H Q) : tMake (He.ga K.F C) (spD K F n) [] E (tA K Wx fs) σ H Q := by
  obtain ⟨B, ρ, fp, Xd, P, w, hf, hQ, hX⟩ := h
  refine ⟨B, ρ, fp, Xd, _, w, hf, fun rs ρ1 vs B1 H1 ⟨hk, hF⟩ p1 x dx hx hdx ne => ?_, hX⟩
  have hl : vs.length = rs.length := by
    obtain ⟨_, _, _, _, r1, _⟩ := p1
    exact r1.length
  obtain ⟨B2, _, p2, bk⟩ := PostRs.args (ks := ks) (rs := rs) (vs := vs) (ds0 := []) (ws := []) (by simpa using p1) hl hk
  obtain ⟨l1, l2⟩ := argD_len (ρ := ρ1) hk
  have p2 : PostRs K σ B H fp ((argD ks rs ρ1).1.map R.val) (argD ks rs ρ1).2.1 vs B2 H1 := by simpa using p2
  have bx : B2 x = none := by
    cases z : B2 x with
    | none => rfl
    | some o => rw [p2.ex x o z] at hx; cases hx
  have hx2 : upd H1 dx (.own x) x = none := by rw [upd_ne (Ne.symm ne)]; exact hx
  have e12 : Ex H1 (upd (upd H1 dx (.own x)) x (.ins (He.ga K.F C) dx [])) := (Ex.new hdx).trans (Ex.new hx2)
  have p3 := p2.addNew (K := K) (d := .oins C [] []) (v := .ref x) (B2 := B2) (H2 := upd (upd H1 dx (.own x)) x (.ins (He.ga K.F C) dx [])) (fd := [x])
    ⟨e12, Ex.refl _, p2.ex.trans e12, fun _ _ h => .inl h, .oins (fs := []) (fp := []) bx upd_same rfl rfl .nil, by simp, fun q hq => by rw [List.mem_singleton.mp hq]; exact hx⟩
  rw [List.append_nil]
  refine call_core0 (n := n) (ds := .oins C [] [] :: (argD ks rs ρ1).1) (vs := .ref x :: vs) p3 (by rw [List.length_cons, hl, ← hk, hn]) hF (fun d ds' v B' H' ⟨hd, hp⟩ hl2 pr => ?_) fun y ds' c d B' H' hp hl2 pr ob => ?_
  · cases ds' with
    | nil => simp at hl2
    | cons d0 ds' =>
      have pr : PostRs K σ B H fp (.val d0 :: (ds'.map R.val ++ [.val d])) (argD ks rs ρ1).2.1 (.ref x :: (vs ++ [v])) B' H' := pr
      have ev : v = .non := by
        obtain ⟨_, _, _, _, r1, o1, _⟩ := pr
        have ct := r1.cont o1
        subst hd
        have lastc : ∀ {ws : List V} {es : List D}, Cont K B' H' (ws ++ [v]) (es ++ [.non]) → ws.length = es.length → v = .non := by
          intro ws es
          induction es generalizing ws with
          | nil =>
            intro h hl
            have : ws = [] := by simpa using hl
            subst this
            cases h with
            | cons a _ => exact a.non_of
          | cons e es ih =>
            intro h hl
            cases ws with
            | nil => simp at hl
            | cons w ws =>
              have h : Cont K B' H' (w :: (ws ++ [v])) (e :: (es ++ [.non])) := h
              cases h with
              | cons _ b => exact ih b (by simpa using hl)
        have e : (R.val d0 :: (ds'.map R.val ++ [.val .non])).map (R.get (argD ks rs ρ1).2.1) = d0 :: (ds' ++ [.non]) := by
          rw [List.map_cons, List.map_append, List.map_map]
          show d0 :: (ds'.map (R.get (argD ks rs ρ1).2.1 ∘ R.val) ++ [.non]) = _
          have : (R.get (argD ks rs ρ1).2.1 ∘ R.val) = id := by funext z; rfl
          rw [this, List.map_id]
        rw [e] at ct
        cases ct with
        | cons _ b => exact lastc b (by simpa using hl2.symm)
      refine ⟨ev, ?_⟩
      have r1 : PostRs K σ B H fp ((ds'.map R.val ++ [.val d]) ++ [.val d0]) (argD ks rs ρ1).2.1 ((vs ++ [v]) ++ [.ref x]) B' H' := pr.rot
      rw [List.append_assoc, List.append_assoc] at r1
      have r2 := r1.putback (ms := (argD ks rs ρ1).2.2) (by simpa using hl2.symm) bk (by rw [l2, ← hl]; simpa using hl2.symm)
      have r3 : PostRs K σ B H fp [.val d0] (putB (argD ks rs ρ1).2.2 ds' (argD ks rs ρ1).2.1) [.ref x] B' H' := r2.headDrop
      obtain ⟨B3, _, r4⟩ := r3.headSh
      exact hQ _ _ _ B3 H' hp r4
  · cases ds' with
    | nil => simp at hl2
    | cons d0 ds' =>
      have pr : PostRs K σ B H fp (.val d0 :: ds'.map R.val) (argD ks rs ρ1).2.1 (.ref x :: vs) B' H' := pr
      have r1 : PostRs K σ B H fp (ds'.map R.val ++ []) (argD ks rs ρ1).2.1 (vs ++ []) B' H' := by rw [List.append_nil, List.append_nil]; exact pr.headDrop
      have r2 := r1.putback (ms := (argD ks rs ρ1).2.2) (by simpa using hl2.symm) bk (by rw [l2, ← hl]; simpa using hl2.symm)
      exact (hE σ c d H').mpr (hX y _ c d B' H' hp (r2.px ob))
end
end FL

end
section
set_option maxHeartbeats 1000000
/-! FL12: list comprehensions. -/
namespace FL
open PySem PySem.Spec PyProof.Rows L2

def wipeD (ρ : List D) : List Nat → List D
  | [] => ρ
  | v :: vs => (wipeD ρ vs).set v .und
def unwD (ρ0 : List D) (ρ : List D) : List Nat → List D
  | [] => ρ
  | v :: vs => (unwD ρ0 ρ vs).set v (dAt ρ0 v)
theorem wipe_set_out {σ : St} {j : Nat} {x : Option V} : ∀ {us : List Nat}, j ∉ us → wipe (σ.set j x) us = (wipe σ us).set j x
  | [], _ => rfl
  | u :: us, h => by
    have h1 : j ∉ us := fun z => h (List.mem_cons_of_mem _ z)
    have h2 : j ≠ u := fun z => h (z ▸ List.mem_cons_self)
    show (wipe (σ.set j x) us).set u none = ((wipe σ us).set u none).set j x
    rw [wipe_set_out h1, List.set_comm _ _ h2]
theorem wipe_set {σ : St} {j : Nat} {x : Option V} : ∀ {us : List Nat}, j ∈ us → wipe (σ.set j x) us = wipe σ us
  | [], h => nomatch h
  | u :: us, h => by
    show (wipe (σ.set j x) us).set u none = (wipe σ us).set u none
    by_cases c : j ∈ us
    · rw [wipe_set c]
    · have e : j = u := (List.mem_cons.mp h).resolve_right c
      subst e
      rw [wipe_set_out c, List.set_set]
theorem wipe_wipe {σ : St} {vs : List Nat} : ∀ {us : List Nat}, (∀ u ∈ us, u ∈ vs) → wipe (wipe σ us) vs = wipe σ vs
  | [], _ => rfl
  | u :: us, h => by
    show wipe ((wipe σ us).set u none) vs = _
    rw [wipe_set (h u List.mem_cons_self)]
    exact wipe_wipe fun v hv => h v (List.mem_cons_of_mem _ hv)

section
variable {K : KW} {kp : List Nat} {B H B' H' : Hp} {σ σ' : St} {ρ ρ' : List D} {fp : List Addr} {Wx : WX}
/-- results that are values do not lean on the slots -/
theorem ROs.vals {vs : List V} {ds : List D} {fd : List Addr} (h : ROs K B H σ vs (ds.map R.val) fd) : ROs K B H σ' vs (ds.map R.val) fd := os_vals (vals_os h)
/-- a slot set to something plain, or forgotten -/
theorem PostRs.put {ds : List D} {vs : List V} {i : Nat} {o : Option V} {d : D} (a : PostRs K σ B H fp (ds.map R.val) ρ' vs B' H') (n : OS K B' H' o d []) : PostRs K (σ.set i o) B H fp (ds.map R.val) (ρ'.set i d) vs B' H' := by
  obtain ⟨t1, e1, fd, fs, r1, o1, n1, s1⟩ := a
  by_cases hl : i < ρ'.length
  · obtain ⟨o2, fi, fr, h1, h2, h3, h4⟩ := o1.split (List.getElem?_eq_getElem hl)
    have mem : ∀ q ∈ fr, q ∈ fs := fun q hq => h3.mem_iff.mpr (List.mem_append_right _ hq)
    obtain ⟨fp', g1, g2⟩ := h4 (Ex.refl B') (fun q hq => (o1.there q (mem q hq)).1) (fun _ _ => rfl) n
    have g2 : fp'.Perm fr := by simpa using g2
    refine ⟨t1, e1, fd, fp', r1.vals, g1, ?_, fun q hq => ?_⟩
    · have nfr : fr.Nodup := (List.nodup_append.mp (h3.nodup_iff.mp (List.nodup_append.mp n1).2.1)).2.1
      exact List.nodup_append.mpr ⟨(List.nodup_append.mp n1).1, g2.nodup_iff.mpr nfr, fun q hq q' hq' e => (List.nodup_append.mp n1).2.2 q hq q' (mem q' (g2.mem_iff.mp hq')) e⟩
    · rcases List.mem_append.mp hq with y | y
      · exact s1 q (List.mem_append_left _ y)
      · exact s1 q (List.mem_append_right _ (mem q (g2.mem_iff.mp y)))
  · have hl2 : ¬ i < σ.length := by rw [o1.len]; exact hl
    rw [List.set_eq_of_length_le (by omega), List.set_eq_of_length_le (by omega)]
    exact ⟨t1, e1, fd, fs, r1, o1, n1, s1⟩
theorem PostRs.wiped {ds : List D} {vs : List V} (a : PostRs K σ B H fp (ds.map R.val) ρ' vs B' H') : ∀ us : List Nat, PostRs K (wipe σ us) B H fp (ds.map R.val) (wipeD ρ' us) vs B' H'
  | [] => a
  | _ :: us => (PostRs.wiped a us).put .und
theorem OS.pl_nil {o : Option V} {d : D} {f : List Addr} (h : OS K B H o d f) (p : d.pl = true) : OS K B H' o d [] := by
  cases h with
  | und => exact .und
  | sh r => exact .sh r
  | own => cases p
  | oins => cases p
theorem wipe_mem {σ : St} {us : List Nat} {i : Nat} (h : i < σ.length) (hi : i ∈ us) : (wipe σ us)[i]? = some none := by
  induction us with
  | nil => cases hi
  | cons u us ih =>
    show ((wipe σ us).set u none)[i]? = some none
    by_cases c : u = i
    · subst c
      rw [List.getElem?_set_self (by rw [wipe_length]; exact h)]
    · rw [List.getElem?_set_ne c]
      exact ih ((List.mem_cons.mp hi).resolve_left (Ne.symm c))
/-- the block's slots are what they were -/
theorem PostRs.unwiped {ρ0 : List D} {ds : List D} {vs : List V} : ∀ {σ : St} {us : List Nat}, us.Nodup → (∀ i ∈ us, ∀ o, σ[i]? = some o → OS K B' H' o (dAt ρ0 i) []) → PostRs K (wipe σ us) B H fp (ds.map R.val) ρ' vs B' H' →
    PostRs K σ B H fp (ds.map R.val) (unwD ρ0 ρ' us) vs B' H'
  | _, [], _, _, a => a
  | σ, u :: us, nd, h, a => by
    have nd := List.nodup_cons.mp nd
    have a : PostRs K ((wipe σ us).set u none) B H fp (ds.map R.val) ρ' vs B' H' := a
    have key : ∀ {ρ2 : List D} {τ : St}, PostRs K (τ.set u none) B H fp (ds.map R.val) ρ2 vs B' H' → (∀ o, τ[u]? = some o → OS K B' H' o (dAt ρ0 u) []) → PostRs K τ B H fp (ds.map R.val) (ρ2.set u (dAt ρ0 u)) vs B' H' := by
      intro ρ2 τ b hb
      by_cases c : u < τ.length
      · have b2 := b.put (i := u) (hb _ (List.getElem?_eq_getElem c))
        rw [List.set_set] at b2
        have e : τ.set u τ[u] = τ := by
          apply List.ext_getElem?
          intro j
          by_cases hj : u = j
          · subst hj
            rw [List.getElem?_set_self c, List.getElem?_eq_getElem c]
          · rw [List.getElem?_set_ne hj]
        rw [e] at b2
        exact b2
      · rw [List.set_eq_of_length_le (by omega)] at b
        obtain ⟨t1, e1, fd, fs, r1, o1, n1, s1⟩ := b
        rw [List.set_eq_of_length_le (by rw [← o1.len]; omega)]
        exact ⟨t1, e1, fd, fs, r1, o1, n1, s1⟩
    -- first the others
    have swap : PostRs K (wipe (σ.set u none) us) B H fp (ds.map R.val) ρ' vs B' H' := by rw [wipe_set_out nd.1]; exact a
    have b := PostRs.unwiped (σ := σ.set u none) (us := us) nd.2 (fun i hi o ho => by
      have hne : u ≠ i := fun z => nd.1 (z ▸ hi)
      rw [List.getElem?_set_ne hne] at ho
      exact h i (List.mem_cons_of_mem _ hi) o ho) swap
    exact key b fun o ho => h u List.mem_cons_self o ho

/-- a comprehension's target -/
inductive CT where
  | name (j : Nat) | tup (js : List Nat)
def CT.ix : CT → List Nat
  | .name j => [j]
  | .tup js => js
def CT.tg (K : PySem.W.Frag) : CT → TG
  | .name j => gName j
  | .tup js => gTup K js.length (gNsT js)
def CT.wg : CT → WG
  | .name j => gN j
  | .tup js => gT js
theorem cts_ok {us : List Nat} : ∀ {js : List Nat} {σ : St} {ρ : List D} {ds0 : List D} {vs0 : List V} {vs : List V} {ds : List D} {P : List D → Prop} {Q : St → Hp → Prop}, (∀ j ∈ js, j ∈ us) → PostRs K σ B H fp (ds0.map R.val) ρ vs0 B' H' → Reps K B' vs ds → gNs js ds ρ P →
    (∀ σ' ρ', P ρ' → wipe σ' us = wipe σ us → PostRs K σ' B H fp (ds0.map R.val) ρ' vs0 B' H' → Q σ' H') → gNsT js vs σ H' Q
  | [], σ, ρ, ds0, vs0, vs, ds, P, Q, _, a, r, h, k => by
    cases r with
    | nil => exact ⟨rfl, k σ ρ h rfl a⟩
    | cons => exact h.elim
  | j :: js, σ, ρ, ds0, vs0, vs, ds, P, Q, hj, a, r, h, k => by
    cases r with
    | nil => exact h.elim
    | @cons v d vs ds b c =>
      exact ⟨v, vs, rfl, cts_ok (fun i hi => hj i (List.mem_cons_of_mem _ hi)) (a.put (i := j) (.sh b)) c h fun σ' ρ' hp hw pr => k σ' ρ' hp (hw.trans (wipe_set (hj j List.mem_cons_self))) pr⟩
theorem ct_ok {c : CT} {us : List Nat} {ds0 : List D} {vs0 : List V} {v : V} {d : D} {P : List D → Prop} {Q : St → Hp → Prop} (hj : ∀ j ∈ c.ix, j ∈ us) (a : PostRs K σ B H fp (ds0.map R.val) ρ vs0 B' H') (r : Rep K B' v d) (h : c.wg d ρ P)
    (k : ∀ σ' ρ', P ρ' → wipe σ' us = wipe σ us → PostRs K σ' B H fp (ds0.map R.val) ρ' vs0 B' H' → Q σ' H') : c.tg K.F v σ H' Q := by
  cases c with
  | name j => exact k _ _ h (wipe_set (hj j (by simp [CT.ix]))) (a.put (i := j) (.sh r))
  | tup js =>
    obtain ⟨xs, h1, h2⟩ := h
    obtain ⟨p, vs, rfl, s, r2⟩ := (OS.sh (H := H') r).tsq a.ex h1
    exact ⟨p, vs, rfl, s, by rw [r2.length]; exact gns_len h2, cts_ok hj a r2 h2 k⟩

/-- the turns -/
def wLcL (us : List Nat) (g : WG) (c : WT) (f : WE) : List D → List D → List D → (List D → List D → Prop) → Prop
  | [], acc, ρ, P => P acc ρ
  | d :: ds, acc, ρ, P => g d ρ fun ρ1 => c (fun _ _ => False) ρ1 fun b ρ2 => if b = true then f (fun _ _ => False) ρ2 fun r ρ3 => acc.length < sizeLine ∧ wLcL us g c f ds (acc ++ [(arg1 false r ρ3).1]) (wipeD (arg1 false r ρ3).2.1 us) P
      else wLcL us g c f ds acc (wipeD ρ2 us) P
theorem lc_core {us : List Nat} {ct : CT} {c : WT} {f : WE} (hj : ∀ j ∈ ct.ix, j ∈ us) (hnd : us.Nodup) {ρ1 : List D} {B1 H1 : Hp} {J : It} {ds : List D} {P : List D → List D → Prop} {Q : VK}
    (p1 : PostRs K σ B H fp [] ρ1 [] B1 H1) (hpl : ∀ i ∈ us, (dAt ρ1 i).pl = true) (hw : wLcL us ct.wg c f ds [] (wipeD ρ1 us) P)
    (go : ∀ i H', Ex B1 H' → i < ds.length → J.go i H') (stop : ∀ H', Ex B1 H' → J.stop ds.length H') (yld : ∀ i H' x H'' d, Ex B1 H' → ds[i]? = some d → J.yld i H' x H'' → H'' = H' ∧ Rep K B1 x d)
    (hQ : ∀ acc ρ' v B' H', P acc ρ' → PostRs K σ B H fp [.val (.own acc)] (unwD ρ1 ρ' us) [v] B' H' → Q v H') :
    ∀ Da, H1 Da = none → ∃ W : Nat → Nat → Hp → Prop, (∃ m, W 0 m (upd H1 Da (.lst []))) ∧ ∀ i m H, W i m H →
      (J.stop i H ∧ Q (.ref Da) H) ∨ (J.go i H ∧ ∃ Nx : Hp → Prop, (∀ H', Nx H' → ∃ m', m' < m ∧ W (i + 1) m' H') ∧ ∀ x H', J.yld i H x H' → ct.tg K.F x (wipe σ us) H' fun σ2 H2 => wipe σ2 us = wipe σ us ∧ tT K (fun _ _ _ _ => False) c σ2 H2 fun b H3 =>
        if b = true then tE K (fun _ _ _ _ => False) f σ2 H3 fun y H4 => ∃ acc, H4 Da = some (.lst acc) ∧ acc.length < sizeLine ∧ Nx (upd H4 Da (.lst (acc ++ [y]))) else Nx H3) := by
  intro Da hD
  have ps : PostRs K (wipe σ us) B H fp ([] : List R) (wipeD ρ1 us) [] B1 H1 := PostRs.wiped (ds := []) p1 us
  have p0 : PostRs K (wipe σ us) B H fp [.val (.own [])] (wipeD ρ1 us) [.ref Da] B1 (upd H1 Da (.lst [])) := ps.new (.own (vs := []) p1.ex hD .nil)
  refine ⟨fun i m H2 => m = ds.length - i ∧ i ≤ ds.length ∧ ∃ B2 acc ρ2, wLcL us ct.wg c f (ds.drop i) acc ρ2 P ∧ PostRs K (wipe σ us) B H fp [.val (.own acc)] ρ2 [.ref Da] B2 H2 ∧ Ex B1 B2, ⟨_, rfl, Nat.zero_le _, B1, [], _, by rw [List.drop_zero]; exact hw, p0, Ex.refl B1⟩, ?_⟩
  rintro i m H2 ⟨hm, hi, B2, acc, ρ2, hwi, p2, e2⟩
  have ex2 : Ex B1 H2 := e2.trans p2.ex
  by_cases hlt : i < ds.length
  · rw [List.drop_eq_getElem_cons hlt] at hwi
    refine .inr ⟨go i H2 ex2 hlt, fun H' => ∃ B3 acc ρ3, wLcL us ct.wg c f (ds.drop (i + 1)) acc ρ3 P ∧ PostRs K (wipe σ us) B H fp [.val (.own acc)] ρ3 [.ref Da] B3 H' ∧ Ex B1 B3, fun H' ⟨B3, acc3, ρ3, q1, q2, q3⟩ => ⟨_, by omega, rfl, hlt, B3, acc3, ρ3, q1, q2, q3⟩, fun x H' hy => ?_⟩
    obtain ⟨rfl, rx⟩ := yld i H2 x H' _ ex2 (List.getElem?_eq_getElem hlt) hy
    refine ct_ok (ds0 := [.own acc]) (us := us) hj p2 (rx.mono e2) hwi fun σ3 ρ3 h3 hw3 p3 => ?_
    rw [wipe_wipe fun _ h => h] at hw3
    refine ⟨hw3, ?_⟩
    obtain ⟨f3, w3, k3, _⟩ := p3.step
    refine ⟨B2, ρ3, f3, _, _, w3, h3, fun b ρ4 B4 H4 h4 p4 => ?_, fun _ _ _ _ _ _ z _ => z.elim⟩
    have p4' := k3 p4
    have e4 : Ex B1 B4 := e2.trans p4.tr.bb
    cases b with
    | false =>
      have z := PostRs.wiped (ds := [.own acc]) p4' us
      rw [hw3] at z
      exact ⟨B4, acc, _, h4, z, e4⟩
    | true =>
      obtain ⟨f4, w4, k4, _⟩ := PostRs.step (rs := [.val (.own acc)]) (vs := [.ref Da]) p4'
      refine ⟨B4, ρ4, f4, _, _, w4, h4, fun r ρ5 y B5 H5 ⟨hz, h5⟩ p5 => ?_, fun _ _ _ _ _ _ z _ => z.elim⟩
      have p6 : PostRs K σ3 B H fp ([r] ++ [D.own acc].map R.val) ρ5 ([y] ++ [.ref Da]) B5 H5 := PostRs.rot (rs := [r]) (vs := [y]) (k4 p5)
      obtain ⟨B6, e6, p7, _⟩ := PostRs.args (ks := [false]) (rs := [r]) (vs := [y]) (ds0 := [.own acc]) (ws := [.ref Da]) p6 rfl rfl
      have p7 : PostRs K σ3 B H fp (.val (.own acc) :: .val (arg1 false r ρ5).1 :: []) (arg1 false r ρ5).2.1 (.ref Da :: y :: []) B6 H5 := p7
      obtain ⟨us1, l1, l2, p8⟩ := p7.app
      have p9 := PostRs.wiped (ds := [.own (acc ++ [(arg1 false r ρ5).1])]) p8 us
      rw [hw3] at p9
      exact ⟨us1, l1, by rw [l2]; exact hz, B6, _, _, h5, p9, (e4.trans p5.tr.bb).trans e6⟩
  · have ei : i = ds.length := by omega
    subst ei
    rw [List.drop_eq_nil_of_le (Nat.le_refl _)] at hwi
    refine .inl ⟨stop H2 ex2, hQ acc ρ2 _ B2 H2 hwi (PostRs.unwiped (ds := [.own acc]) hnd (fun i hi o ho => ?_) p2)⟩
    obtain ⟨_, _, _, fs, _, o1, _⟩ := p1
    have hl : i < ρ1.length := by rw [← o1.len]; exact (List.getElem?_eq_some_iff.mp ho).1
    obtain ⟨o2, fi, fr, g1, g2, _⟩ := o1.split (dAt_get hl)
    rw [ho] at g1
    cases g1
    have z : OS K B1 H2 o (dAt ρ1 i) [] := g2.pl_nil (hpl i hi)
    exact z.frame e2 (fun _ h => nomatch h) fun _ h => nomatch h
end
end FL

end
section
set_option maxHeartbeats 1000000
/-! FL13: the rest of the expressions; targets of an assignment. -/
namespace FL
open PySem PySem.Spec PyProof.Rows L2

def wAndV (f g : WE) : WE := fun X ρ P => f X ρ fun r ρ1 => ∃ b, r.get ρ1 = .bl b ∧ if b = true then g X ρ1 P else P (.val (.bl false)) ρ1
def wOrV (f g : WE) : WE := fun X ρ P => f X ρ fun r ρ1 => ∃ b, r.get ρ1 = .bl b ∧ if b = true then P (.val (.bl true)) ρ1 else g X ρ1 P
def wNotV (f : WE) : WE := fun X ρ P => f X ρ fun r ρ1 => ∃ b, r.get ρ1 = .bl b ∧ P (.val (.bl (!b))) ρ1
def wIte (c : WT) (f g : WE) : WE := fun X ρ P => c X ρ fun b ρ1 => if b = true then f X ρ1 P else g X ρ1 P
/-- a op b op' c -/
def wChain (op op' : D → D → (D → Prop) → Prop) (f g h3 : WE) : WE := fun X ρ P => f X ρ fun r1 ρ1 => g X ρ1 fun r2 ρ2 => op (r1.get ρ2) (r2.get ρ2) fun d => ∃ b, d = .bl b ∧
  if b = true then h3 X ρ2 fun r3 ρ3 => op' (r2.get ρ3) (r3.get ρ3) fun e => P (.val e) ρ3 else P (.val (.bl false)) ρ2
def D.tru : D → Option Bool
  | .non => some false
  | .bl b => some b
  | .int i => some (i != 0)
  | .str x => if x.length ≤ sizeLine then some ((x.length : Int) != 0) else none
  | .own xs => some (!xs.isEmpty)
  | .lst xs => some (!xs.isEmpty)
  | .flst xs => some (!xs.isEmpty)
  | .tup xs => some (!xs.isEmpty)
  | _ => none
def wTru (f : WE) : WT := fun X ρ P => f X ρ fun r ρ1 => ∃ b, (r.get ρ1).tru = some b ∧ P b ρ1
def wYes : WT := fun _ ρ P => P true ρ
def wApnd (f g : WA) : WA := fun X ρ P => f X ρ fun rs ρ1 => g X ρ1 fun rs2 ρ2 => P (rs ++ rs2) ρ2
/-- the results of a call with keywords: m of them are positional -/
def gK {α : Type} (m : Nat) (us ws : List α) : List α := if us.length = m then us ++ ws else []
def wCallK (m : Nat) (F : WF) (ks : List Bool) (fs gs : WA) : WE := fun X ρ P => fs X ρ fun rs1 ρ1 => gs X ρ1 fun rs2 ρ2 => rs1.length = m ∧ ks.length = (rs1 ++ rs2).length ∧
  F (fun x ds' => X x (putB (argD ks (rs1 ++ rs2) ρ2).2.2 ds' (argD ks (rs1 ++ rs2) ρ2).2.1)) (argD ks (rs1 ++ rs2) ρ2).1 fun d ds' => P (.val d) (putB (argD ks (rs1 ++ rs2) ρ2).2.2 ds' (argD ks (rs1 ++ rs2) ρ2).2.1)
def rgL (lo : Int) (n : Nat) : List D := (List.range n).map fun (i : Nat) => D.int (lo + (i : Int))
def wLc (f : WE) (ct : CT) (c : WT) (e : WE) : WE := fun X ρ P => f X ρ fun r ρ1 => ∃ xs, ((r.tk ρ1).sh).sq = some xs ∧ (∀ i ∈ ct.ix, (dAt (r.en ρ1) i).pl = true) ∧
  wLcL ct.ix ct.wg c e xs [] (wipeD (r.en ρ1) ct.ix) fun acc ρ2 => P (.val (.own acc)) (unwD (r.en ρ1) ρ2 ct.ix)
def wLcR1 (f : WA) (ct : CT) (c : WT) (e : WE) : WE := fun X ρ P => f X ρ fun rs ρ1 => ∃ j : Int, rs.map (R.get ρ1) = [.int j] ∧ rgOk j ∧ (∀ i ∈ ct.ix, (dAt ρ1 i).pl = true) ∧
  wLcL ct.ix ct.wg c e (rgL 0 j.toNat) [] (wipeD ρ1 ct.ix) fun acc ρ2 => P (.val (.own acc)) (unwD ρ1 ρ2 ct.ix)
def wLcR2 (f : WA) (ct : CT) (c : WT) (e : WE) : WE := fun X ρ P => f X ρ fun rs ρ1 => ∃ a j : Int, rs.map (R.get ρ1) = [.int a, .int j] ∧ rgOk a ∧ rgOk j ∧ (∀ i ∈ ct.ix, (dAt ρ1 i).pl = true) ∧
  wLcL ct.ix ct.wg c e (rgL a (j - a).toNat) [] (wipeD ρ1 ct.ix) fun acc ρ2 => P (.val (.own acc)) (unwD ρ1 ρ2 ct.ix)
section
variable {K : KW} {kp : List Nat} {B H B' H' : Hp} {σ σ' : St} {ρ ρ' : List D} {fp : List Addr} {Wx : WX}
theorem imp_notV {f : WE} (σ : St) (H : Hp) (Q : VK) (h : tE K Wx (wNotV f) σ H Q) : tNotV (tE K Wx f) σ H Q := by
  obtain ⟨B, ρ, fp, Xd, P, w, hP, hQ, hX⟩ := h
  refine ⟨B, ρ, fp, Xd, _, w, hP, fun r ρ1 v B1 H1 ⟨b, e1, h1⟩ p1 => ?_, hX⟩
  obtain ⟨fa, oa⟩ := p1.cont.one
  rw [e1] at oa
  exact ⟨b, oa.bl_of, hQ _ ρ1 _ B1 H1 h1 (p1.new (.same p1.ex .bl))⟩
theorem imp_andV {f g : WE} (σ : St) (H : Hp) (Q : VK) (h : tE K Wx (wAndV f g) σ H Q) : tAndV (tE K Wx f) (tE K Wx g) σ H Q := by
  obtain ⟨B, ρ, fp, Xd, P, w, hP, hQ, hX⟩ := h
  refine ⟨B, ρ, fp, Xd, _, w, hP, fun r ρ1 v B1 H1 ⟨b, e1, h1⟩ p1 => ?_, hX⟩
  obtain ⟨fa, oa⟩ := p1.cont.one
  rw [e1] at oa
  refine ⟨b, oa.bl_of, ?_⟩
  cases b with
  | true =>
    obtain ⟨f1, w1, k, kx⟩ := p1.drop.step
    exact ⟨B1, ρ1, f1, Xd, _, w1, h1, fun r2 ρ2 v2 B2 H2 h2 p2 => hQ r2 ρ2 v2 B2 H2 h2 (k p2), fun x ρ' c d B' H' hx px => hX x ρ' c d B' H' hx (kx px)⟩
  | false => exact hQ _ ρ1 _ B1 H1 h1 (p1.new (.same p1.ex .bl))
theorem imp_orV {f g : WE} (σ : St) (H : Hp) (Q : VK) (h : tE K Wx (wOrV f g) σ H Q) : tOrV (tE K Wx f) (tE K Wx g) σ H Q := by
  obtain ⟨B, ρ, fp, Xd, P, w, hP, hQ, hX⟩ := h
  refine ⟨B, ρ, fp, Xd, _, w, hP, fun r ρ1 v B1 H1 ⟨b, e1, h1⟩ p1 => ?_, hX⟩
  obtain ⟨fa, oa⟩ := p1.cont.one
  rw [e1] at oa
  refine ⟨b, oa.bl_of, ?_⟩
  cases b with
  | true => exact hQ _ ρ1 _ B1 H1 h1 (p1.new (.same p1.ex .bl))
  | false =>
    obtain ⟨f1, w1, k, kx⟩ := p1.drop.step
    exact ⟨B1, ρ1, f1, Xd, _, w1, h1, fun r2 ρ2 v2 B2 H2 h2 p2 => hQ r2 ρ2 v2 B2 H2 h2 (k p2), fun x ρ' c d B' H' hx px => hX x ρ' c d B' H' hx (kx px)⟩
theorem imp_ite {c : WT} {f g : WE} (σ : St) (H : Hp) (Q : VK) (h : tE K Wx (wIte c f g) σ H Q) : tIf (tT K Wx c) (tE K Wx f) (tE K Wx g) σ H Q := by
  obtain ⟨B, ρ, fp, Xd, P, w, hP, hQ, hX⟩ := h
  refine ⟨B, ρ, fp, Xd, _, w, hP, fun b ρ1 B1 H1 h1 p1 => ?_, hX⟩
  obtain ⟨f1, w1, k, kx⟩ := p1.step
  have fin : ∀ u : WE, u Xd ρ1 P → tE K Wx u σ H1 Q := fun u hu => ⟨B1, ρ1, f1, Xd, _, w1, hu, fun r2 ρ2 v2 B2 H2 h2 p2 => hQ r2 ρ2 v2 B2 H2 h2 (k p2), fun x ρ' c d B' H' hx px => hX x ρ' c d B' H' hx (kx px)⟩
  cases b with
  | true => exact fin f h1
  | false => exact fin g h1
theorem imp_chain {r r' : R2} {op op' : D → D → (D → Prop) → Prop} {f g f3 : WE} (o : OpD K r op) (o' : OpD K r' op') (σ : St) (H : Hp) (Q : VK) (h : tE K Wx (wChain op op' f g f3) σ H Q) : tChain r r' (tE K Wx f) (tE K Wx g) (tE K Wx f3) σ H Q := by
  obtain ⟨B, ρ, fp, Xd, P, w, hP, hQ, hX⟩ := h
  refine ⟨B, ρ, fp, Xd, _, w, hP, fun r1 ρ1 v B1 H1 h1 p1 => ?_, hX⟩
  obtain ⟨f1, w1, k, kx⟩ := p1.step
  refine ⟨B1, ρ1, f1, Xd, _, w1, h1, fun r2 ρ2 v2 B2 H2 h2 p2 => ?_, fun x ρ' c d B' H' hx px => hX x ρ' c d B' H' hx (kx px)⟩
  have p12 := k p2
  obtain ⟨⟨fa, oa⟩, fb, ob⟩ := p12.cont.two
  refine o B2 H2 v v2 _ _ fa fb _ _ p12.ex oa ob h2 fun z u B3 H3 fd ⟨b, e, hz⟩ n => ?_
  subst e
  refine ⟨b, n.os.bl_of, ?_⟩
  have p3 : PostRs K σ B H fp [r2] ρ2 [v2] B3 H3 := by
    have q1 := p12.rot
    have q2 : PostRs K σ B H fp (r2 :: [r1]) ρ2 (v2 :: [v]) B2 H2 := q1
    have q3 : PostRs K σ B H fp [r2] ρ2 [v2] B2 H2 := by
      have q4 := PostRs.rot (rs := [r1]) (vs := [v]) q2
      have q4 : PostRs K σ B H fp (r1 :: [r2]) ρ2 (v :: [v2]) B2 H2 := q4
      cases r1 with
      | val d => exact q4.headDrop
      | slot i => exact q4.headSlot.2
    have q5 := q3.addNew n
    exact q5.headDrop
  cases b with
  | false =>
    have n2 : New K B3 H3 (.bl false) (.bl false) B3 H3 [] := .same n.ex .bl
    exact hQ _ ρ2 _ B3 H3 hz (p3.new n2)
  | true =>
    obtain ⟨f3, w3, k3, kx3⟩ := p3.step
    refine ⟨B3, ρ2, f3, Xd, _, w3, hz, fun r3 ρ3 v3 B4 H4 h4 p4 => ?_, fun x ρ' c d B' H' hx px => hX x ρ' c d B' H' hx (kx3 px)⟩
    have p34 := k3 p4
    obtain ⟨⟨fa, oa⟩, fb, ob⟩ := p34.cont.two
    exact o' B4 H4 v2 v3 _ _ fa fb _ Q p34.ex oa ob h4 fun z u B' H' fd hz n => hQ _ ρ3 u B' H' hz (p34.new n)
theorem tru_ok {v : V} {d : D} {f : List Addr} {b : Bool} (e : Ex B H) (h : OS K B H (some v) d f) (z : d.tru = some b) : TruV K.F v H b := by
  have em : ∀ {vs : List V} {ds : List D}, vs.length = ds.length → (!vs.isEmpty) = !ds.isEmpty := fun {vs ds} hl => by
    cases vs <;> cases ds <;> first | rfl | (simp at hl)
  cases h with
  | und => cases z
  | sh r =>
    cases r with
    | und => cases z
    | non => cases z; rfl
    | bl => cases z; rfl
    | int => cases z; rfl
    | @str x =>
      have z : (if x.length ≤ sizeLine then some ((x.length : Int) != 0) else none) = some b := z
      split at z
      · cases z; exact ⟨by assumption, rfl⟩
      · cases z
    | ty => cases z
    | cls => cases z
    | kd _ _ _ => cases z
    | lst hl r => cases z; exact .inl ⟨_, .of (e _ _ hl), (em r.length).symm⟩
    | flst hl r => cases z; exact .inl ⟨_, ex_l e hl, (em r.length).symm⟩
    | tup hl r => cases z; exact .inr (.inl ⟨_, (ex_tq e hl).sq, (em r.length).symm⟩)
    | ins _ _ _ _ => cases z
  | @own p vs os ds fp b l m r =>
    cases z
    exact .inl ⟨vs, .of l, (em (r.len2 m)).symm⟩
  | oins => cases z
theorem imp_tru {f : WE} (σ : St) (H : Hp) (Q : Bool → Hp → Prop) (h : tT K Wx (wTru f) σ H Q) : tE K Wx f σ H fun x H' => ∃ k, TruV K.F x H' k ∧ Q k H' := by
  obtain ⟨B, ρ, fp, Xd, P, w, hP, hQ, hX⟩ := h
  refine ⟨B, ρ, fp, Xd, _, w, hP, fun r ρ1 v B1 H1 ⟨b, e1, h1⟩ p1 => ?_, hX⟩
  obtain ⟨fa, oa⟩ := p1.cont.one
  exact ⟨b, tru_ok p1.ex oa e1, hQ b ρ1 B1 H1 h1 p1.drop⟩
theorem imp_yes (σ : St) (H : Hp) (Q : Bool → Hp → Prop) (h : tT K Wx wYes σ H Q) : tYes σ H Q := by
  obtain ⟨B, ρ, fp, Xd, P, w, hP, hQ, hX⟩ := h
  exact hQ true ρ B H hP w.refl
theorem imp_callK {F : WF} {ks : List Bool} {fs gs : WA} {n m : Nat} {E : XK} (hn : ks.length = n) (hE : ∀ σ c d H, E c d H ↔ Wx c d σ H) (σ : St) (H : Hp) (Q : VK) (h : tE K Wx (wCallK m F ks fs gs) σ H Q) :
    tCallK (spD K F n) (gK m) E (tA K Wx fs) (tA K Wx gs) σ H Q := by
  obtain ⟨B, ρ, fp, Xd, P, w, hf, hQ, hX⟩ := h
  refine ⟨B, ρ, fp, Xd, _, w, hf, fun rs1 ρ1 vs1 B1 H1 h1 p1 => ?_, hX⟩
  have hl1 : vs1.length = rs1.length := by
    obtain ⟨_, _, _, _, r1, _⟩ := p1
    exact r1.length
  obtain ⟨f1, w1, k, kx⟩ := p1.step
  refine ⟨B1, ρ1, f1, Xd, _, w1, h1, fun rs2 ρ2 vs2 B2 H2 ⟨hm, hk, hF⟩ p2 => ?_, fun x ρ' c d B' H' hx px => hX x ρ' c d B' H' hx (kx px)⟩
  have p12 := k p2
  have hl : (vs1 ++ vs2).length = (rs1 ++ rs2).length := by
    obtain ⟨_, _, _, _, r1, _⟩ := p12
    exact r1.length
  obtain ⟨B3, _, p3, bk⟩ := PostRs.args (ks := ks) (rs := rs1 ++ rs2) (vs := vs1 ++ vs2) (ds0 := []) (ws := []) (by simpa using p12) hl hk
  obtain ⟨l1, l2⟩ := argD_len (ρ := ρ2) hk
  have eg : gK m vs1 vs2 = vs1 ++ vs2 := if_pos (hl1.trans hm)
  show spD K F n (gK m vs1 vs2) H2 Q E
  rw [eg]
  exact call_core (by simpa using p3) bk (by rw [l1, l2]) (by rw [hl, ← hk, hn]) hF hQ fun x ρ' c d B' H' hx px => (hE σ c d H').mpr (hX x ρ' c d B' H' hx px)
theorem rgL_get {lo : Int} {n i : Nat} {d : D} (h : (rgL lo n)[i]? = some d) : i < n ∧ d = .int (lo + i) := by
  unfold rgL at h
  rw [List.getElem?_map] at h
  by_cases c : i < n
  · rw [List.getElem?_range c] at h
    exact ⟨c, (Option.some.inj h).symm⟩
  · rw [List.getElem?_eq_none (by rw [List.length_range]; omega)] at h
    cases h
theorem rgL_len (lo : Int) (n : Nat) : (rgL lo n).length = n := by unfold rgL; rw [List.length_map, List.length_range]
theorem imp_lc {f e : WE} {ct : CT} {c : WT} (hnd : ct.ix.Nodup) (σ : St) (H : Hp) (Q : VK) (h : tE K Wx (wLc f ct c e) σ H Q) :
    tLc (iSeq K.F (tE K Wx f)) (ct.tg K.F) (tT K (fun _ _ _ _ => False) c) (tE K (fun _ _ _ _ => False) e) ct.ix σ H Q := by
  obtain ⟨B, ρ, fp, Xd, P, w, hf, hQ, hX⟩ := h
  refine ⟨B, ρ, fp, Xd, _, w, hf, fun r ρ1 v B1 H1 ⟨xs, h1, hpl, h2⟩ p1 => ?_, hX⟩
  obtain ⟨B2, p2⟩ := p1.share
  obtain ⟨fa, oa⟩ := p2.cont.one
  have rep : Rep K B2 v (r.tk ρ1).sh := oa.plain (sh_pl _)
  rcases D.sq_or h1 with z | z
  · obtain ⟨p, vs, rfl, s, rr⟩ := (OS.sh (H := B2) rep).lsq (Ex.refl B2) z
    refine .inl ⟨p, rfl, ⟨vs, ex_l p2.ex s⟩, lc_core (fun _ h => h) hnd p2.drop hpl h2 (fun i H' e hi => ?_) (fun H' e => ⟨vs, ex_l e s, by rw [rr.length]; exact Nat.le_refl _⟩) (fun i H' x H'' d e hd ⟨y1, y2⟩ => ⟨y1, ?_⟩)
      fun acc ρ' v B' H' hp pr => hQ _ _ v B' H' hp pr⟩
    · have hi : i < vs.length := by rw [rr.length]; exact hi
      exact ⟨vs, vs[i], ex_l e s, List.getElem?_eq_getElem hi⟩
    · obtain ⟨u, a1, a2⟩ := rr.get hd
      have q := y2 vs (ex_l e s)
      rw [a1] at q
      cases q
      exact a2
  · obtain ⟨p, vs, rfl, s, rr⟩ := (OS.sh (H := B2) rep).tsq (Ex.refl B2) z
    refine .inr ⟨p, rfl, ⟨vs, ex_t p2.ex s⟩, lc_core (fun _ h => h) hnd p2.drop hpl h2 (fun i H' e hi => ?_) (fun H' e => ⟨vs, ex_t e s, by rw [rr.length]; exact Nat.le_refl _⟩) (fun i H' x H'' d e hd ⟨y1, y2⟩ => ⟨y1, ?_⟩)
      fun acc ρ' v B' H' hp pr => hQ _ _ v B' H' hp pr⟩
    · have hi : i < vs.length := by rw [rr.length]; exact hi
      exact ⟨vs, vs[i], ex_t e s, List.getElem?_eq_getElem hi⟩
    · obtain ⟨u, a1, a2⟩ := rr.get hd
      have q := y2 vs (ex_t e s)
      rw [a1] at q
      cases q
      exact a2
theorem imp_lcR1 {f : WA} {e : WE} {ct : CT} {c : WT} (hnd : ct.ix.Nodup) (σ : St) (H : Hp) (Q : VK) (h : tE K Wx (wLcR1 f ct c e) σ H Q) :
    tLc (iRng1 (tA K Wx f)) (ct.tg K.F) (tT K (fun _ _ _ _ => False) c) (tE K (fun _ _ _ _ => False) e) ct.ix σ H Q := by
  obtain ⟨B, ρ, fp, Xd, P, w, hf, hQ, hX⟩ := h
  refine ⟨B, ρ, fp, Xd, _, w, hf, fun rs ρ1 vs B1 H1 ⟨j, h1, h2, hpl, h3⟩ p1 => ?_, hX⟩
  exact ⟨j, ints1 p1.cont h1, h2.1, h2.2, lc_core (fun _ h => h) hnd p1.drop hpl h3 (fun i H' e hi => by rw [rgL_len] at hi; exact hi) (fun H' e => by rw [rgL_len]; exact Nat.le_refl _)
    (fun i H' x H'' d e hd ⟨y1, y2⟩ => ⟨y1, by obtain ⟨_, rfl⟩ := rgL_get hd; rw [y2]; exact .int⟩) fun acc ρ' v B' H' hp pr => hQ _ _ v B' H' hp pr⟩
theorem imp_lcR2 {f : WA} {e : WE} {ct : CT} {c : WT} (hnd : ct.ix.Nodup) (σ : St) (H : Hp) (Q : VK) (h : tE K Wx (wLcR2 f ct c e) σ H Q) :
    tLc (iRng2 (tA K Wx f)) (ct.tg K.F) (tT K (fun _ _ _ _ => False) c) (tE K (fun _ _ _ _ => False) e) ct.ix σ H Q := by
  obtain ⟨B, ρ, fp, Xd, P, w, hf, hQ, hX⟩ := h
  refine ⟨B, ρ, fp, Xd, _, w, hf, fun rs ρ1 vs B1 H1 ⟨a, j, h1, h2, h2', hpl, h3⟩ p1 => ?_, hX⟩
  exact ⟨a, j, ints2 p1.cont h1, ⟨h2.1, h2.2, h2'.1, h2'.2⟩, lc_core (fun _ h => h) hnd p1.drop hpl h3 (fun i H' e hi => by rw [rgL_len] at hi; exact hi) (fun H' e => by rw [rgL_len]; exact Nat.le_refl _)
    (fun i H' x H'' d e hd ⟨y1, y2⟩ => ⟨y1, by obtain ⟨_, rfl⟩ := rgL_get hd; rw [y2]; exact .int⟩) fun acc ρ' v B' H' hp pr => hQ _ _ v B' H' hp pr⟩
end
end FL

end
section
set_option maxHeartbeats 1000000
/-! FL13S: slices. -/
namespace FL
open PySem PySem.Spec PyProof.Rows L2
def cutD (xs : List D) (lo hi : Option Int) : List D := (xs.drop (HT.sIx xs.length 0 lo)).take (HT.sIx xs.length xs.length hi - HT.sIx xs.length 0 lo)
def opSl (lo hi : Option Int) (d : D) (P : D → Prop) : Prop := match d with
  | .str z => z.length ≤ sizeLine ∧ P (.str (cutS z lo hi))
  | .tup xs => P (.tup (cutD xs lo hi))
  | d => ∃ xs, d.lsq = some xs ∧ P (.own (cutD xs lo hi))
def partW : Option WE → XD → List D → (Option Int → List D → Prop) → Prop
  | none, _, ρ, k => k none ρ
  | some f, X, ρ, k => f X ρ fun r ρ1 => ∃ i, r.get ρ1 = .int i ∧ k (some i) ρ1
def wSl (f : WE) (lo hi : Option WE) : WE := fun X ρ P => f X ρ fun r ρ1 => partW lo X ρ1 fun l ρ2 => partW hi X ρ2 fun u ρ3 => opSl l u (r.get ρ3) fun d => P (.val d) ρ3
def rSlU (K : PySem.W.Frag) : V → Option Int → Option Int → Hp → VK → Prop := fun x lo hi H Q => rSlL K x lo hi H Q ∨ rSlA K x lo hi H Q ∨ rSlS x lo hi H Q
def tP (K : KW) (Wx : WX) : Option WE → TO
  | none => tNoPart
  | some f => tPart (tE K Wx f)
section
variable {K : KW} {B H B' H' : Hp} {σ : St} {ρ ρ' : List D} {fp : List Addr} {Wx : WX}
theorem Reps.cut {vs : List V} {ds : List D} (r : Reps K B vs ds) (lo hi : Option Int) : Reps K B (cutV vs lo hi) (cutD ds lo hi) := by
  unfold cutV cutD
  rw [r.length]
  exact (r.drop _).take _
theorem sl_ok {x : V} {d : D} {f : List Addr} {lo hi : Option Int} {P : D → Prop} {Q : VK} (ex : Ex B H) (hx : OS K B H (some x) d f) (h : opSl lo hi d P) (k : ∀ z v B' H' fd, P z → New K B H z v B' H' fd → Q v H') : rSlU K.F x lo hi H Q := by
  have gen : (∃ xs, d.lsq = some xs ∧ P (.own (cutD xs lo hi))) → rSlU K.F x lo hi H Q := fun ⟨xs, h1, h2⟩ => by
    obtain ⟨p, vs, rfl, s, r⟩ := hx.lsq ex h1
    exact .inl ⟨p, vs, rfl, s, fun q hq => k _ _ _ _ [q] h2 (.own ex hq (r.cut lo hi))⟩
  cases d with
  | str z => exact .inr (.inr ⟨z, hx.str_of, h.1, k _ _ B H [] h.2 (.same ex .str)⟩)
  | tup xs =>
    have h : P (.tup (cutD xs lo hi)) := h
    obtain ⟨p, vs, rfl, s, r⟩ := hx.tq ex rfl
    refine .inr (.inl ⟨p, vs, rfl, s.sq, fun ⟨w1, w2⟩ => ?_, fun _ q hq => k _ _ _ _ [] h (.tup ex hq (r.cut lo hi))⟩)
    have e : cutD xs lo hi = xs := by
      unfold cutD
      rw [← r.length, w1, w2, Nat.sub_zero, List.drop_zero, r.length, List.take_length]
    rw [e] at h
    exact k _ _ B H [] h (.same ex (hx.plain rfl))
  | _ => exact gen h
theorem PostRs.keep1 {r1 r2 : R} {v1 v2 : V} (p : PostRs K σ B H fp [r1, r2] ρ' [v1, v2] B' H') : PostRs K σ B H fp [r1] ρ' [v1] B' H' := by
  have q : PostRs K σ B H fp (r2 :: [r1]) ρ' (v2 :: [v1]) B' H' := p.rot
  cases r2 with
  | val d => exact q.headDrop
  | slot i => exact q.headSlot.2
theorem part_ok {r1 : R} {v : V} {lo : Option WE} {Xd : XD} {k : Option Int → List D → Prop} {Q : Option Int → Hp → Prop} {B1 H1 : Hp} {ρ1 : List D} (p : PostRs K σ B H fp [r1] ρ1 [v] B1 H1) (h : partW lo Xd ρ1 k)
    (hX : ∀ x ρ' c d B' H', Xd x ρ' → PostX K σ B H fp x ρ' c d B' H' → Wx c d σ H') (hK : ∀ l ρ2 B2 H2, k l ρ2 → PostRs K σ B H fp [r1] ρ2 [v] B2 H2 → Q l H2) : tP K Wx lo σ H1 Q := by
  cases lo with
  | none => exact hK none ρ1 B1 H1 h p
  | some g =>
    obtain ⟨f1, w1, kk, kx⟩ := p.step
    refine ⟨B1, ρ1, f1, Xd, _, w1, h, fun r2 ρ2 v2 B2 H2 ⟨i, e, hk⟩ p2 => ?_, fun x ρ' c d B' H' hx px => hX x ρ' c d B' H' hx (kx px)⟩
    have p12 : PostRs K σ B H fp [r1, r2] ρ2 [v, v2] B2 H2 := kk p2
    obtain ⟨⟨fa, oa⟩, fb, ob⟩ := p12.cont.two
    rw [e] at ob
    exact ⟨i, ob.int_of, hK (some i) ρ2 B2 H2 hk p12.keep1⟩
theorem imp_sl {f : WE} {lo hi : Option WE} (σ : St) (H : Hp) (Q : VK) (h : tE K Wx (wSl f lo hi) σ H Q) : tSl (rSlU K.F) (tE K Wx f) (tP K Wx lo) (tP K Wx hi) σ H Q := by
  obtain ⟨B, ρ, fp, Xd, P, w, hP, hQ, hX⟩ := h
  refine ⟨B, ρ, fp, Xd, _, w, hP, fun r1 ρ1 v B1 H1 h1 p1 => ?_, hX⟩
  refine part_ok p1 h1 hX fun l ρ2 B2 H2 h2 p2 => part_ok p2 h2 hX fun u ρ3 B3 H3 h3 p3 => ?_
  obtain ⟨fa, oa⟩ := p3.cont.one
  exact sl_ok p3.ex oa h3 fun z v B' H' fd hz n => hQ _ ρ3 v B' H' hz (p3.new n)
theorem sl_U {X : Cx} : SlR X (rSlU X.K) := sl_list.or (sl_tupA.or sl_str)
end
end FL

end
section
set_option maxHeartbeats 1000000
/-! FL13T: more built-in functions. -/
namespace FL
open PySem PySem.Spec PyProof.Rows L2
def opAll (ds : List D) (P : D → Prop) : Prop := match ds with
  | [d] => ∃ bs : List Bool, d.lsq = some (bs.map D.bl) ∧ P (.bl (bs.all id))
  | _ => False
def opAny (ds : List D) (P : D → Prop) : Prop := match ds with
  | [d] => ∃ bs : List Bool, d.lsq = some (bs.map D.bl) ∧ P (.bl (bs.any id))
  | _ => False
def opAbs (ds : List D) (P : D → Prop) : Prop := match ds with
  | [.int i] => P (.int (if i < 0 then -i else i))
  | _ => False
def opStrF (ds : List D) (P : D → Prop) : Prop := match ds with
  | [.int i] => i.natAbs.log2 < 1920 ∧ P (.str (toString i))
  | _ => False
def opOrd (ds : List D) (P : D → Prop) : Prop := match ds with
  | [.str x] => x.length = 1 ∧ P (.int (x.cps.getD 0 0 : Nat))
  | _ => False
def opSortS (ds : List D) (P : D → Prop) : Prop := match ds with
  | [d] => opSorted [d] P ∨ ∃ xs : List Str, d.lsq = some (xs.map D.str) ∧ xs.length < 64 ∧ ∀ ys : List Str, ys.Perm xs → sortedS ys = true → P (.own (ys.map D.str))
  | _ => False
section
variable {K : KW}
theorem cd_all : CallD K (rAll K.F) opAll := by
  intro B H vs ds P Q ex c h k
  unfold opAll at h
  split at h
  · cases c with
    | cons a b =>
      cases b
      obtain ⟨bs, h1, h2⟩ := h
      obtain ⟨p, ws, rfl, s, r⟩ := a.lsq ex h1
      have e := r.bls
      subst e
      exact ⟨p, bs, rfl, s, k _ _ B H [] h2 (.same ex .bl)⟩
  · exact h.elim
theorem cd_any : CallD K (rAny K.F) opAny := by
  intro B H vs ds P Q ex c h k
  unfold opAny at h
  split at h
  · cases c with
    | cons a b =>
      cases b
      obtain ⟨bs, h1, h2⟩ := h
      obtain ⟨p, ws, rfl, s, r⟩ := a.lsq ex h1
      have e := r.bls
      subst e
      exact ⟨p, bs, rfl, s, k _ _ B H [] h2 (.same ex .bl)⟩
  · exact h.elim
theorem cd_abs : CallD K (fun xs H Q => ∃ i, xs = [.int i] ∧ Q (.int (if i < 0 then -i else i)) H) opAbs := by
  intro B H vs ds P Q ex c h k
  unfold opAbs at h
  split at h
  · cases c with
    | cons a b =>
      cases b
      rw [a.int_of]
      exact ⟨_, rfl, k _ _ B H [] h (.same ex .int)⟩
  · exact h.elim
theorem cd_strF : CallD K (fun xs H Q => ∃ i, xs = [.int i] ∧ i.natAbs.log2 < 1920 ∧ Q (.str (toString i)) H) opStrF := by
  intro B H vs ds P Q ex c h k
  unfold opStrF at h
  split at h
  · cases c with
    | cons a b =>
      cases b
      rw [a.int_of]
      exact ⟨_, rfl, h.1, k _ _ B H [] h.2 (.same ex .str)⟩
  · exact h.elim
theorem cd_ord : CallD K (fun xs H Q => ∃ x, xs = [.str x] ∧ x.length = 1 ∧ Q (.int (x.cps.getD 0 0 : Nat)) H) opOrd := by
  intro B H vs ds P Q ex c h k
  unfold opOrd at h
  split at h
  · cases c with
    | cons a b =>
      cases b
      rw [a.str_of]
      exact ⟨_, rfl, h.1, k _ _ B H [] h.2 (.same ex .int)⟩
  · exact h.elim
theorem cd_sortS : CallD K (fun xs H Q => rSortedI K.F xs H Q ∨ rSortedS K.F xs H Q) opSortS := by
  intro B H vs ds P Q ex c h k
  unfold opSortS at h
  split at h
  · rcases h with h | ⟨xs, h1, h2, h3⟩
    · exact .inl (cd_sorted B H vs _ P Q ex c h k)
    · cases c with
      | cons a b =>
        cases b
        obtain ⟨p, ws, rfl, s, r⟩ := a.lsq ex h1
        have e := r.strs
        subst e
        exact .inr ⟨p, xs, rfl, s, h2, fun ys q y1 y2 hq => k _ _ _ _ [q] (h3 ys y1 y2) (.own ex hq (Reps.of_strs ys))⟩
  · exact h.elim
end
end FL

end
section
set_option maxHeartbeats 1000000
/-! FL13U: operators of own classes, methods, isinstance of own classes, library functions by name. -/
namespace FL
open PySem PySem.Spec PyProof.Rows L2

section
variable {X : Cx} {CX : CXT} {k : Nat} {f C : Addr} {fd : FuncData} {ps : List Str} {sp : Sp} {E : XK}
/-- the callee runs, one deeper -/
theorem run_fn1 {pins : List (Addr × Obj)} {σ : St} {H : Hp} {s : Shared} {Q : VK} {us : List Value} {vs : List V} (F : FnOk X.prog X.w X.K X.mg X.base CX k f fd ps sp) (hr : Room (k + 1) X.A) (hb : Binds X.K fd ps []) (hx : Passes CX X E)
    (I : Inv X pins σ H s) (r : Vals vs us) (h : sp vs H Q E) : wpAny (model X.prog X.w) X.A.in1 (call (.ref f) us) (EP X pins σ Q) X.xe s := by
  have hl : us.length = ps.length := by rw [← r.length]; exact F.len _ _ _ _ h
  have e0 : Env0 X.prog X.w X.K X.mg X.base X.A.in1 X.stack s H := by
    have e := I.env0
    exact ⟨e.frames, e.mod, e.bs, e.bsz, e.funs, e.frf, e.hok, e.bare⟩
  refine wpAny_call (codeAny_mono (F.run X.A.in1 X.stack s H ⟨us, []⟩ us vs Q E hr.in1 e0 (by
    have := hb s us I.kIn (by simpa using hl)
    simpa using this) r h) fun r s' hq => ?_)
  cases r with
  | error e => exact hx pins σ H s e s' I hq
  | ok fl =>
    cases fl with
    | ret u => exact I.after hq
    | next => exact False.elim hq
    | brk => exact False.elim hq
    | cont => exact False.elim hq
theorem cmpBack {pins : List (Addr × Obj)} {σ : St} {Q : VK} {u : Value} {s' : Shared} (h : EP X pins σ Q u s') : PySem.W.CmpBack (EP X pins σ Q) u s' := by
  obtain ⟨v, H', I', r, q⟩ := h
  cases u <;> first
    | exact ⟨v, H', I', r, q⟩
    | (cases v <;> cases r; done)
    | (exfalso; cases v <;> first | (obtain ⟨t, r⟩ := r; exact absurd r (by simp)) | (exact absurd r (by simp [RelV])) | cases r)
structure Dun (K : PySem.W.Frag) (C : Addr) (m : Str) (f : Addr) : Prop extends Meth K C m f where
  sf : PySem.W.selfFirst K C = true
def rOwn (C : Addr) (sp : Sp) (E : XK) : R2 := fun x y H Q => ∃ a dx fs b dy gs, x = .ref a ∧ y = .ref b ∧ H a = some (.ins C dx fs) ∧ H b = some (.ins C dy gs) ∧ sp [x, y] H Q E
def rOwnIn (neg : Bool) (C : Addr) (sp : Sp) (E : XK) : R2 := fun x y H Q => ∃ b dy gs, y = .ref b ∧ H b = some (.ins C dy gs) ∧ sp [y, x] H (fun v H' => ∃ r, v = .bl r ∧ Q (.bl (neg != r)) H') E
def rOwnNe (C : Addr) (sp : Sp) (E : XK) : R2 := fun x y H Q => ∃ a dx fs b dy gs, x = .ref a ∧ y = .ref b ∧ H a = some (.ins C dx fs) ∧ H b = some (.ins C dy gs) ∧ sp [x, y] H (fun v H' => ∃ r, v = .bl r ∧ Q (.bl (!r)) H') E
def rOwn1 (C : Addr) (sp : Sp) (E : XK) : V → Hp → VK → Prop := fun x H Q => ∃ a dx fs, x = .ref a ∧ H a = some (.ins C dx fs) ∧ sp [x] H Q E
theorem opr_own {op : Operator} (F : FnOk X.prog X.w X.K X.mg X.base CX k f fd ps sp) (hr : Room k X.A) (hm : Dun X.K C (PySem.dunder op.info.2) f) (hb : Binds X.K fd ps []) (hx : Passes CX X E) : OpR X (binaryOp op) (rOwn C sp E) := by
  intro pins s σ H x y v u Q I rx ry h
  obtain ⟨a, dx, fs, b, dy, gs, rfl, rfl, ha, hb', hsp⟩ := h
  cases rx
  cases ry
  obtain ⟨_, J, _⟩ := ins_get I.hok ha
  obtain ⟨_, J', _⟩ := ins_get I.hok hb'
  obtain ⟨od, J, _⟩ := J.look
  obtain ⟨od', J', _⟩ := J'.look
  obtain ⟨m, hF⟩ := I.fr
  refine PySem.W.binop_K hF I.ok.mod.kin J J'.type hm.sf hm.at_ hm.fn ?_
  have r2 : Vals [V.ref a, V.ref b] [Value.ref a, Value.ref b] := .cons rfl (.cons rfl .nil)
  exact wpAny_mono (run_fn (us := [.ref a, .ref b]) (ds := []) F hr hb .nil hx I r2 (by simpa using hsp)) (fun w s' z => cmpBack z) fun _ _ z => z
theorem opr_inv (F : FnOk X.prog X.w X.K X.mg X.base CX k f fd ps sp) (hr : Room k X.A) (hm : Dun X.K C "__invert__" f) (hb : Binds X.K fd ps []) (hx : Passes CX X E) : UnR X (unaryOp .Invert) (rOwn1 C sp E) := by
  intro pins s σ H x v Q I rx h
  obtain ⟨a, dx, fs, rfl, ha, hsp⟩ := h
  cases rx
  obtain ⟨_, J, _⟩ := ins_get I.hok ha
  obtain ⟨od, J, _⟩ := J.look
  obtain ⟨m, hF⟩ := I.fr
  refine PySem.W.ksp_inv hF I.ok.mod.kin J hm.at_ hm.fn ?_
  have r2 : Vals [V.ref a] [Value.ref a] := .cons rfl .nil
  exact run_fn (us := [.ref a]) (ds := []) F hr hb .nil hx I r2 (by simpa using hsp)
theorem opr_eq (F : FnOk X.prog X.w X.K X.mg X.base CX k f fd ps sp) (hr : Room k X.A) (hm : Dun X.K C "__eq__" f) (hb : Binds X.K fd ps []) (hx : Passes CX X E) : OpR X (compareOp .Eq) (rOwn C sp E) := by
  intro pins s σ H x y v u Q I rx ry h
  obtain ⟨a, dx, fs, b, dy, gs, rfl, rfl, ha, hb', hsp⟩ := h
  cases rx
  cases ry
  obtain ⟨_, J, _⟩ := ins_get I.hok ha
  obtain ⟨_, J', _⟩ := ins_get I.hok hb'
  obtain ⟨od, J, _⟩ := J.look
  obtain ⟨od', J', _⟩ := J'.look
  obtain ⟨m, hF⟩ := I.fr
  show wpAny (model X.prog X.w) X.A (richCompare .Eq _ _) _ _ _
  refine PySem.W.cmp_K (op := .Eq) (tb := .ref C) hr.units0 hF I.ok.mod.kin J J'.type (by simp [PySem.W.notFirst]) hm.at_ hm.fn ?_
  have r2 : Vals [V.ref a, V.ref b] [Value.ref a, Value.ref b] := .cons rfl (.cons rfl .nil)
  exact wpAny_mono (run_fn (us := [.ref a, .ref b]) (ds := []) F hr hb .nil hx I r2 (by simpa using hsp)) (fun w s' z => cmpBack z) fun _ _ z => z
theorem truthy_of {A : Around} {pins : List (Addr × Obj)} {σ : St} {Q : VK} {g : Bool → Bool} {u : Value} {s' : Shared} (h : EP X pins σ (fun v H' => ∃ r, v = .bl r ∧ Q (.bl (g r)) H') u s') : wpAny (model X.prog X.w) A (truthy u) (fun b s2 => EP X pins σ Q (.bool (g b)) s2) X.xe s' := by
  obtain ⟨v, H', I', r, c, rfl, q⟩ := h
  cases r
  exact wpAny_truthy_bool ⟨.bl (g c), H', I', rfl, q⟩
theorem opr_in (F : FnOk X.prog X.w X.K X.mg X.base CX k f fd ps sp) (hr : Room k X.A) (hm : Dun X.K C "__contains__" f) (hb : Binds X.K fd ps []) (hx : Passes CX X E) : OpR X (compareOp .In) (rOwnIn false C sp E) := by
  intro pins s σ H x y v u Q I rx ry h
  obtain ⟨b, dy, gs, rfl, hb', hsp⟩ := h
  cases ry
  obtain ⟨_, J, _⟩ := ins_get I.hok hb'
  obtain ⟨od, J, _⟩ := J.look
  obtain ⟨m, hF⟩ := I.fr
  refine PySem.W.in_K hF I.ok.mod.kin J hm.at_ hm.fn ?_
  have r2 : Vals [V.ref b, x] [Value.ref b, v] := .cons rfl (.cons rx .nil)
  exact wpAny_mono (run_fn (us := [.ref b, v]) (ds := []) F hr hb .nil hx I r2 (by simpa using hsp)) (fun w s' z => truthy_of (g := fun r => r) (by simpa using z)) fun _ _ z => z
theorem opr_notin (F : FnOk X.prog X.w X.K X.mg X.base CX k f fd ps sp) (hr : Room k X.A) (hm : Dun X.K C "__contains__" f) (hb : Binds X.K fd ps []) (hx : Passes CX X E) : OpR X (compareOp .NotIn) (rOwnIn true C sp E) := by
  intro pins s σ H x y v u Q I rx ry h
  obtain ⟨b, dy, gs, rfl, hb', hsp⟩ := h
  cases ry
  obtain ⟨_, J, _⟩ := ins_get I.hok hb'
  obtain ⟨od, J, _⟩ := J.look
  obtain ⟨m, hF⟩ := I.fr
  refine PySem.W.notIn_K hF I.ok.mod.kin J hm.at_ hm.fn ?_
  have r2 : Vals [V.ref b, x] [Value.ref b, v] := .cons rfl (.cons rx .nil)
  exact wpAny_mono (run_fn (us := [.ref b, v]) (ds := []) F hr hb .nil hx I r2 (by simpa using hsp)) (fun w s' z => truthy_of (g := fun r => !r) (by simpa using z)) fun _ _ z => z
/-- != where the class has no __ne__ of its own -/
structure NoNe (K : PySem.W.Frag) (C : Addr) : Prop where
  ne : PySem.W.findIn K (.ref C) "__ne__" = some (some (.builtin "object.__ne__"))
  mr : PySem.W.mroIn K C (.type "object") = some true
theorem ifBound_objNe {M : Model} {A : Around} {EE : Value → Shared → Prop} {s : Shared} {K : PySem.W.Frag} {x C : Addr} {ox : Obj} {od : Option Obj} {args : List Value} {Q : Option Value → Shared → Prop} (X : K.In s.heap) (I : PySem.W.InstAt s.heap x ox C od) (hs : PySem.W.findIn K (.ref C) "__ne__" = some (some (.builtin "object.__ne__")))
    (h : wpAny M A (call (.builtin "object.__ne__") (.ref x :: args)) (fun v => Q (some v)) EE s) : wpAny M A (callSpecialIfBound? (.ref x) "__ne__" args) Q EE s := by
  simp only [callSpecialIfBound?, bindSpecialIfBound?]
  refine wpAny_holding (wpAny_bind (wpAny_bind (wpAny_bind (I.type.here ((PySem.W.looks_findIn X hs).here ?_)))))
  refine wpAny_bind (wpAny_askSetting (wpAny_ite ?_))
  have fin : wpAny M A (call (.builtin "object.__ne__") ([.ref x] ++ args) >>= fun v => pure (some v)) Q EE s := wpAny_bind (wpAny_mono h (fun v s' h' => wpAny_pure h') fun _ _ h' => h')
  split
  · exact wpAny_bind (wpAny_of_eq (PySem.F.cmp_object.ne.bind _) (wpAny_pure (by exact fin)))
  · exact wpAny_tryCatch (wpAny_bind (wpAny_of_eq (PySem.F.cmp_object.ne.bind _) (wpAny_pure (by exact fin))))
theorem entry_ne {prog : Program} {w : World} {A : Around} {EE : Value → Shared → Prop} {s : Shared} {K : PySem.W.Frag} {x C f : Addr} {ox : Obj} {od : Option Obj} {b : Value} {Q : Fin → Shared → Prop} (hu : A.units < cLine) (X : K.In s.heap) (I : PySem.W.InstAt s.heap x ox C od) (hs : PySem.W.findIn K (.ref C) "__eq__" = some (some (.ref f))) (hf : PySem.W.isFn K (.ref f) = true)
    (hcall : wpAny (model prog w) A (call (.ref f) [.ref x, b]) (fun v s' => ∃ r, v = .bool r ∧ Q (.done (.ret (.bool (!r)))) s') EE s) :
    wpAny (model prog w) A (Builtin.«object.__ne__» ⟨[.ref x, b], []⟩) Q EE s := by
  unfold Builtin.«object.__ne__»
  repeat (first
    | with_reducible refine wpAny_cRoomFor hu ?_
    | (refine wpAny_bind (m := callSpecialIfBound? (.ref x) (Str.ofString "__eq__") [b])
        (PySem.W.ifBound_K X I hs hf (wpAny_mono hcall (fun r s' hr => by
          obtain ⟨b, rfl, hq⟩ := hr
          repeat (first | exact hq | exact wpAny_pure hq | exact wpAny_truthy_bool hq | (refine wpAny_bind (m := truthy (.bool _)) (wpAny_truthy_bool ?_)) | wp_step)) fun _ _ e => e)))
    | wp_step)
theorem opr_ne (F : FnOk X.prog X.w X.K X.mg X.base CX k f fd ps sp) (hr : Room (k + 1) X.A) (hm : Dun X.K C "__eq__" f) (hn : NoNe X.K C) (hb : Binds X.K fd ps []) (hx : Passes CX X E) : OpR X (compareOp .NotEq) (rOwnNe C sp E) := by
  intro pins s σ H x y v u Q I rx ry h
  obtain ⟨a, dx, fs, b, dy, gs, rfl, rfl, ha, hb', hsp⟩ := h
  cases rx
  cases ry
  obtain ⟨_, J, _⟩ := ins_get I.hok ha
  obtain ⟨_, J', _⟩ := ins_get I.hok hb'
  obtain ⟨od, J, _⟩ := J.look
  obtain ⟨od', J', _⟩ := J'.look
  have r2 : Vals [V.ref a, V.ref b] [Value.ref a, Value.ref b] := .cons rfl (.cons rfl .nil)
  have hc := run_fn1 (us := [.ref a, .ref b]) F hr hb hx I r2 hsp
  have one : wpAny (model X.prog X.w) X.A (tryCompare (.ref a) "__ne__" (.ref b)) (fun r s' => ∃ v, r = some v ∧ EP X pins σ Q v s') X.xe s := by
    unfold tryCompare
    refine wpAny_bind (ifBound_objNe I.kIn J hn.ne (wpAny_call (codeAny_call_builtin PySem.F.cmp_object.ne.plain PySem.F.cmpEntry_ne (PySem.W.check_slot PySem.F.cmpKind_ne PySem.F.cmpSplit_ne (J.type.andThen (PySem.W.looks_mroIn I.kIn hn.mr)) (PySem.F.cmpArgs_ne _ _) (entry_ne (hr.in1).units0 I.kIn J hm.at_ hm.fn (wpAny_mono hc (fun u s' z => ?_) fun _ _ z => z))))))
    obtain ⟨v, H', I', r, c, rfl, q⟩ := z
    cases r
    refine ⟨c, rfl, ?_⟩
    exact wpAny_pure ⟨_, rfl, .bl (!c), H', I', rfl, q⟩
  show wpAny (model X.prog X.w) X.A (richCompare .NotEq (.ref a) (.ref b)) _ _ _
  unfold richCompare
  simp only [oneThing_ref]
  refine wpAny_holding (wpAny_bind (wpAny_cRoomFor hr.units0 ?_))
  rw [cmpInfo_NotEq]
  dsimp only
  refine wpAny_bind (J.type.here (wpAny_bind (J'.type.here ?_)))
  rw [show (Value.ref C != Value.ref C) = false from by simp]
  simp only [Bool.false_eq_true, if_false]
  refine wpAny_bind (wpAny_pure ?_)
  simp only [Bool.false_eq_true, if_false]
  refine wpAny_bind (wpAny_mono one (fun r s' z => ?_) fun _ _ e => e)
  obtain ⟨v, rfl, hq⟩ := z
  exact wpAny_pure hq
end
end FL

end
section
set_option maxHeartbeats 1000000
/-! FL13V: the same by data. -/
namespace FL
open PySem PySem.Spec PyProof.Rows L2
def D.isI (C : Str) : D → Bool
  | .ins C' _ _ => decide (C' = C)
  | _ => false
def D.isM (C m : Str) : D → Bool
  | .ins C' ks _ => decide (C' = C) && !ks.contains m
  | _ => false
/-- a call from its results on -/
def callD (F : WF) (ks : List Bool) (rs : List R) (X : XD) (ρ1 : List D) (P : R → List D → Prop) : Prop := ks.length = rs.length ∧
  F (fun x ds' => X x (putB (argD ks rs ρ1).2.2 ds' (argD ks rs ρ1).2.1)) (argD ks rs ρ1).1 fun d ds' => P (.val d) (putB (argD ks rs ρ1).2.2 ds' (argD ks rs ρ1).2.1)
def wBinM (C : Str) (F : WF) (ks : List Bool) (op : D → D → (D → Prop) → Prop) (f g : WE) : WE := fun X ρ P => f X ρ fun r1 ρ1 => g X ρ1 fun r2 ρ2 =>
  if (r1.get ρ2).isI C = true then (r2.get ρ2).isI C = true ∧ callD F ks [r1, r2] X ρ2 P else op (r1.get ρ2) (r2.get ρ2) fun d => P (.val d) ρ2
def wInM (neg : Bool) (C : Str) (F : WF) (ks : List Bool) (op : D → D → (D → Prop) → Prop) (f g : WE) : WE := fun X ρ P => f X ρ fun r1 ρ1 => g X ρ1 fun r2 ρ2 =>
  if (r2.get ρ2).isI C = true then callD F ks [r2, r1] X ρ2 (fun r ρ' => ∃ b, r.get ρ' = .bl b ∧ P (.val (.bl (neg != b))) ρ') else op (r1.get ρ2) (r2.get ρ2) fun d => P (.val d) ρ2
def wNeM (C : Str) (F : WF) (ks : List Bool) (op : D → D → (D → Prop) → Prop) (f g : WE) : WE := fun X ρ P => f X ρ fun r1 ρ1 => g X ρ1 fun r2 ρ2 =>
  if (r1.get ρ2).isI C = true then (r2.get ρ2).isI C = true ∧ callD F ks [r1, r2] X ρ2 (fun r ρ' => ∃ b, r.get ρ' = .bl b ∧ P (.val (.bl (!b))) ρ') else op (r1.get ρ2) (r2.get ρ2) fun d => P (.val d) ρ2
def wUnM (C : Str) (F : WF) (ks : List Bool) (f : WE) : WE := fun X ρ P => f X ρ fun r ρ1 => (r.get ρ1).isI C = true ∧ callD F ks [r] X ρ1 P
def wMeth (C m : Str) (F : WF) (ks : List Bool) (f : WE) (a : WA) : WE := fun X ρ P => f X ρ fun r ρ1 => (r.get ρ1).isM C m = true ∧ a X ρ1 fun rs ρ2 => callD F ks (r :: rs) X ρ2 P
section
variable {K : KW} {B H B' H' : Hp} {σ : St} {ρ ρ' : List D} {fp : List Addr} {Wx : WX}
theorem OS.isI {v : V} {d : D} {f : List Addr} {C : Str} (e : Ex B H) (h : OS K B H (some v) d f) (z : d.isI C = true) : ∃ a dx fs, v = .ref a ∧ H a = some (.ins (He.ga K.F C) dx fs) := by
  cases d <;> first | (cases z; done) | skip
  have z : _ = C := of_decide_eq_true z
  subst z
  cases h with
  | sh r =>
    cases r with
    | ins s k u r => exact ⟨_, _, _, rfl, e _ _ s⟩
theorem lookup_none {α : Type} {m : Str} : ∀ {fs : List (Str × α)}, (fs.map (·.1)).contains m = false → fs.lookup m = none
  | [], _ => rfl
  | (k, v) :: r, h => by
    have h : (m == k || (r.map (·.1)).contains m) = false := h
    rw [Bool.or_eq_false_iff] at h
    rw [List.lookup_cons, h.1]
    exact lookup_none h.2
theorem OS.isM {v : V} {d : D} {f : List Addr} {C m : Str} (e : Ex B H) (h : OS K B H (some v) d f) (z : d.isM C m = true) : ∃ a dx fs, v = .ref a ∧ H a = some (.ins (He.ga K.F C) dx fs) ∧ fs.lookup m = none := by
  cases d <;> first | (cases z; done) | skip
  have z : (decide (_ = C) && !_) = true := z
  rw [Bool.and_eq_true, decide_eq_true_eq] at z
  obtain ⟨z, z2⟩ := z
  subst z
  cases h with
  | sh r =>
    cases r with
    | ins s k u r =>
      refine ⟨_, _, _, rfl, e _ _ s, lookup_none ?_⟩
      rw [k]
      simpa using z2
theorem callD_ok {F : WF} {ks : List Bool} {rs : List R} {n : Nat} {vs : List V} {B1 H1 : Hp} {ρ1 : List D} {Xd : XD} {P : R → List D → Prop} {Q : VK} {E : XK}
    (p1 : PostRs K σ B H fp rs ρ1 vs B1 H1) (h : callD F ks rs Xd ρ1 P) (hn : ks.length = n) (hE : ∀ σ c d H, E c d H ↔ Wx c d σ H)
    (hQ : ∀ r ρ' v B' H', P r ρ' → PostRs K σ B H fp [r] ρ' [v] B' H' → Q v H') (hX : ∀ x ρ' c d B' H', Xd x ρ' → PostX K σ B H fp x ρ' c d B' H' → Wx c d σ H') : spD K F n vs H1 Q E := by
  obtain ⟨hk, hF⟩ := h
  have hl : vs.length = rs.length := by
    obtain ⟨_, _, _, _, r1, _⟩ := p1
    exact r1.length
  obtain ⟨B2, _, p2, bk⟩ := PostRs.args (ks := ks) (rs := rs) (vs := vs) (ds0 := []) (ws := []) (by simpa using p1) hl hk
  obtain ⟨l1, l2⟩ := argD_len (ρ := ρ1) hk
  exact call_core (by simpa using p2) bk (by rw [l1, l2]) (by rw [hl, ← hk, hn]) hF hQ fun x ρ' c d B' H' hx px => (hE σ c d H').mpr (hX x ρ' c d B' H' hx px)
theorem imp_binM {C : Str} {F : WF} {ks : List Bool} {n : Nat} {E : XK} {op : D → D → (D → Prop) → Prop} {r : R2} {f g : WE} (o : OpD K r op) (hn : ks.length = n) (hE : ∀ σ c d H, E c d H ↔ Wx c d σ H) (σ : St) (H : Hp) (Q : VK) (h : tE K Wx (wBinM C F ks op f g) σ H Q) :
    tOp (fun x y H Q => rOwn (He.ga K.F C) (spD K F n) E x y H Q ∨ r x y H Q) (tE K Wx f) (tE K Wx g) σ H Q := by
  obtain ⟨B, ρ, fp, Xd, P, w, hP, hQ, hX⟩ := h
  refine ⟨B, ρ, fp, Xd, _, w, hP, fun r1 ρ1 v B1 H1 h1 p1 => ?_, hX⟩
  obtain ⟨f1, w1, k, kx⟩ := p1.step
  refine ⟨B1, ρ1, f1, Xd, _, w1, h1, fun r2 ρ2 v2 B2 H2 h2 p2 => ?_, fun x ρ' c d B' H' hx px => hX x ρ' c d B' H' hx (kx px)⟩
  have p12 := k p2
  obtain ⟨⟨fa, oa⟩, fb, ob⟩ := p12.cont.two
  split at h2
  · rename_i c1
    obtain ⟨c2, h2⟩ := h2
    obtain ⟨a, dx, fs, e1, s1⟩ := oa.isI p12.ex c1
    obtain ⟨b, dy, gs, e2, s2⟩ := ob.isI p12.ex c2
    exact .inl ⟨a, dx, fs, b, dy, gs, e1, e2, s1, s2, callD_ok p12 h2 hn hE hQ hX⟩
  · exact .inr (o B2 H2 v v2 _ _ fa fb _ Q p12.ex oa ob h2 fun z u B' H' fd hz n => hQ _ ρ2 u B' H' hz (p12.new n))
theorem imp_neM {C : Str} {F : WF} {ks : List Bool} {n : Nat} {E : XK} {op : D → D → (D → Prop) → Prop} {r : R2} {f g : WE} (o : OpD K r op) (hn : ks.length = n) (hE : ∀ σ c d H, E c d H ↔ Wx c d σ H) (σ : St) (H : Hp) (Q : VK) (h : tE K Wx (wNeM C F ks op f g) σ H Q) :
    tOp (fun x y H Q => rOwnNe (He.ga K.F C) (spD K F n) E x y H Q ∨ r x y H Q) (tE K Wx f) (tE K Wx g) σ H Q := by
  obtain ⟨B, ρ, fp, Xd, P, w, hP, hQ, hX⟩ := h
  refine ⟨B, ρ, fp, Xd, _, w, hP, fun r1 ρ1 v B1 H1 h1 p1 => ?_, hX⟩
  obtain ⟨f1, w1, k, kx⟩ := p1.step
  refine ⟨B1, ρ1, f1, Xd, _, w1, h1, fun r2 ρ2 v2 B2 H2 h2 p2 => ?_, fun x ρ' c d B' H' hx px => hX x ρ' c d B' H' hx (kx px)⟩
  have p12 := k p2
  obtain ⟨⟨fa, oa⟩, fb, ob⟩ := p12.cont.two
  split at h2
  · rename_i c1
    obtain ⟨c2, h2⟩ := h2
    obtain ⟨a, dx, fs, e1, s1⟩ := oa.isI p12.ex c1
    obtain ⟨b, dy, gs, e2, s2⟩ := ob.isI p12.ex c2
    refine .inl ⟨a, dx, fs, b, dy, gs, e1, e2, s1, s2, callD_ok p12 h2 hn hE (fun r ρ' v B' H' ⟨b, e, q⟩ p => ?_) hX⟩
    obtain ⟨fc, oc⟩ := p.cont.one
    rw [e] at oc
    exact ⟨b, oc.bl_of, hQ _ _ _ B' H' q (p.new (.same p.ex .bl))⟩
  · exact .inr (o B2 H2 v v2 _ _ fa fb _ Q p12.ex oa ob h2 fun z u B' H' fd hz n => hQ _ ρ2 u B' H' hz (p12.new n))
theorem imp_inM {neg : Bool} {C : Str} {F : WF} {ks : List Bool} {n : Nat} {E : XK} {op : D → D → (D → Prop) → Prop} {r : R2} {f g : WE} (o : OpD K r op) (hn : ks.length = n) (hE : ∀ σ c d H, E c d H ↔ Wx c d σ H) (σ : St) (H : Hp) (Q : VK) (h : tE K Wx (wInM neg C F ks op f g) σ H Q) :
    tOp (fun x y H Q => rOwnIn neg (He.ga K.F C) (spD K F n) E x y H Q ∨ r x y H Q) (tE K Wx f) (tE K Wx g) σ H Q := by
  obtain ⟨B, ρ, fp, Xd, P, w, hP, hQ, hX⟩ := h
  refine ⟨B, ρ, fp, Xd, _, w, hP, fun r1 ρ1 v B1 H1 h1 p1 => ?_, hX⟩
  obtain ⟨f1, w1, k, kx⟩ := p1.step
  refine ⟨B1, ρ1, f1, Xd, _, w1, h1, fun r2 ρ2 v2 B2 H2 h2 p2 => ?_, fun x ρ' c d B' H' hx px => hX x ρ' c d B' H' hx (kx px)⟩
  have p12 : PostRs K σ B H fp [r1, r2] ρ2 [v, v2] B2 H2 := k p2
  obtain ⟨⟨fa, oa⟩, fb, ob⟩ := p12.cont.two
  split at h2
  · rename_i c1
    obtain ⟨b, dy, gs, e2, s2⟩ := ob.isI p12.ex c1
    have p21 : PostRs K σ B H fp [r2, r1] ρ2 [v2, v] B2 H2 := p12.rot
    refine .inl ⟨b, dy, gs, e2, s2, callD_ok p21 h2 hn hE (fun r ρ' v B' H' ⟨b, e, q⟩ p => ?_) hX⟩
    obtain ⟨fc, oc⟩ := p.cont.one
    rw [e] at oc
    exact ⟨b, oc.bl_of, hQ _ _ _ B' H' q (p.new (.same p.ex .bl))⟩
  · exact .inr (o B2 H2 v v2 _ _ fa fb _ Q p12.ex oa ob h2 fun z u B' H' fd hz n => hQ _ ρ2 u B' H' hz (p12.new n))
theorem imp_unM {C : Str} {F : WF} {ks : List Bool} {n : Nat} {E : XK} {f : WE} (hn : ks.length = n) (hE : ∀ σ c d H, E c d H ↔ Wx c d σ H) (σ : St) (H : Hp) (Q : VK) (h : tE K Wx (wUnM C F ks f) σ H Q) : tUn (rOwn1 (He.ga K.F C) (spD K F n) E) (tE K Wx f) σ H Q := by
  obtain ⟨B, ρ, fp, Xd, P, w, hP, hQ, hX⟩ := h
  refine ⟨B, ρ, fp, Xd, _, w, hP, fun r1 ρ1 v B1 H1 ⟨c1, h1⟩ p1 => ?_, hX⟩
  obtain ⟨fa, oa⟩ := p1.cont.one
  obtain ⟨a, dx, fs, e1, s1⟩ := oa.isI p1.ex c1
  exact ⟨a, dx, fs, e1, s1, callD_ok p1 h1 hn hE hQ hX⟩
theorem imp_meth {C m : Str} {F : WF} {ks : List Bool} {n : Nat} {E : XK} {f : WE} {a : WA} (hn : ks.length = n) (hE : ∀ σ c d H, E c d H ↔ Wx c d σ H) (σ : St) (H : Hp) (Q : VK) (h : tE K Wx (wMeth C m F ks f a) σ H Q) : tMeth (He.ga K.F C) m (spD K F n) [] E (tE K Wx f) (tA K Wx a) σ H Q := by
  obtain ⟨B, ρ, fp, Xd, P, w, hP, hQ, hX⟩ := h
  refine ⟨B, ρ, fp, Xd, _, w, hP, fun r1 ρ1 v B1 H1 ⟨c1, h1⟩ p1 => ?_, hX⟩
  obtain ⟨fa, oa⟩ := p1.cont.one
  obtain ⟨a, dx, fs, e1, s1, l1⟩ := oa.isM p1.ex c1
  obtain ⟨f1, w1, k, kx⟩ := p1.step
  refine ⟨a, dx, fs, e1, s1, l1, B1, ρ1, f1, Xd, _, w1, h1, fun rs ρ2 vs B2 H2 h2 p2 => ?_, fun x ρ' c d B' H' hx px => hX x ρ' c d B' H' hx (kx px)⟩
  have p12 : PostRs K σ B H fp (r1 :: rs) ρ2 (v :: vs) B2 H2 := k p2
  show spD K F n (v :: (vs ++ [])) H2 Q E
  rw [List.append_nil]
  exact callD_ok p12 h2 hn hE hQ hX
theorem imp_meth0 {C m : Str} {F : WF} {ks : List Bool} {n : Nat} {E : XK} {f : WE} (hn : ks.length = n) (hE : ∀ σ c d H, E c d H ↔ Wx c d σ H) (σ : St) (H : Hp) (Q : VK) (h : tE K Wx (wMeth C m F ks f wNil) σ H Q) : tMeth (He.ga K.F C) m (spD K F n) [] E (tE K Wx f) tNil σ H Q := by
  obtain ⟨B, ρ, fp, Xd, P, w, hP, hQ, hX⟩ := h
  refine ⟨B, ρ, fp, Xd, _, w, hP, fun r1 ρ1 v B1 H1 ⟨c1, h1⟩ p1 => ?_, hX⟩
  obtain ⟨fa, oa⟩ := p1.cont.one
  obtain ⟨a, dx, fs, e1, s1, l1⟩ := oa.isM p1.ex c1
  refine ⟨a, dx, fs, e1, s1, l1, ?_⟩
  show spD K F n (v :: ([] ++ [])) H1 Q E
  exact callD_ok p1 h1 hn hE hQ hX
end
/-! ### isinstance -/
structure IscOk (K : KW) (isc : List Str) : Prop where
  ty : ∀ C ∈ isc, ∀ t ∈ (["NoneType", "bool", "int", "str", "list", "tuple"] : List String), PySem.W.kitOne K.F (.type t) (.ref (He.ga K.F C)) = some false
  own : ∀ C ∈ isc, ∀ D ∈ isc, PySem.W.kitOne K.F (.ref (He.ga K.F D)) (.ref (He.ga K.F C)) = some (decide (D = C))
  cl : ∀ C ∈ isc, Cls K.F (He.ga K.F C)
  ca : ∀ C ∈ isc, PySem.W.findIn K.F (.ref (He.ga K.F C)) "__class__" = some (some (.builtin "object.__class__"))
  sp : isc ≠ [] → PySem.W.specialIn K.F (.builtin "object.__class__") "__get__" = some (some (.builtin "getset_descriptor.__get__"))
  tk : isc ≠ [] → PySem.W.takesIn K.F (.builtin "object.__class__") = some true
  mr : ∀ C ∈ isc, PySem.W.mroIn K.F (He.ga K.F C) (.type "object") = some true
def opIsiC (isc : List Str) (ds : List D) (P : D → Prop) : Prop := match ds with
  | [d, .cls C] => C ∈ isc ∧ ((d.tyN.isSome = true ∧ P (.bl false)) ∨ ∃ E ks xs, d = .ins E ks xs ∧ E ∈ isc ∧ P (.bl (decide (E = C))))
  | ds => opIsi ds P
theorem tyN_mem {d : D} {t : String} (h : d.tyN = some t) : t ∈ (["NoneType", "bool", "int", "str", "list", "tuple"] : List String) := by
  cases d <;> first | (cases h; done) | (cases h; decide)
theorem cd_isiC {K : KW} {isc : List Str} (k : IscOk K isc) : CallD K (rIsiU K.F) (opIsiC isc) := by
  intro B H vs ds P Q ex c h kk
  unfold opIsiC at h
  split at h
  · rename_i d C
    obtain ⟨hC, h⟩ := h
    cases c with
    | cons a b =>
      cases b with
      | cons a2 b =>
        cases b
        rw [a2.cls_of]
        rcases h with ⟨h1, h2⟩ | ⟨E, ks, xs, e, hE, h2⟩
        · obtain ⟨t, ht⟩ := Option.isSome_iff_exists.mp h1
          exact .inl ⟨_, _, _, _, false, rfl, .own _, a.tyx ex ht, k.ty C hC t (tyN_mem ht), kk _ _ B H [] h2 (.same ex .bl)⟩
        · subst e
          obtain ⟨p, dx, fs, e1, s1⟩ := a.isI (C := E) ex (by simp [D.isI])
          have ne : isc ≠ [] := List.ne_nil_of_mem hE
          exact .inl ⟨_, _, .ref (He.ga K.F E), _, decide (E = C), rfl, .own _, by rw [e1]; exact .base (.ins s1 (k.cl E hE) (k.ca E hE) (k.sp ne) (k.tk ne) (k.mr E hE)), k.own C hC E hE, kk _ _ B H [] h2 (.same ex .bl)⟩
  · exact cd_isi B H vs _ P Q ex c h kk
/-! ### library functions -/
def opLcm (ds : List D) (P : D → Prop) : Prop := match ds with
  | [.int a, .int b] => a.natAbs < 2 ^ 64 ∧ b.natAbs < 2 ^ 64 ∧ P (.int ((Nat.lcm a.natAbs b.natAbs : Nat) : Int))
  | _ => False
def rLcm : List V → Hp → VK → Prop := fun vs H Q => ∃ a b : Int, vs = [.int a, .int b] ∧ a.natAbs < 2 ^ 64 ∧ b.natAbs < 2 ^ 64 ∧ Q (.int ((Nat.lcm a.natAbs b.natAbs : Nat) : Int)) H
theorem cr_lcm {X : Cx} : CallR X (.builtin "math.lcm") rLcm := by
  intro pins s σ H vs us Q I r h
  obtain ⟨a, b, rfl, ha, hb, q⟩ := h
  obtain ⟨t, u, rfl⟩ := Vals.int2 r
  have e : (Nat.lcm 1 a.natAbs).lcm b.natAbs = Nat.lcm a.natAbs b.natAbs := by rw [Nat.lcm_one_left]
  have hl : Nat.lcm a.natAbs b.natAbs < 2 ^ 128 := by
    have h1 : Nat.lcm a.natAbs b.natAbs ≤ a.natAbs * b.natAbs := Nat.div_le_self _ _
    have h2 : a.natAbs * b.natAbs < 2 ^ 64 * 2 ^ 64 := Nat.mul_lt_mul'' ha hb
    omega
  refine PySem.W.mg_lcm_v ha hb (congrArg _ e) ?_ ⟨.int _, H, I.tok _, ⟨_, rfl⟩, q⟩
  have h3 : ((Nat.lcm a.natAbs b.natAbs : Nat) : Int).natAbs.log2 ≤ 127 := by
    rw [Int.natAbs_natCast]
    exact PySem.W.mg_log hl
  have h4 : 127 < bitsLine := by decide
  omega
theorem cd_lcm {K : KW} : CallD K rLcm opLcm := by
  intro B H vs ds P Q ex c h k
  unfold opLcm at h
  split at h
  · cases c with
    | cons a b =>
      cases b with
      | cons a2 b =>
        cases b
        rw [a.int_of, a2.int_of]
        exact ⟨_, _, rfl, h.1, h.2.1, k _ _ B H [] h.2.2 (.same ex .int)⟩
  · exact h.elim
end FL

end
section
set_option maxHeartbeats 1000000
/-! FL14: what an expression does, read off its text; it does it. -/
namespace FL
open PySem PySem.Spec PyProof.Rows L2

def wBad : WE := fun _ _ _ => False
def wBadA : WA := fun _ _ _ => False
def wBadT : WT := fun _ _ _ => False
/-- a def by name: what it does, which of its arguments come back -/
structure DF where
  F : WF
  ks : List Bool
/-- own methods by name (class, def), classes that isinstance asks, library functions by name -/
structure Own where
  mth : List (Str × Str × DF) := []
  isc : List Str := []
  bfn : List (Str × String) := []
structure DCtx where
  N : List Str
  sc : Scope
  kp : List Nat
  lv : Nat
  fns : List (Str × DF)
  kws : List (Str × List Str × Nat × DF)
  mks : List (Str × DF)
  glb : List (Str × D)
  fr : List Str
  ct : CTab
  shr : Bool
  ow : Own := {}

def slotN (N : List Str) (x : Str) : Option Nat := N.findIdx? (· == x)
def visB (sc : Scope) (x : Str) : Bool := match sc.names.lookup x with
  | some .local => true
  | some .cell => true
  | some .free => true
  | _ => false
def locB (sc : Scope) (x : Str) : Bool := match sc.names.lookup x with
  | some .local => true
  | some .cell => true
  | _ => false
def glB (sc : Scope) (x : Str) : Bool := match sc.names.lookup x with
  | some .globalImplicit => true
  | _ => false
def magic (x : Str) : Bool := x == ("__debug__" : Str) || x == ("__classdict__" : Str)
def tyOf (x : Str) : Option String :=
  if x = "int" then some "int" else if x = "bool" then some "bool" else if x = "str" then some "str" else if x = "list" then some "list" else if x = "tuple" then some "tuple" else none
theorem slotN_ok {N : List Str} {x : Str} {i : Nat} (h : slotN N x = some i) : N[i]? = some x := by
  unfold slotN at h
  obtain ⟨h1, h2, _⟩ := List.findIdx?_eq_some_iff_getElem.mp h
  rw [List.getElem?_eq_getElem h1, eq_of_beq h2]
theorem visB_ok {sc : Scope} {x : Str} (h : visB sc x = true) : Vis sc x := by
  unfold visB at h
  split at h
  · exact .inl (by assumption)
  · exact .inr (.inl (by assumption))
  · exact .inr (.inr (by assumption))
  · cases h
theorem locB_ok {sc : Scope} {x : Str} (h : locB sc x = true) : Loc sc x := by
  unfold locB at h
  split at h
  · exact .inl (by assumption)
  · exact .inr (by assumption)
  · cases h
theorem glB_ok {sc : Scope} {x : Str} (h : glB sc x = true) : sc.names.lookup x = some .globalImplicit := by
  unfold glB at h
  split at h
  · assumption
  · cases h
theorem tyOf_ok {x : Str} {t : String} (h : tyOf x = some t) : bootBuiltins x = some (.type t) ∧ x ≠ "__name__" ∧ (x == ("__debug__" : Str)) = false := by
  unfold tyOf at h
  split at h
  · subst x; cases h; exact ⟨by decide +kernel, by decide, by decide⟩
  split at h
  · subst x; cases h; exact ⟨by decide +kernel, by decide, by decide⟩
  split at h
  · subst x; cases h; exact ⟨by decide +kernel, by decide, by decide⟩
  split at h
  · subst x; cases h; exact ⟨by decide +kernel, by decide, by decide⟩
  split at h
  · subst x; cases h; exact ⟨by decide +kernel, by decide, by decide⟩
  cases h

/-- what the reading leans on (CX: what a def may let out, Wx: what of it is wanted here) -/
structure COk (CX : CXT) (Wx : WX) (X : Cx) (c : DCtx) : Prop where
  N : X.N = c.N
  nd : c.N.Nodup
  sc : X.env.scope = c.sc
  calm : X.calm = true
  room : Room c.lv X.A
  fns : ∀ x d, c.fns.lookup x = some d → ∃ k f fd ps, k ≤ c.lv ∧ FnOk X.prog X.w X.K X.mg X.base CX k f fd ps (spD X.kw d.F d.ks.length) ∧ X.mg x = some (.ref f) ∧ PySem.W.keepIn X.K (.ref f) = true ∧ Binds X.K fd ps []
  kws : ∀ x ns m d, c.kws.lookup x = some (ns, m, d) → ∃ k f fd ps, k ≤ c.lv ∧ FnOk X.prog X.w X.K X.mg X.base CX k f fd ps (spD X.kw d.F d.ks.length) ∧ X.mg x = some (.ref f) ∧ PySem.W.keepIn X.K (.ref f) = true ∧ KBinds X.K fd ps ns (gK m) (gK m)
  mks : ∀ x d, c.mks.lookup x = some d → ∃ k f fd ps, k + 1 ≤ c.lv ∧ Mk X.K (He.ga X.K x) f ∧ FnOk X.prog X.w X.K X.mg X.base CX k f fd ps (spD X.kw d.F (d.ks.length + 1)) ∧ X.mg x = some (.ref (He.ga X.K x)) ∧ Binds X.K fd ps []
  glb : ∀ x d, c.glb.lookup x = some d → ∃ v u, X.mg x = some u ∧ RelV v u ∧ ∀ B, Rep X.kw B v d
  fr : ∀ x, x ∈ c.fr → X.mg x = none
  ct : CTabOk X.kw c.ct
  mth : ∀ m C d, c.ow.mth.lookup m = some (C, d) → ∃ k f fd ps, k + 1 ≤ c.lv ∧ FnOk X.prog X.w X.K X.mg X.base CX k f fd ps (spD X.kw d.F d.ks.length) ∧ Dun X.K (He.ga X.K C) m f ∧ Cls X.K (He.ga X.K C) ∧ Binds X.K fd ps []
  nne : ∀ C d, c.ow.mth.lookup ("__eq__" : Str) = some (C, d) → NoNe X.K (He.ga X.K C)
  isc : IscOk X.kw c.ow.isc
  bfn : ∀ x id, c.ow.bfn.lookup x = some id → X.mg x = some (.builtin id)
  px : ∃ E : XK, Passes CX X E ∧ ∀ σ c d H, E c d H ↔ Wx c d σ H
  pz : ∀ o H s e s', ¬ CX o H s (fun _ _ _ => False) e s'

/-! ### the readings -/
def nameW (c : DCtx) (x : Str) : WE :=
  if magic x = true then wBad else if visB c.sc x = true then (match slotN c.N x with
    | some i => wVar i
    | none => wBad)
  else if glB c.sc x = true then (match c.glb.lookup x with
    | some d => wC d
    | none => if x ∈ c.fr then (match tyOf x with
      | some t => wC (.ty t)
      | none => wBad) else wBad)
  else wBad
abbrev Op2 : Type := D → D → (D → Prop) → Prop
def opNo : Op2 := fun _ _ _ => False
def opIB (c : Int → Int → Prop) (g : Int → Int → Int) : Op2 := fun d e P => match d, e with
  | .int i, .int j => c i j ∧ P (.int (g i j))
  | _, _ => False
def opOrB : Op2 := opIB (fun _ _ => True) Builtin.bitOr
def opAndB : Op2 := opIB (fun _ _ => True) Builtin.bitAnd
def opShlB : Op2 := opIB CShl fun i j => i * 2 ^ j.toNat
def opShrB : Op2 := opIB (fun _ j => 0 ≤ j) fun i j => i / 2 ^ j.toNat
def binOf : Operator → Op2
  | .Add => opAdd
  | .Sub => opSub
  | .Mult => opMul
  | .FloorDiv => opFDiv
  | .Mod => opMod
  | .Pow => opPow
  | .LShift => opShlB
  | .RShift => opShrB
  | .BitOr => opOrB
  | .BitAnd => opAndB
  | _ => opNo
def cmpOf : CmpOp → Op2
  | .Eq => opEq
  | .NotEq => opNe
  | .Lt => opCmp fun i j => decide (i < j)
  | .LtE => opCmp fun i j => decide (i ≤ j)
  | .Gt => opCmp fun i j => decide (j < i)
  | .GtE => opCmp fun i j => decide (j ≤ i)
  | .Is => opIs false
  | .IsNot => opIs true
  | .In => opIn false
  | .NotIn => opIn true
def bltOp (c : DCtx) (x : Str) : Option (List D → (D → Prop) → Prop) :=
  if x = "len" then some opLen else if x = "isinstance" then some (opIsiC c.ow.isc) else if x = "max" then some opMax else if x = "min" then some opMin else if x = "sum" then some opSum else if x = "sorted" then some opSortS else if x = "all" then some opAll else if x = "any" then some opAny else if x = "abs" then some opAbs else if x = "ord" then some opOrd else none
def btyOp (x : Str) : Option (List D → (D → Prop) → Prop) :=
  if x = "int" then some opInt else if x = "list" then some opList else if x = "tuple" then some opTuple else if x = "str" then some opStrF else none
def libOp (id : String) : Option (List D → (D → Prop) → Prop) := if id = "math.lcm" then some opLcm else none
def binW (c : DCtx) (op : Operator) (f g : WE) : WE := match c.ow.mth.lookup (PySem.dunder op.info.2) with
  | some (C, d) => if d.ks.length = 2 then wBinM C d.F d.ks (binOf op) f g else wBad
  | none => wBin (binOf op) f g
def cmpW (c : DCtx) (op : CmpOp) (f g : WE) : WE := match op with
  | .Eq => (match c.ow.mth.lookup ("__eq__" : Str) with
    | some (C, d) => if d.ks.length = 2 then wBinM C d.F d.ks opEq f g else wBad
    | none => wBin opEq f g)
  | .NotEq => (match c.ow.mth.lookup ("__eq__" : Str) with
    | some (C, d) => if d.ks.length = 2 then wNeM C d.F d.ks opNe f g else wBad
    | none => wBin opNe f g)
  | .In => (match c.ow.mth.lookup ("__contains__" : Str) with
    | some (C, d) => if d.ks.length = 2 then wInM false C d.F d.ks (opIn false) f g else wBad
    | none => wBin (opIn false) f g)
  | .NotIn => (match c.ow.mth.lookup ("__contains__" : Str) with
    | some (C, d) => if d.ks.length = 2 then wInM true C d.F d.ks (opIn true) f g else wBad
    | none => wBin (opIn true) f g)
  | op => wBin (cmpOf op) f g
def invW (c : DCtx) (f : WE) : WE := match c.ow.mth.lookup ("__invert__" : Str) with
  | some (C, d) => if d.ks.length = 1 then wUnM C d.F d.ks f else wBad
  | none => wBad
def isStar : Expr → Bool
  | .Starred _ _ => true
  | _ => false
def isSlc : Expr → Bool
  | .Slice _ _ _ _ => true
  | _ => false
def isSet : Expr → Bool
  | .Set _ _ _ => true
  | _ => false
def isCmp : Expr → Bool
  | .ListComp _ _ _ _ => true
  | .SetComp _ _ _ _ => true
  | .DictComp _ _ _ _ _ => true
  | _ => false
def isCall0 : Expr → Bool
  | .Call _ [] [] _ => true
  | _ => false
def argsW (f : Expr → WE) : List Expr → WA
  | [] => wNil
  | e :: r => if isStar e = true then wBadA else wCons (f e) (argsW f r)
def kwsW (f : Expr → WE) : List Keyword → WA
  | [] => wNil
  | k :: r => wCons (f k.value) (kwsW f r)
def andW (f : Expr → WE) : List Expr → WE
  | [] => wBad
  | [a] => f a
  | a :: b :: r => wAndV (f a) (andW f (b :: r))
def orW (f : Expr → WE) : List Expr → WE
  | [] => wBad
  | [a] => f a
  | a :: b :: r => wOrV (f a) (orW f (b :: r))
def andT (f : Expr → WT) : List Expr → WT
  | [] => wBadT
  | [a] => f a
  | a :: b :: r => wAndT (f a) (andT f (b :: r))
def orT (f : Expr → WT) : List Expr → WT
  | [] => wBadT
  | [a] => f a
  | a :: b :: r => wOrT (f a) (orT f (b :: r))
def callW (c : DCtx) (x : Str) (k : Nat) (a : WA) : WE :=
  if magic x = true then wBad else if glB c.sc x = true then (match c.fns.lookup x with
    | some d => if d.ks.length = k then wCall d.F d.ks a else wBad
    | none => match c.mks.lookup x with
      | some d => if d.ks.length = k then wMake x d.F d.ks a else wBad
      | none => if k = 0 then wBad else match c.ow.bfn.lookup x with
        | some id => (match libOp id with
          | some op => wCB op a
          | none => wBad)
        | none => if x ∈ c.fr then (match bltOp c x with
        | some op => wCB op a
        | none => match btyOp x with
          | some op => wCB op a
          | none => wBad) else wBad)
  else wBad
def kwNames : List Keyword → List Str
  | [] => []
  | k :: r => (match k.arg with
    | some n => [n]
    | none => []) ++ kwNames r
def callKW (c : DCtx) (x : Str) (n : Nat) (kn : List Str) (a b : WA) : WE :=
  if magic x = true then wBad else if glB c.sc x = true then (match c.kws.lookup x with
    | some (ns, m, d) => if ns = kn ∧ d.ks.length = n then wCallK m d.F d.ks a b else wBad
    | none => wBad)
  else wBad
def shW (c : DCtx) (f : WE) : WE := if c.shr = true then wSh f else f
def methW (c : DCtx) (f : Expr → WE) (x m : Str) (es : List Expr) : WE :=
  if magic x = true then wBad else if visB c.sc x = true then (match slotN c.N x with
    | some i => (match es with
      | [e] => if isStar e = true then wBad else if m = "append" then wApp i (shW c (f e)) else if m = "pop" then wPopAt i (f e) else wBad
      | [] => if m = "pop" then wPop i else wBad
      | _ => wBad)
    | none => wBad)
  else wBad
def slotsOf (sc : Scope) (N : List Str) : List Expr → Option (List (Str × Nat))
  | [] => some []
  | .Name x _ :: r => if locB sc x = true then (match slotN N x, slotsOf sc N r with
    | some i, some l => some ((x, i) :: l)
    | _, _ => none) else none
  | _ :: _ => none
/-- a comprehension's target: its names and their slots -/
def ctOf (sc : Scope) (N : List Str) : Expr → Option (List (Str × Nat) × CT)
  | .Name x _ => if locB sc x = true then (match slotN N x with
    | some i => some ([(x, i)], .name i)
    | none => none) else none
  | .Tuple es _ _ => match slotsOf sc N es with
    | some l => some (l, .tup (l.map (·.2)))
    | none => none
  | _ => none
def blkD (c : DCtx) (scope : Scope) : DCtx := { c with sc := relS scope c.sc }
def condW (rT : Expr → WT) : List Expr → WT
  | [] => wYes
  | [t] => rT t
  | _ => wBadT
def isRng (c : DCtx) (f : Str) : Bool := decide (f = ("range" : Str)) && glB c.sc f && decide (f ∈ c.fr)
def lcI (rE : Expr → WE) (c : DCtx) (ct : CT) (t : WT) (e : WE) : Expr → WE
  | .Call (.Name f p) [a] [] q => if isRng c f = true then (if isStar a = true then wBad else wLcR1 (argsW rE [a]) ct t e) else wLc (rE (.Call (.Name f p) [a] [] q)) ct t e
  | .Call (.Name f p) [a, b] [] q => if isRng c f = true then (if (isStar a || isStar b) = true then wBad else wLcR2 (argsW rE [a, b]) ct t e) else wLc (rE (.Call (.Name f p) [a, b] [] q)) ct t e
  | iter => if isSet iter = true then wBad else wLc (rE iter) ct t e
def lcW (rE : DCtx → Expr → WE) (rT : DCtx → Expr → WT) (c : DCtx) (elt tg iter : Expr) (ifs : List Expr) (scope : Scope) : WE :=
  match ctOf scope c.N tg with
  | none => wBad
  | some (own, ct) => if (blkC c.N c.sc scope own && decide (own.map (·.2) = ct.ix) && decide ct.ix.Nodup) = true then
      lcI (rE c) c ct (condW (rT (blkD c scope)) ifs) (shW c (rE (blkD c scope) elt)) iter
    else wBad
def optW (f : Expr → WE) : Option Expr → Option WE
  | none => none
  | some e => some (f e)
def stepE (rE : DCtx → Expr → WE) (rT : DCtx → Expr → WT) (c : DCtx) : Expr → WE
  | .Constant (.int i) _ _ => wC (.int i)
  | .Constant (.bool b) _ _ => wC (.bl b)
  | .Constant .none _ _ => wC .non
  | .Constant (.str x) _ _ => wC (.str x)
  | .Name x _ => nameW c x
  | .BinOp a op b _ => binW c op (rE c a) (rE c b)
  | .UnaryOp .Not a _ => wNotV (rE c a)
  | .UnaryOp .USub a _ => wUn opNeg (rE c a)
  | .UnaryOp .Invert a _ => invW c (rE c a)
  | .BoolOp .And vs _ => andW (rE c) vs
  | .BoolOp .Or vs _ => orW (rE c) vs
  | .IfExp t a b _ => wIte (rT c t) (rE c a) (rE c b)
  | .Compare a [op] [b] _ => if behindInMarks op b = true then wBad else cmpW c op (rE c a) (rE c b)
  | .Compare a [op, op'] [b, d] _ => if lastMarks [op, op'] [b, d] = true then wBad else wChain (cmpOf op) (cmpOf op') (rE c a) (rE c b) (rE c d)
  | .Subscript a (.Slice lo hi none _) _ => wSl (rE c a) (optW (rE c) lo) (optW (rE c) hi)
  | .Subscript a b _ => if isSlc b = true then wBad else wBin opIx (rE c a) (rE c b)
  | .Tuple es _ _ => wCB opTup (argsW (fun e => wSh (rE c e)) es)
  | .List es _ => wCB opLst (argsW (fun e => wSh (rE c e)) es)
  | .Attribute o f _ => if isCall0 o = true then wBad else wUn (opFld c.ct f) (rE c o)
  | .Call (.Name x _) es [] _ => if es.any isStar = true then wBad else callW c x es.length (argsW (rE c) es)
  | .Call (.Name x _) (e :: es) kws _ => if ((kws.all fun k => k.arg.isSome) && !(e :: es).any isStar) = true then callKW c x (es.length + 1 + kws.length) (kwNames kws) (argsW (rE c) (e :: es)) (kwsW (rE c) kws) else wBad
  | .Call (.Attribute o m ap) es [] cp => if es.any isStar = true then wBad else (match c.ow.mth.lookup m with
    | some (C, d) => if d.ks.length = es.length + 1 ∧ (decide (es.length < 29) && !isCall0 o && ap.endLine == cp.line) = true then wMeth C m d.F d.ks (rE c o) (argsW (rE c) es) else wBad
    | none => (match o with
      | .Name x _ => if (ap.endLine == cp.line) = true then methW c (rE c) x m es else wBad
      | _ => wBad))
  | .ListComp elt [⟨tg, iter, ifs, 0⟩] scope _ => lcW rE rT c elt tg iter ifs scope
  | _ => wBad
def tForm : Expr → Bool
  | .Compare _ _ _ _ => false
  | .BoolOp _ _ _ => false
  | .UnaryOp .Not _ _ => false
  | .IfExp _ _ _ _ => false
  | _ => true
def stepT (rE : DCtx → Expr → WE) (rT : DCtx → Expr → WT) (c : DCtx) : Expr → WT
  | .Compare a [op] [b] _ => if behindInMarks op b = true then wBadT else wTest (cmpW c op (rE c a) (rE c b))
  | .Compare a [op, op'] [b, d] _ => if lastMarks [op, op'] [b, d] = true then wBadT else wTest (wChain (cmpOf op) (cmpOf op') (rE c a) (rE c b) (rE c d))
  | .BoolOp .And vs _ => andT (rT c) vs
  | .BoolOp .Or vs _ => orT (rT c) vs
  | .UnaryOp .Not a _ => wNotT (rT c a)
  | e => if tForm e = true then wTru (rE c e) else wBadT
mutual
def denE : Nat → DCtx → Expr → WE
  | 0 => fun _ _ => wBad
  | n + 1 => stepE (denE n) (denT n)
def denT : Nat → DCtx → Expr → WT
  | 0 => fun _ _ => wBadT
  | n + 1 => stepT (denE n) (denT n)
end
end FL

end
section
set_option maxHeartbeats 1000000
/-! FL15: the readings of expressions are right. -/
namespace FL
open PySem PySem.Spec PyProof.Rows L2

abbrev Wn : WX := fun _ _ _ _ => False
section
variable {CX : CXT} {X : Cx} {Wx : WX} {c : DCtx}
theorem pf_bad {e : Expr} : PF X Wx e wBad := ⟨fun pins s σ H Q I ⟨_, _, _, _, _, _, h, _⟩ => h.elim⟩
theorem pft_bad {e : Expr} : PFT X Wx e wBadT := ⟨fun pins s σ H Q I ⟨_, _, _, _, _, _, h, _⟩ => h.elim⟩
theorem pfa_bad {e : List Expr} : PFA X Wx e wBadA := ⟨fun pos pins s σ H Q I ⟨_, _, _, _, _, _, h, _⟩ => h.elim⟩
theorem magic_db {x : Str} (h : ¬ magic x = true) : (x == ("__debug__" : Str)) = false ∧ (x == ("__classdict__" : Str)) = false := by
  unfold magic at h
  rw [Bool.or_eq_true] at h
  cases h1 : (x == ("__debug__" : Str)) <;> cases h2 : (x == ("__classdict__" : Str)) <;> simp [h1, h2] at h ⊢
theorem COk.gl (k : COk CX Wx X c) {x : Str} (h : glB c.sc x = true) : Gl X x := by
  show X.env.scope.names.lookup x = _
  rw [k.sc]
  exact glB_ok h
theorem COk.vis (k : COk CX Wx X c) {x : Str} (h : visB c.sc x = true) : Vis X.env.scope x := by
  rw [k.sc]
  exact visB_ok h
theorem COk.slot (k : COk CX Wx X c) {x : Str} {i : Nat} (h : slotN c.N x = some i) : X.N[i]? = some x := by
  rw [k.N]
  exact slotN_ok h
theorem pf_name (k : COk CX Wx X c) {x : Str} {p : Pos} : PF X Wx (.Name x p) (nameW c x) := by
  unfold nameW
  split
  · exact pf_bad
  rename_i hm
  obtain ⟨m1, m2⟩ := magic_db hm
  split
  · rename_i hv
    split
    · exact pf_var (pe_var (k.slot (by assumption)) (k.vis hv) m1 m2)
    · exact pf_bad
  split
  · rename_i hg
    split
    · obtain ⟨v, u, h1, h2, h3⟩ := k.glb _ _ (by assumption)
      exact pf_c (pe_glob (k.gl hg) h1 h2 m1) h3
    · split
      · rename_i hf
        split
        · rename_i t ht
          obtain ⟨t1, t2, t3⟩ := tyOf_ok ht
          exact pf_c (pe_bltn (v := .ty t) (k.gl hg) (k.fr _ hf) t1 rfl t2 t3) fun _ => .ty
        · exact pf_bad
      · exact pf_bad
  · exact pf_bad
theorem nostar {e : Expr} {es : List Expr} {env : Env} (h : ¬ isStar e = true) : starEach (e :: es) env = (false, eval e env) :: starEach es env := by
  cases e <;> first | rfl | exact absurd rfl h
theorem pfa_args {f : Expr → WE} (h : ∀ e, PF X Wx e (f e)) : ∀ es : List Expr, PFA X Wx es (argsW f es)
  | [] => pfa_nil
  | e :: es => by
    unfold argsW
    split
    · exact pfa_bad
    · exact pfa_cons (h e) (pfa_args h es) (nostar (by assumption))
theorem pf_and {f : Expr → WE} {pos : Pos} (h : ∀ e, PF X Wx e (f e)) : ∀ es : List Expr, PF X Wx (.BoolOp .And es pos) (andW f es)
  | [] => pf_bad
  | [a] => pe_one (h a)
  | a :: b :: r => pe_imp (pe_and (h a) (pf_and h (b :: r))) imp_andV
theorem pf_or {f : Expr → WE} {pos : Pos} (h : ∀ e, PF X Wx e (f e)) : ∀ es : List Expr, PF X Wx (.BoolOp .Or es pos) (orW f es)
  | [] => pf_bad
  | [a] => pe_one (h a)
  | a :: b :: r => pe_imp (pe_or (h a) (pf_or h (b :: r))) imp_orV
theorem pfw_and {f : Expr → WT} {pos : Pos} (h : ∀ e, PFT X Wx e (f e)) : ∀ es : List Expr, PW X (.BoolOp .And es pos) (tT X.kw Wx (andT f es))
  | [] => ⟨fun w pins s σ H Q I ⟨_, _, _, _, _, _, h, _⟩ => h.elim⟩
  | [a] => pw_and1 (h a)
  | a :: b :: r => pw_imp (pw_and (h a) (pfw_and h (b :: r))) imp_and
theorem pfw_or {f : Expr → WT} {pos : Pos} (h : ∀ e, PFT X Wx e (f e)) : ∀ es : List Expr, PW X (.BoolOp .Or es pos) (tT X.kw Wx (orT f es))
  | [] => ⟨fun w pins s σ H Q I ⟨_, _, _, _, _, _, h, _⟩ => h.elim⟩
  | [a] => pw_or1 (h a)
  | a :: b :: r => pw_imp (pw_or (h a) (pfw_or h (b :: r))) imp_or
theorem od_no {K : KW} {r : R2} : OpD K r opNo := fun _ _ _ _ _ _ _ _ _ _ _ _ _ h _ => h.elim
theorem od_IB {K : KW} {c : Int → Int → Prop} {g : Int → Int → Int} : OpD K (rI c fun i j => .int (g i j)) (opIB c g) := by
  intro B H x y d e f g' P Q ex hx hy h k
  unfold opIB at h
  split at h
  · exact ⟨_, _, hx.int_of, hy.int_of, h.1, k _ _ B H [] h.2 (.same ex .int)⟩
  · exact h.elim
theorem od_IB0 {K : KW} {g : Int → Int → Int} : OpD K (rI0 fun i j => .int (g i j)) (opIB (fun _ _ => True) g) := by
  intro B H x y d e f g' P Q ex hx hy h k
  unfold opIB at h
  split at h
  · exact ⟨_, _, hx.int_of, hy.int_of, k _ _ B H [] h.2 (.same ex .int)⟩
  · exact h.elim
theorem bin_ok (op : Operator) : ∃ r, OpR X (binaryOp op) r ∧ OpD X.kw r (binOf op) := by
  have no : ∀ f : Value → Value → Sem Value, ∃ r, OpR X f r ∧ OpD X.kw r opNo := fun f => ⟨fun _ _ _ _ => False, fun _ _ _ _ _ _ _ _ _ _ _ _ h => h.elim, od_no⟩
  cases op with
  | Add => exact ⟨_, op_addD, od_add⟩
  | Sub => exact ⟨_, op_sub, od_sub⟩
  | Mult => exact ⟨_, op_mulD, od_mul⟩
  | Mod => exact ⟨_, op_mod, od_mod⟩
  | Pow => exact ⟨_, op_pow, od_pow⟩
  | FloorDiv => exact ⟨_, op_fdivW, od_fdiv⟩
  | LShift => exact ⟨_, op_shlW, od_IB⟩
  | RShift => exact ⟨_, op_shr, od_IB⟩
  | BitOr => exact ⟨_, op_or, od_IB0⟩
  | BitAnd => exact ⟨_, op_and, od_IB0⟩
  | _ => exact no _
theorem cmp_ok (hu : X.A.units + 64 < cLine) (op : CmpOp) : ∃ r, OpR X (compareOp op) r ∧ OpD X.kw r (cmpOf op) := by
  cases op
  · exact ⟨_, op_eqU hu, od_eq⟩
  · exact ⟨_, op_neU hu, od_ne⟩
  · exact ⟨_, op_lt, od_cmp⟩
  · exact ⟨_, op_le, od_cmp⟩
  · exact ⟨_, op_gt, od_cmp⟩
  · exact ⟨_, op_ge, od_cmp⟩
  · exact ⟨_, op_isU, od_is⟩
  · exact ⟨_, op_isNotU, od_isNot⟩
  · exact ⟨_, op_inU, od_in false⟩
  · exact ⟨_, op_notInU, od_in true⟩
theorem starPl {pos : Pos} {env : Env} : ∀ {es : List Expr}, es.any isStar = false → (backTo pos (starEach es env)).any (·.1) = false
  | [], _ => rfl
  | e :: es, h => by
    rw [List.any_cons, Bool.or_eq_false_iff] at h
    rw [nostar (by rw [h.1]; exact Bool.false_ne_true)]
    have ih := starPl (pos := pos) (env := env) h.2
    unfold backTo at ih ⊢
    rw [List.map_cons, List.any_cons]
    exact (Bool.or_eq_false_iff.mpr ⟨rfl, ih⟩)

theorem blt_ok (k : COk CX Wx X c) {x : Str} {op : List D → (D → Prop) → Prop} (h : bltOp c x = some op) : ∃ id r, CallR X (.builtin id) r ∧ CallD X.kw r op ∧ bootBuiltins x = some (.builtin id) ∧ x ≠ "__name__" := by
  unfold bltOp at h
  split at h
  · subst x; cases h; exact ⟨_, _, call_len, cd_len, by decide +kernel, by decide⟩
  split at h
  · subst x; cases h; exact ⟨_, _, call_isi.or (call_isiT.or call_isiK), cd_isiC k.isc, by decide +kernel, by decide⟩
  split at h
  · subst x; cases h; exact ⟨_, _, (call_max2 k.calm).or (cr_max k.calm), cd_max, by decide +kernel, by decide⟩
  split at h
  · subst x; cases h; exact ⟨_, _, (call_min2 k.calm).or (cr_min k.calm), cd_min, by decide +kernel, by decide⟩
  split at h
  · subst x; cases h; exact ⟨_, _, cr_sum k.calm, cd_sum, by decide +kernel, by decide⟩
  split at h
  · subst x; cases h; exact ⟨_, _, cr_sortedI.or cr_sortedS, cd_sortS, by decide +kernel, by decide⟩
  split at h
  · subst x; cases h; exact ⟨_, _, cr_all k.calm, cd_all, by decide +kernel, by decide⟩
  split at h
  · subst x; cases h; exact ⟨_, _, cr_any k.calm, cd_any, by decide +kernel, by decide⟩
  split at h
  · subst x; cases h; exact ⟨_, _, call_abs, cd_abs, by decide +kernel, by decide⟩
  split at h
  · subst x; cases h; exact ⟨_, _, call_ord, cd_ord, by decide +kernel, by decide⟩
  cases h
theorem lib_ok {id : String} {op : List D → (D → Prop) → Prop} (h : libOp id = some op) : ∃ r, CallR X (.builtin id) r ∧ CallD X.kw r op := by
  unfold libOp at h
  split at h
  · subst id; cases h; exact ⟨_, cr_lcm, cd_lcm⟩
  cases h
theorem bin_okW (k : COk CX Wx X c) {op : Operator} {a b : Expr} {p : Pos} {f g : WE} (ha : PF X Wx a f) (hb : PF X Wx b g) : PF X Wx (.BinOp a op b p) (binW c op f g) := by
  obtain ⟨r, h1, h2⟩ := bin_ok (X := X) op
  unfold binW
  split
  · split
    · rename_i C d hl hn
      obtain ⟨E, hx, hE⟩ := k.px
      obtain ⟨j, fa, fd, ps, g1, g2, g3, g4, g5⟩ := k.mth _ _ _ hl
      exact pe_imp (pe_op (OpR.or (opr_own g2 (k.room.mono (Nat.le_of_succ_le g1)) g3 g5 hx) h1) ha hb) (imp_binM h2 rfl hE)
    · exact pf_bad
  · exact pe_imp (pe_op h1 ha hb) (imp_bin h2)
theorem cmp_okW (k : COk CX Wx X c) {op : CmpOp} {f g : WE} : ∃ r : R2, OpR X (compareOp op) r ∧ ∀ (σ : St) (H : Hp) (Q : VK), tE X.kw Wx (cmpW c op f g) σ H Q → tOp r (tE X.kw Wx f) (tE X.kw Wx g) σ H Q := by
  have hu := k.room.units
  obtain ⟨E, hx, hE⟩ := k.px
  have bad : ∃ r : R2, OpR X (compareOp op) r ∧ ∀ (σ : St) (H : Hp) (Q : VK), tE X.kw Wx wBad σ H Q → tOp r (tE X.kw Wx f) (tE X.kw Wx g) σ H Q :=
    ⟨fun _ _ _ _ => False, fun _ _ _ _ _ _ _ _ _ _ _ _ h => h.elim, fun σ H Q ⟨_, _, _, _, _, _, h, _⟩ => h.elim⟩
  unfold cmpW
  split
  · split
    · split
      · rename_i C d hl hn
        obtain ⟨j, fa, fd, ps, g1, g2, g3, g4, g5⟩ := k.mth _ _ _ hl
        exact ⟨_, OpR.or (opr_eq g2 (k.room.mono (Nat.le_of_succ_le g1)) g3 g5 hx) (op_eqU hu), imp_binM od_eq rfl hE⟩
      · exact bad
    · exact ⟨_, op_eqU hu, imp_bin od_eq⟩
  · split
    · split
      · rename_i C d hl hn
        obtain ⟨j, fa, fd, ps, g1, g2, g3, g4, g5⟩ := k.mth _ _ _ hl
        exact ⟨_, OpR.or (opr_ne g2 (k.room.mono g1) g3 (k.nne _ _ hl) g5 hx) (op_neU hu), imp_neM od_ne rfl hE⟩
      · exact bad
    · exact ⟨_, op_neU hu, imp_bin od_ne⟩
  · split
    · split
      · rename_i C d hl hn
        obtain ⟨j, fa, fd, ps, g1, g2, g3, g4, g5⟩ := k.mth _ _ _ hl
        exact ⟨_, OpR.or (opr_in g2 (k.room.mono (Nat.le_of_succ_le g1)) g3 g5 hx) op_inU, imp_inM (od_in false) rfl hE⟩
      · exact bad
    · exact ⟨_, op_inU, imp_bin (od_in false)⟩
  · split
    · split
      · rename_i C d hl hn
        obtain ⟨j, fa, fd, ps, g1, g2, g3, g4, g5⟩ := k.mth _ _ _ hl
        exact ⟨_, OpR.or (opr_notin g2 (k.room.mono (Nat.le_of_succ_le g1)) g3 g5 hx) op_notInU, imp_inM (od_in true) rfl hE⟩
      · exact bad
    · exact ⟨_, op_notInU, imp_bin (od_in true)⟩
  · obtain ⟨r, h1, h2⟩ := cmp_ok hu op
    exact ⟨r, h1, imp_bin h2⟩
theorem pf_invW (k : COk CX Wx X c) {a : Expr} {p : Pos} {f : WE} (ha : PF X Wx a f) : PF X Wx (.UnaryOp .Invert a p) (invW c f) := by
  unfold invW
  split
  · split
    · rename_i C d hl hn
      obtain ⟨E, hx, hE⟩ := k.px
      obtain ⟨j, fa, fd, ps, g1, g2, g3, g4, g5⟩ := k.mth _ _ _ hl
      exact pe_imp (pe_un (opr_inv g2 (k.room.mono (Nat.le_of_succ_le g1)) g3 g5 hx) ha) (imp_unM rfl hE)
    · exact pf_bad
  · exact pf_bad
theorem bty_ok {x : Str} {op : List D → (D → Prop) → Prop} (h : btyOp x = some op) : ∃ id r, CallR X (.type id) r ∧ CallD X.kw r op ∧ bootBuiltins x = some (.type id) ∧ x ≠ "__name__" := by
  unfold btyOp at h
  split at h
  · subst x; cases h; exact ⟨_, _, call_int1, cd_int, by decide +kernel, by decide⟩
  split at h
  · subst x; cases h; exact ⟨_, _, call_list_of, cd_list, by decide +kernel, by decide⟩
  split at h
  · subst x; cases h; exact ⟨_, _, call_tuple_of, cd_tuple, by decide +kernel, by decide⟩
  split at h
  · subst x; cases h; exact ⟨_, _, call_str_int, cd_strF, by decide +kernel, by decide⟩
  cases h
theorem imp_nil {K : KW} (σ : St) (H : Hp) (Q : List V → Hp → Prop) (h : tA K Wx wNil σ H Q) : tNil σ H Q := by
  obtain ⟨B, ρ, fp, Xd, P, w, hP, hQ, _⟩ := h
  exact hQ [] ρ [] B H hP w.refl
theorem imp_call0 {K : KW} {F : WF} {ks : List Bool} {n : Nat} {E : XK} (hn : ks.length = n) (hE : ∀ σ c d H, E c d H ↔ Wx c d σ H) (σ : St) (H : Hp) (Q : VK) (h : tE K Wx (wCall F ks wNil) σ H Q) : tCall (spD K F n) [] E tNil σ H Q := imp_nil σ H _ (imp_call hn hE σ H Q h)
theorem imp_make0 {K : KW} {C : Str} {F : WF} {ks : List Bool} {n : Nat} {E : XK} (hn : ks.length + 1 = n) (hE : ∀ σ c d H, E c d H ↔ Wx c d σ H) (σ : St) (H : Hp) (Q : VK) (h : tE K Wx (wMake C F ks wNil) σ H Q) : tMake (He.ga K.F C) (spD K F n) [] E tNil σ H Q := imp_nil σ H _ (imp_make hn hE σ H Q h)
theorem pf_callN (k : COk CX Wx X c) {f : Expr → WE} (h : ∀ e, PF X Wx e (f e)) {x : Str} {p pos : Pos} {es : List Expr} (hs : es.any isStar = false) : PF X Wx (.Call (.Name x p) es [] pos) (callW c x es.length (argsW f es)) := by
  have ha := pfa_args h es
  unfold callW
  split
  · exact pf_bad
  rename_i hm
  obtain ⟨m1, m2⟩ := magic_db hm
  split
  · rename_i hg
    obtain ⟨E, hx, hE⟩ := k.px
    split
    · split
      · rename_i hl hn
        obtain ⟨j, fa, fd, ps, g1, g2, g3, g4, g5⟩ := k.fns _ _ hl
        cases es with
        | nil => exact pe_imp (pe_call0 g2 (k.room.mono g1) (k.gl hg) g3 g4 g5 .nil hx m1) (imp_call0 rfl hE)
        | cons e es => exact pe_imp (pe_call g2 (k.room.mono g1) (k.gl hg) g3 g4 g5 .nil hx ha m1 (nostar (by rw [(Bool.or_eq_false_iff.mp hs).1]; exact Bool.false_ne_true)) (starPl (Bool.or_eq_false_iff.mp hs).2)) (imp_call rfl hE)
      · exact pf_bad
    · split
      · split
        · rename_i hl hn
          obtain ⟨j, fa, fd, ps, g1, g2, g3, g4, g5⟩ := k.mks _ _ hl
          cases es with
          | nil => exact pe_imp (pe_make0 g2 g3 (k.room.mono g1) (k.gl hg) g4 g5 .nil hx m1) (imp_make0 rfl hE)
          | cons e es => exact pe_imp (pe_make g2 g3 (k.room.mono g1) (k.gl hg) g4 g5 .nil hx ha m1 (nostar (by rw [(Bool.or_eq_false_iff.mp hs).1]; exact Bool.false_ne_true)) (starPl (Bool.or_eq_false_iff.mp hs).2)) (imp_make rfl hE)
        · exact pf_bad
      · split
        · exact pf_bad
        rename_i hk
        split
        · rename_i id hid
          split
          · rename_i op ho
            cases es with
            | nil => exact absurd rfl hk
            | cons e es =>
              have q1 := nostar (env := X.env) (es := es) (e := e) (by rw [(Bool.or_eq_false_iff.mp hs).1]; exact Bool.false_ne_true)
              have q2 := starPl (env := X.env) (pos := pos) (Bool.or_eq_false_iff.mp hs).2
              obtain ⟨r, b1, b2⟩ := lib_ok (X := X) ho
              exact pe_imp (pe_callBfun b1 (k.gl hg) (k.bfn _ _ hid) ha m1 q1 q2) (imp_cb b2)
          · exact pf_bad
        split
        · rename_i hf
          cases es with
          | nil => exact absurd rfl hk
          | cons e es =>
            have q1 := nostar (env := X.env) (es := es) (e := e) (by rw [(Bool.or_eq_false_iff.mp hs).1]; exact Bool.false_ne_true)
            have q2 := starPl (env := X.env) (pos := pos) (Bool.or_eq_false_iff.mp hs).2
            split
            · obtain ⟨id, r, b1, b2, b3, b4⟩ := blt_ok k (by assumption)
              exact pe_imp (pe_callB b1 (k.gl hg) (k.fr _ hf) b3 ha b4 m1 q1 q2) (imp_cb b2)
            · split
              · obtain ⟨id, r, b1, b2, b3, b4⟩ := bty_ok (X := X) (by assumption)
                exact pe_imp (pe_callTy b1 (k.gl hg) (k.fr _ hf) b3 ha b4 m1 q1 q2) (imp_cb b2)
              · exact pf_bad
        · exact pf_bad
  · exact pf_bad
theorem pk_imp {ks : List Keyword} {t t' : TA} (h : PK X ks t) (i : ∀ σ H Q, t' σ H Q → t σ H Q) : PK X ks t' := ⟨fun pos pins s σ H Q I hw => h.run pos pins s σ H Q I (i _ _ _ hw)⟩
theorem imp_cons {K : KW} {f : WE} {g : WA} (σ : St) (H : Hp) (Q : List V → Hp → Prop) (h : tA K Wx (wCons f g) σ H Q) : tCons (tE K Wx f) (tA K Wx g) σ H Q := by
  obtain ⟨B, ρ, fp, Xd, P, w, hP, hQ, hX⟩ := h
  refine ⟨B, ρ, fp, Xd, _, w, hP, fun r ρ1 v B1 H1 h1 p1 => ?_, hX⟩
  obtain ⟨f1, w1, k, kx⟩ := p1.step
  exact ⟨B1, ρ1, f1, Xd, _, w1, h1, fun rs ρ2 vs B2 H2 h2 p2 => hQ _ ρ2 _ B2 H2 h2 (k p2), fun x ρ' c d B' H' hx px => hX x ρ' c d B' H' hx (kx px)⟩
theorem pk_kws {f : Expr → WE} (h : ∀ e, PF X Wx e (f e)) : ∀ {ks : List Keyword}, PK X ks (tA X.kw Wx (kwsW f ks))
  | [] => pk_imp pk_nil imp_nil
  | ⟨n, e, p⟩ :: r => pk_imp (pk_cons (h e) (pk_kws h)) imp_cons
theorem kw_all {pos : Pos} {env : Env} : ∀ {ks : List Keyword}, (ks.all fun k => k.arg.isSome) = true → (backToKw pos (keywordEach ks env)).all (·.1.isSome) = true ∧ (backToKw pos (keywordEach ks env)).filterMap (·.1) = kwNames ks ∧ (backToKw pos (keywordEach ks env)).any (·.1.isNone) = false
  | [], _ => ⟨rfl, rfl, rfl⟩
  | ⟨none, e, p⟩ :: r, h => by simp at h
  | ⟨some n, e, p⟩ :: r, h => by
    have h2 : (r.all fun k => k.arg.isSome) = true := by
      rw [List.all_cons, Bool.and_eq_true] at h
      exact h.2
    obtain ⟨i1, i2, i3⟩ := kw_all (pos := pos) (env := env) h2
    unfold backToKw at i1 i2 i3 ⊢
    refine ⟨?_, ?_, ?_⟩
    · show ((List.map _ ((some n, eval e env) :: keywordEach r env)).all _) = true
      rw [List.map_cons, List.all_cons, i1]; rfl
    · show (List.map _ ((some n, eval e env) :: keywordEach r env)).filterMap _ = [n] ++ kwNames r
      rw [List.map_cons, List.filterMap_cons, i2]; rfl
    · show ((List.map _ ((some n, eval e env) :: keywordEach r env)).any _) = false
      rw [List.map_cons, List.any_cons, i3]; rfl
theorem pf_callK (k : COk CX Wx X c) {f : Expr → WE} (h : ∀ e, PF X Wx e (f e)) {x : Str} {p pos : Pos} {e : Expr} {es : List Expr} {ks : List Keyword} {n : Nat} (hs : (e :: es).any isStar = false) (hk : (ks.all fun k => k.arg.isSome) = true) :
    PF X Wx (.Call (.Name x p) (e :: es) ks pos) (callKW c x n (kwNames ks) (argsW f (e :: es)) (kwsW f ks)) := by
  have ha := pfa_args h (e :: es)
  unfold callKW
  split
  · exact pf_bad
  rename_i hm
  obtain ⟨m1, m2⟩ := magic_db hm
  split
  · rename_i hg
    obtain ⟨E, hx, hE⟩ := k.px
    split
    · split
      · rename_i ns m d hl hn
        obtain ⟨j, fa, fd, ps, g1, g2, g3, g4, g5⟩ := k.kws _ _ _ _ hl
        obtain ⟨q1, q2, q3⟩ := kw_all (pos := pos) (env := X.env) hk
        rw [hn.1] at g5
        exact pe_imp (pe_callK g2 (k.room.mono g1) (k.gl hg) g3 g4 g5 hx ha (pk_kws h) q1 q2 m1 (nostar (by rw [(Bool.or_eq_false_iff.mp hs).1]; exact Bool.false_ne_true)) (Bool.or_eq_false_iff.mpr ⟨starPl hs, q3⟩)) (imp_callK rfl hE)
      · exact pf_bad
    · exact pf_bad
  · exact pf_bad
theorem pf_shW {f : WE} {e : Expr} (h : PF X Wx e f) : PF X Wx e (shW c f) := by
  unfold shW
  split
  · exact pf_sh h
  · exact h
theorem imp_sing {K : KW} {f : WE} (σ : St) (H : Hp) (Q : List V → Hp → Prop) (h : tA K Wx (argsW (fun _ => f) [.Name "x" ⟨0, 0, 0, 0⟩]) σ H Q) : tCons (tE K Wx f) tNil σ H Q := by
  have z := imp_cons σ H Q h
  obtain ⟨B, ρ, fp, Xd, P, w, hP, hQ, hX⟩ := z
  exact ⟨B, ρ, fp, Xd, P, w, hP, fun r ρ1 v B1 H1 h1 p1 => imp_nil _ _ _ (hQ r ρ1 v B1 H1 h1 p1), hX⟩
theorem pf_meth (k : COk CX Wx X c) {f : Expr → WE} (h : ∀ e, PF X Wx e (f e)) {x m : Str} {p ap cp : Pos} {es : List Expr} (hl : (ap.endLine == cp.line) = true) : PF X Wx (.Call (.Attribute (.Name x p) m ap) es [] cp) (methW c f x m es) := by
  unfold methW
  split
  · exact pf_bad
  rename_i hm
  obtain ⟨m1, m2⟩ := magic_db hm
  split
  · rename_i hv
    split
    · rename_i i hi
      have hx : PE X (.Name x p) (tVar i) := pe_var (k.slot hi) (k.vis hv) m1 m2
      split
      · rename_i e
        split
        · exact pf_bad
        rename_i hst
        have q1 := nostar (env := X.env) (es := []) hst
        have few : ((backTo cp (starEach [e] X.env)).all (fun x => !x.1) && (backToKw cp (keywordEach [] X.env)).all (fun x => x.1.isSome) && decide ([e].length + ([] : List Keyword).length + (if ([] : List Keyword).isEmpty then 0 else 1) < 30)) = true := by
          rw [q1]; rfl
        split
        · rename_i hm; subst hm
          exact pe_imp (pe_bm PySem.F.plainAttrs_list PySem.F.slot_list_append PySem.F.type_list_append mt_append hx (pa_cons (pf_shW (c := c) (h e)) pa_nil q1) rfl few hl q1 rfl) imp_app
        · split
          · rename_i hm; subst hm
            exact pe_imp (pe_bm PySem.F.plainAttrs_list PySem.F.slot_list_pop PySem.F.type_list_pop mt_popAt hx (pa_cons (h e) pa_nil q1) rfl few hl q1 rfl) imp_popAt
          · exact pf_bad
      · split
        · rename_i hm; subst hm
          exact pe_imp (pe_bm0 PySem.F.plainAttrs_list PySem.F.slot_list_pop PySem.F.type_list_pop mt_pop hx rfl hl) imp_pop
        · exact pf_bad
      · exact pf_bad
    · exact pf_bad
  · exact pf_bad
theorem nobase {o : Expr} {a : Str} {env : Env} (h : ¬ isCall0 o = true) : attributeBase o a env (eval o env) = eval o env := by
  cases o <;> first | rfl | skip
  rename_i f as ks p
  cases f <;> first | rfl | skip
  cases as with
  | cons => rfl
  | nil =>
    cases ks with
    | cons => rfl
    | nil => exact absurd rfl h
theorem ht_meth {o : Expr} {m : Str} {ap cp : Pos} {es : List Expr} {env : Env} (hs : es.any isStar = false) (hn : es.length < 29) (hc : ¬ isCall0 o = true) (hl : (ap.endLine == cp.line) = true) :
    eval (.Call (.Attribute o m ap) es [] cp) env = (do
      let ov ← eval o env
      standAt ap.atName
      let (f, first) ← holding [ov] (getMethod ov m (do return (← importBound o env).getD true))
      callWith cp f first (backTo cp (starEach es env)) (backToKw cp (keywordEach [] env))) := by
  have few : methodCallForm (es.length + ([] : List Keyword).length) (backTo cp (starEach es env)) (backToKw cp (keywordEach [] env)) = true := by
    have h1 := starPl (pos := cp) (env := env) hs
    unfold methodCallForm
    rw [Bool.and_eq_true, Bool.and_eq_true]
    refine ⟨⟨?_, rfl⟩, decide_eq_true ?_⟩
    · rw [List.all_eq_true]
      intro x hx
      rw [List.any_eq_false] at h1
      simpa using h1 x hx
    · simp [keywordEach, backToKw]
      omega
  show (do
      let ov ← attributeBase o m env (eval o env)
      standAt ap.atName
      methodCall o m ap cp env ov (es.length + ([] : List Keyword).length) (backTo cp (starEach es env)) (backToKw cp (keywordEach [] env))) = _
  rw [nobase hc]
  unfold methodCall calleeOf methodCallPos
  simp only [few, hl, Bool.not_true, Bool.false_or, if_true]
  rfl
theorem pf_methO (k : COk CX Wx X c) {f : Expr → WE} (h : ∀ e, PF X Wx e (f e)) {o : Expr} {C m : Str} {d : DF} {ap cp : Pos} {es : List Expr} (hs : es.any isStar = false) (hl : c.ow.mth.lookup m = some (C, d)) (hn : d.ks.length = es.length + 1) (hq : (decide (es.length < 29) && !isCall0 o && ap.endLine == cp.line) = true) : PF X Wx (.Call (.Attribute o m ap) es [] cp) (wMeth C m d.F d.ks (f o) (argsW f es)) := by
  obtain ⟨E, hx, hE⟩ := k.px
  obtain ⟨j, fa, fd, ps, g1, g2, g3, g4, g5⟩ := k.mth _ _ _ hl
  rw [Bool.and_eq_true, Bool.and_eq_true, decide_eq_true_eq] at hq
  have ht := ht_meth (o := o) (m := m) (ap := ap) (cp := cp) (env := X.env) hs hq.1.1 (by simpa using hq.1.2) hq.2
  cases es with
  | nil => exact pe_imp (pe_meth0 (h o) g4 g3.toMeth g2 (k.room.mono (Nat.le_of_succ_le g1)) g5 .nil hx ht) (imp_meth0 rfl hE)
  | cons e es => exact pe_imp (pe_meth (h o) g4 g3.toMeth g2 (k.room.mono (Nat.le_of_succ_le g1)) g5 .nil hx (pfa_args h (e :: es)) (nostar (by rw [(Bool.or_eq_false_iff.mp hs).1]; exact Bool.false_ne_true)) (starPl (Bool.or_eq_false_iff.mp hs).2) ht) (imp_meth rfl hE)
/-! ### comprehensions -/
theorem slots_ok {sc : Scope} {N : List Str} : ∀ {es : List Expr} {l : List (Str × Nat)}, slotsOf sc N es = some l → es.length = l.length ∧ (∀ q ∈ l, N[q.2]? = some q.1 ∧ Loc sc q.1)
  | [], l, h => by cases h; exact ⟨rfl, fun _ h => nomatch h⟩
  | e :: r, l, h => by
    cases e <;> first | (cases h; done) | skip
    unfold slotsOf at h
    split at h
    · rename_i hl
      split at h
      · rename_i i l2 h1 h2
        cases h
        obtain ⟨k1, k2⟩ := slots_ok h2
        refine ⟨by rw [List.length_cons, List.length_cons, k1], fun q hq => ?_⟩
        rcases List.mem_cons.mp hq with z | z
        · subst z; exact ⟨slotN_ok h1, locB_ok hl⟩
        · exact k2 q z
      · cases h
    · cases h
end
end FL

end
section
set_option maxHeartbeats 1000000
/-! FL16: the readings of expressions are right, the whole. -/
namespace FL
open PySem PySem.Spec PyProof.Rows L2

section
variable {CX : CXT} {X : Cx} {Wx : WX} {c : DCtx}
abbrev TgOk (X : Cx) (l : List (Str × Nat)) : Prop := ∀ q ∈ l, X.N[q.2]? = some q.1 ∧ Loc X.env.scope q.1 ∧ (X.fn q.1 = true ∨ X.env.scope.names.lookup q.1 = some .local)
theorem pgs_names (hN : X.N.Nodup) {sc : Scope} {N : List Str} : ∀ {es : List Expr} {l : List (Str × Nat)}, slotsOf sc N es = some l → TgOk X l →
    PGs X es (gNsT (l.map (·.2))) ∧ (assignEach es X.env).length = l.length ∧ (assignEach es X.env).findIdx? (·.1) = none
  | [], l, h, _ => by cases h; exact ⟨pgs_nil, rfl, rfl⟩
  | e :: r, l, h, g => by
    cases e <;> first | (cases h; done) | skip
    unfold slotsOf at h
    split at h
    · split at h
      · rename_i i l2 h1 h2
        cases h
        obtain ⟨k1, k2, k3⟩ := pgs_names hN h2 fun q hq => g q (List.mem_cons_of_mem _ hq)
        obtain ⟨g1, g2, g3⟩ := g _ List.mem_cons_self
        refine ⟨pgs_cons (pg_name hN g1 g2 g3) k1 rfl, ?_, ?_⟩
        · show (_ :: assignEach r X.env).length = _
          rw [List.length_cons, k2]; rfl
        · show (_ :: assignEach r X.env).findIdx? _ = none
          rw [List.findIdx?_cons, k3]; rfl
      · cases h
    · cases h
theorem pg_ct (hc : X.calm = true) (hN : X.N.Nodup) {sc : Scope} {N : List Str} {tg : Expr} {own : List (Str × Nat)} {ct : CT} (h : ctOf sc N tg = some (own, ct)) (g : TgOk X own) : PG X tg (ct.tg X.K) := by
  unfold ctOf at h
  split at h
  · split at h
    · split at h
      · cases h
        obtain ⟨g1, g2, g3⟩ := g _ List.mem_cons_self
        exact pg_name hN g1 g2 g3
      · cases h
    · cases h
  · split at h
    · rename_i es kk p l hs
      have e1 : l = own := congrArg (·.1) (Option.some.inj h)
      have e2 : CT.tup (l.map (·.2)) = ct := congrArg (·.2) (Option.some.inj h)
      subst e1 e2
      obtain ⟨k1, k2, k3⟩ := pgs_names (X := X) hN hs g
      have z := fun p kk => pg_tup (pos := p) (k := kk) hc k1 k2 k3
      have e : (l.map (·.2)).length = l.length := List.length_map _
      show PG X _ (gTup X.K (l.map (·.2)).length (gNsT (l.map (·.2))))
      rw [e]
      exact z _ _
    · cases h
  · cases h
theorem ctOf_raw {sc : Scope} {N : List Str} {tg : Expr} {own : List (Str × Nat)} {ct : CT} (h : ctOf sc N tg = some (own, ct)) : ∀ q ∈ own, N[q.2]? = some q.1 ∧ Loc sc q.1 := by
  unfold ctOf at h
  split at h
  · split at h
    · rename_i hl
      split at h
      · rename_i i hi
        cases h
        intro q hq
        rw [List.mem_singleton.mp hq]
        exact ⟨slotN_ok hi, locB_ok hl⟩
      · cases h
    · cases h
  · split at h
    · rename_i es kk p l hs
      have e1 : l = own := congrArg (·.1) (Option.some.inj h)
      subst e1
      exact (slots_ok hs).2
    · cases h
  · cases h
theorem COk.blk (k : COk CX Wx X c) {scope : Scope} (s : Shared) (H : Hp) (C : Addr) (cl : List (Str × Addr)) (fp : List Addr) : COk CX Wn (X.blk s H scope (compEnvC scope cl C X.env) fp) (blkD c scope) where
  N := k.N
  nd := k.nd
  sc := by
    show relS scope X.env.scope = relS scope c.sc
    rw [k.sc]
  calm := k.calm
  room := k.room
  fns := k.fns
  kws := k.kws
  mks := k.mks
  mth := k.mth
  nne := k.nne
  isc := k.isc
  bfn := k.bfn
  glb := k.glb
  fr := k.fr
  ct := k.ct
  px := ⟨fun _ _ _ => False, fun _ _ _ _ _ _ _ h => k.pz _ _ _ _ _ h, fun _ _ _ _ => Iff.rfl⟩
  pz := k.pz
theorem blk_tg (hN : X.N = c.N) {scope : Scope} {tg : Expr} {own : List (Str × Nat)} {ct : CT} (h : ctOf scope c.N tg = some (own, ct)) (s : Shared) (H : Hp) (C : Addr) (cl : List (Str × Addr)) (fp : List Addr) : TgOk (X.blk s H scope (compEnvC scope cl C X.env) fp) own := by
  intro q hq
  obtain ⟨h1, h2⟩ := ctOf_raw h q hq
  refine ⟨by rw [← hN] at h1; exact h1, ?_⟩
  rcases h2 with z | z
  · have y : (compEnvC scope cl C X.env).scope.names.lookup q.1 = some .local := lookup_relS_keep (sc := X.env.scope) (by decide) z
    exact ⟨.inl y, .inr y⟩
  · have y : (compEnvC scope cl C X.env).scope.names.lookup q.1 = some .cell := lookup_relS_keep (sc := X.env.scope) (by decide) z
    refine ⟨.inr y, .inl ?_⟩
    show (scope.names.lookup q.1 == some .cell) = true
    rw [z]; rfl
theorem pts_cond {X : Cx} {f : Expr → WT} (h : ∀ e, PFT X Wx e (f e)) (ifs : List Expr) : PTs X ifs (tT X.kw Wx (condW f ifs)) := by
  unfold condW
  split
  · exact ⟨fun pins s σ H Q I hw => pts_nil.run pins s σ H Q I (imp_yes σ H Q hw)⟩
  · exact pts_one (h _)
  · exact ⟨fun pins s σ H Q I ⟨_, _, _, _, _, _, h, _⟩ => h.elim⟩
theorem nofold {iter : Expr} {env : Env} (h : ¬ isSet iter = true) : ∀ x, foldedSetIterable iter env x = pure x := by
  cases iter <;> first | (intro x; rfl) | exact absurd rfl h
theorem star1 {a : Expr} {env : Env} (h : ¬ isStar a = true) : starEach [a] env = [(false, eval a env)] := nostar h
theorem isRng_ok (k : COk CX Wx X c) {f : Str} (h : isRng c f = true) : f = "range" ∧ Gl X "range" ∧ X.mg "range" = none := by
  unfold isRng at h
  rw [Bool.and_eq_true, Bool.and_eq_true, decide_eq_true_eq, decide_eq_true_eq] at h
  obtain ⟨⟨h1, h2⟩, h3⟩ := h
  subst h1
  exact ⟨rfl, k.gl h2, k.fr _ h3⟩
theorem lc_use (k : COk CX Wx X c) {rE : DCtx → Expr → WE} {rT : DCtx → Expr → WT} (hE : ∀ {Wx : WX} {X : Cx} {c : DCtx}, COk CX Wx X c → ∀ e, PF X Wx e (rE c e)) (hT : ∀ {Wx : WX} {X : Cx} {c : DCtx}, COk CX Wx X c → ∀ e, PFT X Wx e (rT c e))
    {elt tg iter : Expr} {ifs : List Expr} {scope : Scope} (P : WE → Prop) (bad : P wBad)
    (good : ∀ (own : List (Str × Nat)) (wi : TI) (g : TG) (tt : TT) (te : TE) (w : WE), PI X tg iter wi → (∀ x, foldedSetIterable iter X.env x = pure x) → BlkOk X.N X.env.scope scope own →
      (∀ (s : Shared) (H : Hp) (C : Addr) (cl : List (Str × Addr)) (fp : List Addr), PG (X.blk s H scope (compEnvC scope cl C X.env) fp) tg g) → (∀ (s : Shared) (H : Hp) (C : Addr) (cl : List (Str × Addr)) (fp : List Addr), PTs (X.blk s H scope (compEnvC scope cl C X.env) fp) ifs tt) →
      (∀ (s : Shared) (H : Hp) (C : Addr) (cl : List (Str × Addr)) (fp : List Addr), PE (X.blk s H scope (compEnvC scope cl C X.env) fp) elt te) → (∀ σ H Q, tE X.kw Wx w σ H Q → tLc wi g tt te (own.map (·.2)) σ H Q) → P w) : P (lcW rE rT c elt tg iter ifs scope) := by
  unfold lcW
  split
  · exact bad
  rename_i own ct hct
  split
  · rename_i hb
    rw [Bool.and_eq_true, Bool.and_eq_true, decide_eq_true_eq, decide_eq_true_eq] at hb
    obtain ⟨⟨b1, b2⟩, b3⟩ := hb
    have hN : X.N.Nodup := by rw [k.N]; exact k.nd
    have ok : BlkOk X.N X.env.scope scope own := by rw [k.N, k.sc]; exact blkOk_by b1
    have main : ∀ {wi : TI} {w : WE}, PI X tg iter wi → (∀ x, foldedSetIterable iter X.env x = pure x) →
        (∀ σ H Q, tE X.kw Wx w σ H Q → tLc wi (ct.tg X.K) (tT X.kw Wn (condW (rT (blkD c scope)) ifs)) (tE X.kw Wn (shW c (rE (blkD c scope) elt))) ct.ix σ H Q) → P w := fun {wi w} hi hs i => by
      rw [← b2] at i
      exact good own wi _ _ _ w hi hs ok
        (fun s H C cl fp => pg_ct (X := X.blk s H scope (compEnvC scope cl C X.env) fp) k.calm hN hct (blk_tg k.N hct s H C cl fp))
        (fun s H C cl fp => pts_cond (fun e => hT (k.blk s H C cl fp) e) ifs)
        (fun s H C cl fp => pf_shW (c := c) (hE (k.blk s H C cl fp) elt)) i
    unfold lcI
    split
    · split
      · split
        · exact bad
        · rename_i hr hst
          obtain ⟨e, r1, r2⟩ := isRng_ok k hr
          subst e
          exact main (pi_range1 r1 r2 (pfa_args (fun e => hE k e) _) (star1 hst)) (nofold (by exact Bool.false_ne_true)) (imp_lcR1 b3)
      · exact main (pi_seq (hE k _)) (nofold (by exact Bool.false_ne_true)) (imp_lc b3)
    · split
      · split
        · exact bad
        · rename_i f p a b q hr hst
          obtain ⟨e, r1, r2⟩ := isRng_ok k hr
          subst e
          have hst : ¬ isStar a = true ∧ ¬ isStar b = true := by simpa using hst
          exact main (pi_range2 r1 r2 (pfa_args (fun e => hE k e) _) (by rw [nostar hst.1, star1 hst.2]) (star1 hst.2)) (nofold (by exact Bool.false_ne_true)) (imp_lcR2 b3)
      · exact main (pi_seq (hE k _)) (nofold (by exact Bool.false_ne_true)) (imp_lc b3)
    · split
      · exact bad
      · exact main (pi_seq (hE k _)) (nofold (by assumption)) (imp_lc b3)
  · exact bad
theorem pf_lc (k : COk CX Wx X c) {rE : DCtx → Expr → WE} {rT : DCtx → Expr → WT} (hE : ∀ {Wx : WX} {X : Cx} {c : DCtx}, COk CX Wx X c → ∀ e, PF X Wx e (rE c e)) (hT : ∀ {Wx : WX} {X : Cx} {c : DCtx}, COk CX Wx X c → ∀ e, PFT X Wx e (rT c e))
    {elt tg iter : Expr} {ifs : List Expr} {scope : Scope} {pos : Pos} : PF X Wx (.ListComp elt [⟨tg, iter, ifs, 0⟩] scope pos) (lcW rE rT c elt tg iter ifs scope) :=
  lc_use k hE hT (fun w => PF X Wx (.ListComp elt [⟨tg, iter, ifs, 0⟩] scope pos) w) pf_bad fun own wi g tt te w hi hs ok h1 h2 h3 i => pe_imp (pe_lc k.calm (by rw [k.N]; exact k.nd) hi ok h1 h2 h3 hs) i
theorem po_opt {f : Expr → WE} (h : ∀ e, PF X Wx e (f e)) : ∀ lo : Option Expr, PO X lo (tP X.kw Wx (optW f lo))
  | none => po_none
  | some e => po_some (h e)
theorem stepE_ok (k : COk CX Wx X c) {rE : DCtx → Expr → WE} {rT : DCtx → Expr → WT} (hE : ∀ {Wx : WX} {X : Cx} {c : DCtx}, COk CX Wx X c → ∀ e, PF X Wx e (rE c e)) (hT : ∀ {Wx : WX} {X : Cx} {c : DCtx}, COk CX Wx X c → ∀ e, PFT X Wx e (rT c e)) (e : Expr) :
    PF X Wx e (stepE rE rT c e) := by
  have hu := k.room.units
  unfold stepE
  split
  · exact pf_c pe_int fun _ => .int
  · exact pf_c pe_bl fun _ => .bl
  · exact pf_c pe_non fun _ => .non
  · exact pf_c pe_str fun _ => .str
  · exact pf_name k
  · exact bin_okW k (hE k _) (hE k _)
  · exact pe_imp (pe_not (hE k _)) imp_notV
  · exact pe_imp (pe_un un_neg (hE k _)) (imp_un ud_neg)
  · exact pf_invW k (hE k _)
  · exact pf_and (hE k) _
  · exact pf_or (hE k) _
  · exact pe_imp (pe_ifExp (hT k _) (hE k _) (hE k _)) imp_ite
  · split
    · exact pf_bad
    · rename_i a op b p hb
      obtain ⟨r, h1, h2⟩ := cmp_okW k (op := op) (f := rE c a) (g := rE c b)
      exact pe_imp (pe_cmpR h1 (hE k a) (hE k b) (by simpa using hb)) h2
  · split
    · exact pf_bad
    · rename_i a op op' b d p hb
      obtain ⟨r, h1, h2⟩ := cmp_ok hu op
      obtain ⟨r', h1', h2'⟩ := cmp_ok hu op'
      exact pe_imp (pe_chain h1 h1' (hE k a) (hE k b) (hE k d) (by simpa using hb)) (imp_chain h2 h2')
  · exact pe_imp (pe_slice sl_U (hE k _) (po_opt (hE k) _) (po_opt (hE k) _)) imp_sl
  · split
    · exact pf_bad
    · rename_i a b p _ hb
      exact pe_imp (pe_ix ix_U (hE k a) (hE k b) (plainIx (by cases b <;> first | rfl | exact absurd rfl hb))) (imp_bin od_ix)
  · exact pe_imp (pe_tup (pfa_args (fun e => pf_sh (hE k e)) _)) (imp_cb cd_tup)
  · exact pe_imp (pe_lst (pfa_args (fun e => pf_sh (hE k e)) _)) (imp_cb cd_lst)
  · split
    · exact pf_bad
    · exact pe_imp (pe_fld (hE k _) (nobase (by assumption))) (imp_fld k.ct)
  · split
    · exact pf_bad
    · exact pf_callN k (hE k) (by rename_i h; simpa using h)
  · split
    · rename_i h
      rw [Bool.and_eq_true] at h
      exact pf_callK k (hE k) (by simpa using h.2) h.1
    · exact pf_bad
  · split
    · exact pf_bad
    · rename_i hs
      have hs := Bool.eq_false_iff.mpr hs
      split
      · split
        · rename_i hn
          exact pf_methO k (hE k) hs (by assumption) hn.1 hn.2
        · exact pf_bad
      · split
        · split
          · exact pf_meth k (hE k) (by assumption)
          · exact pf_bad
        · exact pf_bad
  · exact pf_lc k hE hT
  · exact pf_bad
theorem truth_form {e : Expr} {env : Env} (h : tForm e = true) : ∀ whole, isTrue e env whole = (do let v ← whole; standAt e.pos; holding [v] (truthy v)) := by
  intro whole
  cases e <;> first | rfl | (cases h; done) | skip
  rename_i op a p
  cases op <;> first | rfl | cases h
theorem stepT_ok (k : COk CX Wx X c) {rE : DCtx → Expr → WE} {rT : DCtx → Expr → WT} (hE : ∀ {Wx : WX} {X : Cx} {c : DCtx}, COk CX Wx X c → ∀ e, PF X Wx e (rE c e)) (hT : ∀ {Wx : WX} {X : Cx} {c : DCtx}, COk CX Wx X c → ∀ e, PFT X Wx e (rT c e)) (e : Expr) :
    PFT X Wx e (stepT rE rT c e) := by
  have hu := k.room.units
  unfold stepT
  split
  · split
    · exact pft_bad
    · rename_i a op b p hb
      obtain ⟨r, h1, h2⟩ := cmp_okW k (op := op) (f := rE c a) (g := rE c b)
      exact pft_test (pt_cmpR h1 (hE k a) (hE k b) (by simpa using hb)) h2
  · split
    · exact pft_bad
    · rename_i a op op' b d p hb
      obtain ⟨r, h1, h2⟩ := cmp_ok hu op
      obtain ⟨r', h1', h2'⟩ := cmp_ok hu op'
      exact pft_test (pt_chain h1 h1' (hE k a) (hE k b) (hE k d) (by simpa using hb)) (imp_chain h2 h2')
  · exact (pfw_and (hT k) _).pt
  · exact (pfw_or (hT k) _).pt
  · exact pft_not (hT k _)
  · split
    · exact pt_imp (pt_truth (hE k _) (truth_form (by assumption))) imp_tru
    · exact pft_bad
theorem den_ok : ∀ n : Nat, (∀ {Wx : WX} {X : Cx} {c : DCtx}, COk CX Wx X c → ∀ e, PF X Wx e (denE n c e)) ∧ (∀ {Wx : WX} {X : Cx} {c : DCtx}, COk CX Wx X c → ∀ e, PFT X Wx e (denT n c e))
  | 0 => ⟨fun _ _ => pf_bad, fun _ _ => pft_bad⟩
  | n + 1 => ⟨fun k e => stepE_ok k (den_ok n).1 (den_ok n).2 e, fun k e => stepT_ok k (den_ok n).1 (den_ok n).2 e⟩
end
end FL

end
section
set_option maxHeartbeats 1000000
/-! FL17: what a statement does, read off its text; it does it. -/
namespace FL
open PySem PySem.Spec PyProof.Rows L2

structure SOk (CX : CXT) (Wx : WX) (X : Cx) (c : DCtx) : Prop extends COk CX Wx X c where
  fn : ∀ x, X.fn x = true
  own : PassesOwn (model X.prog X.w) X.A X.env X.xe

def opAugAdd : Op2 := fun d e P => match d, e with
  | .int i, .int j => P (.int (i + j))
  | .str a, .str b => a.length + b.length ≤ sizeLine ∧ P (.str (a ++ b))
  | _, _ => False
def opAugMul : Op2 := opI CMul fun i j => .int (i * j)
def opAugDiv : Op2 := opI CDivW fun i j => .int (i / j)
def augOf : Operator → Op2
  | .Add => opAugAdd
  | .Sub => opSub
  | .Mult => opAugMul
  | .FloorDiv => opAugDiv
  | .Mod => opMod
  | _ => opNo
theorem od_opI {K : KW} {C : Int → Int → Prop} {g : Int → Int → V} {g' : Int → Int → D} (hg : ∀ i j B, Rep K B (g i j) (g' i j)) : OpD K (rI C g) (opI C g') := by
  intro B H x y d e f g P Q ex hx hy h k
  unfold opI at h
  split at h
  · exact ⟨_, _, hx.int_of, hy.int_of, h.1, k _ _ B H [] h.2 (.same ex (hg _ _ _))⟩
  · exact h.elim
theorem od_augAdd {K : KW} : OpD K (fun x y H Q => (rI0 fun i j => .int (i + j)) x y H Q ∨ (∃ i j, x = .str i ∧ y = .str j ∧ i.length + j.length ≤ sizeLine ∧ Q (.str (i ++ j)) H)) opAugAdd := by
  intro B H x y d e f g P Q ex hx hy h k
  unfold opAugAdd at h
  split at h
  · exact .inl ⟨_, _, hx.int_of, hy.int_of, k _ _ B H [] h (.same ex .int)⟩
  · exact .inr ⟨_, _, hx.str_of, hy.str_of, h.1, k _ _ B H [] h.2 (.same ex .str)⟩
  · exact h.elim
theorem aug_ok {X : Cx} (op : Operator) : ∃ r : TIp, PIp X op r ∧ OpD X.kw r (augOf op) := by
  cases op
  · exact ⟨_, iop_add.or iop_add_str, od_augAdd⟩
  · exact ⟨_, iop_sub, od_sub⟩
  · exact ⟨_, iop_mul, od_opI fun _ _ _ => .int⟩
  · exact ⟨fun _ _ _ _ => False, fun _ _ _ _ _ _ _ _ _ _ _ _ h => h.elim, od_no⟩
  · exact ⟨fun _ _ _ _ => False, fun _ _ _ _ _ _ _ _ _ _ _ _ h => h.elim, od_no⟩
  · exact ⟨_, iop_mod, od_mod⟩
  · exact ⟨fun _ _ _ _ => False, fun _ _ _ _ _ _ _ _ _ _ _ _ h => h.elim, od_no⟩
  · exact ⟨fun _ _ _ _ => False, fun _ _ _ _ _ _ _ _ _ _ _ _ h => h.elim, od_no⟩
  · exact ⟨fun _ _ _ _ => False, fun _ _ _ _ _ _ _ _ _ _ _ _ h => h.elim, od_no⟩
  · exact ⟨fun _ _ _ _ => False, fun _ _ _ _ _ _ _ _ _ _ _ _ h => h.elim, od_no⟩
  · exact ⟨fun _ _ _ _ => False, fun _ _ _ _ _ _ _ _ _ _ _ _ h => h.elim, od_no⟩
  · exact ⟨fun _ _ _ _ => False, fun _ _ _ _ _ _ _ _ _ _ _ _ h => h.elim, od_no⟩
  · exact ⟨_, iop_fdivW, od_opI fun _ _ _ => .int⟩

/-! ### readings -/
def wAsgT (g : WG) (f : WE) : WS := fun X E ρ => f X ρ fun r ρ1 => g ((r.tk ρ1).sh) (r.en ρ1) E.nx
def seqW (f : Stmt → WS) : List Stmt → WS
  | [] => wNext
  | [s] => f s
  | s :: t :: r => wSeq (f s) (seqW f (t :: r))
def isTup : Expr → Bool
  | .Tuple _ _ _ => true
  | _ => false
def isFnK (sc : Scope) : Bool := match sc.kind with
  | .function => true
  | _ => false
def ownIn (scope : Scope) (x : Str) : Bool := scope.names.any fun (n, k) => n == x && (k == .local || k == .cell)
def isDoc : Expr → Bool
  | .Constant (.str _) _ _ => true
  | _ => false
def asgN (rE : DCtx → Expr → WE) (c : DCtx) (x : Str) (px : Pos) (e : Expr) : WS :=
  if locB c.sc x = true then (match slotN c.N x with
    | some i => if i ∈ c.kp then wNever else (match e with
      | .ListComp elt [⟨tg, iter, ifs, 0⟩] scope pos => if (decide (c.sc.names.lookup x = some .local) && isFnK c.sc && (px.line == pos.line) && !ownIn scope x) = true then
          wAsg i (rE c (.ListComp elt [⟨tg, iter, ifs, 0⟩] scope pos)) else if c.sc.names.lookup x = some .cell then wAsg i (rE c (.ListComp elt [⟨tg, iter, ifs, 0⟩] scope pos)) else wNever
      | e => if isCmp e = true then wNever else wAsg i (rE c e))
    | none => wNever)
  else wNever
def tgW (c : DCtx) (tg : Expr) : Option WG := match ctOf c.sc c.N tg with
  | some (own, ct) => if (own.all fun q => !decide (q.2 ∈ c.kp)) = true then some ct.wg else none
  | none => none
def forW (rE : Expr → WE) (c : DCtx) (tg it : Expr) (b : WS) : WS := match it with
  | .Call (.Name f p) [a] [] q => if isRng c f = true then (if isStar a = true then wNever else (match tg with
      | .Name x _ => if locB c.sc x = true then (match slotN c.N x with
          | some i => if i ∈ c.kp then wNever else wRng1 (argsW rE [a]) i b
          | none => wNever) else wNever
      | _ => wNever))
    else (match tgW c tg with
      | some g => wFor (rE (.Call (.Name f p) [a] [] q)) g b
      | none => wNever)
  | .Call (.Name f p) [a, a'] [] q => if isRng c f = true then (if (isStar a || isStar a') = true then wNever else (match tg with
      | .Name x _ => if locB c.sc x = true then (match slotN c.N x with
          | some i => if i ∈ c.kp then wNever else wRng2 (argsW rE [a, a']) i b
          | none => wNever) else wNever
      | _ => wNever))
    else (match tgW c tg with
      | some g => wFor (rE (.Call (.Name f p) [a, a'] [] q)) g b
      | none => wNever)
  | it => if isSet it = true then wNever else (match tgW c tg with
      | some g => wFor (rE it) g b
      | none => wNever)
def stepS (rE : DCtx → Expr → WE) (rT : DCtx → Expr → WT) (rS : DCtx → Stmt → WS) (c : DCtx) : Stmt → WS
  | .Pass _ => wNext
  | .Break _ => wBreak
  | .Continue _ => wCont
  | .Return none _ => wRetN
  | .Return (some e) _ => wRet c.kp (rE c e)
  | .Expr (.Constant (.str _) _ _) _ => wNext
  | .Expr e _ => if isCmp e = true then wNever else wExpr (rE c e)
  | .If t a b _ => wIf (rT c t) (seqW (rS c) a) (seqW (rS c) b)
  | .While t b [] _ => wWhile (rT c t) (seqW (rS c) b)
  | .For tg it b [] _ => forW (rE c) c tg it (seqW (rS c) b)
  | .Assign [.Name x px] e _ => asgN rE c x px e
  | .Assign [.Tuple es k p] e _ => if (isTup e || isCmp e) = true then wNever else (match tgW c (.Tuple es k p) with
      | some g => wAsgT g (rE c e)
      | none => wNever)
  | .Assign [.Subscript (.Name x _) i _] e _ => if (magic x || isSlc i || isCmp e) = true then wNever else if visB c.sc x = true then (match slotN c.N x with
      | some j => wSetIx j (shW c (rE c e)) (rE c i)
      | none => wNever) else wNever
  | .Assign [.Attribute (.Name x _) f _] e _ => if (magic x || isCmp e) = true then wNever else if visB c.sc x = true then (match slotN c.N x with
      | some j => wSetFld c.ct j f (rE c e)
      | none => wNever) else wNever
  | .AugAssign (.Name x _) op e _ => if locB c.sc x = true then (match slotN c.N x with
      | some j => if j ∈ c.kp then wNever else wAug (augOf op) j (rE c e)
      | none => wNever) else wNever
  | .AugAssign (.Subscript (.Name x _) i _) op e _ => if (magic x || isSlc i) = true then wNever else if visB c.sc x = true then (match slotN c.N x with
      | some j => wAugIx (augOf op) j (rE c i) (rE c e)
      | none => wNever) else wNever
  | _ => wNever
def denS : Nat → DCtx → Stmt → WS
  | 0 => fun _ _ => wNever
  | n + 1 => stepS (denE n) (denT n) (denS n)
abbrev denB (n : Nat) (c : DCtx) (b : List Stmt) : WS := seqW (denS n c) b

section
variable {CX : CXT} {X : Cx} {Wx : WX} {c : DCtx} {kp : List Nat}
theorem ps_bad {st : Stmt} : PFS X Wx kp st wNever := ⟨fun pins s σ H D I ⟨_, _, _, _, _, _, h, _⟩ => h.elim⟩
theorem imp_asgT {K : KW} {g : WG} {tg : TG} {f : WE} (hg : GOk K kp tg g) (D : Ends) (σ : St) (H : Hp) (h : tS K Wx kp (wAsgT g f) D σ H) : tAsg (tE K Wx f) tg D σ H := by
  obtain ⟨B, ρ, fp, Xd, E, w, hf, hn, hr, hb, hc, hx⟩ := h
  refine ⟨B, ρ, fp, Xd, _, w, hf, fun r ρ1 v B1 H1 h1 p1 => ?_, fun x ρ' c d B' H' h p => hx x σ ρ' c d B' H' h p.xs⟩
  obtain ⟨B2, p2⟩ := p1.share
  obtain ⟨fa, oa⟩ := p2.cont.one
  have rep : Rep K B2 v (r.tk ρ1).sh := oa.plain (sh_pl _)
  obtain ⟨f1, w1, k1, kx1⟩ := p2.stepG (kp := kp)
  exact hg σ B2 H1 _ f1 v _ _ _ w1 rep h1 fun σ' ρ' hp pg => hn σ' ρ' B2 H1 hp (k1 pg)
theorem pss_seq {f : Stmt → WS} (h : ∀ s, PFS X Wx kp s (f s)) : ∀ b : List Stmt, PFSs X Wx kp b (seqW f b)
  | [] => pss_imp pss_nil imp_next
  | [s] => pss_one (h s)
  | s :: t :: r => pss_imp (pss_cons (h s) (pss_seq h (t :: r))) imp_seq
theorem sw_not {e : Expr} {t : Option Expr} {l : Nat} {env : Env} (h : ¬ isCmp e = true) : swapsWith e t l env = pure false := by
  cases e <;> first | rfl | exact absurd rfl h
theorem sw_cell {elt : Expr} {gs : List Comprehension} {scope : Scope} {pos py : Pos} {y : Str} {l : Nat} {env : Env} (hy : env.scope.names.lookup y = some .cell) : swapsWith (.ListComp elt gs scope pos) (some (.Name y py)) l env = pure false := by
  have ky : env.kindOf y = some .cell := hy
  have e : (env.blockKind == .function && env.kindOf y == some .local && py.line == (Expr.ListComp elt gs scope pos).pos.line && !(scope.names.any fun (n, k) => n == y && (k == .local || k == .cell))) = false := by
    rw [ky]
    have : ((some NameKind.cell : Option NameKind) == some .local) = false := by decide
    rw [this]
    simp
  unfold swapsWith
  show (pure (env.blockKind == .function && env.kindOf y == some .local && py.line == (Expr.ListComp elt gs scope pos).pos.line && !(scope.names.any fun (n, k) => n == y && (k == .local || k == .cell))) : Sem Bool) = pure false
  rw [e]
theorem sws_not {e t : Expr} {l : Nat} {env : Env} (h : ¬ isCmp e = true) : swapsWithSole [t] e l env = pure false := sw_not (t := some t) h
theorem sto_not {es : List Expr} {k : Nat} {p : Pos} {e : Expr} {env : Env} (h : ¬ isTup e = true) : swappedStores [.Tuple es k p] e env = pure none := by
  cases e <;> first | rfl | exact absurd rfl h
theorem sto_not' {t e : Expr} {env : Env} (h : (match t with
    | .Tuple _ _ _ => false
    | .List _ _ => false
    | _ => true) = true) : swappedStores [t] e env = pure none := by
  cases t <;> first | rfl | cases h
theorem sub_asg {o i : Expr} {pos : Pos} {env : Env} (h : ¬ isSlc i = true) : ∀ v, assign (.Subscript o i pos) env v = (do
      let ov ← holding [v] (eval o env)
      let iv ← holding [v, ov] (eval i env)
      standAt pos
      holding [v, ov, iv] (setItem ov iv v)
      release [v, ov, iv] []) := by
  intro v
  cases i <;> first | rfl | exact absurd rfl h
theorem sub_aug {i : Expr} (h : ¬ isSlc i = true) : ∀ ov iv new, augStore i ov iv new = (do holding [new, ov, iv] (setItem ov iv new); release [new, ov, iv] []; pure .next) := by
  intro ov iv new
  cases i <;> first | rfl | exact absurd rfl h
theorem tgW_ok (k : SOk CX Wx X c) {tg : Expr} {g : WG} (h : tgW c tg = some g) : ∃ t, PG X tg t ∧ GOk X.kw c.kp t g := by
  have hN : X.N.Nodup := by rw [k.N]; exact k.nd
  unfold tgW at h
  split at h
  · rename_i own ct hct
    split at h
    · rename_i hk
      cases h
      have g : TgOk X own := fun q hq => by
        obtain ⟨h1, h2⟩ := ctOf_raw hct q hq
        rw [← k.N] at h1
        rw [← k.sc] at h2
        exact ⟨h1, h2, .inl (k.fn _)⟩
      refine ⟨_, pg_ct k.calm hN hct g, ?_⟩
      have kk : ∀ q ∈ own, q.2 ∉ c.kp := fun q hq => by
        have := List.all_eq_true.mp hk q hq
        simpa using this
      unfold ctOf at hct
      split at hct
      · split at hct
        · split at hct
          · cases hct
            exact gok_name (kk _ List.mem_cons_self)
          · cases hct
        · cases hct
      · split at hct
        · rename_i l hs
          have e1 : l = own := congrArg (·.1) (Option.some.inj hct)
          have e2 : CT.tup (l.map (·.2)) = ct := congrArg (·.2) (Option.some.inj hct)
          subst e1 e2
          exact gok_tup fun i hi => by
            obtain ⟨q, hq, e⟩ := List.mem_map.mp hi
            rw [← e]
            exact kk q hq
        · cases hct
      · cases hct
    · cases h
  · cases h
theorem ps_for' (k : SOk CX Wx X c) {rE : Expr → WE} {b : WS} {tg it : Expr} {bd : List Stmt} {pos : Pos} (hE : ∀ e, PF X Wx e (rE e)) (hb : PFSs X Wx c.kp bd b) : PFS X Wx c.kp (.For tg it bd [] pos) (forW rE c tg it b) := by
  have hN : X.N.Nodup := by rw [k.N]; exact k.nd
  have gen : ∀ {it : Expr}, ¬ isSet it = true → PFS X Wx c.kp (.For tg it bd [] pos) (match tgW c tg with
      | some g => wFor (rE it) g b
      | none => wNever) := fun {it} hs => by
    split
    · obtain ⟨t, h1, h2⟩ := tgW_ok k (by assumption)
      exact ps_imp (ps_for k.own k.calm (pi_seq (hE _)) h1 hb (nofold hs)) (imp_for h2)
    · exact ps_bad
  unfold forW
  split
  · split
    · split
      · exact ps_bad
      · rename_i hr hst
        obtain ⟨e, r1, r2⟩ := isRng_ok k.toCOk hr
        subst e
        split
        · split
          · rename_i hl
            split
            · rename_i i hi
              split
              · exact ps_bad
              · rename_i hk
                exact ps_imp (ps_for k.own k.calm (pi_range1 r1 r2 (pfa_args hE _) (star1 hst)) (pg_name hN (k.slot hi) (by rw [k.sc]; exact locB_ok hl) (.inl (k.fn _))) hb (nofold (by exact Bool.false_ne_true))) (imp_rng1 hk)
            · exact ps_bad
          · exact ps_bad
        · exact ps_bad
    · exact gen (by exact Bool.false_ne_true)
  · split
    · split
      · exact ps_bad
      · rename_i f p a a' q hr hst
        obtain ⟨e, r1, r2⟩ := isRng_ok k.toCOk hr
        subst e
        have hst : ¬ isStar a = true ∧ ¬ isStar a' = true := by simpa using hst
        split
        · split
          · rename_i hl
            split
            · rename_i i hi
              split
              · exact ps_bad
              · rename_i hk
                exact ps_imp (ps_for k.own k.calm (pi_range2 r1 r2 (pfa_args hE _) (by rw [nostar hst.1, star1 hst.2]) (star1 hst.2)) (pg_name hN (k.slot hi) (by rw [k.sc]; exact locB_ok hl) (.inl (k.fn _))) hb (nofold (by exact Bool.false_ne_true))) (imp_rng2 hk)
            · exact ps_bad
          · exact ps_bad
        · exact ps_bad
    · exact gen (by exact Bool.false_ne_true)
  · split
    · exact ps_bad
    · exact gen (by assumption)
theorem ps_asgN (k : SOk CX Wx X c) {rE : DCtx → Expr → WE} (hE : ∀ {Wx : WX} {X : Cx} {c : DCtx}, COk CX Wx X c → ∀ e, PF X Wx e (rE c e))
    (hL : ∀ {elt tg iter : Expr} {ifs : List Expr} {scope : Scope} {pos : Pos} (P : WE → Prop), P wBad → (∀ (own : List (Str × Nat)) (wi : TI) (g : TG) (tt : TT) (te : TE) (w : WE), PI X tg iter wi → (∀ x, foldedSetIterable iter X.env x = pure x) → BlkOk X.N X.env.scope scope own →
      (∀ (s : Shared) (H : Hp) (C : Addr) (cl : List (Str × Addr)) (fp : List Addr), PG (X.blk s H scope (compEnvC scope cl C X.env) fp) tg g) → (∀ (s : Shared) (H : Hp) (C : Addr) (cl : List (Str × Addr)) (fp : List Addr), PTs (X.blk s H scope (compEnvC scope cl C X.env) fp) ifs tt) →
      (∀ (s : Shared) (H : Hp) (C : Addr) (cl : List (Str × Addr)) (fp : List Addr), PE (X.blk s H scope (compEnvC scope cl C X.env) fp) elt te) → (∀ σ H Q, tE X.kw Wx w σ H Q → tLc wi g tt te (own.map (·.2)) σ H Q) → P w) → P (rE c (.ListComp elt [⟨tg, iter, ifs, 0⟩] scope pos)))
    {x : Str} {px pos : Pos} {e : Expr} : PFS X Wx c.kp (.Assign [.Name x px] e pos) (asgN rE c x px e) := by
  have hN : X.N.Nodup := by rw [k.N]; exact k.nd
  unfold asgN
  split
  · rename_i hl
    split
    · rename_i i hi
      split
      · exact ps_bad
      rename_i hk
      split
      · split
        · rename_i elt tg iter ifs scope p hb
          rw [Bool.and_eq_true, Bool.and_eq_true, Bool.and_eq_true, decide_eq_true_eq] at hb
          obtain ⟨⟨⟨b1, b2⟩, b3⟩, b4⟩ := hb
          have kf : X.env.scope.kind = .function := by
            rw [k.sc]
            unfold isFnK at b2
            split at b2
            · assumption
            · cases b2
          have bl : X.env.scope.names.lookup x = some .local := by rw [k.sc]; exact b1
          refine hL (fun w => PFS X Wx c.kp (.Assign [.Name x px] (.ListComp elt [⟨tg, iter, ifs, 0⟩] scope p) pos) (wAsg i w)) ?_ fun own wi g tt te w hi' hs ok h1 h2 h3 im => ?_
          · exact ⟨fun pins s σ H D I ⟨_, _, _, _, _, _, h, _⟩ => h.elim⟩
          · refine ps_imp (ps_setLc k.calm hN (k.slot hi) bl (sw_true kf bl b3 (by simpa [ownIn] using b4)) hi' ok h1 h2 h3 hs) fun D σ H h => ?_
            exact im σ H _ (imp_asg hk D σ H h)
        · split
          · rename_i hcell
            exact ps_imp (ps_set hN (k.slot hi) (by rw [k.sc]; exact locB_ok hl) (hE k.toCOk _) (sw_cell (by rw [k.sc]; exact hcell)) (.inl (k.fn _))) (imp_asg hk)
          · exact ps_bad
      · split
        · exact ps_bad
        · rename_i hcmp
          exact ps_imp (ps_set hN (k.slot hi) (by rw [k.sc]; exact locB_ok hl) (hE k.toCOk _) (sw_not hcmp) (.inl (k.fn _))) (imp_asg hk)
    · exact ps_bad
  · exact ps_bad
end
end FL
namespace FL
open PySem PySem.Spec PyProof.Rows L2
section
variable {CX : CXT} {X : Cx} {Wx : WX} {c : DCtx}
theorem stepS_ok (k : SOk CX Wx X c) (n : Nat) {rS : DCtx → Stmt → WS} (hS : ∀ {c : DCtx}, SOk CX Wx X c → ∀ s, PFS X Wx c.kp s (rS c s)) (s : Stmt) :
    PFS X Wx c.kp s (stepS (denE n) (denT n) rS c s) := by
  have hN : X.N.Nodup := by rw [k.N]; exact k.nd
  have hE : ∀ {Wx : WX} {X : Cx} {c : DCtx}, COk CX Wx X c → ∀ e, PF X Wx e (denE n c e) := (den_ok n).1
  have hT : ∀ {Wx : WX} {X : Cx} {c : DCtx}, COk CX Wx X c → ∀ e, PFT X Wx e (denT n c e) := (den_ok n).2
  unfold stepS
  split
  · exact ps_imp ps_pass imp_next
  · exact ps_imp ps_break imp_break
  · exact ps_imp ps_continue imp_cont
  · exact ps_imp ps_retN imp_retN
  · exact ps_imp (ps_ret (hE k.toCOk _)) imp_ret
  · exact ps_imp ps_doc imp_next
  · split
    · exact ps_bad
    · exact ps_imp (ps_expr (hE k.toCOk _) (sw_not (by assumption))) imp_expr
  · exact ps_imp (ps_if (hT k.toCOk _) (pss_seq (hS k) _) (pss_seq (hS k) _)) imp_if
  · exact ps_imp (ps_while k.own (hT k.toCOk _) (pss_seq (hS k) _)) imp_while
  · exact ps_for' k (hE k.toCOk) (pss_seq (hS k) _)
  · refine ps_asgN k hE ?_
    intro elt tg iter ifs scope pos P bad good
    cases n with
    | zero => exact bad
    | succ n => exact lc_use k.toCOk (den_ok n).1 (den_ok n).2 P bad good
  · split
    · exact ps_bad
    · rename_i es kk p e q h
      have h : ¬ isTup e = true ∧ ¬ isCmp e = true := by simpa using h
      split
      · obtain ⟨t, h1, h2⟩ := tgW_ok k (by assumption)
        exact ps_imp (ps_asg (hE k.toCOk _) h1 (sws_not h.2) (sto_not h.1) rfl) (imp_asgT h2)
      · exact ps_bad
  · split
    · exact ps_bad
    · rename_i x p i q e r h
      have h : (¬ magic x = true ∧ ¬ isSlc i = true) ∧ ¬ isCmp e = true := by simpa using h
      split
      · rename_i hv
        split
        · rename_i j hj
          obtain ⟨m1, m2⟩ := magic_db h.1.1
          have hx : PE X (.Name x p) (tVar j) := pe_var (k.slot hj) (k.vis hv) m1 m2
          exact ps_imp (ps_asg (pf_shW (c := c) (hE k.toCOk e)) (pg_sub hx (hE k.toCOk i) set_list (sub_asg h.1.2)) (sws_not h.2) (sto_not' (by rfl)) rfl) imp_setIx
        · exact ps_bad
      · exact ps_bad
  · split
    · exact ps_bad
    · rename_i x p f q e r h
      have h : ¬ magic x = true ∧ ¬ isCmp e = true := by simpa using h
      split
      · rename_i hv
        split
        · rename_i j hj
          obtain ⟨m1, m2⟩ := magic_db h.1
          have hx : PE X (.Name x p) (tVar j) := pe_var (k.slot hj) (k.vis hv) m1 m2
          exact ps_imp (ps_fld hx (hE k.toCOk e) (sw_not h.2)) (imp_setFld k.ct)
        · exact ps_bad
      · exact ps_bad
  · split
    · rename_i x p op e q hl
      split
      · rename_i j hj
        split
        · exact ps_bad
        · rename_i hk
          obtain ⟨r, a1, a2⟩ := aug_ok (X := X) op
          exact ps_imp (ps_aug hN (k.slot hj) (by rw [k.sc]; exact locB_ok hl) (hE k.toCOk e) a1 (.inl (k.fn _))) (imp_aug a2 hk)
      · exact ps_bad
    · exact ps_bad
  · split
    · exact ps_bad
    · rename_i x p i q op e r h
      have h : ¬ magic x = true ∧ ¬ isSlc i = true := by simpa using h
      split
      · rename_i hv
        split
        · rename_i j hj
          obtain ⟨m1, m2⟩ := magic_db h.1
          have hx : PE X (.Name x p) (tVar j) := pe_var (k.slot hj) (k.vis hv) m1 m2
          obtain ⟨r, a1, a2⟩ := aug_ok (X := X) op
          exact ps_imp (ps_augS hx (hE k.toCOk i) pget_list (hE k.toCOk e) a1 set_list (sub_aug h.2)) (imp_augIx a2)
        · exact ps_bad
      · exact ps_bad
  · exact ps_bad
theorem denS_ok : ∀ n : Nat, ∀ {c : DCtx}, SOk CX Wx X c → ∀ s, PFS X Wx c.kp s (denS n c s)
  | 0, _, _, _ => ps_bad
  | n + 1, _, k, s => stepS_ok k n (fun k s => denS_ok n k s) s
theorem denB_ok (k : SOk CX Wx X c) (n : Nat) (b : List Stmt) : PFSs X Wx c.kp b (denB n c b) := pss_seq (denS_ok n k) b
end
end FL

end
section
set_option maxHeartbeats 1000000
/-! FL18: defs keep what their texts say; the head's facts; the end. -/
namespace FL
open PySem PySem.Spec PyProof.Rows L2

structure FOk (CX : CXT) (P : Program) (w : World) (K : PySem.W.Frag) (mg : Str → Option Value) (base : Heap) (c : DCtx) : Prop where
  fns : ∀ x d, c.fns.lookup x = some d → ∃ k f fd ps, k ≤ c.lv ∧ FnOk P w K mg base CX k f fd ps (spD ⟨K, w⟩ d.F d.ks.length) ∧ mg x = some (.ref f) ∧ PySem.W.keepIn K (.ref f) = true ∧ Binds K fd ps []
  kws : ∀ x ns m d, c.kws.lookup x = some (ns, m, d) → ∃ k f fd ps, k ≤ c.lv ∧ FnOk P w K mg base CX k f fd ps (spD ⟨K, w⟩ d.F d.ks.length) ∧ mg x = some (.ref f) ∧ PySem.W.keepIn K (.ref f) = true ∧ KBinds K fd ps ns (gK m) (gK m)
  mks : ∀ x d, c.mks.lookup x = some d → ∃ k f fd ps, k + 1 ≤ c.lv ∧ Mk K (He.ga K x) f ∧ FnOk P w K mg base CX k f fd ps (spD ⟨K, w⟩ d.F (d.ks.length + 1)) ∧ mg x = some (.ref (He.ga K x)) ∧ Binds K fd ps []
  glb : ∀ x d, c.glb.lookup x = some d → ∃ v u, mg x = some u ∧ RelV v u ∧ ∀ B, Rep ⟨K, w⟩ B v d
  fr : ∀ x, x ∈ c.fr → mg x = none
  ct : CTabOk ⟨K, w⟩ c.ct
  mth : ∀ m C d, c.ow.mth.lookup m = some (C, d) → ∃ k f fd ps, k + 1 ≤ c.lv ∧ FnOk P w K mg base CX k f fd ps (spD ⟨K, w⟩ d.F d.ks.length) ∧ Dun K (He.ga K C) m f ∧ Cls K (He.ga K C) ∧ Binds K fd ps []
  nne : ∀ C d, c.ow.mth.lookup ("__eq__" : Str) = some (C, d) → NoNe K (He.ga K C)
  isc : IscOk ⟨K, w⟩ c.ow.isc
  bfn : ∀ x id, c.ow.bfn.lookup x = some id → mg x = some (.builtin id)
section
variable {P : Program} {w : World} {K : PySem.W.Frag} {mg : Str → Option Value} {base : Heap} {x qual : Str} {params : Arguments} {body : List Stmt} {scope : Scope} {dvs : List V} {kws : List (Str × V)} {f : Addr} {fd : FuncData}
theorem fn_ok0 (F : FunD K x qual params body scope dvs kws f fd) {N ps : List Str} (S : FnScope N ps scope) {c : DCtx} {n : Nat} (hN : c.N = N) (hs : c.sc = scope) (ok : FOk CX0 P w K mg base c) :
    FnOk P w K mg base CX0 (c.lv + 1) f fd ps (spD ⟨K, w⟩ (wFn ps.length N.length c.kp (denB n c body)) ps.length) := by
  refine F.ok S (fun vs H Q E h => h.1) fun cdv A outer s H vs Q E hr h => ⟨_, PSs.nox (denB_ok (CX := CX0) (Wx := fun c d _ H' => E c d H') (X := (cxOf CX0 P w K mg base N qual scope f cdv A outer s H E).nox) (c := c) ⟨⟨hN.symm, by rw [hN]; exact S.nd, hs.symm, rfl, hr, ok.fns, ok.kws, ok.mks, ok.glb, ok.fr, ok.ct, ok.mth, ok.nne, ok.isc, ok.bfn, ⟨E, pass0, fun _ _ _ _ => Iff.rfl⟩, fun _ _ _ _ _ h => h⟩, fun _ => rfl, PassesOwn.never⟩ n body), fn_body h⟩
theorem fn_none {CX : CXT} {k n : Nat} {ps : List Str} (h : ps.length = n) : FnOk P w K mg base CX k f fd ps (spD ⟨K, w⟩ (fun _ _ _ => False) n) :=
  ⟨fun vs H Q E h2 => by rw [h2.1, h], fun A outer s H args us vs Q E _ _ _ _ h => by
    obtain ⟨_, _, _, _, _, _, _, z, _⟩ := h
    exact z.elim⟩
/-- a weaker promise by data -/
theorem spD_imp {K : KW} {F F' : WF} {n : Nat} {vs : List V} {H : Hp} {Q : VK} {E : XK} (i : ∀ X ds P, F' X ds P → F X ds P) (h : spD K F' n vs H Q E) : spD K F n vs H Q E := by
  obtain ⟨h1, B, ds, fp, X, P, w, h2, h3⟩ := h
  exact ⟨h1, B, ds, fp, X, P, w, i _ _ _ h2, h3⟩
/-- the end: the law's own promise -/
theorem law_sp {F : WF} {H : Hp} {a : Addr} {ns : List Int} {E : XK} (hS : SqL K H a (ns.map V.int)) (h : F (fun _ _ => False) [.flst (ns.map D.int)] fun d _ => d = .bl true) :
    spD ⟨K, w⟩ F 1 [.ref a] H (fun v _ => v = .bl true) E := by
  refine ⟨rfl, H, _, [], _, _, ⟨Ex.refl H, .cons (f1 := []) (f2 := []) (.sh (.flst hS (Reps.of_ints ns))) .nil rfl, List.nodup_nil⟩, h, fun d ds' v B' H' e p => ?_, fun _ _ _ _ _ _ z _ => z.elim⟩
  obtain ⟨fa, oa⟩ := p.cont.one
  have oa : OS ⟨K, w⟩ B' H' (some v) d fa := oa
  rw [e] at oa
  exact oa.bl_of
end

/-! ### what stands at the module's names -/
/-- a value that is no object -/
def flB : D → Value → Bool
  | .non, .none => true
  | .bl b, .bool c => b == c
  | .int i, .int j _ => decide (i = j)
  | .str x, .str y _ => decide (x = y)
  | .ty n, .type m => decide (n = m)
  | _, _ => false
mutual
def gvB (K : PySem.W.Frag) : D → Value → Bool
  | .tup ds, .ref a => (match K.lookup a with
    | some ⟨.type c, _, .seq its n, _⟩ => decide (c = "tuple") && (decide (its.size ≤ sizeLine) && gvBs K ds its.toList)
    | _ => false)
  | .non, .none => true
  | .bl b, .bool c => b == c
  | .int i, .int j _ => decide (i = j)
  | .str x, .str y _ => decide (x = y)
  | .ty n, .type m => decide (n = m)
  | .cls C, .ref a => decide (a = He.ga K C)
  | _, _ => false
def gvBs (K : PySem.W.Frag) : List D → List Value → Bool
  | [], [] => true
  | d :: ds, v :: vs => gvB K d v && gvBs K ds vs
  | _, _ => false
end
mutual
theorem gvB_ok {K : KW} : ∀ {d : D} {u : Value}, gvB K.F d u = true → ∃ v, RelV v u ∧ ∀ B, Rep K B v d
  | .non, u, h => by cases u <;> first | exact ⟨.non, rfl, fun _ => .non⟩ | cases h
  | .bl b, u, h => by
    cases u <;> first | (cases h; done) | skip
    rename_i c
    have e : b = c := eq_of_beq h
    subst e
    exact ⟨.bl b, rfl, fun _ => .bl⟩
  | .int i, u, h => by
    cases u <;> first | (cases h; done) | skip
    rename_i c t
    have e : i = c := of_decide_eq_true h
    subst e
    exact ⟨.int i, ⟨t, rfl⟩, fun _ => .int⟩
  | .str x, u, h => by
    cases u <;> first | (cases h; done) | skip
    rename_i c t
    have e : x = c := of_decide_eq_true h
    subst e
    exact ⟨.str x, ⟨t, rfl⟩, fun _ => .str⟩
  | .ty x, u, h => by
    cases u <;> first | (cases h; done) | skip
    rename_i c
    have e : x = c := of_decide_eq_true h
    subst e
    exact ⟨.ty x, rfl, fun _ => .ty⟩
  | .cls C, u, h => by
    cases u <;> first | (cases h; done) | skip
    rename_i a
    have e : a = He.ga K.F C := of_decide_eq_true h
    subst e
    exact ⟨.ref _, rfl, fun _ => .cls⟩
  | .tup ds, u, h => by
    cases u <;> first | (cases h; done) | skip
    rename_i a
    have h : (match K.F.lookup a with
      | some ⟨.type c, _, .seq its n, _⟩ => decide (c = "tuple") && (decide (its.size ≤ sizeLine) && gvBs K.F ds its.toList)
      | _ => false) = true := h
    split at h
    · rename_i c od its n sl e
      rw [Bool.and_eq_true, Bool.and_eq_true, decide_eq_true_eq, decide_eq_true_eq] at h
      obtain ⟨h1, h2, h3⟩ := h
      subst h1
      obtain ⟨vs, r, rs⟩ := gvBs_ok h3
      exact ⟨.ref a, rfl, fun B => .tup (.inr ⟨_, its, n, e, rfl, rfl, h2, r⟩) (rs B)⟩
    · cases h
  | .und, u, h => by cases u <;> cases h
  | .lst _, u, h => by cases u <;> cases h
  | .flst _, u, h => by cases u <;> cases h
  | .own _, u, h => by cases u <;> cases h
  | .ins _ _ _, u, h => by cases u <;> cases h
  | .oins _ _ _, u, h => by cases u <;> cases h
  | .kd _ _, u, h => by cases u <;> cases h
theorem gvBs_ok {K : KW} : ∀ {ds : List D} {us : List Value}, gvBs K.F ds us = true → ∃ vs, Vals vs us ∧ ∀ B, Reps K B vs ds
  | [], us, h => by
    cases us with
    | nil => exact ⟨[], .nil, fun _ => .nil⟩
    | cons => cases h
  | d :: ds, us, h => by
    cases us with
    | nil => cases h
    | cons u us =>
      have h : (gvB K.F d u && gvBs K.F ds us) = true := h
      rw [Bool.and_eq_true] at h
      obtain ⟨v, r, a⟩ := gvB_ok h.1
      obtain ⟨vs, rs, as⟩ := gvBs_ok h.2
      exact ⟨v :: vs, .cons r rs, fun B => .cons (a B) (as B)⟩
end
/-- the names of c that are values -/
def glB1 (K : PySem.W.Frag) (q : Str × D) : Bool := match PySem.W.nsIn K mainGlobals q.1 with
  | some (some u) => (match q.2 with
    | .kd x kvs => decide (u = .ref (He.ga K x)) && (match K.lookup (He.ga K x) with
      | some ⟨_, _, .dict es _, _⟩ => decide (es.toList.map (fun e => (He.keyOf e).map (·.1)) = kvs.map fun p => some p.1) && gvBs K (kvs.map (·.2)) (es.toList.map (·.val)) && !(es.toList.any (·.refKey))
      | _ => false)
    | d => gvB K d u)
  | _ => false
theorem kd_find {z : Str} : ∀ {es : List DictEntry} {kvs : List (Str × D)} {vs : List V}, es.map (fun e => (He.keyOf e).map (·.1)) = kvs.map (fun p => some p.1) → Vals vs (es.map (·.val)) →
    match (kvs.map (·.1)).findIdx? (· == z) with
      | none => es.find? (·.key.isStr z) = none
      | some i => ∃ e v, es.find? (·.key.isStr z) = some e ∧ vs[i]? = some v ∧ RelV v e.val
  | [], [], vs, _, _ => rfl
  | [], _ :: _, _, h, _ => by cases h
  | _ :: _, [], _, h, _ => by cases h
  | e :: es, (k, d) :: kvs, vs, h, r => by
    have h1 : (He.keyOf e).map (·.1) = some k := (List.cons.inj h).1
    have h2 := (List.cons.inj h).2
    have ek : ∃ t, e.key = .str k t := by
      unfold He.keyOf at h1
      split at h1
      · rename_i x t q
        have : x = k := Option.some.inj h1
        exact ⟨t, by rw [q, this]⟩
      · cases h1
    obtain ⟨t, ek⟩ := ek
    cases r with
    | @cons v u vs us r1 r2 =>
      have ih := kd_find (z := z) h2 r2
      have es1 : e.key.isStr z = (k == z) := by rw [ek]; rfl
      rw [List.map_cons, List.findIdx?_cons, List.find?_cons, es1]
      show (match (if (k == z) = true then some 0 else _) with
        | none => _
        | some i => _)
      cases c : (k == z) with
      | true => exact ⟨e, v, rfl, rfl, r1⟩
      | false =>
        rw [if_neg Bool.false_ne_true]
        cases q : List.findIdx? (· == z) (kvs.map (·.1)) with
        | none =>
          rw [q] at ih
          exact ih
        | some i =>
          rw [q] at ih
          obtain ⟨e2, v2, a1, a2, a3⟩ := ih
          exact ⟨e2, v2, a1, by simpa using a2, a3⟩
theorem glB1_ok {K : KW} {q : Str × D} (h : glB1 K.F q = true) (hk : ∀ x kvs, q.2 = .kd x kvs → ∃ es n, KDict K.F K.w (He.ga K.F x) es n) {hp : Heap} {mg : Str → Option Value} (X : K.F.In hp) (G : hp.Ns mainGlobals mg) :
    ∃ v u, mg q.1 = some u ∧ RelV v u ∧ ∀ B, Rep K B v q.2 := by
  obtain ⟨x, d⟩ := q
  unfold glB1 at h
  cases e : PySem.W.nsIn K.F mainGlobals x with
  | none => simp [e] at h
  | some o =>
    cases o with
    | none => simp [e] at h
    | some u =>
      have m := PySem.W.mg_of X G e
      have gen : gvB K.F d u = true → ∃ v u, mg x = some u ∧ RelV v u ∧ ∀ B, Rep K B v d := fun g => by
        obtain ⟨v, a, b⟩ := gvB_ok g
        exact ⟨v, u, m, a, b⟩
      cases d with
      | kd y kvs =>
        obtain ⟨es, n, D⟩ := hk y kvs rfl
        simp only [e, D.at_, Bool.and_eq_true, decide_eq_true_eq] at h
        obtain ⟨h1, ⟨h2, h3⟩, h4⟩ := h
        obtain ⟨vs, r, rs⟩ := gvBs_ok h3
        refine ⟨.ref _, u, m, h1, fun B => .kd D ⟨?_, fun z => ?_⟩ (rs B)⟩
        · rw [r.length, List.length_map]
          have := congrArg List.length h2
          simpa using this
        · have f := kd_find (z := z) h2 r
          have ns : PySem.W.nsIn K.F (He.ga K.F y) z = (match es.toList.find? (·.key.isStr z) with
              | some e => some (some e.val)
              | none => if es.toList.any (·.refKey) then none else some none) := by
            unfold PySem.W.nsIn
            rw [D.at_]
            rfl
          rw [ns]
          cases c : List.findIdx? (· == z) (kvs.map (·.1)) with
          | none =>
            rw [c] at f
            rw [f]
            simp at h4
            simp [h4]
          | some i =>
            rw [c] at f
            obtain ⟨e2, v, a1, a2, a3⟩ := f
            rw [a1]
            exact ⟨_, v, rfl, a2, a3⟩
      | _ =>
        simp only [e] at h
        exact gen h
end FL

end
section
set_option maxHeartbeats 1000000
/-! FL19: a law's names, its defs, what the head tells of them. -/
namespace FL
open PySem PySem.Spec PyProof.Rows L2

structure FLaw where
  frs : List Str
  gls : List Str
  cts : CTab
  mkn : List Str
  glb : List (Str × D)
  fn : List He.DefD
  mts : List (Str × Str) := []
  nne : List Str := []
  isc : List Str := []
  bfn : List (Str × String) := []
def tyNs : List String := ["NoneType", "bool", "int", "str", "list", "tuple"]
def iscB (K : PySem.W.Frag) (isc : List Str) : Bool := (isc.all fun C => (tyNs.all fun t => decide (PySem.W.kitOne K (.type t) (.ref (He.ga K C)) = some false)) && ((isc.all fun E => decide (PySem.W.kitOne K (.ref (He.ga K E)) (.ref (He.ga K C)) = some (decide (E = C)))) && (decide (PySem.W.findIn K (.ref (He.ga K C)) "__class__" = some (some (.builtin "object.__class__"))) && decide (PySem.W.mroIn K (He.ga K C) (.type "object") = some true)))) &&
  (isc.isEmpty || (decide (PySem.W.specialIn K (.builtin "object.__class__") "__get__" = some (some (.builtin "getset_descriptor.__get__"))) && decide (PySem.W.takesIn K (.builtin "object.__class__") = some true)))
def bfnB (K : PySem.W.Frag) (q : Str × String) : Bool := match PySem.W.nsIn K mainGlobals q.1 with
  | some (some (.builtin id)) => decide (id = q.2)
  | _ => false
def nneB (K : PySem.W.Frag) (C : Str) : Bool := decide (PySem.W.findIn K (.ref (He.ga K C)) "__ne__" = some (some (.builtin "object.__ne__"))) && decide (PySem.W.mroIn K (He.ga K C) (.type "object") = some true)
namespace FLaw
def fa (L : FLaw) : List He.Fa := L.frs.map .free ++ (L.gls.map .glo ++ (L.cts.map (fun q => .cls q.1) ++ (L.cts.flatMap (fun q => q.2.map (.noat q.1)) ++ (L.mkn.map .mkr ++ (L.mts.map (fun q => .meth q.1 q.2) ++ L.isc.map .cls)))))
def ts (L : FLaw) : List He.Tab := L.glb.filterMap fun q => match q.2 with
  | .kd x kvs => some (fun K => He.ga K x, kvs.map (·.1))
  | _ => none
def ex (L : FLaw) (K : PySem.W.Frag) : Bool := L.glb.all (glB1 K) && ((L.mts.all fun q => PySem.W.selfFirst K (He.ga K q.1)) && (iscB K L.isc && (L.bfn.all (bfnB K) && L.nne.all (nneB K))))
end FLaw
structure Hd (L : FLaw) (w : World) (K : PySem.W.Frag) (mg : Str → Option Value) (base : Heap) : Prop where
  says : ∃ h, He.SaysX L.fa L.fn L.ts [] L.ex w h K
  kin : K.In base
  ns : base.Ns mainGlobals mg
section
variable {L : FLaw} {P : Program} {w : World} {K : PySem.W.Frag} {mg : Str → Option Value} {base : Heap}
theorem Hd.d (h : Hd L w K mg base) : He.SaysD L.fa L.fn K := by
  obtain ⟨_, s⟩ := h.says
  exact s.t.d
theorem Hd.free (h : Hd L w K mg base) {x : Str} (hx : x ∈ L.frs) : mg x = none :=
  He.free_ok h.kin h.ns (h.d.facts (List.mem_append_left _ (List.mem_map.mpr ⟨x, hx, rfl⟩)))
theorem Hd.glo (h : Hd L w K mg base) {x : Str} (hx : x ∈ L.gls) : mg x = some (.ref (He.ga K x)) :=
  He.glo_ok h.kin h.ns (h.d.facts (List.mem_append_right _ (List.mem_append_left _ (List.mem_map.mpr ⟨x, hx, rfl⟩))))
theorem Hd.ct (h : Hd L w K mg base) : CTabOk ⟨K, w⟩ L.cts := fun q hq =>
  ⟨He.cls_ok (h.d.facts (List.mem_append_right _ (List.mem_append_right _ (List.mem_append_left _ (List.mem_map.mpr ⟨q, hq, rfl⟩))))), fun f hf =>
    He.noat_ok (h.d.facts (List.mem_append_right _ (List.mem_append_right _ (List.mem_append_right _ (List.mem_append_left _ (List.mem_flatMap.mpr ⟨q, hq, List.mem_map.mpr ⟨f, hf, rfl⟩⟩))))))⟩
theorem Hd.mkr (h : Hd L w K mg base) {x : Str} (hx : x ∈ L.mkn) : Mk K (He.ga K x) (He.ma K (He.ga K x) "__init__") :=
  He.mkr_ok (h.d.facts (List.mem_append_right _ (List.mem_append_right _ (List.mem_append_right _ (List.mem_append_right _ (List.mem_append_left _ (List.mem_map.mpr ⟨x, hx, rfl⟩)))))))
theorem Hd.ex (h : Hd L w K mg base) : L.glb.all (glB1 K) = true ∧ (L.mts.all fun q => PySem.W.selfFirst K (He.ga K q.1)) = true ∧ iscB K L.isc = true ∧ L.bfn.all (bfnB K) = true ∧ L.nne.all (nneB K) = true := by
  obtain ⟨hp, s⟩ := h.says
  have e : (L.glb.all (glB1 K) && ((L.mts.all fun q => PySem.W.selfFirst K (He.ga K q.1)) && (iscB K L.isc && (L.bfn.all (bfnB K) && L.nne.all (nneB K))))) = true := s.more
  simp only [Bool.and_eq_true] at e
  exact e
theorem Hd.clsI (h : Hd L w K mg base) {C : Str} (hC : C ∈ L.isc) : Cls K (He.ga K C) :=
  He.cls_ok (h.d.facts (List.mem_append_right _ (List.mem_append_right _ (List.mem_append_right _ (List.mem_append_right _ (List.mem_append_right _ (List.mem_append_right _ (List.mem_map.mpr ⟨C, hC, rfl⟩))))))))
theorem Hd.dun (h : Hd L w K mg base) {C m : Str} (hm : (C, m) ∈ L.mts) : Dun K (He.ga K C) m (He.ma K (He.ga K C) m) :=
  { He.meth_ok (h.d.facts (List.mem_append_right _ (List.mem_append_right _ (List.mem_append_right _ (List.mem_append_right _ (List.mem_append_right _ (List.mem_append_left _ (List.mem_map.mpr ⟨(C, m), hm, rfl⟩)))))))) with sf := List.all_eq_true.mp h.ex.2.1 _ hm }
theorem Hd.isc (h : Hd L w K mg base) : IscOk ⟨K, w⟩ L.isc := by
  have e := h.ex.2.2.1
  unfold iscB at e
  rw [Bool.and_eq_true, List.all_eq_true] at e
  obtain ⟨e1, e2⟩ := e
  have e1 : ∀ C ∈ L.isc, (∀ t ∈ tyNs, PySem.W.kitOne K (.type t) (.ref (He.ga K C)) = some false) ∧ (∀ E ∈ L.isc, PySem.W.kitOne K (.ref (He.ga K E)) (.ref (He.ga K C)) = some (decide (E = C))) ∧ PySem.W.findIn K (.ref (He.ga K C)) "__class__" = some (some (.builtin "object.__class__")) ∧ PySem.W.mroIn K (He.ga K C) (.type "object") = some true := fun C hC => by
    have z := e1 C hC
    simp only [Bool.and_eq_true, List.all_eq_true, decide_eq_true_eq] at z
    exact z
  have e2 : L.isc ≠ [] → PySem.W.specialIn K (.builtin "object.__class__") "__get__" = some (some (.builtin "getset_descriptor.__get__")) ∧ PySem.W.takesIn K (.builtin "object.__class__") = some true := fun hn => by
    rw [Bool.or_eq_true, Bool.and_eq_true, decide_eq_true_eq, decide_eq_true_eq] at e2
    rcases e2 with z | z
    · exact absurd (List.isEmpty_iff.mp z) hn
    · exact z
  exact ⟨fun C hC => (e1 C hC).1, fun C hC => (e1 C hC).2.1, fun C hC => h.clsI hC, fun C hC => (e1 C hC).2.2.1, fun hn => (e2 hn).1, fun hn => (e2 hn).2, fun C hC => (e1 C hC).2.2.2⟩
theorem Hd.nne (h : Hd L w K mg base) {C : Str} (hC : C ∈ L.nne) : NoNe K (He.ga K C) := by
  have z := List.all_eq_true.mp h.ex.2.2.2.2 C hC
  unfold nneB at z
  rw [Bool.and_eq_true, decide_eq_true_eq, decide_eq_true_eq] at z
  exact ⟨z.1, z.2⟩
theorem Hd.bfn (h : Hd L w K mg base) {q : Str × String} (hq : q ∈ L.bfn) : mg q.1 = some (.builtin q.2) := by
  have z := List.all_eq_true.mp h.ex.2.2.2.1 q hq
  unfold bfnB at z
  split at z
  · rename_i id e
    rw [decide_eq_true_eq] at z
    subst z
    exact PySem.W.mg_of h.kin h.ns e
  · cases z
theorem Hd.glb (h : Hd L w K mg base) {q : Str × D} (hq : q ∈ L.glb) : ∃ v u, mg q.1 = some u ∧ RelV v u ∧ ∀ B, Rep ⟨K, w⟩ B v q.2 := by
  obtain ⟨hp, s⟩ := h.says
  refine glB1_ok (K := ⟨K, w⟩) (List.all_eq_true.mp h.ex.1 q hq) (fun x kvs e => ?_) h.kin h.ns
  have m : ((fun K => He.ga K x, kvs.map (·.1)) : He.Tab) ∈ L.ts := List.mem_filterMap.mpr ⟨q, hq, by rw [e]⟩
  obtain ⟨i, hi, e2⟩ := List.mem_iff_getElem.mp m
  exact s.t.tab i (t := (fun K => He.ga K x, kvs.map (·.1))) (by rw [List.getElem?_eq_getElem hi, e2])
theorem Hd.fd (h : Hd L w K mg base) (i : Nat) {d : He.DefD} (hd : L.fn[i]? = some d) : ∃ fd, FunD K d.name d.qual d.params d.body d.scope (d.dvs K) (d.kws K) (He.fAd K d.at_) fd := h.d.def_ i hd

/-! ### what a caller leans on -/
abbrev FnI (P : Program) (w : World) (K : PySem.W.Frag) (mg : Str → Option Value) (base : Heap) (lv : Nat) (q : Str × DF) : Prop :=
  ∃ k f fd ps, k ≤ lv ∧ FnOk P w K mg base CX0 k f fd ps (spD ⟨K, w⟩ q.2.F q.2.ks.length) ∧ mg q.1 = some (.ref f) ∧ PySem.W.keepIn K (.ref f) = true ∧ Binds K fd ps []
abbrev KwI (P : Program) (w : World) (K : PySem.W.Frag) (mg : Str → Option Value) (base : Heap) (lv : Nat) (q : Str × List Str × Nat × DF) : Prop :=
  ∃ k f fd ps, k ≤ lv ∧ FnOk P w K mg base CX0 k f fd ps (spD ⟨K, w⟩ q.2.2.2.F q.2.2.2.ks.length) ∧ mg q.1 = some (.ref f) ∧ PySem.W.keepIn K (.ref f) = true ∧ KBinds K fd ps q.2.1 (gK q.2.2.1) (gK q.2.2.1)
abbrev MkI (P : Program) (w : World) (K : PySem.W.Frag) (mg : Str → Option Value) (base : Heap) (lv : Nat) (q : Str × DF) : Prop :=
  ∃ k f fd ps, k + 1 ≤ lv ∧ Mk K (He.ga K q.1) f ∧ FnOk P w K mg base CX0 k f fd ps (spD ⟨K, w⟩ q.2.F (q.2.ks.length + 1)) ∧ mg q.1 = some (.ref (He.ga K q.1)) ∧ Binds K fd ps []
abbrev MtI (P : Program) (w : World) (K : PySem.W.Frag) (mg : Str → Option Value) (base : Heap) (lv : Nat) (q : Str × Str × DF) : Prop :=
  ∃ k f fd ps, k + 1 ≤ lv ∧ FnOk P w K mg base CX0 k f fd ps (spD ⟨K, w⟩ q.2.2.F q.2.2.ks.length) ∧ Dun K (He.ga K q.2.1) q.1 f ∧ Cls K (He.ga K q.2.1) ∧ Binds K fd ps []
theorem MtI.up {a b : Nat} {q : Str × Str × DF} (h : MtI P w K mg base a q) (l : a ≤ b := by decide) : MtI P w K mg base b q := by
  obtain ⟨k, f, fd, ps, h1, h2⟩ := h
  exact ⟨k, f, fd, ps, Nat.le_trans h1 l, h2⟩
theorem FnI.up {a b : Nat} {q : Str × DF} (h : FnI P w K mg base a q) (l : a ≤ b := by decide) : FnI P w K mg base b q := by
  obtain ⟨k, f, fd, ps, h1, h2⟩ := h
  exact ⟨k, f, fd, ps, Nat.le_trans h1 l, h2⟩
theorem KwI.up {a b : Nat} {q : Str × List Str × Nat × DF} (h : KwI P w K mg base a q) (l : a ≤ b := by decide) : KwI P w K mg base b q := by
  obtain ⟨k, f, fd, ps, h1, h2⟩ := h
  exact ⟨k, f, fd, ps, Nat.le_trans h1 l, h2⟩
theorem MkI.up {a b : Nat} {q : Str × DF} (h : MkI P w K mg base a q) (l : a ≤ b := by decide) : MkI P w K mg base b q := by
  obtain ⟨k, f, fd, ps, h1, h2⟩ := h
  exact ⟨k, f, fd, ps, Nat.le_trans h1 l, h2⟩
theorem all_nil {α : Type} {p : α → Prop} : ∀ q ∈ ([] : List α), p q := fun _ h => nomatch h
theorem all_cons {α : Type} {p : α → Prop} {a : α} {l : List α} (h : p a) (t : ∀ q ∈ l, p q) : ∀ q ∈ a :: l, p q := fun q hq => (List.mem_cons.mp hq).elim (fun e => e ▸ h) (t q)
theorem lookup_all {α : Type} {p : Str × α → Prop} : ∀ {l : List (Str × α)}, (∀ q ∈ l, p q) → ∀ x d, l.lookup x = some d → p (x, d)
  | [], _, _, _, h => by cases h
  | (y, e) :: r, a, x, d, h => by
    rw [List.lookup_cons] at h
    cases c : x == y with
    | true =>
      rw [c] at h
      have e1 : e = d := Option.some.inj h
      rw [eq_of_beq c, ← e1]
      exact a _ List.mem_cons_self
    | false =>
      rw [c] at h
      exact lookup_all (fun q hq => a q (List.mem_cons_of_mem _ hq)) x d h
/-- a def's context within a law -/
def mkC (L : FLaw) (N : List Str) (sc : Scope) (kp : List Nat) (lv : Nat) (fns : List (Str × DF)) (kws : List (Str × List Str × Nat × DF)) (mks : List (Str × DF)) (shr : Bool) (mth : List (Str × Str × DF) := []) : DCtx :=
  { ow := { mth := mth, isc := L.isc, bfn := L.bfn }, N := N, sc := sc, kp := kp, lv := lv, fns := fns, kws := kws, mks := mks, glb := L.glb, fr := L.frs, ct := L.cts, shr := shr }
theorem Hd.fok (h : Hd L w K mg base) {N : List Str} {sc : Scope} {kp : List Nat} {lv : Nat} {fns : List (Str × DF)} {kws : List (Str × List Str × Nat × DF)} {mks : List (Str × DF)} {shr : Bool} {mth : List (Str × Str × DF)} (h1 : ∀ q ∈ fns, FnI P w K mg base lv q) (h2 : ∀ q ∈ kws, KwI P w K mg base lv q) (h3 : ∀ q ∈ mks, MkI P w K mg base lv q)
    (h4 : ∀ q ∈ mth, MtI P w K mg base lv q := by exact all_nil) (h5 : (mth.all fun q => !(q.1 == ("__eq__" : Str)) || L.nne.contains q.2.1) = true := by decide +kernel) : FOk CX0 P w K mg base (mkC L N sc kp lv fns kws mks shr mth) where
  fns := fun x d e => lookup_all (p := FnI P w K mg base lv) h1 x d e
  kws := fun x ns m d e => lookup_all (p := KwI P w K mg base lv) h2 x (ns, m, d) e
  mks := fun x d e => lookup_all (p := MkI P w K mg base lv) h3 x d e
  glb := fun x d e => lookup_all (p := fun q => ∃ v u, mg q.1 = some u ∧ RelV v u ∧ ∀ B, Rep ⟨K, w⟩ B v q.2) (fun q hq => h.glb hq) x d e
  fr := fun x hx => h.free hx
  ct := h.ct
  mth := fun m C d e => lookup_all (p := MtI P w K mg base lv) h4 m (C, d) e
  nne := fun C d e => h.nne (by
    have z := lookup_all (p := fun q => (!(q.1 == ("__eq__" : Str)) || L.nne.contains q.2.1) = true) (List.all_eq_true.mp h5) _ (C, d) e
    have z : (!((("__eq__" : Str)) == ("__eq__" : Str)) || L.nne.contains C) = true := z
    rw [beq_self_eq_true] at z
    simpa using z)
  isc := h.isc
  bfn := fun x id e => lookup_all (p := fun q => mg q.1 = some (.builtin q.2)) (fun q hq => h.bfn hq) x id e
theorem gK_vals {m : Nat} {vs : List V} {us : List Value} {zs : List V} {ws : List Value} (h : Vals vs us) (h2 : Vals zs ws) : Vals (gK m vs zs) (gK m us ws) := by
  unfold gK
  rw [h.length]
  split
  · exact h.append h2
  · exact .nil
theorem kbinds {x qual : Str} {params : Arguments} {body : List Stmt} {scope : Scope} {kws : List (Str × V)} {f : Addr} {fd : FuncData} (F : FunD K x qual params body scope [] kws f fd) {ps ns : List Str} {m j : Nat} (hl : ps.length = m + j) (hp : 0 < m + j)
    (h : ∀ (kV doc pm : Value) (an : Option Addr) (cdv ct : Value) (us ws : List Value), us.length = m → ws.length = j → bindArgs (PySem.W.fnOf x qual params body scope .none kV doc pm an cdv ct) ⟨us, ns.zip ws⟩ = pure (ps.zip (us ++ ws))) : KBinds K fd ps ns (gK m) (gK m) := by
  obtain ⟨oc, od, dV, kV, doc, pm, an, cdv, ct, osl, rfl, lk, hcd, hD, hK⟩ := F.ex
  rcases hD with ⟨_, rfl⟩ | ⟨e, _⟩
  · refine ⟨fun s us ws _ hg => ?_, gK_vals⟩
    by_cases c : us.length = m
    · have e : gK m us ws = us ++ ws := if_pos c
      rw [e] at hg ⊢
      rw [List.length_append, c, hl] at hg
      exact .of_eq (h kV doc pm an cdv ct us ws c (by omega))
    · have e : gK m us ws = [] := if_neg c
      rw [e, hl] at hg
      have hg : 0 = m + j := hg
      omega
  · exact absurd rfl e
end
end FL

end
section
set_option maxHeartbeats 1000000
/-! FL20: to go through a reading by simp; laws of the operations in plain terms. -/
namespace FL
open PySem PySem.Spec PyProof.Rows L2

/-- what comes behind a call: simp does not look into it (the second argument's type names the first) -/
inductive Tg {α : Type} (P : α) : Type
  | tg
def hid {α β : Type} (P : α → β → Prop) (_ : Tg P) (a : α) (b : β) : Prop := P a b
def _root_.FL.WEnds.th (E : WEnds) (n : List D → Prop) : WEnds := { E with nx := n }
def _root_.FL.WEnds.lp (E : WEnds) (n : List D → Prop) : WEnds := { E with nx := n, ct := n, bk := E.nx }
section
variable {E : WEnds} {n : List D → Prop}
@[simp ↓] theorem x_th1 : (E.th n).nx = n := rfl
@[simp ↓] theorem x_th2 : (E.th n).rt = E.rt := rfl
@[simp ↓] theorem x_th3 : (E.th n).bk = E.bk := rfl
@[simp ↓] theorem x_th4 : (E.th n).ct = E.ct := rfl
@[simp ↓] theorem x_lp1 : (E.lp n).nx = n := rfl
@[simp ↓] theorem x_lp2 : (E.lp n).rt = E.rt := rfl
@[simp ↓] theorem x_lp3 : (E.lp n).bk = E.nx := rfl
@[simp ↓] theorem x_lp4 : (E.lp n).ct = n := rfl
end
def hid1 {α : Type} (P : α → Prop) (_ : Tg P) (a : α) : Prop := P a
@[simp ↓] theorem x_hid1 {α : Type} {P : α → Prop} {t : Tg P} {a : α} : hid1 P t a ↔ P a := Iff.rfl
def blc (d : D) (p : Bool → Prop) : Prop := ∃ b, d = .bl b ∧ p b
@[simp] theorem x_blc {b : Bool} {p : Bool → Prop} : blc (.bl b) p ↔ p b := ⟨fun ⟨_, e, h⟩ => by cases e; exact h, fun h => ⟨_, rfl, h⟩⟩
def truc (d : Option Bool) (p : Bool → Prop) : Prop := ∃ b, d = some b ∧ p b
@[simp] theorem x_truc {b : Bool} {p : Bool → Prop} : truc (some b) p ↔ p b := ⟨fun ⟨_, e, h⟩ => by cases e; exact h, fun h => ⟨_, rfl, h⟩⟩
def ownc (d : D) (p : List D → Prop) : Prop := match d with
  | .own xs => p xs
  | _ => False
@[simp] theorem x_ownc {xs : List D} {p : List D → Prop} : ownc (.own xs) p ↔ p xs := Iff.rfl
def sqc (d : Option (List D)) (p : List D → Prop) : Prop := ∃ xs, d = some xs ∧ p xs
@[simp] theorem x_sqc {xs : List D} {p : List D → Prop} : sqc (some xs) p ↔ p xs := ⟨fun ⟨_, e, h⟩ => by cases e; exact h, fun h => ⟨_, rfl, h⟩⟩
theorem go {α β : Type} {P : α → β → Prop} {t : Tg P} {a : α} {b : β} (h : P a b) : hid P t a b := h
section
variable {X : XD} {E : WEnds} {ρ : List D} {i : Nat} {d e : D} {ds : List D}
@[simp] theorem x_dAt0 : dAt (d :: ρ) 0 = d := rfl
@[simp] theorem x_dAtS : dAt (d :: ρ) (i + 1) = dAt ρ i := rfl
@[simp] theorem x_getv : R.get ρ (.val d) = d := rfl
@[simp] theorem x_gets : R.get ρ (.slot i) = dAt ρ i := rfl
@[simp] theorem x_tkv : R.tk ρ (.val d) = d := rfl
@[simp] theorem x_tks : R.tk ρ (.slot i) = (dAt ρ i).sh := rfl
@[simp] theorem x_env : R.en ρ (.val d) = ρ := rfl
@[simp] theorem x_ens : R.en ρ (.slot i) = ρ.set i (dAt ρ i).sh := rfl
@[simp] theorem x_sh1 : D.und.sh = .und := rfl
@[simp] theorem x_sh2 : D.non.sh = .non := rfl
@[simp] theorem x_sh3 {b : Bool} : (D.bl b).sh = .bl b := rfl
@[simp] theorem x_sh4 {b : Int} : (D.int b).sh = .int b := rfl
@[simp] theorem x_sh5 {b : Str} : (D.str b).sh = .str b := rfl
@[simp] theorem x_sh6 : (D.lst ds).sh = .lst ds := rfl
@[simp] theorem x_sh7 : (D.flst ds).sh = .flst ds := rfl
@[simp] theorem x_sh8 : (D.tup ds).sh = .tup ds := rfl
@[simp] theorem x_sh9 : (D.own ds).sh = .lst (D.shs ds) := rfl
@[simp] theorem x_sh10 {C : Str} {k : List Str} : (D.ins C k ds).sh = .ins C k ds := rfl
@[simp] theorem x_sh11 {C : Str} {k : List Str} : (D.oins C k ds).sh = .ins C k (D.shs ds) := rfl
@[simp] theorem x_sh12 {t : String} : (D.ty t).sh = .ty t := rfl
@[simp] theorem x_sh13 {x : Str} {k : List (Str × D)} : (D.kd x k).sh = .kd x k := rfl
@[simp] theorem x_shs0 : D.shs [] = [] := rfl
@[simp] theorem x_shs1 : D.shs (d :: ds) = d.sh :: D.shs ds := rfl
@[simp] theorem x_kn2 : D.non.known = true := rfl
@[simp] theorem x_kn3 {b : Bool} : (D.bl b).known = true := rfl
@[simp] theorem x_kn4 {b : Int} : (D.int b).known = true := rfl
@[simp] theorem x_kn5 {b : Str} : (D.str b).known = true := rfl
@[simp] theorem x_kn6 : (D.lst ds).known = true := rfl
@[simp] theorem x_kn7 : (D.flst ds).known = true := rfl
@[simp] theorem x_kn8 : (D.tup ds).known = true := rfl
@[simp] theorem x_kn9 : (D.own ds).known = true := rfl
@[simp] theorem x_kn10 {C : Str} {k : List Str} : (D.ins C k ds).known = true := rfl
@[simp] theorem x_kn11 {C : Str} {k : List Str} : (D.oins C k ds).known = true := rfl
@[simp] theorem x_pl1 : D.und.pl = true := rfl
@[simp] theorem x_pl2 : D.non.pl = true := rfl
@[simp] theorem x_pl3 {b : Bool} : (D.bl b).pl = true := rfl
@[simp] theorem x_pl4 {b : Int} : (D.int b).pl = true := rfl
@[simp] theorem x_pl5 {b : Str} : (D.str b).pl = true := rfl
@[simp] theorem x_pl6 : (D.lst ds).pl = true := rfl
@[simp] theorem x_pl7 : (D.flst ds).pl = true := rfl
@[simp] theorem x_pl8 : (D.tup ds).pl = true := rfl
@[simp] theorem x_pl9 : (D.own ds).pl = false := rfl
@[simp] theorem x_pl10 {C : Str} {k : List Str} : (D.ins C k ds).pl = true := rfl
@[simp] theorem x_pl11 {C : Str} {k : List Str} : (D.oins C k ds).pl = false := rfl
@[simp] theorem x_pl12 {t : String} : (D.ty t).pl = true := rfl
@[simp] theorem x_pl13 {x : Str} {k : List (Str × D)} : (D.kd x k).pl = true := rfl
@[simp] theorem x_plsh : d.sh.pl = true := sh_pl d
@[simp] theorem x_isOwn : (D.own ds).isOwn = true := rfl
theorem sh_of_pl (h : d.pl = true) : d.sh = d := by cases d <;> first | rfl | cases h
theorem shs_of_pl : ∀ {ds : List D}, ds.all D.pl = true → D.shs ds = ds
  | [], _ => rfl
  | d :: ds, h => by
    rw [List.all_cons, Bool.and_eq_true] at h
    rw [x_shs1, sh_of_pl h.1, shs_of_pl h.2]
theorem shs_map : ∀ ds : List D, D.shs ds = ds.map D.sh
  | [] => rfl
  | d :: ds => by rw [x_shs1, shs_map ds]; rfl
/-! expressions -/
variable {P : R → List D → Prop} {Q : List R → List D → Prop} {T : Bool → List D → Prop} {f g h : WE} {a b : WA} {t u : WT}
@[simp ↓] theorem x_var : wVar i X ρ P ↔ ((dAt ρ i).known = true ∧ P (.slot i) ρ) := Iff.rfl
@[simp ↓] theorem x_c : wC d X ρ P ↔ P (.val d) ρ := Iff.rfl
@[simp ↓] theorem x_nil : wNil X ρ Q ↔ Q [] ρ := Iff.rfl
@[simp ↓] theorem x_cons : wCons f a X ρ Q ↔ f X ρ fun r ρ1 => a X ρ1 fun rs ρ2 => Q (r :: rs) ρ2 := Iff.rfl
@[simp ↓] theorem x_bin {op : Op2} : wBin op f g X ρ P ↔ f X ρ fun r1 ρ1 => g X ρ1 fun r2 ρ2 => op (r1.get ρ2) (r2.get ρ2) (hid1 (fun d => P (.val d) ρ2) .tg) := Iff.rfl
@[simp ↓] theorem x_un {op : D → (D → Prop) → Prop} : wUn op f X ρ P ↔ f X ρ fun r ρ1 => op (r.get ρ1) (hid1 (fun d => P (.val d) ρ1) .tg) := Iff.rfl
@[simp ↓] theorem x_cb {op : List D → (D → Prop) → Prop} : wCB op a X ρ P ↔ a X ρ fun rs ρ1 => op (rs.map (R.get ρ1)) (hid1 (fun d => P (.val d) ρ1) .tg) := Iff.rfl
@[simp ↓] theorem x_sh : wSh f X ρ P ↔ f X ρ fun r ρ1 => P (.val (r.tk ρ1).sh) (r.en ρ1) := Iff.rfl
@[simp ↓] theorem x_andV : wAndV f g X ρ P ↔ f X ρ fun r ρ1 => blc (r.get ρ1) (hid1 (fun b => if b = true then g X ρ1 P else P (.val (.bl false)) ρ1) .tg) := Iff.rfl
@[simp ↓] theorem x_orV : wOrV f g X ρ P ↔ f X ρ fun r ρ1 => blc (r.get ρ1) (hid1 (fun b => if b = true then P (.val (.bl true)) ρ1 else g X ρ1 P) .tg) := Iff.rfl
@[simp ↓] theorem x_notV : wNotV f X ρ P ↔ f X ρ fun r ρ1 => blc (r.get ρ1) (hid1 (fun b => P (.val (.bl (!b))) ρ1) .tg) := Iff.rfl
@[simp ↓] theorem x_ite : wIte t f g X ρ P ↔ t X ρ fun b ρ1 => if b = true then f X ρ1 P else g X ρ1 P := Iff.rfl
@[simp ↓] theorem x_chain {op op' : Op2} : wChain op op' f g h X ρ P ↔ f X ρ fun r1 ρ1 => g X ρ1 fun r2 ρ2 => op (r1.get ρ2) (r2.get ρ2) (hid1 (fun d => blc d (hid1 (fun b => if b = true then h X ρ2 fun r3 ρ3 => op' (r2.get ρ3) (r3.get ρ3) (hid1 (fun e => P (.val e) ρ3) .tg) else P (.val (.bl false)) ρ2) .tg)) .tg) := Iff.rfl
@[simp ↓] theorem x_test : wTest f X ρ T ↔ f X ρ fun r ρ1 => blc (r.get ρ1) (hid1 (fun b => T b ρ1) .tg) := Iff.rfl
@[simp ↓] theorem x_tru : wTru f X ρ T ↔ f X ρ fun r ρ1 => truc (r.get ρ1).tru (hid1 (fun b => T b ρ1) .tg) := Iff.rfl
@[simp ↓] theorem x_andT : wAndT t u X ρ T ↔ t X ρ fun b ρ1 => if b = true then u X ρ1 T else T false ρ1 := Iff.rfl
@[simp ↓] theorem x_orT : wOrT t u X ρ T ↔ t X ρ fun b ρ1 => if b = true then T true ρ1 else u X ρ1 T := Iff.rfl
@[simp ↓] theorem x_notT : wNotT t X ρ T ↔ t X ρ fun b ρ1 => T (!b) ρ1 := Iff.rfl
@[simp ↓] theorem x_yes : wYes X ρ T ↔ T true ρ := Iff.rfl
@[simp ↓] theorem x_call {F : WF} {ks : List Bool} : wCall F ks a X ρ P ↔ a X ρ fun rs ρ1 => ks.length = rs.length ∧ F (fun x ds' => X x (putB (argD ks rs ρ1).2.2 ds' (argD ks rs ρ1).2.1)) (argD ks rs ρ1).1 fun d ds' => hid P .tg (.val d) (putB (argD ks rs ρ1).2.2 ds' (argD ks rs ρ1).2.1) := Iff.rfl
@[simp ↓] theorem x_callK {F : WF} {ks : List Bool} {m : Nat} : wCallK m F ks a b X ρ P ↔ a X ρ fun rs1 ρ1 => b X ρ1 fun rs2 ρ2 => rs1.length = m ∧ ks.length = (rs1 ++ rs2).length ∧
  F (fun x ds' => X x (putB (argD ks (rs1 ++ rs2) ρ2).2.2 ds' (argD ks (rs1 ++ rs2) ρ2).2.1)) (argD ks (rs1 ++ rs2) ρ2).1 fun d ds' => hid P .tg (.val d) (putB (argD ks (rs1 ++ rs2) ρ2).2.2 ds' (argD ks (rs1 ++ rs2) ρ2).2.1) := Iff.rfl
@[simp ↓] theorem x_make {C : Str} {F : WF} {ks : List Bool} : wMake C F ks a X ρ P ↔ a X ρ fun rs ρ1 => ks.length = rs.length ∧
  F (fun x ds' => X x (putB (argD ks rs ρ1).2.2 ds'.tail (argD ks rs ρ1).2.1)) (.oins C [] [] :: (argD ks rs ρ1).1) fun d ds' => d = .non ∧ hid P .tg (.val (dAt ds' 0).sh) (putB (argD ks rs ρ1).2.2 ds'.tail (argD ks rs ρ1).2.1) := Iff.rfl
@[simp] theorem x_arg0 {ks : List Bool} : argD ks [] ρ = ([], ρ, []) := by cases ks <;> rfl
@[simp] theorem x_arg1 {k : Bool} {ks : List Bool} {r : R} {rs : List R} : argD (k :: ks) (r :: rs) ρ = ((arg1 k r ρ).1 :: (argD ks rs (arg1 k r ρ).2.1).1, (argD ks rs (arg1 k r ρ).2.1).2.1, (arg1 k r ρ).2.2 :: (argD ks rs (arg1 k r ρ).2.1).2.2) := rfl
@[simp] theorem x_argv {k : Bool} : arg1 k (.val d) ρ = (d, ρ, none) := rfl
@[simp] theorem x_args {k : Bool} : arg1 k (.slot i) ρ = if (dAt ρ i).pl = true then (dAt ρ i, ρ, none) else if k = true then (dAt ρ i, ρ.set i .und, some i) else ((dAt ρ i).sh, ρ.set i (dAt ρ i).sh, none) := rfl
@[simp] theorem x_put0 {ms : List (Option Nat)} : putB (none :: ms) (d :: ds) ρ = putB ms ds ρ := rfl
@[simp] theorem x_put1 {ms : List (Option Nat)} : putB (some i :: ms) (d :: ds) ρ = putB ms ds (ρ.set i d) := rfl
@[simp] theorem x_put2 : putB [] ds ρ = ρ := by cases ds <;> rfl
@[simp ↓] theorem x_app : wApp i f X ρ P ↔ ((dAt ρ i).isOwn = true ∧ f X ρ fun r ρ1 => ownc (dAt (r.en ρ1) i) (hid1 (fun xs => xs.length < sizeLine ∧ P (.val .non) ((r.en ρ1).set i (.own (xs ++ [r.tk ρ1])))) .tg)) := Iff.rfl
/-! operations -/
variable {p : D → Prop} {m n : Int}
@[simp] theorem x_bo1 : binOf .Add = opAdd := rfl
@[simp] theorem x_bo2 : binOf .Sub = opSub := rfl
@[simp] theorem x_bo3 : binOf .Mult = opMul := rfl
@[simp] theorem x_bo4 : binOf .FloorDiv = opFDiv := rfl
@[simp] theorem x_bo5 : binOf .Mod = opMod := rfl
@[simp] theorem x_bo6 : binOf .Pow = opPow := rfl
@[simp] theorem x_co1 : cmpOf .Eq = opEq := rfl
@[simp] theorem x_co2 : cmpOf .NotEq = opNe := rfl
@[simp] theorem x_co3 : cmpOf .Lt = opCmp fun i j => decide (i < j) := rfl
@[simp] theorem x_co4 : cmpOf .LtE = opCmp fun i j => decide (i ≤ j) := rfl
@[simp] theorem x_co5 : cmpOf .Gt = opCmp fun i j => decide (j < i) := rfl
@[simp] theorem x_co6 : cmpOf .GtE = opCmp fun i j => decide (j ≤ i) := rfl
@[simp] theorem x_co7 : cmpOf .Is = opIs false := rfl
@[simp] theorem x_co8 : cmpOf .IsNot = opIs true := rfl
@[simp] theorem x_co9 : cmpOf .In = opIn false := rfl
@[simp] theorem x_co10 : cmpOf .NotIn = opIn true := rfl
@[simp] theorem x_add : opAdd (.int m) (.int n) p ↔ p (.int (m + n)) := Iff.rfl
@[simp] theorem x_sub : opSub (.int m) (.int n) p ↔ p (.int (m - n)) := Iff.rfl
@[simp] theorem x_mul : opMul (.int m) (.int n) p ↔ CMulW m n ∧ p (.int (m * n)) := Iff.rfl
@[simp] theorem x_fdiv : opFDiv (.int m) (.int n) p ↔ CDivW m n ∧ p (.int (m / n)) := Iff.rfl
@[simp] theorem x_mod : opMod (.int m) (.int n) p ↔ 0 < n ∧ p (.int (m % n)) := Iff.rfl
@[simp] theorem x_pow : opPow (.int m) (.int n) p ↔ CPow m n ∧ p (.int (m ^ n.toNat)) := Iff.rfl
@[simp] theorem x_neg : opNeg (.int m) p ↔ p (.int (-m)) := Iff.rfl
@[simp] theorem x_cmp {c : Int → Int → Bool} : opCmp c (.int m) (.int n) p ↔ p (.bl (c m n)) := Iff.rfl
theorem eqv_int {m n : Int} : D.eqv (.int m) (.int n) = decide (m = n) := by
  show PyData.eqv (.int m) (.int n) = _
  first | rfl | simp [PyData.eqv]
@[simp] theorem x_eqI : opEq (.int m) (.int n) p ↔ p (.bl (decide (m = n))) := by
  unfold opEq
  rw [eqv_int]
  exact ⟨fun h => h.2, fun h => ⟨.inl rfl, h⟩⟩
@[simp] theorem x_neI : opNe (.int m) (.int n) p ↔ p (.bl (!decide (m = n))) := by
  unfold opNe
  rw [eqv_int]
  exact ⟨fun h => h.2, fun h => ⟨.inl rfl, h⟩⟩
theorem eqv_bl {m n : Bool} : D.eqv (.bl m) (.bl n) = decide (m = n) := by cases m <;> cases n <;> rfl
@[simp] theorem x_eqB {m n : Bool} : opEq (.bl m) (.bl n) p ↔ p (.bl (decide (m = n))) := by
  unfold opEq
  rw [eqv_bl]
  exact ⟨fun h => h.2, fun h => ⟨.inl rfl, h⟩⟩
@[simp] theorem x_neB {m n : Bool} : opNe (.bl m) (.bl n) p ↔ p (.bl (!decide (m = n))) := by
  unfold opNe
  rw [eqv_bl]
  exact ⟨fun h => h.2, fun h => ⟨.inl rfl, h⟩⟩
@[simp] theorem x_isN {ng : Bool} : opIs ng d .non p ↔ d.known = true ∧ p (.bl (ng != d.isN)) := Iff.rfl
@[simp] theorem x_isB {ng k l : Bool} : opIs ng (.bl k) (.bl l) p ↔ p (.bl (ng != decide (k = l))) := ⟨fun ⟨_, e, h⟩ => by cases e; exact h, fun h => ⟨_, rfl, h⟩⟩
@[simp] theorem x_isn1 : D.non.isN = true := rfl
@[simp] theorem x_isn2 {m : Int} : (D.int m).isN = false := rfl
@[simp] theorem x_isn3 : (D.tup ds).isN = false := rfl
@[simp] theorem x_isn4 {m : Bool} : (D.bl m).isN = false := rfl
@[simp] theorem x_isn5 {m : Str} : (D.str m).isN = false := rfl
@[simp] theorem x_isn6 : (D.lst ds).isN = false := rfl
@[simp] theorem x_isn7 : (D.own ds).isN = false := rfl
@[simp] theorem x_tup : opTup ds p ↔ ds.all D.pl = true ∧ ds.length ≤ sizeLine ∧ p (.tup ds) := Iff.rfl
@[simp] theorem x_lst : opLst ds p ↔ ds.all D.pl = true ∧ ds.length ≤ sizeLine ∧ p (.own ds) := Iff.rfl
@[simp] theorem x_int : opInt [.int m] p ↔ p (.int m) := Iff.rfl
@[simp] theorem x_intb {k : Bool} : opInt [.bl k] p ↔ p (.int (if k then 1 else 0)) := Iff.rfl
@[simp] theorem x_len1 : opLen [.own ds] p ↔ p (.int ds.length) := ⟨fun ⟨_, e, h⟩ => by cases e; exact h, fun h => ⟨_, rfl, h⟩⟩
@[simp] theorem x_len2 : opLen [.lst ds] p ↔ p (.int ds.length) := ⟨fun ⟨_, e, h⟩ => by cases e; exact h, fun h => ⟨_, rfl, h⟩⟩
@[simp] theorem x_len3 : opLen [.flst ds] p ↔ p (.int ds.length) := ⟨fun ⟨_, e, h⟩ => by cases e; exact h, fun h => ⟨_, rfl, h⟩⟩
@[simp] theorem x_len4 : opLen [.tup ds] p ↔ p (.int ds.length) := ⟨fun ⟨_, e, h⟩ => by cases e; exact h, fun h => ⟨_, rfl, h⟩⟩
@[simp] theorem x_len5 {z : Str} : opLen [.str z] p ↔ z.length ≤ sizeLine ∧ p (.int z.length) := Iff.rfl
@[simp] theorem x_max2 : opMax [.int m, .int n] p ↔ p (.int (if n > m then n else m)) := Iff.rfl
@[simp] theorem x_min2 : opMin [.int m, .int n] p ↔ p (.int (if n < m then n else m)) := Iff.rfl
theorem sq_own' {ds : List D} (h : ds.all D.pl = true) : (D.own ds).sq = some ds := if_pos h
theorem isi_of {d : D} {n t : String} {k : Bool} (h1 : d.tyN = some t) (h2 : kitB t n = some k) (h : p (.bl k)) : opIsi [d, .ty n] p := ⟨t, k, h1, h2, h⟩
theorem isi_iff {d : D} {n t : String} {k : Bool} (h1 : d.tyN = some t) (h2 : kitB t n = some k) : opIsi [d, .ty n] p ↔ p (.bl k) := ⟨fun ⟨t', k', a, b, h⟩ => by
  rw [h1] at a; cases a; rw [h2] at b; cases b; exact h, isi_of h1 h2⟩
@[simp] theorem x_isi1 : opIsi [.int m, .ty "int"] p ↔ p (.bl true) := isi_iff rfl (by decide +kernel)
@[simp] theorem x_isi2 : opIsi [.int m, .ty "bool"] p ↔ p (.bl false) := isi_iff rfl (by decide +kernel)
@[simp] theorem x_isi3 : opIsi [.int m, .ty "str"] p ↔ p (.bl false) := isi_iff rfl (by decide +kernel)
@[simp] theorem x_isi4 : opIsi [.int m, .ty "tuple"] p ↔ p (.bl false) := isi_iff rfl (by decide +kernel)
@[simp] theorem x_isi5 {z : Str} : opIsi [.str z, .ty "str"] p ↔ p (.bl true) := isi_iff rfl (by decide +kernel)
@[simp] theorem x_isi6 {z : Str} : opIsi [.str z, .ty "int"] p ↔ p (.bl false) := isi_iff rfl (by decide +kernel)
@[simp] theorem x_isi7 {z : Str} : opIsi [.str z, .ty "tuple"] p ↔ p (.bl false) := isi_iff rfl (by decide +kernel)
@[simp] theorem x_isi8 : opIsi [.tup ds, .ty "tuple"] p ↔ p (.bl true) := isi_iff rfl (by decide +kernel)
@[simp] theorem x_isi9 : opIsi [.tup ds, .ty "str"] p ↔ p (.bl false) := isi_iff rfl (by decide +kernel)
@[simp] theorem x_isi10 : opIsi [.tup ds, .ty "int"] p ↔ p (.bl false) := isi_iff rfl (by decide +kernel)
@[simp] theorem x_isi11 {k : Bool} : opIsi [.bl k, .ty "int"] p ↔ p (.bl true) := isi_iff rfl (by decide +kernel)
@[simp] theorem x_isi12 {k : Bool} : opIsi [.bl k, .ty "bool"] p ↔ p (.bl true) := isi_iff rfl (by decide +kernel)
@[simp] theorem x_isi13 : opIsi [.non, .ty "int"] p ↔ p (.bl false) := isi_iff rfl (by decide +kernel)
@[simp] theorem x_isi14 : opIsi [.non, .ty "tuple"] p ↔ p (.bl false) := isi_iff rfl (by decide +kernel)
@[simp] theorem x_isi15 : opIsi [.non, .ty "str"] p ↔ p (.bl false) := isi_iff rfl (by decide +kernel)
theorem isiT_iff {d : D} {cs : List D} {ns : List String} {t : String} {k : Bool} (h1 : d.tyN = some t) (h0 : tyNames cs = some ns) (h2 : kitAnyB t ns = some k) : opIsi [d, .tup cs] p ↔ p (.bl k) := ⟨fun ⟨t', k', ns', a, z, b, h⟩ => by
  rw [h1] at a; cases a; rw [h0] at z; cases z; rw [h2] at b; cases b; exact h, fun h => ⟨t, k, ns, h1, h0, h2, h⟩⟩
@[simp] theorem x_isT1 : opIsi [.lst ds, .tup [.ty "list", .ty "tuple"]] p ↔ p (.bl true) := isiT_iff rfl rfl (by decide +kernel)
@[simp] theorem x_isT2 : opIsi [.tup ds, .tup [.ty "list", .ty "tuple"]] p ↔ p (.bl true) := isiT_iff rfl rfl (by decide +kernel)
@[simp] theorem x_isT3 : opIsi [.own ds, .tup [.ty "list", .ty "tuple"]] p ↔ p (.bl true) := isiT_iff rfl rfl (by decide +kernel)
@[simp] theorem x_isT4 : opIsi [.flst ds, .tup [.ty "list", .ty "tuple"]] p ↔ p (.bl true) := isiT_iff rfl rfl (by decide +kernel)
@[simp] theorem x_isT5 : opIsi [.int m, .tup [.ty "list", .ty "tuple"]] p ↔ p (.bl false) := isiT_iff rfl rfl (by decide +kernel)
@[simp] theorem x_isT6 {z : Str} : opIsi [.str z, .tup [.ty "list", .ty "tuple"]] p ↔ p (.bl false) := isiT_iff rfl rfl (by decide +kernel)
@[simp] theorem x_isT7 : opIsi [.non, .tup [.ty "list", .ty "tuple"]] p ↔ p (.bl false) := isiT_iff rfl rfl (by decide +kernel)
@[simp] theorem x_isT8 {k : Bool} : opIsi [.bl k, .tup [.ty "list", .ty "tuple"]] p ↔ p (.bl false) := isiT_iff rfl rfl (by decide +kernel)
theorem opTuple_own (hh : ds.all D.pl = true) : opTuple [.own ds] p ↔ p (.tup ds) := ⟨fun ⟨xs, e, h⟩ => by rw [sq_own' hh] at e; cases e; exact h, fun h => ⟨ds, sq_own' hh, h⟩⟩
@[simp] theorem x_tuple1 : opTuple [.tup ds] p ↔ p (.tup ds) := ⟨fun ⟨xs, e, h⟩ => by cases e; exact h, fun h => ⟨ds, rfl, h⟩⟩
@[simp] theorem x_tuple2 : opTuple [.lst ds] p ↔ p (.tup ds) := ⟨fun ⟨xs, e, h⟩ => by cases e; exact h, fun h => ⟨ds, rfl, h⟩⟩
@[simp] theorem x_list1 : opList [.tup ds] p ↔ p (.own ds) := ⟨fun ⟨xs, e, h⟩ => by cases e; exact h, fun h => ⟨ds, rfl, h⟩⟩
@[simp] theorem x_list2 : opList [.lst ds] p ↔ p (.own ds) := ⟨fun ⟨xs, e, h⟩ => by cases e; exact h, fun h => ⟨ds, rfl, h⟩⟩
@[simp] theorem x_tru1 {k : Bool} : (D.bl k).tru = some k := rfl
@[simp] theorem x_tru2 : (D.int m).tru = some (m != 0) := rfl
@[simp] theorem x_tru3 : D.non.tru = some false := rfl
@[simp] theorem x_tru4 : (D.own ds).tru = some (!ds.isEmpty) := rfl
@[simp] theorem x_tru5 : (D.lst ds).tru = some (!ds.isEmpty) := rfl
@[simp] theorem x_tru6 : (D.tup ds).tru = some (!ds.isEmpty) := rfl
/-- a place of a sequence -/
theorem atI_n {α : Type} {xs : List α} {k : Nat} {x : α} (h : xs[k]? = some x) : atI xs (k : Int) = some x := by
  have hk : k < xs.length := (List.getElem?_eq_some_iff.mp h).1
  unfold atI ixN
  rw [if_pos (by omega), if_pos (by omega)]
  exact h
theorem atI_int {α : Type} {xs : List α} {k : Int} {x : α} (h0 : 0 ≤ k) (h : xs[k.toNat]? = some x) : atI xs k = some x := by
  have z := atI_n h
  rw [Int.toNat_of_nonneg h0] at z
  exact z
theorem ix_of {d : D} {xs : List D} {k : Int} {x : D} (h : d.sq = some xs) (e : atI xs k = some x) (hp : p x) (hs : (match d with | .str _ => false | .kd _ _ => false | _ => true) = true := by rfl) : opIx d (.int k) p := by
  cases d <;> first | exact ⟨xs, k, x, h, rfl, e, hp⟩ | cases hs
theorem ix_iff {d : D} {xs : List D} {k : Int} {x : D} (h : d.sq = some xs) (e : atI xs k = some x) (hs : (match d with | .str _ => false | .kd _ _ => false | _ => true) = true := by rfl) : opIx d (.int k) p ↔ p x := by
  refine ⟨fun z => ?_, fun z => ix_of h e z hs⟩
  have gen : (∃ ys i y, d.sq = some ys ∧ D.int k = .int i ∧ atI ys i = some y ∧ p y) → p x := fun ⟨ys, i, y, a, b, c, q⟩ => by
    rw [h] at a; cases a; cases b; rw [e] at c; cases c; exact q
  cases d <;> first | exact gen z | cases hs
@[simp] theorem x_sq1 : (D.tup ds).sq = some ds := rfl
@[simp] theorem x_sq2 : (D.lst ds).sq = some ds := rfl
@[simp] theorem x_sq3 : (D.flst ds).sq = some ds := rfl
theorem sq_own (h : ds.all D.pl = true) : (D.own ds).sq = some ds := if_pos h
@[simp] theorem x_ixT0 : opIx (.tup (d :: ds)) (.int 0) p ↔ p d := ix_iff rfl (atI_n (k := 0) rfl)
@[simp] theorem x_ixT1 : opIx (.tup (e :: d :: ds)) (.int 1) p ↔ p d := ix_iff rfl (atI_n (k := 1) rfl)
@[simp] theorem x_ixT2 {e2 : D} : opIx (.tup (e :: e2 :: d :: ds)) (.int 2) p ↔ p d := ix_iff rfl (atI_n (k := 2) rfl)
@[simp] theorem x_ixT3 {e2 e3 : D} : opIx (.tup (e :: e2 :: e3 :: d :: ds)) (.int 3) p ↔ p d := ix_iff rfl (atI_n (k := 3) rfl)
@[simp] theorem x_ixO0 (hh : (d :: ds).all D.pl = true) : opIx (.own (d :: ds)) (.int 0) p ↔ p d := ix_iff (sq_own hh) (atI_n (k := 0) rfl)
@[simp] theorem x_ixO1 (hh : (e :: d :: ds).all D.pl = true) : opIx (.own (e :: d :: ds)) (.int 1) p ↔ p d := ix_iff (sq_own hh) (atI_n (k := 1) rfl)
@[simp] theorem x_ixO2 {e2 : D} (hh : (e :: e2 :: d :: ds).all D.pl = true) : opIx (.own (e :: e2 :: d :: ds)) (.int 2) p ↔ p d := ix_iff (sq_own hh) (atI_n (k := 2) rfl)
@[simp] theorem x_ixO3 {e2 e3 : D} (hh : (e :: e2 :: e3 :: d :: ds).all D.pl = true) : opIx (.own (e :: e2 :: e3 :: d :: ds)) (.int 3) p ↔ p d := ix_iff (sq_own hh) (atI_n (k := 3) rfl)
@[simp] theorem x_ixL0 : opIx (.lst (d :: ds)) (.int 0) p ↔ p d := ix_iff rfl (atI_n (k := 0) rfl)
@[simp] theorem x_ixL1 : opIx (.lst (e :: d :: ds)) (.int 1) p ↔ p d := ix_iff rfl (atI_n (k := 1) rfl)
@[simp] theorem x_ixL2 {e2 : D} : opIx (.lst (e :: e2 :: d :: ds)) (.int 2) p ↔ p d := ix_iff rfl (atI_n (k := 2) rfl)
@[simp] theorem x_ixL3 {e2 e3 : D} : opIx (.lst (e :: e2 :: e3 :: d :: ds)) (.int 3) p ↔ p d := ix_iff rfl (atI_n (k := 3) rfl)
theorem ix_own {xs : List D} {k : Nat} {x : D} {p : D → Prop} (hx : xs.all D.pl = true) (e : xs[k]? = some x) : opIx (.own xs) (.int k) p ↔ p x := ix_iff (sq_own hx) (atI_n e)
/-- one of two numbers -/
theorem ix_two {a b o : Int} {p : D → Prop} (ho : o = 0 ∨ o = 1) (h : p (.int (if o = 0 then a else b))) : opIx (.own [.int a, .int b]) (.int o) p := by
  rcases ho with z | z
  · subst z
    exact ix_of (sq_own rfl) (atI_n (k := 0) rfl) h
  · subst z
    exact ix_of (sq_own rfl) (atI_n (k := 1) rfl) h
/-! statements -/
variable {v w : WS}
@[simp ↓] theorem x_next : wNext X E ρ ↔ E.nx ρ := Iff.rfl
@[simp ↓] theorem x_brk : wBreak X E ρ ↔ E.bk ρ := Iff.rfl
@[simp ↓] theorem x_cont : wCont X E ρ ↔ E.ct ρ := Iff.rfl
@[simp ↓] theorem x_retN : wRetN X E ρ ↔ E.rt .non ρ := Iff.rfl
@[simp ↓] theorem x_seq : wSeq v w X E ρ ↔ v X (E.th (w X E)) ρ := Iff.rfl
@[simp ↓] theorem x_asg : wAsg i f X E ρ ↔ f X ρ fun r ρ1 => E.nx ((r.en ρ1).set i (r.tk ρ1)) := Iff.rfl
@[simp ↓] theorem x_asgT {gg : WG} : wAsgT gg f X E ρ ↔ f X ρ fun r ρ1 => gg ((r.tk ρ1).sh) (r.en ρ1) E.nx := Iff.rfl
@[simp ↓] theorem x_expr : wExpr f X E ρ ↔ f X ρ fun _ ρ1 => E.nx ρ1 := Iff.rfl
@[simp ↓] theorem x_if : wIf t v w X E ρ ↔ t X ρ fun b ρ1 => if b = true then v X E ρ1 else w X E ρ1 := Iff.rfl
@[simp ↓] theorem x_ret {kp : List Nat} : wRet kp f X E ρ ↔ f X ρ fun r ρ1 => match r with
  | .val d => E.rt d ρ1
  | .slot i => if i ∈ kp then E.rt (dAt ρ1 i).sh (ρ1.set i (dAt ρ1 i).sh) else E.rt (dAt ρ1 i) (ρ1.set i .und) := Iff.rfl
@[simp ↓] theorem x_fn {n m : Nat} {kp : List Nat} {Q : D → List D → Prop} : wFn n m kp v X ds Q ↔ (ds.length = n ∧ v (fun x ρ => X x (finD kp 0 n ρ)) ⟨fun ρ => Q .non (finD kp 0 n ρ), fun d ρ => Q d (finD kp 0 n ρ), fun _ => False, fun _ => False⟩ (ds ++ List.replicate (m - n) .und)) := Iff.rfl
@[simp] theorem x_fin0 {kp : List Nat} {j : Nat} : finD kp j 0 ρ = [] := by cases ρ <;> rfl
@[simp] theorem x_fin1 {kp : List Nat} {j k : Nat} : finD kp j (k + 1) (d :: ρ) = (if j ∈ kp then d else .und) :: finD kp (j + 1) k ρ := rfl
end

/-! ### bounds -/
theorem log2_lt' {n k : Nat} (h : n < 2 ^ k) (hk : 0 < k) : n.log2 < k := by
  by_cases h0 : n = 0
  · subst h0; simpa using hk
  · exact (Nat.log2_lt h0).mpr h
theorem cmulW {m n : Int} (a : m.natAbs < 2 ^ 10000) (b : n.natAbs < 2 ^ 10000) : CMulW m n := by
  have h1 := log2_lt' a (by decide)
  have h2 := log2_lt' b (by decide)
  unfold CMulW
  omega
theorem cdivW {m n : Int} (h : 0 < n) (b : n.natAbs < 2 ^ 9000) : CDivW m n := ⟨h, log2_lt' b (by decide)⟩
/-- numbers of no great size -/
def sm (m : Int) : Prop := -(2 ^ 64) < m ∧ m < 2 ^ 64
theorem sm_bits {m : Int} (h : sm m) : m.natAbs < 2 ^ 64 := by
  obtain ⟨a, b⟩ := h
  omega
theorem bits_up {m : Int} {j k : Nat} (h : m.natAbs < 2 ^ j) (l : j ≤ k) : m.natAbs < 2 ^ k := Nat.lt_of_lt_of_le h (Nat.pow_le_pow_right (by decide) l)
theorem cmulS {m n : Int} (a : sm m) (b : sm n) : CMulW m n := cmulW (bits_up (sm_bits a) (by decide)) (bits_up (sm_bits b) (by decide))
theorem cdivS {m n : Int} (h : 0 < n) (b : sm n) : CDivW m n := cdivW h (bits_up (sm_bits b) (by decide))

/-! ### loops -/
section
variable {i : Nat} {f : WS} {g : WG} {X : XD} {E : WEnds} {lo : Int} {n : Nat}
theorem for_inv (I : Nat → List D → Prop) {ρ : List D} (h0 : I 0 ρ) (hs : ∀ (k : Nat) (ρ : List D) (N : List D → Prop), k < n → I k ρ → (∀ ρ, I (k + 1) ρ → N ρ) → f X (E.lp N) (ρ.set i (.int (lo + k)))) (he : ∀ ρ, I n ρ → E.nx ρ) : wForR i f X E lo 0 n ρ := by
  have key : ∀ (m k : Nat) (ρ : List D), k + m = n → I k ρ → wForR i f X E lo k m ρ := by
    intro m
    induction m with
    | zero =>
      intro k ρ e hi
      have e : k = n := by omega
      subst e
      exact he ρ hi
    | succ m ih =>
      intro k ρ e hi
      exact hs k ρ _ (by omega) hi fun ρ' h => ih (k + 1) ρ' (by omega) h
  exact key n 0 ρ (by omega) h0
theorem fol_inv (I : Nat → List D → Prop) {ds : List D} {ρ : List D} (h0 : I 0 ρ) (hs : ∀ (k : Nat) (d : D) (ρ : List D) (N : List D → Prop), ds[k]? = some d → I k ρ → (∀ ρ, I (k + 1) ρ → N ρ) → g d ρ fun ρ1 => f X (E.lp N) ρ1) (he : ∀ ρ, I ds.length ρ → E.nx ρ) : wForL g f X E ds ρ := by
  have key : ∀ (es : List D) (k : Nat) (ρ : List D), ds.drop k = es → k + es.length = ds.length → I k ρ → wForL g f X E es ρ := by
    intro es
    induction es with
    | nil =>
      intro k ρ _ e hi
      have e : k = ds.length := by simpa using e
      subst e
      exact he ρ hi
    | cons d es ih =>
      intro k ρ e1 e2 hi
      have hd : ds[k]? = some d := by
        have z := congrArg (fun l => l[0]?) e1
        simpa using z
      have ht : ds.drop (k + 1) = es := by
        have z := congrArg (fun l => l.drop 1) e1
        simpa using z
      rw [List.length_cons] at e2
      exact hs k d ρ _ hd hi fun ρ' h => ih (k + 1) ρ' ht (by omega) h
  exact key ds 0 ρ (by simp) (by simp) h0
/-- a comprehension by an invariant on what is gathered -/
theorem lcl_inv {us : List Nat} {c : WT} {e : WE} (I : Nat → List D → List D → Prop) {ds : List D} {ρ : List D} {P : List D → List D → Prop} (h0 : I 0 [] ρ)
    (hs : ∀ (k : Nat) (d : D) (acc ρ : List D) (N : List D → List D → Prop), ds[k]? = some d → I k acc ρ → (∀ acc ρ, I (k + 1) acc ρ → N acc ρ) → g d ρ fun ρ1 => c (fun _ _ => False) ρ1 fun b ρ2 => if b = true then e (fun _ _ => False) ρ2 fun r ρ3 => acc.length < sizeLine ∧ N (acc ++ [(arg1 false r ρ3).1]) (wipeD (arg1 false r ρ3).2.1 us)
      else N acc (wipeD ρ2 us)) (he : ∀ acc ρ, I ds.length acc ρ → P acc ρ) : wLcL us g c e ds [] ρ P := by
  have key : ∀ (es : List D) (k : Nat) (acc ρ : List D), ds.drop k = es → k + es.length = ds.length → I k acc ρ → wLcL us g c e es acc ρ P := by
    intro es
    induction es with
    | nil =>
      intro k acc ρ _ e hi
      have e : k = ds.length := by simpa using e
      subst e
      exact he acc ρ hi
    | cons d es ih =>
      intro k acc ρ e1 e2 hi
      have hd : ds[k]? = some d := by
        have z := congrArg (fun l => l[0]?) e1
        simpa using z
      have ht : ds.drop (k + 1) = es := by
        have z := congrArg (fun l => l.drop 1) e1
        simpa using z
      rw [List.length_cons] at e2
      exact hs k d acc ρ (fun acc ρ => wLcL us g c e es acc ρ P) hd hi fun acc' ρ' h => ih (k + 1) acc' ρ' ht (by omega) h
  exact key ds 0 [] ρ (by simp) (by simp) h0
end
@[simp ↓] theorem x_rng1 {i : Nat} {f : WS} {X : XD} {E : WEnds} {ρ : List D} {a : WA} : wRng1 a i f X E ρ ↔ a X ρ fun rs ρ1 => ∃ j : Int, rs.map (R.get ρ1) = [.int j] ∧ rgOk j ∧ wForR i f X E 0 0 j.toNat ρ1 := Iff.rfl
@[simp ↓] theorem x_rng2 {i : Nat} {f : WS} {X : XD} {E : WEnds} {ρ : List D} {b : WA} : wRng2 b i f X E ρ ↔ b X ρ fun rs ρ1 => ∃ a j : Int, rs.map (R.get ρ1) = [.int a, .int j] ∧ rgOk a ∧ rgOk j ∧ wForR i f X E a 0 (j - a).toNat ρ1 := Iff.rfl
@[simp ↓] theorem x_for {f : WE} {g : WG} {b : WS} {X : XD} {E : WEnds} {ρ : List D} : wFor f g b X E ρ ↔ f X ρ fun r ρ1 => sqc ((r.tk ρ1).sh).sq (hid1 (fun xs => wForL g b X E xs (r.en ρ1)) .tg) := Iff.rfl
@[simp ↓] theorem x_gN {i : Nat} {d : D} {ρ : List D} {P : List D → Prop} : gN i d ρ P ↔ P (ρ.set i d) := Iff.rfl
@[simp] theorem x_ix1 {j : Nat} : (CT.name j).ix = [j] := rfl
@[simp] theorem x_ix2 {js : List Nat} : (CT.tup js).ix = js := rfl
@[simp] theorem x_wg1 {j : Nat} : (CT.name j).wg = gN j := rfl
@[simp] theorem x_wg2 {js : List Nat} : (CT.tup js).wg = gT js := rfl
@[simp ↓] theorem x_lc {f : WE} {ct : CT} {c : WT} {e : WE} {X : XD} {ρ : List D} {P : R → List D → Prop} : wLc f ct c e X ρ P ↔ f X ρ fun r ρ1 => sqc ((r.tk ρ1).sh).sq (hid1 (fun xs => (∀ i ∈ ct.ix, (dAt (r.en ρ1) i).pl = true) ∧
  wLcL ct.ix ct.wg c e xs [] (wipeD (r.en ρ1) ct.ix) fun acc ρ2 => hid P .tg (.val (.own acc)) (unwD (r.en ρ1) ρ2 ct.ix)) .tg) := Iff.rfl
@[simp] theorem x_wipe0 {ρ : List D} : wipeD ρ [] = ρ := rfl
@[simp] theorem x_wipe1 {ρ : List D} {i : Nat} {us : List Nat} : wipeD ρ (i :: us) = (wipeD ρ us).set i .und := rfl
@[simp] theorem x_unw0 {ρ0 ρ : List D} : unwD ρ0 ρ [] = ρ := rfl
@[simp] theorem x_unw1 {ρ0 ρ : List D} {i : Nat} {us : List Nat} : unwD ρ0 ρ (i :: us) = (unwD ρ0 ρ us).set i (dAt ρ0 i) := rfl
theorem rgOk_of {j : Int} (h : -1000000000000 < j) (h2 : j < 1000000000000) : rgOk j := by unfold rgOk; omega
end FL
namespace FL
open PySem PySem.Spec PyProof.Rows L2
def oinc (d : D) (p : Str → List Str → List D → Prop) : Prop := match d with
  | .oins C ks xs => p C ks xs
  | _ => False
def hid3 {α β γ : Type} (P : α → β → γ → Prop) (_ : Tg P) (a : α) (b : β) (c : γ) : Prop := P a b c
@[simp ↓] theorem x_hid3 {α β γ : Type} {P : α → β → γ → Prop} {t : Tg P} {a : α} {b : β} {c : γ} : hid3 P t a b c ↔ P a b c := Iff.rfl
@[simp] theorem x_oinc {C : Str} {ks : List Str} {xs : List D} {p : Str → List Str → List D → Prop} : oinc (.oins C ks xs) p ↔ p C ks xs := Iff.rfl
@[simp ↓] theorem x_setFld {t : CTab} {i : Nat} {f : Str} {g : WE} {X : XD} {E : WEnds} {ρ : List D} : wSetFld t i f g X E ρ ↔ g X ρ fun r ρ1 => oinc (dAt (r.en ρ1) i) (hid3 (fun C ks xs => t.has C f = true ∧ xs.length < 1000 ∧ xs.all D.pl = true ∧ E.nx ((r.en ρ1).set i (.oins C (putK ks xs f (r.tk ρ1).sh).1 (putK ks xs f (r.tk ρ1).sh).2))) .tg) := Iff.rfl
end FL

end
section
set_option maxHeartbeats 1000000
/-! FL21: more laws of the operations in plain terms. -/
namespace FL
open PySem PySem.Spec PyProof.Rows L2
section
variable {p : D → Prop} {ds es : List D} {a b : Str} {m n : Int}
theorem eqv_str : D.eqv (.str a) (.str b) = decide (a = b) := by
  show PyData.eqv (.str a) (.str b) = _
  first | rfl | simp [PyData.eqv] | (unfold PyData.eqv; simp)
@[simp] theorem x_eqS : opEq (.str a) (.str b) p ↔ p (.bl (decide (a = b))) := by
  unfold opEq
  rw [eqv_str]
  exact ⟨fun h => h.2, fun h => ⟨.inl rfl, h⟩⟩
@[simp] theorem x_neS : opNe (.str a) (.str b) p ↔ p (.bl (!decide (a = b))) := by
  unfold opNe
  rw [eqv_str]
  exact ⟨fun h => h.2, fun h => ⟨.inl rfl, h⟩⟩
theorem eqv_is : D.eqv (.int m) (.str b) = false := by
  show PyData.eqv (.int m) (.str b) = _
  first | rfl | simp [PyData.eqv] | (unfold PyData.eqv; simp)
theorem eqv_si : D.eqv (.str a) (.int n) = false := by
  show PyData.eqv (.str a) (.int n) = _
  first | rfl | simp [PyData.eqv] | (unfold PyData.eqv; simp)
@[simp] theorem x_eqIS : opEq (.int m) (.str b) p ↔ p (.bl false) := by
  unfold opEq
  rw [eqv_is]
  exact ⟨fun h => h.2, fun h => ⟨.inl rfl, h⟩⟩
@[simp] theorem x_eqSI : opEq (.str a) (.int n) p ↔ p (.bl false) := by
  unfold opEq
  rw [eqv_si]
  exact ⟨fun h => h.2, fun h => ⟨.inl rfl, h⟩⟩
theorem eqv_ns : D.eqv .non (.str b) = false := by
  show PyData.eqv .none (.str b) = _
  first | rfl | simp [PyData.eqv] | (unfold PyData.eqv; simp)
@[simp] theorem x_eqNS : opEq .non (.str b) p ↔ p (.bl false) := by
  unfold opEq
  rw [eqv_ns]
  exact ⟨fun h => h.2, fun h => ⟨.inl rfl, h⟩⟩
@[simp] theorem x_inS {ng : Bool} : opIn ng (.str a) (.str b) p ↔ p (.bl (ng != inStr a b)) := ⟨fun ⟨_, e, h⟩ => by cases e; exact h, fun h => ⟨_, rfl, h⟩⟩
theorem inKd {ng : Bool} {x : Str} {kvs : List (Str × D)} : opIn ng (.str a) (.kd x kvs) p ↔ p (.bl (ng != (kdIx kvs a).isSome)) := ⟨fun ⟨_, e, h⟩ => by cases e; exact h, fun h => ⟨_, rfl, h⟩⟩
theorem ixKd {x : Str} {kvs : List (Str × D)} {i : Nat} {q : Str × D} (h : kdIx kvs a = some i) (e : kvs[i]? = some q) : opIx (.kd x kvs) (.str a) p ↔ p q.2 := ⟨fun ⟨z, j, q', e1, e2, e3, h2⟩ => by
  cases e1; rw [h] at e2; cases e2; rw [e] at e3; cases e3; exact h2, fun h2 => ⟨a, i, q, rfl, h, e, h2⟩⟩
theorem ixStr {i : Int} {c : Nat} (hz : a.length ≤ sizeLine) (e : atI a.cps.toList i = some c) : opIx (.str a) (.int i) p ↔ p (.str ⟨#[c]⟩) := ⟨fun ⟨i', c', e1, _, e2, h⟩ => by
  cases e1; rw [e] at e2; cases e2; exact h, fun h => ⟨i, c, rfl, hz, e, h⟩⟩
theorem addT (h2 : ds.length + es.length ≤ sizeLine) : opAdd (.tup ds) (.tup es) p ↔ p (.tup (ds ++ es)) := ⟨fun h => h.2, fun h => ⟨h2, h⟩⟩
theorem addL (h1 : ds.all D.pl = true) (h2 : es.all D.pl = true) (h3 : ds.length + es.length ≤ sizeLine) (h : p (.own (ds ++ es))) : opAdd (.own ds) (.own es) p := ⟨ds, es, if_pos h1, if_pos h2, h3, h⟩
theorem addSL (h2 : es.all D.pl = true) (h3 : ds.length + es.length ≤ sizeLine) (h : p (.own (ds ++ es))) : opAdd (.lst ds) (.own es) p := ⟨ds, es, rfl, if_pos h2, h3, h⟩
def intc (d : D) (p : Int → Prop) : Prop := match d with
  | .int i => p i
  | _ => False
@[simp] theorem x_intc {p : Int → Prop} : intc (.int m) p ↔ p m := Iff.rfl
variable {X : XD} {ρ : List D} {P : R → List D → Prop} {f : WE} {i : Nat}
@[simp ↓] theorem x_popAt : wPopAt i f X ρ P ↔ ((dAt ρ i).isOwn = true ∧ f X ρ fun r ρ1 => ownc (dAt ρ1 i) (hid1 (fun xs => intc (r.get ρ1) (hid1 (fun k => ∃ j d, -(2 ^ 63) ≤ k ∧ k < 2 ^ 63 ∧ seqIndex? k xs.length = some j ∧ xs[j]? = some d ∧ P (.val d) (ρ1.set i (.own (xs.eraseIdx j)))) .tg)) .tg)) := by
  have e : (fun (r : R) (ρ1 : List D) => match dAt ρ1 i, r.get ρ1 with
    | .own xs, .int k => ∃ j d, -(2 ^ 63) ≤ k ∧ k < 2 ^ 63 ∧ seqIndex? k xs.length = some j ∧ xs[j]? = some d ∧ P (.val d) (ρ1.set i (.own (xs.eraseIdx j)))
    | _, _ => False) = fun r ρ1 => ownc (dAt ρ1 i) (hid1 (fun xs => intc (r.get ρ1) (hid1 (fun k => ∃ j d, -(2 ^ 63) ≤ k ∧ k < 2 ^ 63 ∧ seqIndex? k xs.length = some j ∧ xs[j]? = some d ∧ P (.val d) (ρ1.set i (.own (xs.eraseIdx j)))) .tg)) .tg) := by
    funext r ρ1
    cases h1 : dAt ρ1 i <;> cases h2 : r.get ρ1 <;> simp [ownc, intc, hid1]
  exact iff_of_eq (congrArg (fun q => ((dAt ρ i).isOwn = true ∧ f X ρ q)) e)
@[simp ↓] theorem x_pop : wPop i X ρ P ↔ ownc (dAt ρ i) (hid1 (fun xs => ∃ d, xs[xs.length - 1]? = some d ∧ P (.val d) (ρ.set i (.own xs.dropLast))) .tg) := Iff.rfl
@[simp] theorem y_non_int : opIsi [.non, .ty "int"] p ↔ p (.bl false) := isi_iff rfl (by decide +kernel)
@[simp] theorem y_non_bool : opIsi [.non, .ty "bool"] p ↔ p (.bl false) := isi_iff rfl (by decide +kernel)
@[simp] theorem y_non_str : opIsi [.non, .ty "str"] p ↔ p (.bl false) := isi_iff rfl (by decide +kernel)
@[simp] theorem y_non_list : opIsi [.non, .ty "list"] p ↔ p (.bl false) := isi_iff rfl (by decide +kernel)
@[simp] theorem y_non_tuple : opIsi [.non, .ty "tuple"] p ↔ p (.bl false) := isi_iff rfl (by decide +kernel)
@[simp] theorem y_bl_int {k : Bool} : opIsi [(.bl k), .ty "int"] p ↔ p (.bl true) := isi_iff rfl (by decide +kernel)
@[simp] theorem y_bl_bool {k : Bool} : opIsi [(.bl k), .ty "bool"] p ↔ p (.bl true) := isi_iff rfl (by decide +kernel)
@[simp] theorem y_bl_str {k : Bool} : opIsi [(.bl k), .ty "str"] p ↔ p (.bl false) := isi_iff rfl (by decide +kernel)
@[simp] theorem y_bl_list {k : Bool} : opIsi [(.bl k), .ty "list"] p ↔ p (.bl false) := isi_iff rfl (by decide +kernel)
@[simp] theorem y_bl_tuple {k : Bool} : opIsi [(.bl k), .ty "tuple"] p ↔ p (.bl false) := isi_iff rfl (by decide +kernel)
@[simp] theorem y_int_int : opIsi [(.int m), .ty "int"] p ↔ p (.bl true) := isi_iff rfl (by decide +kernel)
@[simp] theorem y_int_bool : opIsi [(.int m), .ty "bool"] p ↔ p (.bl false) := isi_iff rfl (by decide +kernel)
@[simp] theorem y_int_str : opIsi [(.int m), .ty "str"] p ↔ p (.bl false) := isi_iff rfl (by decide +kernel)
@[simp] theorem y_int_list : opIsi [(.int m), .ty "list"] p ↔ p (.bl false) := isi_iff rfl (by decide +kernel)
@[simp] theorem y_int_tuple : opIsi [(.int m), .ty "tuple"] p ↔ p (.bl false) := isi_iff rfl (by decide +kernel)
@[simp] theorem y_str_int : opIsi [(.str a), .ty "int"] p ↔ p (.bl false) := isi_iff rfl (by decide +kernel)
@[simp] theorem y_str_bool : opIsi [(.str a), .ty "bool"] p ↔ p (.bl false) := isi_iff rfl (by decide +kernel)
@[simp] theorem y_str_str : opIsi [(.str a), .ty "str"] p ↔ p (.bl true) := isi_iff rfl (by decide +kernel)
@[simp] theorem y_str_list : opIsi [(.str a), .ty "list"] p ↔ p (.bl false) := isi_iff rfl (by decide +kernel)
@[simp] theorem y_str_tuple : opIsi [(.str a), .ty "tuple"] p ↔ p (.bl false) := isi_iff rfl (by decide +kernel)
@[simp] theorem y_lst_int : opIsi [(.lst ds), .ty "int"] p ↔ p (.bl false) := isi_iff rfl (by decide +kernel)
@[simp] theorem y_lst_bool : opIsi [(.lst ds), .ty "bool"] p ↔ p (.bl false) := isi_iff rfl (by decide +kernel)
@[simp] theorem y_lst_str : opIsi [(.lst ds), .ty "str"] p ↔ p (.bl false) := isi_iff rfl (by decide +kernel)
@[simp] theorem y_lst_list : opIsi [(.lst ds), .ty "list"] p ↔ p (.bl true) := isi_iff rfl (by decide +kernel)
@[simp] theorem y_lst_tuple : opIsi [(.lst ds), .ty "tuple"] p ↔ p (.bl false) := isi_iff rfl (by decide +kernel)
@[simp] theorem y_flst_int : opIsi [(.flst ds), .ty "int"] p ↔ p (.bl false) := isi_iff rfl (by decide +kernel)
@[simp] theorem y_flst_bool : opIsi [(.flst ds), .ty "bool"] p ↔ p (.bl false) := isi_iff rfl (by decide +kernel)
@[simp] theorem y_flst_str : opIsi [(.flst ds), .ty "str"] p ↔ p (.bl false) := isi_iff rfl (by decide +kernel)
@[simp] theorem y_flst_list : opIsi [(.flst ds), .ty "list"] p ↔ p (.bl true) := isi_iff rfl (by decide +kernel)
@[simp] theorem y_flst_tuple : opIsi [(.flst ds), .ty "tuple"] p ↔ p (.bl false) := isi_iff rfl (by decide +kernel)
@[simp] theorem y_own_int : opIsi [(.own ds), .ty "int"] p ↔ p (.bl false) := isi_iff rfl (by decide +kernel)
@[simp] theorem y_own_bool : opIsi [(.own ds), .ty "bool"] p ↔ p (.bl false) := isi_iff rfl (by decide +kernel)
@[simp] theorem y_own_str : opIsi [(.own ds), .ty "str"] p ↔ p (.bl false) := isi_iff rfl (by decide +kernel)
@[simp] theorem y_own_list : opIsi [(.own ds), .ty "list"] p ↔ p (.bl true) := isi_iff rfl (by decide +kernel)
@[simp] theorem y_own_tuple : opIsi [(.own ds), .ty "tuple"] p ↔ p (.bl false) := isi_iff rfl (by decide +kernel)
@[simp] theorem y_tup_int : opIsi [(.tup ds), .ty "int"] p ↔ p (.bl false) := isi_iff rfl (by decide +kernel)
@[simp] theorem y_tup_bool : opIsi [(.tup ds), .ty "bool"] p ↔ p (.bl false) := isi_iff rfl (by decide +kernel)
@[simp] theorem y_tup_str : opIsi [(.tup ds), .ty "str"] p ↔ p (.bl false) := isi_iff rfl (by decide +kernel)
@[simp] theorem y_tup_list : opIsi [(.tup ds), .ty "list"] p ↔ p (.bl false) := isi_iff rfl (by decide +kernel)
@[simp] theorem y_tup_tuple : opIsi [(.tup ds), .ty "tuple"] p ↔ p (.bl true) := isi_iff rfl (by decide +kernel)
end
@[simp ↓] theorem x_lcR1 {f : WA} {ct : CT} {c : WT} {e : WE} {X : XD} {ρ : List D} {P : R → List D → Prop} : wLcR1 f ct c e X ρ P ↔ f X ρ fun rs ρ1 => ∃ j : Int, rs.map (R.get ρ1) = [.int j] ∧ rgOk j ∧ (∀ i ∈ ct.ix, (dAt ρ1 i).pl = true) ∧
  wLcL ct.ix ct.wg c e (rgL 0 j.toNat) [] (wipeD ρ1 ct.ix) fun acc ρ2 => hid P .tg (.val (.own acc)) (unwD ρ1 ρ2 ct.ix) := Iff.rfl
@[simp ↓] theorem x_lcR2 {f : WA} {ct : CT} {c : WT} {e : WE} {X : XD} {ρ : List D} {P : R → List D → Prop} : wLcR2 f ct c e X ρ P ↔ f X ρ fun rs ρ1 => ∃ a j : Int, rs.map (R.get ρ1) = [.int a, .int j] ∧ rgOk a ∧ rgOk j ∧ (∀ i ∈ ct.ix, (dAt ρ1 i).pl = true) ∧
  wLcL ct.ix ct.wg c e (rgL a (j - a).toNat) [] (wipeD ρ1 ct.ix) fun acc ρ2 => hid P .tg (.val (.own acc)) (unwD ρ1 ρ2 ct.ix) := Iff.rfl
theorem intc_iff {d : D} {p : Int → Prop} : (∃ i, d = .int i ∧ p i) ↔ intc d p := by
  constructor
  · rintro ⟨i, e, h⟩
    subst e
    exact h
  · intro h
    cases d <;> first | exact ⟨_, rfl, h⟩ | exact False.elim h
@[simp ↓] theorem x_sl {f : WE} {lo hi : Option WE} {X : XD} {ρ : List D} {P : R → List D → Prop} : wSl f lo hi X ρ P ↔ f X ρ fun r ρ1 => partW lo X ρ1 fun l ρ2 => partW hi X ρ2 fun u ρ3 => opSl l u (r.get ρ3) (hid1 (fun d => P (.val d) ρ3) .tg) := Iff.rfl
@[simp ↓] theorem x_part0 {X : XD} {ρ : List D} {k : Option Int → List D → Prop} : partW none X ρ k ↔ k none ρ := Iff.rfl
@[simp ↓] theorem x_part1 {f : WE} {X : XD} {ρ : List D} {k : Option Int → List D → Prop} : partW (some f) X ρ k ↔ f X ρ fun r ρ1 => intc (r.get ρ1) (hid1 (fun i => k (some i) ρ1) .tg) := by
  have e : (fun (r : R) (ρ1 : List D) => ∃ i, r.get ρ1 = .int i ∧ k (some i) ρ1) = fun r ρ1 => intc (r.get ρ1) (hid1 (fun i => k (some i) ρ1) .tg) := by
    funext r ρ1
    exact propext intc_iff
  exact iff_of_eq (congrArg (fun q => f X ρ q) e)
end FL

end
section
set_option maxHeartbeats 1000000
/-! FL22: to go through own operators by simp. -/
namespace FL
open PySem PySem.Spec PyProof.Rows L2
section
variable {X : XD} {ρ : List D} {P : R → List D → Prop} {p : D → Prop} {F : WF} {ks : List Bool} {C m : Str} {op : Op2} {f g : WE} {a : WA} {rs : List R} {neg : Bool} {xs : List D} {ns : List Str}
@[simp ↓] theorem x_callD : callD F ks rs X ρ P ↔ ks.length = rs.length ∧ F (fun x ds' => X x (putB (argD ks rs ρ).2.2 ds' (argD ks rs ρ).2.1)) (argD ks rs ρ).1 fun d ds' => hid P .tg (.val d) (putB (argD ks rs ρ).2.2 ds' (argD ks rs ρ).2.1) := Iff.rfl
@[simp ↓] theorem x_binM : wBinM C F ks op f g X ρ P ↔ f X ρ fun r1 ρ1 => g X ρ1 fun r2 ρ2 =>
  if (r1.get ρ2).isI C = true then (r2.get ρ2).isI C = true ∧ callD F ks [r1, r2] X ρ2 P else op (r1.get ρ2) (r2.get ρ2) (hid1 (fun d => P (.val d) ρ2) .tg) := Iff.rfl
@[simp ↓] theorem x_inM : wInM neg C F ks op f g X ρ P ↔ f X ρ fun r1 ρ1 => g X ρ1 fun r2 ρ2 =>
  if (r2.get ρ2).isI C = true then callD F ks [r2, r1] X ρ2 (fun r ρ' => blc (r.get ρ') (hid1 (fun b => P (.val (.bl (neg != b))) ρ') .tg)) else op (r1.get ρ2) (r2.get ρ2) (hid1 (fun d => P (.val d) ρ2) .tg) := Iff.rfl
@[simp ↓] theorem x_neM : wNeM C F ks op f g X ρ P ↔ f X ρ fun r1 ρ1 => g X ρ1 fun r2 ρ2 =>
  if (r1.get ρ2).isI C = true then (r2.get ρ2).isI C = true ∧ callD F ks [r1, r2] X ρ2 (fun r ρ' => blc (r.get ρ') (hid1 (fun b => P (.val (.bl (!b))) ρ') .tg)) else op (r1.get ρ2) (r2.get ρ2) (hid1 (fun d => P (.val d) ρ2) .tg) := Iff.rfl
@[simp ↓] theorem x_unM : wUnM C F ks f X ρ P ↔ f X ρ fun r ρ1 => (r.get ρ1).isI C = true ∧ callD F ks [r] X ρ1 P := Iff.rfl
@[simp ↓] theorem x_meth : wMeth C m F ks f a X ρ P ↔ f X ρ fun r ρ1 => (r.get ρ1).isM C m = true ∧ a X ρ1 fun rs ρ2 => callD F ks (r :: rs) X ρ2 P := Iff.rfl
@[simp] theorem x_isI1 : (D.ins C ns xs).isI C = true := by simp [D.isI]
@[simp] theorem x_isI2 : (D.non).isI C = false := rfl
@[simp] theorem x_isI3 {b : Bool} : (D.bl b).isI C = false := rfl
@[simp] theorem x_isI4 {b : Int} : (D.int b).isI C = false := rfl
@[simp] theorem x_isI5 {b : Str} : (D.str b).isI C = false := rfl
@[simp] theorem x_isI6 : (D.own xs).isI C = false := rfl
@[simp] theorem x_isI7 : (D.lst xs).isI C = false := rfl
@[simp] theorem x_isI8 : (D.tup xs).isI C = false := rfl
@[simp] theorem x_isI9 : (D.flst xs).isI C = false := rfl
theorem isM_ins (h : ns.contains m = false) : (D.ins C ns xs).isM C m = true := by
  show (decide (C = C) && !ns.contains m) = true
  rw [h]; simp
variable {isc : List Str} {d : D} {t : String} {cs : List D}
@[simp] theorem x_isc1 : opIsiC isc [d, .ty t] p ↔ opIsi [d, .ty t] p := Iff.rfl
@[simp] theorem x_isc2 : opIsiC isc [d, .tup cs] p ↔ opIsi [d, .tup cs] p := Iff.rfl
theorem isc_ins {E : Str} (h : C ∈ isc) (hE : E ∈ isc) : opIsiC isc [.ins E ns xs, .cls C] p ↔ p (.bl (decide (E = C))) := by
  refine ⟨fun z => ?_, fun h2 => ⟨h, .inr ⟨E, ns, xs, rfl, hE, h2⟩⟩⟩
  rcases z.2 with ⟨h, _⟩ | ⟨E', ks, xs', e, _, h⟩
  · cases h
  · cases e; exact h
theorem isc_base (h : C ∈ isc) (hd : d.tyN.isSome = true) : opIsiC isc [d, .cls C] p ↔ p (.bl false) := by
  refine ⟨fun z => ?_, fun h2 => ⟨h, .inl ⟨hd, h2⟩⟩⟩
  rcases z.2 with ⟨_, h⟩ | ⟨E', ks, xs', e, _, h⟩
  · exact h
  · subst e; cases hd
@[simp] theorem x_bo8 : binOf .LShift = opShlB := rfl
@[simp] theorem x_bo9 : binOf .RShift = opShrB := rfl
@[simp] theorem x_bo10 : binOf .BitOr = opOrB := rfl
@[simp] theorem x_bo11 : binOf .BitAnd = opAndB := rfl
theorem x_orB {i j : Int} : opOrB (.int i) (.int j) p ↔ p (.int (Builtin.bitOr i j)) := ⟨fun h => h.2, fun h => ⟨trivial, h⟩⟩
theorem x_shlB {i j : Int} : opShlB (.int i) (.int j) p ↔ CShl i j ∧ p (.int (i * 2 ^ j.toNat)) := Iff.rfl
theorem x_shrB {i j : Int} : opShrB (.int i) (.int j) p ↔ 0 ≤ j ∧ p (.int (i / 2 ^ j.toNat)) := Iff.rfl
@[simp] theorem x_lcm {i j : Int} : opLcm [.int i, .int j] p ↔ i.natAbs < 2 ^ 64 ∧ j.natAbs < 2 ^ 64 ∧ p (.int ((Nat.lcm i.natAbs j.natAbs : Nat) : Int)) := Iff.rfl
end
end FL

end
section
set_option maxHeartbeats 1000000
/-! FL23: what nearly all laws have: a cell, digits; lists of ints; == of such. -/
namespace FL
open PySem PySem.Spec PyProof.Rows L2
abbrev nI (ns : List Int) : List D := ns.map D.int
abbrev nB (bs : List Bool) : List D := bs.map D.bl
@[simp] theorem nI_pl (ns : List Int) : (nI ns).all D.pl = true := by simp [List.all_map]
@[simp] theorem nB_pl (ns : List Bool) : (nB ns).all D.pl = true := by simp [List.all_map]
@[simp] theorem nI_shs (ns : List Int) : D.shs (nI ns) = nI ns := shs_of_pl (nI_pl ns)
@[simp] theorem nB_shs (ns : List Bool) : D.shs (nB ns) = nB ns := shs_of_pl (nB_pl ns)
theorem nI_get {ns : List Int} {k : Nat} {i : Int} (h : ns[k]? = some i) : (nI ns)[k]? = some (.int i) := by rw [List.getElem?_map, h]; rfl
theorem nB_get {ns : List Bool} {k : Nat} {i : Bool} (h : ns[k]? = some i) : (nB ns)[k]? = some (.bl i) := by rw [List.getElem?_map, h]; rfl
def Wcell : WS := (wSeq (wIf (wTest (wBin (cmpOf .Lt) (wVar 1) (wCB opLen (wCons (wVar 0) wNil)))) (wRet [0, 1] (wBin opIx (wVar 0) (wVar 1))) wNext) (wSeq (wAsg 2 (wC (.int 17))) (wSeq (wFor (wVar 0) (gN 3) (wAsg 2 (wBin (binOf .Mod) (wCB opInt (wCons (wBin (binOf .Add) (wBin (binOf .Mult) (wVar 2) (wC (.int 31))) (wBin (binOf .Mod) (wCB opInt (wCons (wVar 3) wNil)) (wC (.int 1000003)))) wNil)) (wC (.int 1000003))))) (wRet [0, 1] (wBin (binOf .Mod) (wCB opInt (wCons (wBin (binOf .Mult) (wBin (binOf .Mult) (wBin (binOf .Add) (wVar 2) (wC (.int 7))) (wBin (binOf .Add) (wVar 1) (wC (.int 3)))) (wC (.int 69621))) wNil)) (wC (.int 2147483647)))))))
def Wdigits : WS := (wSeq (wAsg 2 (wCB opLst wNil)) (wSeq (wAsg 3 (wCB opInt (wCons (wVar 0) wNil))) (wSeq (wIf (wTest (wBin (cmpOf .GtE) (wVar 3) (wBin (binOf .Pow) (wC (.int 10)) (wC (.int 18))))) (wSeq (wAsg 3 (wBin (binOf .Mod) (wCB opInt (wCons (wBin (binOf .Sub) (wVar 3) (wBin (binOf .Pow) (wC (.int 10)) (wC (.int 18)))) wNil)) (wBin (binOf .Mult) (wBin (binOf .Mult) (wBin (binOf .Pow) (wC (.int 10)) (wC (.int 60))) (wBin (binOf .Pow) (wC (.int 10)) (wC (.int 60)))) (wBin (binOf .Pow) (wC (.int 10)) (wC (.int 60)))))) (wSeq (wFor (wVar 1) (gN 4) (wSeq (wExpr (wApp 2 (wSh (wBin (binOf .Mod) (wCB opInt (wCons (wVar 3) wNil)) (wVar 4))))) (wAsg 3 (wBin (binOf .FloorDiv) (wCB opInt (wCons (wVar 3) wNil)) (wVar 4))))) (wRet [0, 1] (wVar 2)))) wNext) (wSeq (wAsg 5 (wBin (binOf .Mod) (wCB opInt (wCons (wVar 3) wNil)) (wC (.int 2147483629)))) (wSeq (wRng1 (wCons (wCB opLen (wCons (wVar 1) wNil)) wNil) 6 (wSeq (wAsg 5 (wBin (binOf .Mod) (wCB opInt (wCons (wBin (binOf .Add) (wBin (binOf .Add) (wBin (binOf .Mult) (wVar 5) (wC (.int 48271))) (wBin (binOf .Mult) (wC (.int 974711)) (wVar 6))) (wC (.int 12345))) wNil)) (wC (.int 2147483647)))) (wSeq (wAsg 7 (wBin (binOf .Mod) (wCB opInt (wCons (wBin (binOf .Mult) (wVar 5) (wBin (binOf .Add) (wBin (binOf .FloorDiv) (wVar 5) (wC (.int 65537))) (wC (.int 3)))) wNil)) (wC (.int 2147483629)))) (wExpr (wApp 2 (wSh (wBin (binOf .Mod) (wBin (binOf .FloorDiv) (wVar 7) (wC (.int 19))) (wBin opIx (wVar 1) (wVar 6))))))))) (wRet [0, 1] (wVar 2)))))))
theorem cell_ok {X : XD} {ns : List Int} {k : Int} {P : D → List D → Prop} (h0 : 0 ≤ k) (hk : k < 1000) (h : ∀ c, P (.int c) [.flst (nI ns), .int k]) : wFn 2 4 [0, 1] Wcell X [.flst (nI ns), .int k] P := by
  by_cases c : k < ns.length
  · simp -dsimp [Wcell, c]
    have hk2 : k.toNat < ns.length := by omega
    refine ix_of rfl (atI_int h0 (nI_get (List.getElem?_eq_getElem hk2))) ?_
    simp -dsimp
    exact h _
  · simp -dsimp [Wcell, c]
    refine fol_inv (fun j ρ => ∃ s d, sm s ∧ ρ = [.flst (nI ns), .int k, .int s, d]) ⟨17, _, by unfold sm; omega, rfl⟩ (fun j d ρ N hd ⟨s, d', hs, e⟩ hN => ?_) fun ρ ⟨s, d', hs, e⟩ => ?_
    · subst e
      rw [List.getElem?_map] at hd
      obtain ⟨v, hv, rfl⟩ := Option.map_eq_some_iff.mp hd
      simp -dsimp
      refine ⟨cmulS hs (by unfold sm; omega), hN _ ⟨_, _, ?_, rfl⟩⟩
      have a1 := Int.emod_nonneg (s * 31 + v % 1000003) (show (1000003 : Int) ≠ 0 by omega)
      have a2 := Int.emod_lt_of_pos (s * 31 + v % 1000003) (show (0 : Int) < 1000003 by omega)
      unfold sm
      omega
    · subst e
      simp -dsimp
      have b1 := sm_bits hs
      unfold sm at hs
      refine ⟨cmulW (bits_up (j := 65) (by omega) (by decide)) (by omega), ?_, h _⟩
      refine cmulW (bits_up (j := 90) ?_ (by decide)) (by omega)
      rw [Int.natAbs_mul]
      have c1 : (s + 7).natAbs < 2 ^ 65 := by omega
      have c2 : (k + 3).natAbs ≤ 2000 := by omega
      calc (s + 7).natAbs * (k + 3).natAbs ≤ 2 ^ 65 * 2000 := Nat.mul_le_mul (Nat.le_of_lt c1) c2
        _ < 2 ^ 90 := by decide
/-- digits below their sizes -/
def Good (sz row : List Int) : Prop := ∀ (i : Nat) (x s : Int), row[i]? = some x → sz[i]? = some s → 0 ≤ x ∧ x < s
theorem good_nil {sz : List Int} : Good sz [] := fun i x s h => by simp at h
theorem good_snoc {sz row : List Int} {x s : Int} (g : Good sz row) (hs : sz[row.length]? = some s) (h0 : 0 ≤ x) (h1 : x < s) : Good sz (row ++ [x]) := fun i y t hy ht => by
  by_cases c : i < row.length
  · rw [List.getElem?_append_left c] at hy
    exact g i y t hy ht
  · rw [List.getElem?_append_right (by omega)] at hy
    by_cases e : i = row.length
    · subst e
      rw [hs] at ht
      simp at hy
      cases ht
      subst hy
      exact ⟨h0, h1⟩
    · rw [List.getElem?_eq_none (by simp; omega)] at hy
      cases hy
theorem digits_ok {X : XD} {c : Int} {sz : List Int} {P : D → List D → Prop} (hl : sz.length < 1000000) (hz : ∀ s ∈ sz, 0 < s ∧ s < 1000000000000)
    (h : ∀ row d, row.length = sz.length → Good sz row → P (.own (nI row)) [.int c, d]) : wFn 2 8 [0, 1] Wdigits X [.int c, .own (nI sz)] P := by
  have w1 : CPow 10 18 := by unfold CPow; omega
  have w2 : CPow 10 60 := by unfold CPow; omega
  have hsh : D.shs (nI sz) = nI sz := shs_of_pl (nI_pl sz)
  by_cases big : (1000000000000000000 : Int) ≤ c
  · simp -dsimp [Wdigits, sizeLine, w1, w2, big, hsh]
    refine ⟨cmulW (by decide +kernel) (by decide +kernel), cmulW (by decide +kernel) (by decide +kernel), ?_⟩
    refine fol_inv (fun j ρ => ∃ row r d, row.length = j ∧ Good sz row ∧ ρ = [.int c, .lst (nI sz), .own (nI row), .int r, d, .und, .und, .und]) ⟨[], _, _, rfl, good_nil, rfl⟩ (fun j d ρ N hd ⟨row, r, d', hr, hg, e⟩ hN => ?_) fun ρ ⟨row, r, d', hr, hg, e⟩ => ?_
    · subst e
      rw [List.getElem?_map] at hd
      obtain ⟨s, hs, rfl⟩ := Option.map_eq_some_iff.mp hd
      obtain ⟨s0, s1⟩ := hz s (List.mem_of_getElem? hs)
      have rl : row.length < sz.length := by rw [hr]; exact (List.getElem?_eq_some_iff.mp hs).1
      simp -dsimp [sizeLine]
      refine ⟨s0, by omega, cdivW s0 (by omega), hN _ ⟨row ++ [r % s], _, _, by simp [hr], good_snoc hg (by rw [hr]; exact hs) (Int.emod_nonneg _ (by omega)) (Int.emod_lt_of_pos _ s0), by simp; exact ⟨rfl, rfl⟩⟩⟩
    · subst e
      simp -dsimp
      exact h row _ (by simpa using hr) hg
  · simp -dsimp [Wdigits, sizeLine, w1, w2, big, hsh]
    refine ⟨rgOk_of (by omega) (by omega), ?_⟩
    refine for_inv (fun j ρ => ∃ row s a b, row.length = j ∧ Good sz row ∧ (0 ≤ s ∧ s < 2147483647) ∧ ρ = [.int c, .own (nI sz), .own (nI row), .int c, .und, .int s, a, b]) ⟨[], _, _, _, rfl, good_nil, ⟨Int.emod_nonneg _ (by omega), ?_⟩, rfl⟩ (fun j ρ N hj ⟨row, s, a, b, hr, hg, hs, e⟩ hN => ?_) fun ρ ⟨row, s, a, b, hr, hg, hs, e⟩ => ?_
    · have := Int.emod_lt_of_pos c (show (0 : Int) < 2147483629 by omega)
      omega
    · subst e
      have hj2 := List.getElem?_eq_getElem hj
      obtain ⟨s0, s1⟩ := hz sz[j] (List.getElem_mem hj)
      simp -dsimp [sizeLine]
      generalize es : (s * 48271 + 974711 * (j : Int) + 12345) % 2147483647 = s2
      have t0 : 0 ≤ s2 := by rw [← es]; exact Int.emod_nonneg _ (by omega)
      have t1 : s2 < 2147483647 := by rw [← es]; exact Int.emod_lt_of_pos _ (by omega)
      have u0 : 0 ≤ s2 / 65537 := Int.ediv_nonneg t0 (by omega)
      have u1 : s2 / 65537 ≤ s2 := Int.ediv_le_self _ t0
      refine ⟨cmulS (by unfold sm; omega) (by unfold sm; omega), cmulS (by unfold sm; omega) (by unfold sm; omega), cdivS (by omega) (by unfold sm; omega), cmulS (by unfold sm; omega) (by unfold sm; omega), cdivS (by omega) (by unfold sm; omega), ?_⟩
      refine (ix_own (nI_pl sz) (nI_get hj2)).mpr ?_
      simp -dsimp [sizeLine]
      refine ⟨s0, by omega, hN _ ⟨row ++ [_], _, _, _, by simp [hr], good_snoc hg (by rw [hr]; exact hj2) (Int.emod_nonneg _ (by omega)) (Int.emod_lt_of_pos _ s0), ⟨t0, t1⟩, by simp; exact ⟨rfl, rfl, rfl⟩⟩⟩
    · subst e
      simp -dsimp
      exact h row _ hr hg
end FL

end
section
set_option maxHeartbeats 1000000
/-! FL24: comprehensions and loops by what they make. -/
namespace FL
open PySem PySem.Spec PyProof.Rows L2
theorem lc_gen {i : Nat} {ds : List D} {c : WT} {e : WE} {ρ : List D} {P : List D → List D → Prop} (b : Nat → Bool) (v : Nat → D) (hρ : ρ.set i .und = ρ) (hn : ds.length ≤ sizeLine)
    (hc : ∀ k d, ds[k]? = some d → ∀ T : Bool → List D → Prop, T (b k) (ρ.set i d) → c (fun _ _ => False) (ρ.set i d) T)
    (he : ∀ k d, ds[k]? = some d → b k = true → ∀ N : R → List D → Prop, N (.val (v k)) (ρ.set i d) → e (fun _ _ => False) (ρ.set i d) N)
    (hP : P (((List.range ds.length).filter b).map v) ρ) : wLcL [i] (gN i) c e ds [] ρ P := by
  refine lcl_inv (fun k acc ρ' => acc = ((List.range k).filter b).map v ∧ ρ' = ρ) ⟨rfl, rfl⟩ (fun k d acc ρ' N hd ⟨ha, e1⟩ hN => ?_) fun acc ρ' ⟨ha, e1⟩ => ?_
  · subst e1
    have hk : k < ds.length := (List.getElem?_eq_some_iff.mp hd).1
    have back : (ρ'.set i d).set i .und = ρ' := by rw [List.set_set]; exact hρ
    show c _ (ρ'.set i d) _
    refine hc k d hd _ ?_
    cases hb : b k with
    | false =>
      rw [if_neg Bool.false_ne_true]
      refine hN acc _ ⟨?_, back⟩
      rw [ha, List.range_succ, List.filter_append, List.map_append]
      simp [hb]
    | true =>
      rw [if_pos rfl]
      refine he k d hd hb _ ⟨?_, hN _ _ ⟨?_, back⟩⟩
      · rw [ha, List.length_map]
        have := List.length_filter_le b (List.range k)
        rw [List.length_range] at this
        omega
      · rw [ha, List.range_succ, List.filter_append, List.map_append]
        simp [hb, arg1]
  · subst e1
    rw [ha]
    exact hP
theorem rgL_len' {lo : Int} {n : Nat} : (rgL lo n).length = n := by simp [rgL]
theorem rgL_get' {lo : Int} {n k : Nat} {d : D} (h : (rgL lo n)[k]? = some d) : k < n ∧ d = .int (lo + k) := by
  unfold rgL at h
  rw [List.getElem?_map] at h
  obtain ⟨j, h1, h2⟩ := Option.map_eq_some_iff.mp h
  have h3 := List.getElem?_eq_some_iff.mp h1
  obtain ⟨h4, h5⟩ := h3
  rw [List.getElem_range] at h5
  rw [List.length_range] at h4
  subst h5
  exact ⟨h4, h2.symm⟩
theorem lc_rng {i : Nat} {lo : Int} {n : Nat} {c : WT} {e : WE} {ρ : List D} {P : List D → List D → Prop} (b : Nat → Bool) (v : Nat → D) (hρ : ρ.set i .und = ρ) (hn : n ≤ sizeLine)
    (hc : ∀ k, k < n → ∀ T : Bool → List D → Prop, T (b k) (ρ.set i (.int (lo + k))) → c (fun _ _ => False) (ρ.set i (.int (lo + k))) T)
    (he : ∀ k, k < n → b k = true → ∀ N : R → List D → Prop, N (.val (v k)) (ρ.set i (.int (lo + k))) → e (fun _ _ => False) (ρ.set i (.int (lo + k))) N)
    (hP : P (((List.range n).filter b).map v) ρ) : wLcL [i] (gN i) c e (rgL lo n) [] ρ P := by
  refine lc_gen b v hρ (by rw [rgL_len']; exact hn) (fun k d hd T hT => ?_) (fun k d hd hb N hN => ?_) (by rw [rgL_len']; exact hP)
  · obtain ⟨hk, rfl⟩ := rgL_get' hd
    exact hc k hk T hT
  · obtain ⟨hk, rfl⟩ := rgL_get' hd
    exact he k hk hb N hN
/-- without a test -/
theorem lc_rngY {i : Nat} {lo : Int} {n : Nat} {e : WE} {ρ : List D} {P : List D → List D → Prop} (v : Nat → D) (hρ : ρ.set i .und = ρ) (hn : n ≤ sizeLine)
    (he : ∀ k, k < n → ∀ N : R → List D → Prop, N (.val (v k)) (ρ.set i (.int (lo + k))) → e (fun _ _ => False) (ρ.set i (.int (lo + k))) N)
    (hP : P ((List.range n).map v) ρ) : wLcL [i] (gN i) wYes e (rgL lo n) [] ρ P := by
  refine lc_rng (fun _ => true) v hρ hn (fun k hk T hT => hT) (fun k hk _ N hN => he k hk N hN) ?_
  rw [List.filter_eq_self.mpr fun _ _ => rfl]
  exact hP
theorem lc_genY {i : Nat} {ds : List D} {e : WE} {ρ : List D} {P : List D → List D → Prop} (v : Nat → D) (hρ : ρ.set i .und = ρ) (hn : ds.length ≤ sizeLine)
    (he : ∀ k d, ds[k]? = some d → ∀ N : R → List D → Prop, N (.val (v k)) (ρ.set i d) → e (fun _ _ => False) (ρ.set i d) N)
    (hP : P ((List.range ds.length).map v) ρ) : wLcL [i] (gN i) wYes e ds [] ρ P := by
  refine lc_gen (fun _ => true) v hρ hn (fun k d hk T hT => hT) (fun k d hk _ N hN => he k d hk N hN) ?_
  rw [List.filter_eq_self.mpr fun _ _ => rfl]
  exact hP
theorem while_inv {c : WT} {f : WS} {X : XD} {E : WEnds} {ρ : List D} (I : Nat → List D → Prop) (m0 : Nat) (h0 : I m0 ρ)
    (hs : ∀ m ρ, I m ρ → c X ρ fun b ρ1 => if b = true then f X (E.lp fun ρ' => ∃ m', m' < m ∧ I m' ρ') ρ1 else E.nx ρ1) : wWhile c f X E ρ := ⟨I, ⟨m0, h0⟩, hs⟩
/-! ### a mark: simp stops here -/
def wMark (f : WS) : WS := f
theorem x_mark {f : WS} {X : XD} {E : WEnds} {ρ : List D} : wMark f X E ρ ↔ f X E ρ := Iff.rfl
theorem mk_cut {v w : WS} {X : XD} {E : WEnds} {ρ : List D} (J : List D → Prop) (h1 : ∀ N : List D → Prop, (∀ ρ, J ρ → N ρ) → v X (E.th N) ρ) (h2 : ∀ ρ, J ρ → w X E ρ) : wMark (wSeq v w) X E ρ := h1 _ h2
theorem mk_go {f : WS} {X : XD} {E : WEnds} {ρ : List D} (h : f X E ρ) : wMark f X E ρ := h
/-! ### lists of ints -/
theorem ixOI {xs : List Int} {k : Int} {q : D → Prop} (h0 : 0 ≤ k) (h : k < xs.length) (hq : ∀ v, xs[k.toNat]? = some v → q (.int v)) : opIx (.own (nI xs)) (.int k) q := by
  have hk : k.toNat < xs.length := by omega
  have e := ix_own (p := q) (nI_pl xs) (nI_get (List.getElem?_eq_getElem hk))
  rw [Int.toNat_of_nonneg h0] at e
  exact e.mpr (hq _ (List.getElem?_eq_getElem hk))
theorem ixLI {xs : List Int} {k : Int} {q : D → Prop} (h0 : 0 ≤ k) (h : k < xs.length) (hq : ∀ v, xs[k.toNat]? = some v → q (.int v)) : opIx (.lst (nI xs)) (.int k) q := by
  have hk : k.toNat < xs.length := by omega
  have e := ix_of (d := .lst (nI xs)) (p := q) rfl (atI_int h0 (nI_get (List.getElem?_eq_getElem hk))) (hq _ (List.getElem?_eq_getElem hk))
  exact e
theorem mulI {a : Int} {s : Nat} {p : D → Prop} (hs : s < 1000000) (h : p (.own (nI (List.replicate s a)))) : opMul (.own [.int a]) (.int s) p := by
  refine ⟨[.int a], rfl, by omega, by omega, by simp; unfold sizeLine; omega, ?_⟩
  have e : ∀ n : Nat, (List.replicate n [D.int a]).flatten = nI (List.replicate n a) := fun n => by
    induction n with
    | zero => rfl
    | succ n ih =>
      rw [List.replicate_succ, List.flatten_cons, ih]
      rfl
  rw [Int.toNat_natCast, e]
  exact h
/-! ### loops with break -/
def _root_.FL.WEnds.lb (E : WEnds) (n b : List D → Prop) : WEnds := { E with nx := n, ct := n, bk := b }
section
variable {E : WEnds} {n b : List D → Prop}
@[simp ↓] theorem x_lb1 : (E.lb n b).nx = n := rfl
@[simp ↓] theorem x_lb2 : (E.lb n b).rt = E.rt := rfl
@[simp ↓] theorem x_lb3 : (E.lb n b).bk = b := rfl
@[simp ↓] theorem x_lb4 : (E.lb n b).ct = n := rfl
end
section
variable {i : Nat} {f : WS} {g : WG} {X : XD} {E : WEnds} {lo : Int} {n : Nat}
theorem for_brk (I : Nat → List D → Prop) (J : List D → Prop) {ρ : List D} (h0 : I 0 ρ)
    (hs : ∀ (k : Nat) (ρ : List D) (N B : List D → Prop), k < n → I k ρ → (∀ ρ, I (k + 1) ρ → N ρ) → (∀ ρ, J ρ → B ρ) → f X (E.lb N B) (ρ.set i (.int (lo + k))))
    (he : ∀ ρ, I n ρ → J ρ) (hj : ∀ ρ, J ρ → E.nx ρ) : wForR i f X E lo 0 n ρ :=
  for_inv I h0 (fun k ρ N hk hi hN => hs k ρ N E.nx hk hi hN hj) fun ρ h => hj ρ (he ρ h)
theorem fol_brk (I : Nat → List D → Prop) (J : List D → Prop) {ds : List D} {ρ : List D} (h0 : I 0 ρ)
    (hs : ∀ (k : Nat) (d : D) (ρ : List D) (N B : List D → Prop), ds[k]? = some d → I k ρ → (∀ ρ, I (k + 1) ρ → N ρ) → (∀ ρ, J ρ → B ρ) → g d ρ fun ρ1 => f X (E.lb N B) ρ1)
    (he : ∀ ρ, I ds.length ρ → J ρ) (hj : ∀ ρ, J ρ → E.nx ρ) : wForL g f X E ds ρ :=
  fol_inv I h0 (fun k d ρ N hk hi hN => hs k d ρ N E.nx hk hi hN hj) fun ρ h => hj ρ (he ρ h)
end
/-! ### a, b = .. -/
section
variable {i : Nat} {is : List Nat} {d : D} {xs : List D} {ρ : List D} {P : List D → Prop}
@[simp] theorem x_gT1 : gT is (.tup xs) ρ P ↔ gNs is xs ρ P := ⟨fun ⟨_, e, h⟩ => by cases e; exact h, fun h => ⟨_, rfl, h⟩⟩
@[simp] theorem x_gNs0 : gNs [] [] ρ P ↔ P ρ := Iff.rfl
@[simp] theorem x_gNs1 : gNs (i :: is) (d :: xs) ρ P ↔ gNs is xs (ρ.set i d) P := Iff.rfl
end
/-! ### x[i] = v -/
section
variable {i : Nat} {f g : WE} {X : XD} {E : WEnds} {ρ : List D}
@[simp ↓] theorem x_setIx : wSetIx i f g X E ρ ↔ f X ρ fun r ρ1 => (dAt (r.en ρ1) i).isOwn = true ∧ g X (r.en ρ1) fun r2 ρ2 => ownc (dAt ρ2 i) (hid1 (fun xs => intc (r2.get ρ2) (hid1 (fun k => ∃ j, ixN xs.length k = some j ∧ E.nx (ρ2.set i (.own (xs.set j (r.tk ρ1))))) .tg)) .tg) := by
  have e : ∀ (r : R) (ρ1 : List D), (fun (r2 : R) (ρ2 : List D) => match dAt ρ2 i, r2.get ρ2 with
    | .own xs, .int k => ∃ j, ixN xs.length k = some j ∧ E.nx (ρ2.set i (.own (xs.set j (r.tk ρ1))))
    | _, _ => False) = fun r2 ρ2 => ownc (dAt ρ2 i) (hid1 (fun xs => intc (r2.get ρ2) (hid1 (fun k => ∃ j, ixN xs.length k = some j ∧ E.nx (ρ2.set i (.own (xs.set j (r.tk ρ1))))) .tg)) .tg) := by
    intro r ρ1
    funext r2 ρ2
    cases h1 : dAt ρ2 i <;> cases h2 : r2.get ρ2 <;> simp [ownc, intc, hid1]
  exact iff_of_eq (congrArg (fun q => f X ρ q) (funext fun r => funext fun ρ1 => congrArg (fun q => (dAt (r.en ρ1) i).isOwn = true ∧ g X (r.en ρ1) q) (e r ρ1)))
theorem setc {xs : List D} {k : Int} {j : Nat} {P : Nat → Prop} (hk : k = (j : Int)) (hj : j < xs.length) (h : P j) : ∃ j, ixN xs.length k = some j ∧ P j := by
  subst hk
  refine ⟨j, ?_, h⟩
  unfold ixN
  rw [if_pos (by omega), if_pos (by omega)]
  rfl
end
theorem ixN_of {n : Nat} {i : Int} (h0 : 0 ≤ i) (h : i < n) : ixN n i = some i.toNat := by
  unfold ixN
  rw [if_pos h0, if_pos h]
theorem inD_ints {i : Int} : ∀ {R : List Int}, inD (.int i) (nI R) = decide (i ∈ R)
  | [] => rfl
  | r :: R => by
    show (D.eqv (.int r) (.int i) || inD (.int i) (nI R)) = _
    rw [inD_ints, eqv_int]
    by_cases c : i = r
    · subst c; simp
    · have c2 : ¬ r = i := fun z => c z.symm
      simp [c, c2]
theorem flat_ints (R : List Int) : (nI R).all D.flat = true := List.all_eq_true.mpr fun d hd => by
  obtain ⟨i, _, e⟩ := List.mem_map.mp hd
  subst e; rfl
theorem inI_tup {neg : Bool} {i : Int} {R : List Int} {p : D → Prop} (h : p (.bl (neg != decide (i ∈ R)))) : opIn neg (.int i) (.tup (nI R)) p := ⟨_, rfl, rfl, flat_ints R, by rw [inD_ints]; exact h⟩
theorem inI_lst {neg : Bool} {i : Int} {R : List Int} {p : D → Prop} (h : p (.bl (neg != decide (i ∈ R)))) : opIn neg (.int i) (.lst (nI R)) p := ⟨_, rfl, rfl, flat_ints R, by rw [inD_ints]; exact h⟩
theorem inI_own {neg : Bool} {i : Int} {R : List Int} {p : D → Prop} (h : p (.bl (neg != decide (i ∈ R)))) : opIn neg (.int i) (.own (nI R)) p := ⟨_, sq_own (nI_pl R), rfl, flat_ints R, by rw [inD_ints]; exact h⟩
theorem eqv_bool {a b : Bool} : D.eqv (.bl a) (.bl b) = decide (a = b) := eqv_bl
/-! ### slices -/
theorem sIx_in {n m : Nat} {k : Int} (h0 : 0 ≤ k) (h : k ≤ n) : HT.sIx n m (some k) = k.toNat := by
  show (if k < 0 then _ else min k.toNat n) = _
  rw [if_neg (by omega)]
  omega
theorem sl_own {xs : List D} {lo hi : Option Int} {p : D → Prop} (hx : xs.all D.pl = true) (h : p (.own (cutD xs lo hi))) : opSl lo hi (.own xs) p := ⟨xs, if_pos hx, h⟩
theorem cut_take {xs : List D} {k : Int} (h0 : 0 ≤ k) (h : k ≤ xs.length) : cutD xs none (some k) = xs.take k.toNat := by
  unfold cutD
  rw [sIx_in h0 h]
  rfl
theorem cut_drop {xs : List D} {k : Int} (h0 : 0 ≤ k) (h : k ≤ xs.length) : cutD xs (some k) none = xs.drop k.toNat := by
  unfold cutD
  rw [sIx_in h0 h]
  have e : HT.sIx xs.length xs.length none = xs.length := rfl
  rw [e, List.take_of_length_le (by rw [List.length_drop]; exact Nat.le_refl _)]
theorem cut_mid {xs : List D} {k l : Int} (h0 : 0 ≤ k) (h : k ≤ xs.length) (h1 : 0 ≤ l) (h2 : l ≤ xs.length) : cutD xs (some k) (some l) = (xs.drop k.toNat).take (l.toNat - k.toNat) := by
  unfold cutD
  rw [sIx_in h0 h, sIx_in h1 h2]
/-! ### fields -/
theorem fld_ins {t : CTab} {C : Str} {ks : List Str} {xs : List D} {fl : Str} {j : Nat} {v : D} {q : D → Prop} (ht : t.has C fl = true) (hj : fIx ks fl = some j) (hv : xs[j]? = some v) (hp : v.pl = true) : opFld t fl (.ins C ks xs) q ↔ q v := by
  refine ⟨fun ⟨_, i, x, h1, h2, _, h⟩ => ?_, fun h => ⟨ht, j, v, hj, hv, hp, h⟩⟩
  rw [hj] at h1
  cases h1
  rw [hv] at h2
  cases h2
  exact h
theorem fld_oins {t : CTab} {C : Str} {ks : List Str} {xs : List D} {fl : Str} {j : Nat} {v : D} {q : D → Prop} (ht : t.has C fl = true) (hj : fIx ks fl = some j) (hv : xs[j]? = some v) (hp : v.pl = true) : opFld t fl (.oins C ks xs) q ↔ q v := by
  refine ⟨fun ⟨_, i, x, h1, h2, _, h⟩ => ?_, fun h => ⟨ht, j, v, hj, hv, hp, h⟩⟩
  rw [hj] at h1
  cases h1
  rw [hv] at h2
  cases h2
  exact h
theorem putK_new {ks : List Str} {xs : List D} {f : Str} {d : D} (h : fIx ks f = none) : putK ks xs f d = (ks ++ [f], xs ++ [d]) := by unfold putK; rw [h]
/-! ### == of lists of ints -/
theorem opAll_nB {bs : List Bool} {p : D → Prop} (h : p (.bl (bs.all id))) : opAll [.own (nB bs)] p := ⟨bs, if_pos (nB_pl bs), h⟩
theorem canLay_ints : ∀ ns : List Int, PyData.canLayAll0 (D.pys (nI ns)) = true
  | [] => rfl
  | n :: ns => by
    show (PyData.canLay0 (.int n) && PyData.canLayAll0 (D.pys (nI ns))) = true
    rw [canLay_ints ns]; rfl
theorem dats_ints : ∀ ns : List Int, D.dats (nI ns) = true
  | [] => rfl
  | n :: ns => by
    show (true && D.dats (nI ns)) = true
    rw [dats_ints ns]; rfl
theorem depth_ints : ∀ ns : List Int, PyData.depthAll (D.pys (nI ns)) = 0
  | [] => rfl
  | n :: ns => by
    show max (PyData.depth (.int n)) (PyData.depthAll (D.pys (nI ns))) = 0
    rw [depth_ints ns]; rfl
theorem canLay_bls : ∀ ns : List Bool, PyData.canLayAll0 (D.pys (nB ns)) = true
  | [] => rfl
  | n :: ns => by
    show (PyData.canLay0 (.bool n) && PyData.canLayAll0 (D.pys (nB ns))) = true
    rw [canLay_bls ns]; rfl
theorem dats_bls : ∀ ns : List Bool, D.dats (nB ns) = true
  | [] => rfl
  | n :: ns => by
    show (true && D.dats (nB ns)) = true
    rw [dats_bls ns]; rfl
theorem depth_bls : ∀ ns : List Bool, PyData.depthAll (D.pys (nB ns)) = 0
  | [] => rfl
  | n :: ns => by
    show max (PyData.depth (.bool n)) (PyData.depthAll (D.pys (nB ns))) = 0
    rw [depth_bls ns]; rfl
end FL

end
section
set_option maxHeartbeats 1000000
/-! SZ0: sets of numbers that come round: the least form. Plain. -/
namespace SZ
def Per (f : Nat → Bool) (p N : Nat) : Prop := ∀ n, N ≤ n → f (n + p) = f n
theorem Per.mul {f : Nat → Bool} {p N : Nat} (h : Per f p N) : ∀ k n, N ≤ n → f (n + k * p) = f n
  | 0, n, _ => by simp
  | k + 1, n, hn => by
    have e : n + (k + 1) * p = (n + k * p) + p := by rw [Nat.succ_mul]; omega
    rw [e, h _ (by omega), h.mul k n hn]
theorem Per.mod {f : Nat → Bool} {p s : Nat} (h : Per f p s) (m : Nat) : f (s + m) = f (s + m % p) := by
  have z := h.mul (m / p) (s + m % p) (by omega)
  have e : s + m % p + m / p * p = s + m := by
    have := Nat.mod_add_div m p
    rw [Nat.mul_comm] at this
    omega
  rw [← z, e]
theorem Per.mono {f : Nat → Bool} {p N M : Nat} (h : Per f p N) (l : N ≤ M) : Per f p M := fun n hn => h n (Nat.le_trans l hn)
theorem per_gcd {f : Nat → Bool} {N : Nat} : ∀ (t p q : Nat), p + q ≤ t → Per f p N → Per f q N → Per f (Nat.gcd p q) N
  | 0, p, q, ht, hp, hq => by
    have : p = 0 := by omega
    subst this
    rw [Nat.gcd_zero_left]; exact hq
  | t + 1, p, q, ht, hp, hq => by
    by_cases h0 : p = 0
    · subst h0; rw [Nat.gcd_zero_left]; exact hq
    by_cases h1 : q = 0
    · subst h1; rw [Nat.gcd_zero_right]; exact hp
    by_cases h2 : q ≤ p
    · have hd : Per f (p - q) N := fun n hn => by
        have a := hq (n + (p - q)) (by omega)
        have e : n + (p - q) + q = n + p := by omega
        rw [e, hp n hn] at a
        exact a.symm
      have r := per_gcd t (p - q) q (by omega) hd hq
      have e : Nat.gcd (p - q) q = Nat.gcd p q := Nat.gcd_sub_self_left h2
      rw [e] at r
      exact r
    · have hd : Per f (q - p) N := fun n hn => by
        have a := hp (n + (q - p)) (by omega)
        have e : n + (q - p) + p = n + q := by omega
        rw [e, hq n hn] at a
        exact a.symm
      have r := per_gcd t p (q - p) (by omega) hp hd
      have e : Nat.gcd p (q - p) = Nat.gcd p q := Nat.gcd_sub_self_right (by omega)
      rw [e] at r
      exact r
/-- a period from somewhere on is one from s on, if there is one from s on -/
theorem Per.down {f : Nat → Bool} {p g s N : Nat} (hp0 : 0 < p) (h : Per f p s) (hg : Per f g N) : Per f g s := fun n hn => by
  have a := h.mul N n hn
  have b := h.mul N (n + g) (by omega)
  have l : N ≤ N * p := Nat.le_mul_of_pos_right N hp0
  have c := hg (n + N * p) (by omega)
  have e : n + N * p + g = n + g + N * p := by omega
  rw [e, b, a] at c
  exact c
structure Canon (f : Nat → Bool) (s p : Nat) : Prop where
  pos : 0 < p
  per : Per f p s
  lp : ∀ q N, 0 < q → Per f q N → p ≤ q
  ls : s = 0 ∨ f (s - 1 + p) ≠ f (s - 1)
theorem canon_uniq {f : Nat → Bool} {s p s' p' : Nat} (a : Canon f s p) (b : Canon f s' p') : s = s' ∧ p = p' := by
  have e : p = p' := Nat.le_antisymm (a.lp p' s' b.pos b.per) (b.lp p s a.pos a.per)
  subst e
  refine ⟨?_, rfl⟩
  rcases Nat.lt_trichotomy s s' with h | h | h
  · rcases b.ls with z | z
    · omega
    · exact absurd (a.per (s' - 1) (by omega)) z
  · exact h
  · rcases a.ls with z | z
    · omega
    · exact absurd (b.per (s - 1) (by omega)) z
/-- divides any period -/
theorem Canon.dvd {f : Nat → Bool} {s p q N : Nat} (a : Canon f s p) (hq : 0 < q) (h : Per f q N) : p ∣ q := by
  have g := per_gcd _ p q (Nat.le_refl _) (a.per.mono (Nat.le_max_left s N)) (h.mono (Nat.le_max_right s N))
  have gp : 0 < Nat.gcd p q := Nat.gcd_pos_of_pos_left _ a.pos
  have l := a.lp _ _ gp g
  have e : Nat.gcd p q = p := Nat.le_antisymm (Nat.le_of_dvd a.pos (Nat.gcd_dvd_left p q)) l
  rw [← e]
  exact Nat.gcd_dvd_right p q
theorem Canon.le {f : Nat → Bool} {s p N q : Nat} (a : Canon f s p) (hq : 0 < q) (h : Per f q N) : s ≤ N := by
  rcases Nat.lt_or_ge N s with z | z
  · rcases a.ls with y | y
    · omega
    · have := (a.per.down a.pos a.per)
      obtain ⟨k, hk⟩ := a.dvd hq h
      -- f (s-1) = f (s-1+q) = f (s-1+p)
      have h1 := h (s - 1) (by omega)
      have h2 := h (s - 1 + p) (by omega)
      have h3 : f (s - 1 + p + q) = f (s - 1 + q) := by
        have hq1 : s ≤ s - 1 + q := by omega
        have e : s - 1 + p + q = s - 1 + q + p := by omega
        rw [e]
        exact a.per _ hq1
      exact absurd (by rw [← h2, h3, h1]) y
  · exact z
theorem gcd_per {f : Nat → Bool} {p s q N : Nat} (hp : 0 < p) (h : Per f p s) (hq : Per f q N) : Per f (Nat.gcd p q) s :=
  h.down hp (per_gcd _ p q (Nat.le_refl _) (h.mono (Nat.le_max_left s N)) (hq.mono (Nat.le_max_right s N)))
/-- the test of the program: a divisor q of p, q apart the same within the turn -/
theorem per_of_turn {f : Nat → Bool} {s p q : Nat} (hp : 0 < p) (h : Per f p s) (hd : q ∣ p) (ht : ∀ a, q ≤ a → a < p → f (s + a) = f (s + (a - q))) : Per f q s := by
  obtain ⟨c, hc⟩ := hd
  have hq : 0 < q := by
    rcases Nat.eq_zero_or_pos q with z | z
    · subst z; simp at hc; omega
    · exact z
  have chain : ∀ j t, t + j * q < p → f (s + (t + j * q)) = f (s + t) := by
    intro j
    induction j with
    | zero => intro t _; simp
    | succ j ih =>
      intro t hl
      have e : t + (j + 1) * q = t + j * q + q := by rw [Nat.succ_mul]; omega
      rw [e] at hl ⊢
      rw [ht _ (by omega) hl]
      have e2 : t + j * q + q - q = t + j * q := by omega
      rw [e2]
      exact ih t (by omega)
  intro n hn
  obtain ⟨m, rfl⟩ : ∃ m, n = s + m := ⟨n - s, by omega⟩
  have r1 := h.mod m
  have r2 := h.mod (m + q)
  have hr : m % p < p := Nat.mod_lt _ hp
  have e1 : s + m + q = s + (m + q) := by omega
  rw [e1, r2, r1]
  have e2 : (m + q) % p = (m % p + q) % p := by rw [Nat.mod_add_mod]
  rw [e2]
  have hc0 : 0 < c := by
    rcases Nat.eq_zero_or_pos c with z | z
    · subst z; simp at hc; omega
    · exact z
  have hqp : q ≤ p := by rw [hc]; exact Nat.le_mul_of_pos_right q hc0
  by_cases l : m % p + q < p
  · rw [Nat.mod_eq_of_lt l]
    rw [ht _ (by omega) l]
    congr 2
    omega
  · have e3 : (m % p + q) % p = m % p + q - p := by
      rw [Nat.mod_eq_sub_mod (by omega), Nat.mod_eq_of_lt (by omega)]
    rw [e3]
    have hc2 : p = (c - 1) * q + q := by
      have : (c - 1) * q + 1 * q = c * q := by rw [← Nat.add_mul]; congr 1; omega
      rw [hc, Nat.mul_comm q c]
      omega
    have z := chain (c - 1) (m % p + q - p) (by omega)
    rw [← z]
    congr 2
    omega
/-- the test of the law: turned by k the same -/
theorem per_of_rot {f : Nat → Bool} {s p k : Nat} (hp : 0 < p) (h : Per f p s) (ht : ∀ i, i < p → f (s + (i + k) % p) = f (s + i)) : Per f k s := by
  intro n hn
  obtain ⟨m, rfl⟩ : ∃ m, n = s + m := ⟨n - s, by omega⟩
  have e1 : s + m + k = s + (m + k) := by omega
  rw [e1, h.mod (m + k), h.mod m, ← ht _ (Nat.mod_lt m hp), Nat.mod_add_mod]
theorem rot_of_per {f : Nat → Bool} {s p k : Nat} (h : Per f p s) (hk : Per f k s) (i : Nat) : f (s + (i + k) % p) = f (s + i) := by
  rw [← h.mod (i + k)]
  have e : s + (i + k) = s + i + k := by omega
  rw [e, hk _ (by omega)]
def Desc (f : Nat → Bool) (E : List Int) (s p : Nat) (R : List Int) : Prop :=
  0 < p ∧ (∀ x ∈ E, 0 ≤ x ∧ x < s) ∧ (∀ x ∈ R, 0 ≤ x ∧ x < p) ∧ (∀ n : Nat, n < s → ((n : Int) ∈ E ↔ f n = true)) ∧ (∀ n : Nat, s ≤ n → (((n % p : Nat) : Int) ∈ R ↔ f n = true))
theorem Desc.per {f : Nat → Bool} {E R : List Int} {s p : Nat} (d : Desc f E s p R) : Per f p s := fun n hn => by
  have h1 := d.2.2.2.2 n hn
  have h2 := d.2.2.2.2 (n + p) (by omega)
  rw [Nat.add_mod_right] at h2
  rw [Bool.eq_iff_iff, ← h1, ← h2]
def earlyOf (f : Nat → Bool) (s : Nat) : List Int := ((List.range s).filter f).map fun (n : Nat) => (n : Int)
def lateOf (f : Nat → Bool) (s p : Nat) : List Int := ((List.range' s p).filter f).map fun (n : Nat) => ((n % p : Nat) : Int)
def srt (l : List Int) : List Int := l.mergeSort fun a b => decide (a ≤ b)
theorem srt_perm (l : List Int) : (srt l).Perm l := List.mergeSort_perm l _
theorem srt_sorted (l : List Int) : (srt l).Pairwise (· ≤ ·) := by
  have h := List.pairwise_mergeSort (le := fun a b : Int => decide (a ≤ b)) (fun a b c h1 h2 => by simp only [decide_eq_true_eq] at *; omega) (fun a b => by simp only [Bool.or_eq_true, decide_eq_true_eq]; omega) l
  exact h.imp fun h => by simpa using h
theorem sorted_uniq {a b : List Int} (h : a.Perm b) (ha : a.Pairwise (· ≤ ·)) (hb : b.Pairwise (· ≤ ·)) : a = b :=
  h.eq_of_pairwise (fun x y _ _ h1 h2 => Int.le_antisymm h1 h2) ha hb
theorem srt_eq {a l : List Int} (h : a.Perm l) (ha : a.Pairwise (· ≤ ·)) : a = srt l := sorted_uniq (h.trans (srt_perm l).symm) ha (srt_sorted l)
def restsOf (f : Nat → Bool) (s p : Nat) : List Int := srt (lateOf f s p)
theorem mem_early {f : Nat → Bool} {s : Nat} {x : Int} : x ∈ earlyOf f s ↔ ∃ n : Nat, n < s ∧ f n = true ∧ (n : Int) = x := by
  simp [earlyOf, and_assoc]
theorem mem_rests {f : Nat → Bool} {s p : Nat} {x : Int} : x ∈ restsOf f s p ↔ ∃ n : Nat, s ≤ n ∧ n < s + p ∧ f n = true ∧ ((n % p : Nat) : Int) = x := by
  unfold restsOf
  rw [(srt_perm _).mem_iff]
  unfold lateOf
  rw [List.mem_map]
  constructor
  · rintro ⟨n, hn, e⟩
    rw [List.mem_filter, List.mem_range'_1] at hn
    exact ⟨n, hn.1.1, hn.1.2, hn.2, e⟩
  · rintro ⟨n, h1, h2, h3, e⟩
    exact ⟨n, by rw [List.mem_filter, List.mem_range'_1]; exact ⟨⟨h1, h2⟩, h3⟩, e⟩
theorem add_mod_cancel {s a b p : Nat} (z : (s + a) % p = (s + b) % p) : a % p = b % p := by
  have key : ∀ {a b : Nat}, a ≤ b → (s + a) % p = (s + b) % p → a % p = b % p := fun {a b} l z => by
    have y := Nat.sub_mod_eq_zero_of_mod_eq z.symm
    have e : s + b - (s + a) = b - a := by omega
    rw [e] at y
    obtain ⟨c, hc⟩ := Nat.dvd_of_mod_eq_zero y
    have e2 : b = a + p * c := by omega
    rw [e2, Nat.add_mul_mod_self_left]
  rcases Nat.le_total a b with l | l
  · exact key l z
  · exact (key l z.symm).symm
theorem desc_of_per {f : Nat → Bool} {s p : Nat} (hp : 0 < p) (h : Per f p s) : Desc f (earlyOf f s) s p (restsOf f s p) := by
  refine ⟨hp, fun x hx => ?_, fun x hx => ?_, fun n hn => ?_, fun n hn => ?_⟩
  · obtain ⟨n, h1, _, h3⟩ := mem_early.mp hx
    omega
  · obtain ⟨n, _, _, _, h3⟩ := mem_rests.mp hx
    have := Nat.mod_lt n hp
    omega
  · rw [mem_early]
    constructor
    · rintro ⟨m, _, h2, h3⟩
      have : m = n := by omega
      subst this
      exact h2
    · intro hf
      exact ⟨n, hn, hf, rfl⟩
  · rw [mem_rests]
    constructor
    · rintro ⟨m, h1, h2, h3, h4⟩
      have e : m % p = n % p := by omega
      obtain ⟨a, rfl⟩ : ∃ a, m = s + a := ⟨m - s, by omega⟩
      obtain ⟨b, rfl⟩ : ∃ b, n = s + b := ⟨n - s, by omega⟩
      have ha : a % p = a := Nat.mod_eq_of_lt (by omega)
      have hab : a % p = b % p := by
        have z : (s + a) % p = (s + b) % p := e
        exact add_mod_cancel z
      rw [h.mod b, ← hab, ← h.mod a]
      exact h3
    · intro hf
      obtain ⟨b, rfl⟩ : ∃ b, n = s + b := ⟨n - s, by omega⟩
      refine ⟨s + b % p, by omega, by have := Nat.mod_lt b hp; omega, by rw [← h.mod b]; exact hf, ?_⟩
      rw [Nat.add_mod_mod]
/-- what `in` says -/
def memD (f : Nat → Bool) (x : Int) : Bool := if x < 0 then false else f x.toNat
end SZ
namespace SZ
theorem desc_late {f : Nat → Bool} {s p : Nat} (hp : 0 < p) (h : Per f p s) : Desc f (earlyOf f s) s p (lateOf f s p) := by
  have d := desc_of_per hp h
  have m : ∀ x, x ∈ lateOf f s p ↔ x ∈ restsOf f s p := fun x => (srt_perm _).mem_iff.symm
  exact ⟨d.1, d.2.1, fun x hx => d.2.2.1 x ((m x).mp hx), d.2.2.2.1, fun n hn => (m _).trans (d.2.2.2.2 n hn)⟩
theorem len_early {f : Nat → Bool} {s : Nat} : (earlyOf f s).length ≤ s := by
  unfold earlyOf
  rw [List.length_map]
  have := List.length_filter_le f (List.range s)
  rwa [List.length_range] at this
theorem len_late {f : Nat → Bool} {s p : Nat} : (lateOf f s p).length ≤ p := by
  unfold lateOf
  rw [List.length_map]
  have := List.length_filter_le f (List.range' s p)
  rwa [List.length_range'] at this
theorem len_rests {f : Nat → Bool} {s p : Nat} : (restsOf f s p).length ≤ p := by
  unfold restsOf
  rw [(srt_perm _).length_eq]
  exact len_late
theorem per_lcm {f : Nat → Bool} {p q s t : Nat} (h : Per f p s) (hd : p ∣ q) (l : s ≤ t) : Per f q t := fun n hn => by
  obtain ⟨c, hc⟩ := hd
  have := h.mul c n (by omega)
  rw [hc, Nat.mul_comm]
  exact this
theorem per_op {f g : Nat → Bool} {p q s t : Nat} (op : Bool → Bool → Bool) (hf : Per f p s) (hg : Per g q t) : Per (fun n => op (f n) (g n)) (Nat.lcm p q) (max s t) := fun n hn => by
  have a := per_lcm hf (Nat.dvd_lcm_left p q) (Nat.le_max_left s t) n hn
  have b := per_lcm hg (Nat.dvd_lcm_right p q) (Nat.le_max_right s t) n hn
  show op (f (n + Nat.lcm p q)) (g (n + Nat.lcm p q)) = _
  rw [a, b]
theorem per_not {f : Nat → Bool} {p s : Nat} (hf : Per f p s) : Per (fun n => !f n) p s := fun n hn => by
  show (!f (n + p)) = !f n
  rw [hf n hn]
/-- the value in the flags of s + p numbers -/
theorem per_at {f : Nat → Bool} {s p n : Nat} (h : Per f p s) (hn : s ≤ n) : f (s + (n - s) % p) = f n := by
  rw [← h.mod]
  congr 1
  omega
end SZ

end
section
set_option maxHeartbeats 1000000
/-! SZ1: sums of sets that come round. Plain. -/
namespace SZ
/-- a sum of one of f and one of g -/
def sumF (f g : Nat → Bool) : Nat → Bool := fun n => (List.range (n + 1)).any fun a => f a && g (n - a)
theorem sum_iff {f g : Nat → Bool} {n : Nat} : sumF f g n = true ↔ ∃ a b, a + b = n ∧ f a = true ∧ g b = true := by
  unfold sumF
  rw [List.any_eq_true]
  constructor
  · rintro ⟨a, ha, h⟩
    rw [List.mem_range] at ha
    rw [Bool.and_eq_true] at h
    exact ⟨a, n - a, by omega, h.1, h.2⟩
  · rintro ⟨a, b, e, h1, h2⟩
    refine ⟨a, by rw [List.mem_range]; omega, ?_⟩
    have : n - a = b := by omega
    rw [this, h1, h2]; rfl
theorem per_sum {f g : Nat → Bool} {st pe : Nat} (hf : Per f pe st) (hg : Per g pe st) : Per (sumF f g) pe (2 * st + pe) := fun n hn => by
  rw [Bool.eq_iff_iff, sum_iff, sum_iff]
  constructor
  · rintro ⟨a, b, e, h1, h2⟩
    by_cases c : st + pe ≤ a
    · have := hf (a - pe) (by omega)
      have e2 : a - pe + pe = a := by omega
      rw [e2] at this
      exact ⟨a - pe, b, by omega, by rw [← this]; exact h1, h2⟩
    · have := hg (b - pe) (by omega)
      have e2 : b - pe + pe = b := by omega
      rw [e2] at this
      exact ⟨a, b - pe, by omega, h1, by rw [← this]; exact h2⟩
  · rintro ⟨a, b, e, h1, h2⟩
    by_cases c : st ≤ a
    · exact ⟨a + pe, b, by omega, by rw [hf a c]; exact h1, h2⟩
    · exact ⟨a, b + pe, by omega, h1, by rw [hg b (by omega)]; exact h2⟩
theorem sum_comm {f g : Nat → Bool} (n : Nat) : sumF f g n = sumF g f n := by
  rw [Bool.eq_iff_iff, sum_iff, sum_iff]
  exact ⟨fun ⟨a, b, e, h1, h2⟩ => ⟨b, a, by omega, h2, h1⟩, fun ⟨a, b, e, h1, h2⟩ => ⟨b, a, by omega, h2, h1⟩⟩
theorem sum_assoc {f g h : Nat → Bool} (n : Nat) : sumF (sumF f g) h n = sumF f (sumF g h) n := by
  rw [Bool.eq_iff_iff, sum_iff, sum_iff]
  constructor
  · rintro ⟨a, c, e, h1, h2⟩
    obtain ⟨x, y, e2, h3, h4⟩ := sum_iff.mp h1
    exact ⟨x, y + c, by omega, h3, sum_iff.mpr ⟨y, c, rfl, h4, h2⟩⟩
  · rintro ⟨a, c, e, h1, h2⟩
    obtain ⟨x, y, e2, h3, h4⟩ := sum_iff.mp h2
    exact ⟨a + x, y, by omega, sum_iff.mpr ⟨a, x, rfl, h1, h3⟩, h4⟩
theorem sum_or {f g h : Nat → Bool} (n : Nat) : sumF f (fun n => g n || h n) n = (sumF f g n || sumF f h n) := by
  rw [Bool.eq_iff_iff, Bool.or_eq_true, sum_iff, sum_iff, sum_iff]
  constructor
  · rintro ⟨a, b, e, h1, h2⟩
    rcases Bool.or_eq_true_iff.mp h2 with z | z
    · exact .inl ⟨a, b, e, h1, z⟩
    · exact .inr ⟨a, b, e, h1, z⟩
  · rintro (⟨a, b, e, h1, h2⟩ | ⟨a, b, e, h1, h2⟩)
    · exact ⟨a, b, e, h1, by rw [h2]; rfl⟩
    · exact ⟨a, b, e, h1, by rw [h2]; simp⟩
theorem sum_zero {f : Nat → Bool} (n : Nat) : sumF f (fun n => decide (n = 0)) n = f n := by
  rw [Bool.eq_iff_iff, sum_iff]
  constructor
  · rintro ⟨a, b, e, h1, h2⟩
    have : b = 0 := by simpa using h2
    have : a = n := by omega
    rw [← this]; exact h1
  · intro h
    exact ⟨n, 0, rfl, h, by simp⟩
theorem sum_none {f : Nat → Bool} (n : Nat) : sumF (fun _ => false) f n = false := by
  rw [Bool.eq_false_iff]
  intro h
  obtain ⟨a, b, _, h1, _⟩ := sum_iff.mp h
  cases h1
theorem sum_congr {f f' g g' : Nat → Bool} (h1 : ∀ n, f n = f' n) (h2 : ∀ n, g n = g' n) (n : Nat) : sumF f g n = sumF f' g' n := by
  have e1 : f = f' := funext h1
  have e2 : g = g' := funext h2
  rw [e1, e2]
/-- bits -/
theorem mask_step {m k : Nat} {f : Nat → Bool} (h : ∀ i, m.testBit i = (decide (i < k) && f i)) (hf : f k = true) : ∀ i, (m ||| 2 ^ k).testBit i = (decide (i < k + 1) && f i) := fun i => by
  rw [Nat.testBit_or, h, Nat.testBit_two_pow]
  by_cases c : i = k
  · subst c; simp [hf]
  · have c2 : ¬ k = i := fun z => c z.symm
    have : decide (i < k + 1) = decide (i < k) := decide_eq_decide.mpr (by omega)
    simp [c2, this]
theorem mask_skip {m k : Nat} {f : Nat → Bool} (h : ∀ i, m.testBit i = (decide (i < k) && f i)) (hf : f k = false) : ∀ i, m.testBit i = (decide (i < k + 1) && f i) := fun i => by
  rw [h]
  by_cases c : i = k
  · subst c; simp [hf]
  · have : decide (i < k + 1) = decide (i < k) := decide_eq_decide.mpr (by omega)
    rw [this]
/-- bit i of what is gathered from the first k -/
def gath (f g : Nat → Bool) (many k i : Nat) : Bool := (List.range k).any fun a => f a && (decide (a ≤ i) && (decide (i - a < many) && g (i - a)))
theorem gath_succ {f g : Nat → Bool} {many k i : Nat} : gath f g many (k + 1) i = (gath f g many k i || (f k && (decide (k ≤ i) && (decide (i - k < many) && g (i - k))))) := by
  unfold gath
  rw [List.range_succ, List.any_append]
  simp
theorem gath_step {m t k many : Nat} {f g : Nat → Bool} (hm : ∀ i, m.testBit i = (decide (i < many) && g i)) (ht : ∀ i, t.testBit i = gath f g many k i) (hf : f k = true) : ∀ i, (t ||| m * 2 ^ k).testBit i = gath f g many (k + 1) i := fun i => by
  rw [gath_succ, Nat.testBit_or, ht, hf, ← Nat.shiftLeft_eq, Nat.testBit_shiftLeft, hm]
  rfl
theorem gath_skip {t k many : Nat} {f g : Nat → Bool} (ht : ∀ i, t.testBit i = gath f g many k i) (hf : f k = false) : ∀ i, t.testBit i = gath f g many (k + 1) i := fun i => by
  rw [gath_succ, ht, hf]
  simp
theorem gath_sum {f g : Nat → Bool} {many i : Nat} (hi : i < many) : gath f g many many i = sumF f g i := by
  rw [Bool.eq_iff_iff, sum_iff]
  unfold gath
  rw [List.any_eq_true]
  constructor
  · rintro ⟨a, ha, h⟩
    rw [Bool.and_eq_true, Bool.and_eq_true, Bool.and_eq_true, decide_eq_true_eq, decide_eq_true_eq] at h
    exact ⟨a, i - a, by omega, h.1, h.2.2.2⟩
  · rintro ⟨a, b, e, h1, h2⟩
    refine ⟨a, by rw [List.mem_range]; omega, ?_⟩
    have e2 : i - a = b := by omega
    rw [e2, h1, h2, decide_eq_true (show a ≤ i by omega), decide_eq_true (show b < many by omega)]
    rfl
/-- the numbers of f below n -/
def hitsN (f : Nat → Bool) (n : Nat) : List Nat := (List.range n).filter f
theorem hits_sorted {f : Nat → Bool} {n : Nat} : (hitsN f n).Pairwise (· < ·) := List.pairwise_lt_range.filter _
theorem hits_any {f g : Nat → Bool} {far n : Nat} (hn : n < far) : ((hitsN f far).any fun a => decide (a ≤ n) && g (n - a)) = sumF f g n := by
  rw [Bool.eq_iff_iff, sum_iff, List.any_eq_true]
  unfold hitsN
  constructor
  · rintro ⟨a, ha, h⟩
    rw [List.mem_filter] at ha
    rw [Bool.and_eq_true, decide_eq_true_eq] at h
    exact ⟨a, n - a, by omega, ha.2, h.2⟩
  · rintro ⟨a, b, e, h1, h2⟩
    refine ⟨a, by rw [List.mem_filter, List.mem_range]; exact ⟨by omega, h1⟩, ?_⟩
    have e2 : n - a = b := by omega
    rw [e2, h2, decide_eq_true (show a ≤ n by omega)]
    rfl
end SZ

end
section
set_option maxHeartbeats 1000000
/-! SZ2: searching the hits in order. Plain. -/
namespace SZ
theorem any_found {H : List Nat} {τ : Nat → Bool} {j : Nat} (h : (H.take j).any τ = true) : H.any τ = true := by
  rw [List.any_eq_true] at h ⊢
  obtain ⟨a, ha, h⟩ := h
  exact ⟨a, List.mem_of_mem_take ha, h⟩
theorem any_past {H : List Nat} {g : Nat → Bool} {j a n : Nat} (hs : H.Pairwise (· < ·)) (hj : H[j]? = some a) (ha : n < a) : H.any (fun a => decide (a ≤ n) && g (n - a)) = (H.take j).any (fun a => decide (a ≤ n) && g (n - a)) := by
  have hl := (List.getElem?_eq_some_iff.mp hj).1
  have e : H = H.take j ++ H.drop j := (List.take_append_drop j H).symm
  conv => lhs; rw [e]
  rw [List.any_append]
  have z : (H.drop j).any (fun a => decide (a ≤ n) && g (n - a)) = false := by
    rw [List.any_eq_false]
    intro x hx
    obtain ⟨i, hi, e2⟩ := List.mem_iff_getElem.mp hx
    rw [List.getElem_drop] at e2
    have hle : a ≤ x := by
      have ea : H[j] = a := (List.getElem?_eq_some_iff.mp hj).2
      rcases Nat.eq_zero_or_pos i with y | y
      · subst y; subst e2; simp only [Nat.add_zero]; omega
      · have := List.pairwise_iff_getElem.mp hs j (j + i) hl (by rw [List.length_drop] at hi; omega) (by omega)
        omega
    have : decide (x ≤ n) = false := decide_eq_false (by omega)
    rw [this]
    simp
  rw [z, Bool.or_false]
theorem any_step {H : List Nat} {g : Nat → Bool} {j a n : Nat} (hj : H[j]? = some a) (ha : a ≤ n) (h0 : (H.take j).any (fun a => decide (a ≤ n) && g (n - a)) = false) : (H.take (j + 1)).any (fun a => decide (a ≤ n) && g (n - a)) = g (n - a) := by
  have hl := (List.getElem?_eq_some_iff.mp hj).1
  have ea : H[j] = a := (List.getElem?_eq_some_iff.mp hj).2
  rw [List.take_succ_eq_append_getElem hl, List.any_append, h0, ea]
  have : decide (a ≤ n) = true := decide_eq_true ha
  simp [this]
theorem hits_mem {f : Nat → Bool} {far j a : Nat} (h : (hitsN f far)[j]? = some a) : a < far ∧ f a = true := by
  have := List.mem_of_getElem? h
  unfold hitsN at this
  rw [List.mem_filter, List.mem_range] at this
  exact this
end SZ

end
section
set_option maxHeartbeats 0
namespace K47
open PySem PySem.Spec PyProof.Rows L2 FL

def top (i : Nat) : Stmt := PySem.Challenge.pw_oneheadeach_k47_sizes_summed.main.body.getD i (.Pass ⟨0, 0, 0, 0⟩)
def dd (x : Str) (i : Nat) : He.DefD := ⟨(x, none), x, x, defArgs (top i), defBody (top i), defScope (top i), [], []⟩
def dm (c m : Str) (q : Str) (i j : Nat) : He.DefD := ⟨(c, some m), m, q, defArgs (inClass (top i) j), defBody (inClass (top i) j), defScope (inClass (top i) j), [], []⟩
def L : FLaw := { frs := ["all", "bool", "int", "isinstance", "len", "list", "max", "range", "sorted", "tuple"], gls := ((["law", "_law_told", "_law_cell", "_law_digits", "_law_periods", "_law_starts", "Sizes", "_law_few", "_law_set", "_law_fields", "_law_summed", "_law_inside", "_law_run", "_law_rules", "_law_whole", "_law_lcm", "frozen", "check_fields", "least_period", "least_start", "are_below", "is_below", "is_whole", "from_flags"] : List Str) ++ (["common", "mask_of", "_law_bits", "_law_least_form", "_law_member", "_law_small", "_law_do", "_law_due", "_law_joined", "_law_equal"] : List Str)), cts := [("Sizes", ["period", "start", "flags", "early", "rests"])], mkn := ["Sizes"], glb := [("Sizes", .cls "Sizes"), ("GREATEST", .int 2000)], fn := [dd "_law_whole" 19, dd "_law_told" 27, dd "_law_cell" 20, dd "_law_digits" 21, dd "_law_lcm" 29, dd "_law_periods" 34, dd "_law_starts" 35, dd "frozen" 2, dd "is_whole" 3, dd "is_below" 4, dd "are_below" 10, dd "check_fields" 11, dd "least_period" 12, dd "least_start" 13, dm "Sizes" "__init__" "Sizes.__init__" 14 0, dd "from_flags" 16, dd "common" 15, dm "Sizes" "__contains__" "Sizes.__contains__" 14 2, dd "mask_of" 17, dm "Sizes" "__add__" "Sizes.__add__" 14 7, dd "_law_few" 23, dd "_law_set" 22, dd "_law_bits" 24, dd "_law_least_form" 25, dd "_law_fields" 26, dd "_law_summed" 32, dd "_law_member" 30, dd "_law_inside" 40, dd "_law_small" 33, dm "Sizes" "__or__" "Sizes.__or__" 14 3, dm "Sizes" "__and__" "Sizes.__and__" 14 4, dm "Sizes" "__sub__" "Sizes.__sub__" 14 5, dm "Sizes" "__invert__" "Sizes.__invert__" 14 6, dd "_law_do" 36, dd "_law_joined" 31, dd "_law_due" 37, dd "_law_run" 38, dm "Sizes" "__eq__" "Sizes.__eq__" 14 1, dd "_law_equal" 28, dd "_law_rules" 39, dd "law" 41], mts := [("Sizes", "__add__"), ("Sizes", "__contains__"), ("Sizes", "__or__"), ("Sizes", "__and__"), ("Sizes", "__sub__"), ("Sizes", "__invert__"), ("Sizes", "__eq__")], nne := ["Sizes"], isc := ["Sizes"], bfn := [("lcm", "math.lcm")] }
def c__law_whole : DCtx := mkC L ["value"] (defScope (top 19)) [0] 0 [] [] [] true
def F__law_whole : WF := wFn 1 1 [0] (denB 60 c__law_whole (defBody (top 19)))
def W__law_whole : WS := (wRet [0] (wAndV (wCB (opIsiC L.isc) (wCons (wVar 0) (wCons (wC (.ty "int")) wNil))) (wNotV (wCB (opIsiC L.isc) (wCons (wVar 0) (wCons (wC (.ty "bool")) wNil))))))
theorem den__law_whole : denB 60 c__law_whole (defBody (top 19)) = W__law_whole := by kernel_rfl
theorem F__law_whole_eq : F__law_whole = wFn 1 1 [0] W__law_whole := congrArg (wFn 1 1 [0]) den__law_whole
theorem ok__law_whole {P : Program} {w : World} {K : PySem.W.Frag} {mg : Str → Option Value} {base : Heap} (h : Hd L w K mg base) : FnI P w K mg base 1 ("_law_whole", ⟨F__law_whole, [true]⟩) := by
  obtain ⟨fd, FD⟩ := h.fd 0 (d := dd "_law_whole" 19) rfl
  have b := FD.bindsN (ps := ["value"]) fun _ _ _ _ _ _ us hl => match us, hl with | [_], _ => rfl
  exact ⟨_, _, fd, ["value"], Nat.le_refl _, fn_ok0 FD (N := ["value"]) ⟨rfl, rfl, rfl, by decide +kernel, rfl, by decide +kernel, by decide +kernel⟩ (c := c__law_whole) (n := 60) rfl rfl (h.fok all_nil all_nil all_nil), h.glo (by decide), FD.kp, b⟩
def c__law_told : DCtx := mkC L ["value", "n"] (defScope (top 27)) [0] 1 [("_law_whole", ⟨F__law_whole, [true]⟩)] [] [] true
def F__law_told : WF := wFn 1 2 [0] (denB 60 c__law_told (defBody (top 27)))
def W__law_told : WS := (wSeq (wIf (wOrT (wNotT (wTru (wCB (opIsiC L.isc) (wCons (wVar 0) (wCons (wC (.cls "Sizes")) wNil))))) (wOrT (wNotT (wTru (wCB (opIsiC L.isc) (wCons (wUn (opFld L.cts "early") (wVar 0)) (wCons (wC (.ty "tuple")) wNil))))) (wNotT (wTru (wCB (opIsiC L.isc) (wCons (wUn (opFld L.cts "rests") (wVar 0)) (wCons (wC (.ty "tuple")) wNil))))))) (wRet [0] (wC .non)) wNext) (wSeq (wFor (wBin (binOf .Add) (wBin (binOf .Add) (wUn (opFld L.cts "early") (wVar 0)) (wUn (opFld L.cts "rests") (wVar 0))) (wCB opTup (wCons (wSh (wUn (opFld L.cts "start") (wVar 0))) (wCons (wSh (wUn (opFld L.cts "period") (wVar 0))) wNil)))) (gN 1) (wIf (wNotT (wTru (wCall F__law_whole [true] (wCons (wVar 1) wNil)))) (wRet [0] (wC .non)) wNext)) (wRet [0] (wCB opLst (wCons (wSh (wCB opList (wCons (wUn (opFld L.cts "early") (wVar 0)) wNil))) (wCons (wSh (wUn (opFld L.cts "start") (wVar 0))) (wCons (wSh (wUn (opFld L.cts "period") (wVar 0))) (wCons (wSh (wCB opList (wCons (wUn (opFld L.cts "rests") (wVar 0)) wNil))) wNil))))))))
theorem den__law_told : denB 60 c__law_told (defBody (top 27)) = W__law_told := by kernel_rfl
theorem F__law_told_eq : F__law_told = wFn 1 2 [0] W__law_told := congrArg (wFn 1 2 [0]) den__law_told
theorem ok__law_told {P : Program} {w : World} {K : PySem.W.Frag} {mg : Str → Option Value} {base : Heap} (h : Hd L w K mg base) : FnI P w K mg base 2 ("_law_told", ⟨F__law_told, [true]⟩) := by
  obtain ⟨fd, FD⟩ := h.fd 1 (d := dd "_law_told" 27) rfl
  have b := FD.bindsN (ps := ["value"]) fun _ _ _ _ _ _ us hl => match us, hl with | [_], _ => rfl
  exact ⟨_, _, fd, ["value"], Nat.le_refl _, fn_ok0 FD (N := ["value", "n"]) ⟨rfl, rfl, rfl, by decide +kernel, rfl, by decide +kernel, by decide +kernel⟩ (c := c__law_told) (n := 60) rfl rfl (h.fok (all_cons (ok__law_whole h).up all_nil) all_nil all_nil), h.glo (by decide), FD.kp, b⟩
def c__law_cell : DCtx := mkC L ["script", "k", "seed", "cell"] (defScope (top 20)) [0, 1] 0 [] [] [] true
def F__law_cell : WF := wFn 2 4 [0, 1] (denB 60 c__law_cell (defBody (top 20)))
def W__law_cell : WS := (wSeq (wIf (wTest (wBin (cmpOf .Lt) (wVar 1) (wCB opLen (wCons (wVar 0) wNil)))) (wRet [0, 1] (wBin opIx (wVar 0) (wVar 1))) wNext) (wSeq (wAsg 2 (wC (.int 17))) (wSeq (wFor (wVar 0) (gN 3) (wAsg 2 (wBin (binOf .Mod) (wCB opInt (wCons (wBin (binOf .Add) (wBin (binOf .Mult) (wVar 2) (wC (.int 31))) (wBin (binOf .Mod) (wCB opInt (wCons (wVar 3) wNil)) (wC (.int 1000003)))) wNil)) (wC (.int 1000003))))) (wRet [0, 1] (wBin (binOf .Mod) (wCB opInt (wCons (wBin (binOf .Mult) (wBin (binOf .Mult) (wBin (binOf .Add) (wVar 2) (wC (.int 7))) (wBin (binOf .Add) (wVar 1) (wC (.int 3)))) (wC (.int 69621))) wNil)) (wC (.int 2147483647)))))))
theorem den__law_cell : denB 60 c__law_cell (defBody (top 20)) = W__law_cell := by kernel_rfl
theorem F__law_cell_eq : F__law_cell = wFn 2 4 [0, 1] W__law_cell := congrArg (wFn 2 4 [0, 1]) den__law_cell
theorem ok__law_cell {P : Program} {w : World} {K : PySem.W.Frag} {mg : Str → Option Value} {base : Heap} (h : Hd L w K mg base) : FnI P w K mg base 1 ("_law_cell", ⟨F__law_cell, [true, true]⟩) := by
  obtain ⟨fd, FD⟩ := h.fd 2 (d := dd "_law_cell" 20) rfl
  have b := FD.bindsN (ps := ["script", "k"]) fun _ _ _ _ _ _ us hl => match us, hl with | [_, _], _ => rfl
  exact ⟨_, _, fd, ["script", "k"], Nat.le_refl _, fn_ok0 FD (N := ["script", "k", "seed", "cell"]) ⟨rfl, rfl, rfl, by decide +kernel, rfl, by decide +kernel, by decide +kernel⟩ (c := c__law_cell) (n := 60) rfl rfl (h.fok all_nil all_nil all_nil), h.glo (by decide), FD.kp, b⟩
def c__law_digits : DCtx := mkC L ["cell", "bases", "row", "rest", "base", "seed", "k", "twice"] (defScope (top 21)) [0, 1] 0 [] [] [] true
def F__law_digits : WF := wFn 2 8 [0, 1] (denB 60 c__law_digits (defBody (top 21)))
def W__law_digits : WS := (wSeq (wAsg 2 (wCB opLst wNil)) (wSeq (wAsg 3 (wCB opInt (wCons (wVar 0) wNil))) (wSeq (wIf (wTest (wBin (cmpOf .GtE) (wVar 3) (wBin (binOf .Pow) (wC (.int 10)) (wC (.int 18))))) (wSeq (wAsg 3 (wBin (binOf .Mod) (wCB opInt (wCons (wBin (binOf .Sub) (wVar 3) (wBin (binOf .Pow) (wC (.int 10)) (wC (.int 18)))) wNil)) (wBin (binOf .Mult) (wBin (binOf .Mult) (wBin (binOf .Pow) (wC (.int 10)) (wC (.int 60))) (wBin (binOf .Pow) (wC (.int 10)) (wC (.int 60)))) (wBin (binOf .Pow) (wC (.int 10)) (wC (.int 60)))))) (wSeq (wFor (wVar 1) (gN 4) (wSeq (wExpr (wApp 2 (wSh (wBin (binOf .Mod) (wCB opInt (wCons (wVar 3) wNil)) (wVar 4))))) (wAsg 3 (wBin (binOf .FloorDiv) (wCB opInt (wCons (wVar 3) wNil)) (wVar 4))))) (wRet [0, 1] (wVar 2)))) wNext) (wSeq (wAsg 5 (wBin (binOf .Mod) (wCB opInt (wCons (wVar 3) wNil)) (wC (.int 2147483629)))) (wSeq (wRng1 (wCons (wCB opLen (wCons (wVar 1) wNil)) wNil) 6 (wSeq (wAsg 5 (wBin (binOf .Mod) (wCB opInt (wCons (wBin (binOf .Add) (wBin (binOf .Add) (wBin (binOf .Mult) (wVar 5) (wC (.int 48271))) (wBin (binOf .Mult) (wC (.int 974711)) (wVar 6))) (wC (.int 12345))) wNil)) (wC (.int 2147483647)))) (wSeq (wAsg 7 (wBin (binOf .Mod) (wCB opInt (wCons (wBin (binOf .Mult) (wVar 5) (wBin (binOf .Add) (wBin (binOf .FloorDiv) (wVar 5) (wC (.int 65537))) (wC (.int 3)))) wNil)) (wC (.int 2147483629)))) (wExpr (wApp 2 (wSh (wBin (binOf .Mod) (wBin (binOf .FloorDiv) (wVar 7) (wC (.int 19))) (wBin opIx (wVar 1) (wVar 6))))))))) (wRet [0, 1] (wVar 2)))))))
theorem den__law_digits : denB 60 c__law_digits (defBody (top 21)) = W__law_digits := by kernel_rfl
theorem F__law_digits_eq : F__law_digits = wFn 2 8 [0, 1] W__law_digits := congrArg (wFn 2 8 [0, 1]) den__law_digits
theorem ok__law_digits {P : Program} {w : World} {K : PySem.W.Frag} {mg : Str → Option Value} {base : Heap} (h : Hd L w K mg base) : FnI P w K mg base 1 ("_law_digits", ⟨F__law_digits, [true, true]⟩) := by
  obtain ⟨fd, FD⟩ := h.fd 3 (d := dd "_law_digits" 21) rfl
  have b := FD.bindsN (ps := ["cell", "bases"]) fun _ _ _ _ _ _ us hl => match us, hl with | [_, _], _ => rfl
  exact ⟨_, _, fd, ["cell", "bases"], Nat.le_refl _, fn_ok0 FD (N := ["cell", "bases", "row", "rest", "base", "seed", "k", "twice"]) ⟨rfl, rfl, rfl, by decide +kernel, rfl, by decide +kernel, by decide +kernel⟩ (c := c__law_digits) (n := 60) rfl rfl (h.fok all_nil all_nil all_nil), h.glo (by decide), FD.kp, b⟩
def c__law_lcm : DCtx := mkC L ["one", "two", "k"] (defScope (top 29)) [0, 1] 0 [] [] [] true
def F__law_lcm : WF := wFn 2 3 [0, 1] (denB 60 c__law_lcm (defBody (top 29)))
def W__law_lcm : WS := (wSeq (wRng2 (wCons (wC (.int 1)) (wCons (wBin (binOf .Add) (wVar 1) (wC (.int 1))) wNil)) 2 (wIf (wTest (wBin (cmpOf .Eq) (wBin (binOf .Mod) (wCB opInt (wCons (wBin (binOf .Mult) (wVar 0) (wVar 2)) wNil)) (wVar 1)) (wC (.int 0)))) (wRet [0, 1] (wBin (binOf .Mult) (wVar 0) (wVar 2))) wNext)) (wRet [0, 1] (wBin (binOf .Mult) (wVar 0) (wVar 1))))
theorem den__law_lcm : denB 60 c__law_lcm (defBody (top 29)) = W__law_lcm := by kernel_rfl
theorem F__law_lcm_eq : F__law_lcm = wFn 2 3 [0, 1] W__law_lcm := congrArg (wFn 2 3 [0, 1]) den__law_lcm
theorem ok__law_lcm {P : Program} {w : World} {K : PySem.W.Frag} {mg : Str → Option Value} {base : Heap} (h : Hd L w K mg base) : FnI P w K mg base 1 ("_law_lcm", ⟨F__law_lcm, [true, true]⟩) := by
  obtain ⟨fd, FD⟩ := h.fd 4 (d := dd "_law_lcm" 29) rfl
  have b := FD.bindsN (ps := ["one", "two"]) fun _ _ _ _ _ _ us hl => match us, hl with | [_, _], _ => rfl
  exact ⟨_, _, fd, ["one", "two"], Nat.le_refl _, fn_ok0 FD (N := ["one", "two", "k"]) ⟨rfl, rfl, rfl, by decide +kernel, rfl, by decide +kernel, by decide +kernel⟩ (c := c__law_lcm) (n := 60) rfl rfl (h.fok all_nil all_nil all_nil), h.glo (by decide), FD.kp, b⟩
def c__law_periods : DCtx := mkC L ["cell", "kind", "row", "periods", "multiple", "steps", "k"] (defScope (top 34)) [0, 1] 1 [("_law_digits", ⟨F__law_digits, [true, true]⟩), ("_law_lcm", ⟨F__law_lcm, [true, true]⟩)] [] [] true
def F__law_periods : WF := wFn 2 7 [0, 1] (denB 60 c__law_periods (defBody (top 34)))
def W__law_periods : WS := (wSeq (wAsg 2 (wCall F__law_digits [true, true] (wCons (wVar 0) (wCons (wCB opLst (wCons (wSh (wC (.int 12))) (wCons (wSh (wC (.int 12))) (wCons (wSh (wC (.int 20))) (wCons (wSh (wC (.int 20))) (wCons (wSh (wC (.int 301))) (wCons (wSh (wC (.int 3))) (wCons (wSh (wC (.int 60))) (wCons (wSh (wC (.int 60))) wNil))))))))) wNil)))) (wSeq (wAsg 3 (wCB opLst (wCons (wSh (wBin (binOf .Add) (wC (.int 1)) (wBin opIx (wVar 2) (wC (.int 0))))) (wCons (wSh (wBin (binOf .Add) (wC (.int 1)) (wBin opIx (wVar 2) (wC (.int 1))))) wNil)))) (wMark (wSeq (wIf (wTest (wBin (cmpOf .Eq) (wBin opIx (wVar 2) (wC (.int 5))) (wC (.int 0)))) (wAsg 3 (wCB opLst (wCons (wSh (wBin (binOf .Add) (wC (.int 1)) (wBin opIx (wVar 2) (wC (.int 0))))) (wCons (wSh (wBin (binOf .Mult) (wBin (binOf .Add) (wC (.int 1)) (wBin opIx (wVar 2) (wC (.int 0)))) (wBin (binOf .Add) (wC (.int 1)) (wBin (binOf .Mod) (wCB opInt (wCons (wBin opIx (wVar 2) (wC (.int 1))) wNil)) (wC (.int 3)))))) wNil)))) wNext) (wMark (wSeq (wIf (wTest (wBin (cmpOf .Eq) (wVar 1) (wC (.int 1)))) (wAsg 3 (wCB opLst (wCons (wSh (wBin (binOf .Add) (wC (.int 18)) (wBin (binOf .Mod) (wCB opInt (wCons (wBin opIx (wVar 2) (wC (.int 2))) wNil)) (wC (.int 3))))) (wCons (wSh (wBin (binOf .Add) (wC (.int 17)) (wBin (binOf .Mod) (wCB opInt (wCons (wBin opIx (wVar 2) (wC (.int 3))) wNil)) (wC (.int 3))))) wNil)))) wNext) (wMark (wSeq (wIf (wTest (wBin (cmpOf .Eq) (wVar 1) (wC (.int 2)))) (wAsg 3 (wCB opLst (wCons (wSh (wBin (binOf .Add) (wC (.int 1)) (wBin opIx (wVar 2) (wC (.int 2))))) (wCons (wSh (wBin (binOf .Add) (wC (.int 1)) (wBin opIx (wVar 2) (wC (.int 3))))) wNil)))) wNext) (wMark (wSeq (wIf (wTest (wBin (cmpOf .Eq) (wVar 1) (wC (.int 0)))) (wSeq (wAsg 3 (wCB opLst (wCons (wSh (wBin (binOf .Add) (wC (.int 100)) (wBin opIx (wVar 2) (wC (.int 4))))) (wCons (wSh (wC (.int 1))) wNil)))) (wIf (wTest (wBin (cmpOf .Eq) (wBin opIx (wVar 2) (wC (.int 5))) (wC (.int 0)))) (wAsg 3 (wCB opLst (wCons (wSh (wC (.int 400))) (wCons (wSh (wC (.int 1))) wNil)))) wNext)) wNext) (wSeq (wAsg 4 (wCall F__law_lcm [true, true] (wCons (wBin opIx (wVar 3) (wC (.int 0))) (wCons (wBin opIx (wVar 3) (wC (.int 1))) wNil)))) (wSeq (wAsg 5 (wLcR2 (wCons (wC (.int 1)) (wCons (wBin (binOf .Add) (wVar 4) (wC (.int 1))) wNil)) (.name 6) (wTest (wBin (cmpOf .Eq) (wBin (binOf .Mod) (wCB opInt (wCons (wVar 4) wNil)) (wVar 6)) (wC (.int 0)))) (wSh (wVar 6)))) (wMark (wSeq (wIf (wTest (wBin (cmpOf .Eq) (wVar 1) (wC (.int 0)))) (wSeq (wAsg 5 (wLc (wVar 5) (.name 6) (wTest (wBin (cmpOf .GtE) (wVar 6) (wC (.int 50)))) (wSh (wVar 6)))) (wAsg 3 (wCB opLst (wCons (wSh (wBin opIx (wVar 3) (wC (.int 0)))) (wCons (wSh (wBin opIx (wVar 5) (wBin (binOf .Mod) (wCB opInt (wCons (wBin opIx (wVar 2) (wC (.int 6))) wNil)) (wCB opLen (wCons (wVar 5) wNil))))) wNil))))) wNext) (wRet [0, 1] (wBin (binOf .Add) (wVar 3) (wCB opLst (wCons (wSh (wBin opIx (wVar 5) (wBin (binOf .Mod) (wCB opInt (wCons (wBin opIx (wVar 2) (wC (.int 7))) wNil)) (wCB opLen (wCons (wVar 5) wNil))))) wNil))))))))))))))))))
theorem den__law_periods : denB 60 c__law_periods (defBody (top 34)) = W__law_periods := by kernel_rfl
theorem F__law_periods_eq : F__law_periods = wFn 2 7 [0, 1] W__law_periods := congrArg (wFn 2 7 [0, 1]) den__law_periods
theorem ok__law_periods {P : Program} {w : World} {K : PySem.W.Frag} {mg : Str → Option Value} {base : Heap} (h : Hd L w K mg base) : FnI P w K mg base 2 ("_law_periods", ⟨F__law_periods, [true, true]⟩) := by
  obtain ⟨fd, FD⟩ := h.fd 5 (d := dd "_law_periods" 34) rfl
  have b := FD.bindsN (ps := ["cell", "kind"]) fun _ _ _ _ _ _ us hl => match us, hl with | [_, _], _ => rfl
  exact ⟨_, _, fd, ["cell", "kind"], Nat.le_refl _, fn_ok0 FD (N := ["cell", "kind", "row", "periods", "multiple", "steps", "k"]) ⟨rfl, rfl, rfl, by decide +kernel, rfl, by decide +kernel, by decide +kernel⟩ (c := c__law_periods) (n := 60) rfl rfl (h.fok (all_cons (ok__law_digits h).up (all_cons (ok__law_lcm h).up all_nil)) all_nil all_nil), h.glo (by decide), FD.kp, b⟩
def c__law_starts : DCtx := mkC L ["cell", "kind", "row", "starts", "k", "start"] (defScope (top 35)) [0, 1] 1 [("_law_digits", ⟨F__law_digits, [true, true]⟩)] [] [] true
def F__law_starts : WF := wFn 2 6 [0, 1] (denB 60 c__law_starts (defBody (top 35)))
def W__law_starts : WS := (wSeq (wAsg 2 (wCall F__law_digits [true, true] (wCons (wVar 0) (wCons (wBin (binOf .Mult) (wCB opLst (wCons (wSh (wC (.int 16))) (wCons (wSh (wC (.int 401))) (wCons (wSh (wC (.int 4))) wNil)))) (wC (.int 3))) wNil)))) (wSeq (wAsg 3 (wCB opLst wNil)) (wSeq (wRng1 (wCons (wC (.int 3)) wNil) 4 (wSeq (wAsg 5 (wCB opMax (wCons (wC (.int 0)) (wCons (wBin (binOf .Sub) (wBin opIx (wVar 2) (wBin (binOf .Mult) (wC (.int 3)) (wVar 4))) (wC (.int 3))) wNil)))) (wSeq (wIf (wOrT (wTest (wBin (cmpOf .Eq) (wVar 1) (wC (.int 0)))) (wTest (wBin (cmpOf .Eq) (wVar 1) (wC (.int 3))))) (wSeq (wAsg 5 (wBin opIx (wVar 2) (wBin (binOf .Add) (wBin (binOf .Mult) (wC (.int 3)) (wVar 4)) (wC (.int 1))))) (wIf (wTest (wBin (cmpOf .Eq) (wBin opIx (wVar 2) (wBin (binOf .Add) (wBin (binOf .Mult) (wC (.int 3)) (wVar 4)) (wC (.int 2)))) (wC (.int 0)))) (wAsg 5 (wC (.int 400))) wNext)) wNext) (wExpr (wApp 3 (wSh (wVar 5))))))) (wRet [0, 1] (wVar 3)))))
theorem den__law_starts : denB 60 c__law_starts (defBody (top 35)) = W__law_starts := by kernel_rfl
theorem F__law_starts_eq : F__law_starts = wFn 2 6 [0, 1] W__law_starts := congrArg (wFn 2 6 [0, 1]) den__law_starts
theorem ok__law_starts {P : Program} {w : World} {K : PySem.W.Frag} {mg : Str → Option Value} {base : Heap} (h : Hd L w K mg base) : FnI P w K mg base 2 ("_law_starts", ⟨F__law_starts, [true, true]⟩) := by
  obtain ⟨fd, FD⟩ := h.fd 6 (d := dd "_law_starts" 35) rfl
  have b := FD.bindsN (ps := ["cell", "kind"]) fun _ _ _ _ _ _ us hl => match us, hl with | [_, _], _ => rfl
  exact ⟨_, _, fd, ["cell", "kind"], Nat.le_refl _, fn_ok0 FD (N := ["cell", "kind", "row", "starts", "k", "start"]) ⟨rfl, rfl, rfl, by decide +kernel, rfl, by decide +kernel, by decide +kernel⟩ (c := c__law_starts) (n := 60) rfl rfl (h.fok (all_cons (ok__law_digits h).up all_nil) all_nil all_nil), h.glo (by decide), FD.kp, b⟩
def c_frozen (R : WF) (r : Nat) : DCtx := mkC L ["value", "item"] (defScope (top 2)) [0] (0 + r) [("frozen", ⟨R, [true]⟩)] [] [] true
def F_frozen : Nat → WF
  | 0 => fun _ _ _ => False
  | r + 1 => wFn 1 2 [0] (denB 60 (c_frozen (F_frozen r) r) (defBody (top 2)))
def W_frozen (R : WF) : WS := (wSeq (wIf (wTru (wCB (opIsiC L.isc) (wCons (wVar 0) (wCons (wCB opTup (wCons (wSh (wC (.ty "list"))) (wCons (wSh (wC (.ty "tuple"))) wNil))) wNil)))) (wRet [0] (wCB opTuple (wCons (wLc (wVar 0) (.name 1) wYes (wSh (wCall R [true] (wCons (wVar 1) wNil)))) wNil))) wNext) (wRet [0] (wVar 0)))
theorem den_frozen (R : WF) (r : Nat) : denB 60 (c_frozen R r) (defBody (top 2)) = W_frozen R := by kernel_rfl
theorem F_frozen_eq (r : Nat) : F_frozen (r + 1) = wFn 1 2 [0] (W_frozen (F_frozen r)) := congrArg (wFn 1 2 [0]) (den_frozen (F_frozen r) r)
theorem ok_frozen {P : Program} {w : World} {K : PySem.W.Frag} {mg : Str → Option Value} {base : Heap} : ∀ r : Nat, Hd L w K mg base → FnI P w K mg base (0 + r) ("frozen", ⟨F_frozen r, [true]⟩)
  | 0, h => by
    obtain ⟨fd, FD⟩ := h.fd 7 (d := dd "frozen" 2) rfl
    have b := FD.bindsN (ps := ["value"]) fun _ _ _ _ _ _ us hl => match us, hl with | [_], _ => rfl
    exact ⟨_, _, fd, ["value"], Nat.le_refl _, fn_none rfl, h.glo (x := "frozen") (by decide), FD.kp, b⟩
  | r + 1, h => by
    obtain ⟨fd, FD⟩ := h.fd 7 (d := dd "frozen" 2) rfl
    have b := FD.bindsN (ps := ["value"]) fun _ _ _ _ _ _ us hl => match us, hl with | [_], _ => rfl
    exact ⟨_, _, fd, ["value"], Nat.le_refl _, fn_ok0 FD (N := ["value", "item"]) ⟨rfl, rfl, rfl, by decide +kernel, rfl, by decide +kernel, by decide +kernel⟩ (c := c_frozen (F_frozen r) r) (n := 60) rfl rfl (h.fok (all_cons (ok_frozen r h) all_nil) all_nil all_nil), h.glo (x := "frozen") (by decide), FD.kp, b⟩
def c_is_whole : DCtx := mkC L ["value"] (defScope (top 3)) [0] 0 [] [] [] true
def F_is_whole : WF := wFn 1 1 [0] (denB 60 c_is_whole (defBody (top 3)))
def W_is_whole : WS := (wRet [0] (wAndV (wCB (opIsiC L.isc) (wCons (wVar 0) (wCons (wC (.ty "int")) wNil))) (wNotV (wCB (opIsiC L.isc) (wCons (wVar 0) (wCons (wC (.ty "bool")) wNil))))))
theorem den_is_whole : denB 60 c_is_whole (defBody (top 3)) = W_is_whole := by kernel_rfl
theorem F_is_whole_eq : F_is_whole = wFn 1 1 [0] W_is_whole := congrArg (wFn 1 1 [0]) den_is_whole
theorem ok_is_whole {P : Program} {w : World} {K : PySem.W.Frag} {mg : Str → Option Value} {base : Heap} (h : Hd L w K mg base) : FnI P w K mg base 1 ("is_whole", ⟨F_is_whole, [true]⟩) := by
  obtain ⟨fd, FD⟩ := h.fd 8 (d := dd "is_whole" 3) rfl
  have b := FD.bindsN (ps := ["value"]) fun _ _ _ _ _ _ us hl => match us, hl with | [_], _ => rfl
  exact ⟨_, _, fd, ["value"], Nat.le_refl _, fn_ok0 FD (N := ["value"]) ⟨rfl, rfl, rfl, by decide +kernel, rfl, by decide +kernel, by decide +kernel⟩ (c := c_is_whole) (n := 60) rfl rfl (h.fok all_nil all_nil all_nil), h.glo (by decide), FD.kp, b⟩
def c_is_below : DCtx := mkC L ["value", "limit"] (defScope (top 4)) [0, 1] 1 [("is_whole", ⟨F_is_whole, [true]⟩)] [] [] true
def F_is_below : WF := wFn 2 2 [0, 1] (denB 60 c_is_below (defBody (top 4)))
def W_is_below : WS := (wRet [0, 1] (wAndV (wCall F_is_whole [true] (wCons (wVar 0) wNil)) (wChain (cmpOf .LtE) (cmpOf .Lt) (wC (.int 0)) (wVar 0) (wVar 1))))
theorem den_is_below : denB 60 c_is_below (defBody (top 4)) = W_is_below := by kernel_rfl
theorem F_is_below_eq : F_is_below = wFn 2 2 [0, 1] W_is_below := congrArg (wFn 2 2 [0, 1]) den_is_below
theorem ok_is_below {P : Program} {w : World} {K : PySem.W.Frag} {mg : Str → Option Value} {base : Heap} (h : Hd L w K mg base) : FnI P w K mg base 2 ("is_below", ⟨F_is_below, [true, true]⟩) := by
  obtain ⟨fd, FD⟩ := h.fd 9 (d := dd "is_below" 4) rfl
  have b := FD.bindsN (ps := ["value", "limit"]) fun _ _ _ _ _ _ us hl => match us, hl with | [_, _], _ => rfl
  exact ⟨_, _, fd, ["value", "limit"], Nat.le_refl _, fn_ok0 FD (N := ["value", "limit"]) ⟨rfl, rfl, rfl, by decide +kernel, rfl, by decide +kernel, by decide +kernel⟩ (c := c_is_below) (n := 60) rfl rfl (h.fok (all_cons (ok_is_whole h).up all_nil) all_nil all_nil), h.glo (by decide), FD.kp, b⟩
def c_are_below : DCtx := mkC L ["items", "limit", "item"] (defScope (top 10)) [0, 1] 2 [("is_below", ⟨F_is_below, [true, true]⟩)] [] [] true
def F_are_below : WF := wFn 2 3 [0, 1] (denB 60 c_are_below (defBody (top 10)))
def W_are_below : WS := (wRet [0, 1] (wCB opAll (wCons (wLc (wVar 0) (.name 2) wYes (wSh (wCall F_is_below [true, true] (wCons (wVar 2) (wCons (wVar 1) wNil))))) wNil)))
theorem den_are_below : denB 60 c_are_below (defBody (top 10)) = W_are_below := by kernel_rfl
theorem F_are_below_eq : F_are_below = wFn 2 3 [0, 1] W_are_below := congrArg (wFn 2 3 [0, 1]) den_are_below
theorem ok_are_below {P : Program} {w : World} {K : PySem.W.Frag} {mg : Str → Option Value} {base : Heap} (h : Hd L w K mg base) : FnI P w K mg base 3 ("are_below", ⟨F_are_below, [true, true]⟩) := by
  obtain ⟨fd, FD⟩ := h.fd 10 (d := dd "are_below" 10) rfl
  have b := FD.bindsN (ps := ["items", "limit"]) fun _ _ _ _ _ _ us hl => match us, hl with | [_, _], _ => rfl
  exact ⟨_, _, fd, ["items", "limit"], Nat.le_refl _, fn_ok0 FD (N := ["items", "limit", "item"]) ⟨rfl, rfl, rfl, by decide +kernel, rfl, by decide +kernel, by decide +kernel⟩ (c := c_are_below) (n := 60) rfl rfl (h.fok (all_cons (ok_is_below h).up all_nil) all_nil all_nil), h.glo (by decide), FD.kp, b⟩
def c_check_fields : DCtx := mkC L ["early", "start", "period", "rests"] (defScope (top 11)) [0, 1, 2, 3] 3 [("are_below", ⟨F_are_below, [true, true]⟩), ("is_below", ⟨F_is_below, [true, true]⟩)] [] [] true
def F_check_fields : WF := wFn 4 4 [0, 1, 2, 3] (denB 60 c_check_fields (defBody (top 11)))
def W_check_fields : WS := (wSeq (wIf (wNotT (wTru (wCall F_is_below [true, true] (wCons (wVar 1) (wCons (wBin (binOf .Add) (wC (.int 2000)) (wC (.int 1))) wNil))))) wNever wNext) (wSeq (wIf (wOrT (wNotT (wTru (wCall F_is_below [true, true] (wCons (wVar 2) (wCons (wBin (binOf .Add) (wC (.int 2000)) (wC (.int 1))) wNil))))) (wTest (wBin (cmpOf .Eq) (wVar 2) (wC (.int 0))))) wNever wNext) (wSeq (wIf (wNotT (wTru (wCall F_are_below [true, true] (wCons (wVar 0) (wCons (wVar 1) wNil))))) wNever wNext) (wIf (wNotT (wTru (wCall F_are_below [true, true] (wCons (wVar 3) (wCons (wVar 2) wNil))))) wNever wNext))))
theorem den_check_fields : denB 60 c_check_fields (defBody (top 11)) = W_check_fields := by kernel_rfl
theorem F_check_fields_eq : F_check_fields = wFn 4 4 [0, 1, 2, 3] W_check_fields := congrArg (wFn 4 4 [0, 1, 2, 3]) den_check_fields
theorem ok_check_fields {P : Program} {w : World} {K : PySem.W.Frag} {mg : Str → Option Value} {base : Heap} (h : Hd L w K mg base) : FnI P w K mg base 4 ("check_fields", ⟨F_check_fields, [true, true, true, true]⟩) := by
  obtain ⟨fd, FD⟩ := h.fd 11 (d := dd "check_fields" 11) rfl
  have b := FD.bindsN (ps := ["early", "start", "period", "rests"]) fun _ _ _ _ _ _ us hl => match us, hl with | [_, _, _, _], _ => rfl
  exact ⟨_, _, fd, ["early", "start", "period", "rests"], Nat.le_refl _, fn_ok0 FD (N := ["early", "start", "period", "rests"]) ⟨rfl, rfl, rfl, by decide +kernel, rfl, by decide +kernel, by decide +kernel⟩ (c := c_check_fields) (n := 60) rfl rfl (h.fok (all_cons (ok_are_below h).up (all_cons (ok_is_below h).up all_nil)) all_nil all_nil), h.glo (by decide), FD.kp, b⟩
def c_least_period : DCtx := mkC L ["turn", "many", "period", "at"] (defScope (top 12)) [0] 0 [] [] [] true
def F_least_period : WF := wFn 1 4 [0] (denB 60 c_least_period (defBody (top 12)))
def W_least_period : WS := (wSeq (wAsg 1 (wCB opLen (wCons (wVar 0) wNil))) (wSeq (wRng2 (wCons (wC (.int 1)) (wCons (wVar 1) wNil)) 2 (wIf (wAndT (wTest (wBin (cmpOf .Eq) (wBin (binOf .Mod) (wVar 1) (wVar 2)) (wC (.int 0)))) (wTru (wCB opAll (wCons (wLcR2 (wCons (wVar 2) (wCons (wVar 1) wNil)) (.name 3) wYes (wSh (wBin (cmpOf .Eq) (wBin opIx (wVar 0) (wVar 3)) (wBin opIx (wVar 0) (wBin (binOf .Sub) (wVar 3) (wVar 2)))))) wNil)))) (wRet [0] (wVar 2)) wNext)) (wRet [0] (wVar 1))))
theorem den_least_period : denB 60 c_least_period (defBody (top 12)) = W_least_period := by kernel_rfl
theorem F_least_period_eq : F_least_period = wFn 1 4 [0] W_least_period := congrArg (wFn 1 4 [0]) den_least_period
theorem ok_least_period {P : Program} {w : World} {K : PySem.W.Frag} {mg : Str → Option Value} {base : Heap} (h : Hd L w K mg base) : FnI P w K mg base 1 ("least_period", ⟨F_least_period, [true]⟩) := by
  obtain ⟨fd, FD⟩ := h.fd 12 (d := dd "least_period" 12) rfl
  have b := FD.bindsN (ps := ["turn"]) fun _ _ _ _ _ _ us hl => match us, hl with | [_], _ => rfl
  exact ⟨_, _, fd, ["turn"], Nat.le_refl _, fn_ok0 FD (N := ["turn", "many", "period", "at"]) ⟨rfl, rfl, rfl, by decide +kernel, rfl, by decide +kernel, by decide +kernel⟩ (c := c_least_period) (n := 60) rfl rfl (h.fok all_nil all_nil all_nil), h.glo (by decide), FD.kp, b⟩
def c_least_start : DCtx := mkC L ["flags", "start", "period", "turn", "later", "told"] (defScope (top 13)) [0, 2, 3] 0 [] [] [] true
def F_least_start : WF := wFn 4 6 [0, 2, 3] (denB 60 c_least_start (defBody (top 13)))
def W_least_start : WS := (wSeq (wWhile (wTest (wBin (cmpOf .Gt) (wVar 1) (wC (.int 0)))) (wSeq (wAsg 4 (wBin (binOf .Add) (wBin (binOf .Sub) (wVar 1) (wC (.int 1))) (wVar 2))) (wSeq (wAsg 5 (wIte (wTest (wBin (cmpOf .Lt) (wVar 4) (wCB opLen (wCons (wVar 0) wNil)))) (wBin opIx (wVar 0) (wVar 4)) (wBin opIx (wVar 3) (wBin (binOf .Mod) (wBin (binOf .Sub) (wVar 4) (wCB opLen (wCons (wVar 0) wNil))) (wCB opLen (wCons (wVar 3) wNil)))))) (wSeq (wIf (wTest (wBin (cmpOf .NotEq) (wBin opIx (wVar 0) (wBin (binOf .Sub) (wVar 1) (wC (.int 1)))) (wVar 5))) (wRet [0, 2, 3] (wVar 1)) wNext) (wAsg 1 (wBin (binOf .Sub) (wVar 1) (wC (.int 1)))))))) (wRet [0, 2, 3] (wC (.int 0))))
theorem den_least_start : denB 60 c_least_start (defBody (top 13)) = W_least_start := by kernel_rfl
theorem F_least_start_eq : F_least_start = wFn 4 6 [0, 2, 3] W_least_start := congrArg (wFn 4 6 [0, 2, 3]) den_least_start
theorem ok_least_start {P : Program} {w : World} {K : PySem.W.Frag} {mg : Str → Option Value} {base : Heap} (h : Hd L w K mg base) : FnI P w K mg base 1 ("least_start", ⟨F_least_start, [true, false, true, true]⟩) := by
  obtain ⟨fd, FD⟩ := h.fd 13 (d := dd "least_start" 13) rfl
  have b := FD.bindsN (ps := ["flags", "start", "period", "turn"]) fun _ _ _ _ _ _ us hl => match us, hl with | [_, _, _, _], _ => rfl
  exact ⟨_, _, fd, ["flags", "start", "period", "turn"], Nat.le_refl _, fn_ok0 FD (N := ["flags", "start", "period", "turn", "later", "told"]) ⟨rfl, rfl, rfl, by decide +kernel, rfl, by decide +kernel, by decide +kernel⟩ (c := c_least_start) (n := 60) rfl rfl (h.fok all_nil all_nil all_nil), h.glo (by decide), FD.kp, b⟩
def c_Sizes_init : DCtx := mkC L ["self", "early", "start", "period", "rests", "flags", "n", "turn", "late"] (defScope (inClass (top 14) 0)) [0, 2, 3] 4 [("frozen", ⟨F_frozen 3, [true]⟩), ("check_fields", ⟨F_check_fields, [true, true, true, true]⟩), ("least_period", ⟨F_least_period, [true]⟩), ("least_start", ⟨F_least_start, [true, false, true, true]⟩)] [] [] true
def F_Sizes_init : WF := wFn 5 9 [0, 2, 3] (denB 60 c_Sizes_init (defBody (inClass (top 14) 0)))
def W_Sizes_init : WS := (wSeq (wAsg 1 (wCall (F_frozen 3) [true] (wCons (wVar 1) wNil))) (wSeq (wAsg 4 (wCall (F_frozen 3) [true] (wCons (wVar 4) wNil))) (wSeq (wExpr (wCall F_check_fields [true, true, true, true] (wCons (wVar 1) (wCons (wVar 2) (wCons (wVar 3) (wCons (wVar 4) wNil)))))) (wSeq (wAsg 5 (wLcR1 (wCons (wVar 2) wNil) (.name 6) wYes (wSh (wC (.bl false))))) (wSeq (wFor (wVar 1) (gN 6) (wSetIx 5 (wSh (wC (.bl true))) (wVar 6))) (wSeq (wAsg 7 (wLcR2 (wCons (wVar 2) (wCons (wBin (binOf .Add) (wVar 2) (wVar 3)) wNil)) (.name 6) wYes (wSh (wBin (cmpOf .In) (wBin (binOf .Mod) (wVar 6) (wVar 3)) (wVar 4))))) (wSeq (wSetFld L.cts 0 "period" (wCall F_least_period [true] (wCons (wVar 7) wNil))) (wSeq (wSetFld L.cts 0 "start" (wCall F_least_start [true, false, true, true] (wCons (wVar 5) (wCons (wVar 2) (wCons (wUn (opFld L.cts "period") (wVar 0)) (wCons (wVar 7) wNil)))))) (wSeq (wSetFld L.cts 0 "flags" (wCB opTuple (wCons (wSl (wBin (binOf .Add) (wVar 5) (wVar 7)) none (some (wBin (binOf .Add) (wUn (opFld L.cts "start") (wVar 0)) (wUn (opFld L.cts "period") (wVar 0))))) wNil))) (wSeq (wSetFld L.cts 0 "early" (wCB opTuple (wCons (wLcR1 (wCons (wUn (opFld L.cts "start") (wVar 0)) wNil) (.name 6) (wTru (wBin opIx (wUn (opFld L.cts "flags") (wVar 0)) (wVar 6))) (wSh (wVar 6))) wNil))) (wSeq (wAsg 8 (wLcR2 (wCons (wUn (opFld L.cts "start") (wVar 0)) (wCons (wBin (binOf .Add) (wUn (opFld L.cts "start") (wVar 0)) (wUn (opFld L.cts "period") (wVar 0))) wNil)) (.name 6) (wTru (wBin opIx (wUn (opFld L.cts "flags") (wVar 0)) (wVar 6))) (wSh (wBin (binOf .Mod) (wVar 6) (wUn (opFld L.cts "period") (wVar 0)))))) (wSetFld L.cts 0 "rests" (wCB opTuple (wCons (wCB opSortS (wCons (wVar 8) wNil)) wNil))))))))))))))
theorem den_Sizes_init : denB 60 c_Sizes_init (defBody (inClass (top 14) 0)) = W_Sizes_init := by kernel_rfl
theorem F_Sizes_init_eq : F_Sizes_init = wFn 5 9 [0, 2, 3] W_Sizes_init := congrArg (wFn 5 9 [0, 2, 3]) den_Sizes_init
theorem ok_Sizes_init {P : Program} {w : World} {K : PySem.W.Frag} {mg : Str → Option Value} {base : Heap} (h : Hd L w K mg base) : MkI P w K mg base 6 ("Sizes", ⟨F_Sizes_init, [false, true, true, false]⟩) := by
  obtain ⟨fd, FD⟩ := h.fd 14 (d := dm "Sizes" "__init__" "Sizes.__init__" 14 0) rfl
  have b := FD.bindsN (ps := ["self", "early", "start", "period", "rests"]) fun _ _ _ _ _ _ us hl => match us, hl with | [_, _, _, _, _], _ => rfl
  exact ⟨_, _, fd, ["self", "early", "start", "period", "rests"], Nat.le_refl _, h.mkr (by decide), fn_ok0 FD (N := ["self", "early", "start", "period", "rests", "flags", "n", "turn", "late"]) ⟨rfl, rfl, rfl, by decide +kernel, rfl, by decide +kernel, by decide +kernel⟩ (c := c_Sizes_init) (n := 60) rfl rfl (h.fok (all_cons (ok_frozen 3 h).up (all_cons (ok_check_fields h).up (all_cons (ok_least_period h).up (all_cons (ok_least_start h).up all_nil)))) all_nil all_nil), h.glo (by decide), b⟩
def c_from_flags : DCtx := mkC L ["flags", "start", "period", "early", "rests", "n"] (defScope (top 16)) [0, 1, 2] 6 [] [] [("Sizes", ⟨F_Sizes_init, [false, true, true, false]⟩)] true
def F_from_flags : WF := wFn 3 6 [0, 1, 2] (denB 60 c_from_flags (defBody (top 16)))
def W_from_flags : WS := (wSeq (wAsg 3 (wLcR1 (wCons (wVar 1) wNil) (.name 5) (wTru (wBin opIx (wVar 0) (wVar 5))) (wSh (wVar 5)))) (wSeq (wAsg 4 (wLcR2 (wCons (wVar 1) (wCons (wBin (binOf .Add) (wVar 1) (wVar 2)) wNil)) (.name 5) (wTru (wBin opIx (wVar 0) (wVar 5))) (wSh (wBin (binOf .Mod) (wVar 5) (wVar 2))))) (wRet [0, 1, 2] (wMake "Sizes" F_Sizes_init [false, true, true, false] (wCons (wVar 3) (wCons (wVar 1) (wCons (wVar 2) (wCons (wVar 4) wNil))))))))
theorem den_from_flags : denB 60 c_from_flags (defBody (top 16)) = W_from_flags := by kernel_rfl
theorem F_from_flags_eq : F_from_flags = wFn 3 6 [0, 1, 2] W_from_flags := congrArg (wFn 3 6 [0, 1, 2]) den_from_flags
theorem ok_from_flags {P : Program} {w : World} {K : PySem.W.Frag} {mg : Str → Option Value} {base : Heap} (h : Hd L w K mg base) : FnI P w K mg base 7 ("from_flags", ⟨F_from_flags, [true, true, true]⟩) := by
  obtain ⟨fd, FD⟩ := h.fd 15 (d := dd "from_flags" 16) rfl
  have b := FD.bindsN (ps := ["flags", "start", "period"]) fun _ _ _ _ _ _ us hl => match us, hl with | [_, _, _], _ => rfl
  exact ⟨_, _, fd, ["flags", "start", "period"], Nat.le_refl _, fn_ok0 FD (N := ["flags", "start", "period", "early", "rests", "n"]) ⟨rfl, rfl, rfl, by decide +kernel, rfl, by decide +kernel, by decide +kernel⟩ (c := c_from_flags) (n := 60) rfl rfl (h.fok all_nil all_nil (all_cons (ok_Sizes_init h).up all_nil)), h.glo (by decide), FD.kp, b⟩
def c_common : DCtx := mkC L ["one", "two"] (defScope (top 15)) [0, 1] 0 [] [] [] true
def F_common : WF := wFn 2 2 [0, 1] (denB 60 c_common (defBody (top 15)))
def W_common : WS := (wRet [0, 1] (wCB opTup (wCons (wSh (wCB opMax (wCons (wUn (opFld L.cts "start") (wVar 0)) (wCons (wUn (opFld L.cts "start") (wVar 1)) wNil)))) (wCons (wSh (wCB opLcm (wCons (wUn (opFld L.cts "period") (wVar 0)) (wCons (wUn (opFld L.cts "period") (wVar 1)) wNil)))) wNil))))
theorem den_common : denB 60 c_common (defBody (top 15)) = W_common := by kernel_rfl
theorem F_common_eq : F_common = wFn 2 2 [0, 1] W_common := congrArg (wFn 2 2 [0, 1]) den_common
theorem ok_common {P : Program} {w : World} {K : PySem.W.Frag} {mg : Str → Option Value} {base : Heap} (h : Hd L w K mg base) : FnI P w K mg base 1 ("common", ⟨F_common, [true, true]⟩) := by
  obtain ⟨fd, FD⟩ := h.fd 16 (d := dd "common" 15) rfl
  have b := FD.bindsN (ps := ["one", "two"]) fun _ _ _ _ _ _ us hl => match us, hl with | [_, _], _ => rfl
  exact ⟨_, _, fd, ["one", "two"], Nat.le_refl _, fn_ok0 FD (N := ["one", "two"]) ⟨rfl, rfl, rfl, by decide +kernel, rfl, by decide +kernel, by decide +kernel⟩ (c := c_common) (n := 60) rfl rfl (h.fok all_nil all_nil all_nil), h.glo (by decide), FD.kp, b⟩
def c_Sizes___contains__ : DCtx := mkC L ["self", "value"] (defScope (inClass (top 14) 2)) [0, 1] 0 [] [] [] true
def F_Sizes___contains__ : WF := wFn 2 2 [0, 1] (denB 60 c_Sizes___contains__ (defBody (inClass (top 14) 2)))
def W_Sizes___contains__ : WS := (wSeq (wIf (wTest (wBin (cmpOf .Lt) (wVar 1) (wC (.int 0)))) (wRet [0, 1] (wC (.bl false))) wNext) (wSeq (wIf (wTest (wBin (cmpOf .Lt) (wVar 1) (wUn (opFld L.cts "start") (wVar 0)))) (wRet [0, 1] (wBin opIx (wUn (opFld L.cts "flags") (wVar 0)) (wVar 1))) wNext) (wRet [0, 1] (wBin opIx (wUn (opFld L.cts "flags") (wVar 0)) (wBin (binOf .Add) (wUn (opFld L.cts "start") (wVar 0)) (wBin (binOf .Mod) (wBin (binOf .Sub) (wVar 1) (wUn (opFld L.cts "start") (wVar 0))) (wUn (opFld L.cts "period") (wVar 0))))))))
theorem den_Sizes___contains__ : denB 60 c_Sizes___contains__ (defBody (inClass (top 14) 2)) = W_Sizes___contains__ := by kernel_rfl
theorem F_Sizes___contains___eq : F_Sizes___contains__ = wFn 2 2 [0, 1] W_Sizes___contains__ := congrArg (wFn 2 2 [0, 1]) den_Sizes___contains__
theorem ok_Sizes___contains__ {P : Program} {w : World} {K : PySem.W.Frag} {mg : Str → Option Value} {base : Heap} (h : Hd L w K mg base) : MtI P w K mg base 2 ("__contains__", "Sizes", ⟨F_Sizes___contains__, [true, true]⟩) := by
  obtain ⟨fd, FD⟩ := h.fd 17 (d := dm "Sizes" "__contains__" "Sizes.__contains__" 14 2) rfl
  have b := FD.bindsN (ps := ["self", "value"]) fun _ _ _ _ _ _ us hl => match us, hl with | [_, _], _ => rfl
  exact ⟨_, _, fd, ["self", "value"], Nat.le_refl _, fn_ok0 FD (N := ["self", "value"]) ⟨rfl, rfl, rfl, by decide +kernel, rfl, by decide +kernel, by decide +kernel⟩ (c := c_Sizes___contains__) (n := 60) rfl rfl (h.fok all_nil all_nil all_nil), h.dun (by decide), h.clsI (by decide), b⟩
def c_mask_of : DCtx := mkC L ["sizes", "many", "mask", "n"] (defScope (top 17)) [0, 1] 2 [] [] [] true [("__contains__", "Sizes", ⟨F_Sizes___contains__, [true, true]⟩)]
def F_mask_of : WF := wFn 2 4 [0, 1] (denB 60 c_mask_of (defBody (top 17)))
def W_mask_of : WS := (wSeq (wAsg 2 (wC (.int 0))) (wSeq (wRng1 (wCons (wVar 1) wNil) 3 (wIf (wTest (wInM false "Sizes" F_Sizes___contains__ [true, true] (opIn false) (wVar 3) (wVar 0))) (wAsg 2 (wBin (binOf .BitOr) (wVar 2) (wBin (binOf .LShift) (wC (.int 1)) (wVar 3)))) wNext)) (wRet [0, 1] (wVar 2))))
theorem den_mask_of : denB 60 c_mask_of (defBody (top 17)) = W_mask_of := by kernel_rfl
theorem F_mask_of_eq : F_mask_of = wFn 2 4 [0, 1] W_mask_of := congrArg (wFn 2 4 [0, 1]) den_mask_of
theorem ok_mask_of {P : Program} {w : World} {K : PySem.W.Frag} {mg : Str → Option Value} {base : Heap} (h : Hd L w K mg base) : FnI P w K mg base 3 ("mask_of", ⟨F_mask_of, [true, true]⟩) := by
  obtain ⟨fd, FD⟩ := h.fd 18 (d := dd "mask_of" 17) rfl
  have b := FD.bindsN (ps := ["sizes", "many"]) fun _ _ _ _ _ _ us hl => match us, hl with | [_, _], _ => rfl
  exact ⟨_, _, fd, ["sizes", "many"], Nat.le_refl _, fn_ok0 FD (N := ["sizes", "many", "mask", "n"]) ⟨rfl, rfl, rfl, by decide +kernel, rfl, by decide +kernel, by decide +kernel⟩ (c := c_mask_of) (n := 60) rfl rfl (h.fok all_nil all_nil all_nil (all_cons (ok_Sizes___contains__ h).up all_nil)), h.glo (by decide), FD.kp, b⟩
def c_Sizes___add__ : DCtx := mkC L ["self", "other", "start", "period", "many", "mask", "total", "n", "flags"] (defScope (inClass (top 14) 7)) [0, 1] 7 [("from_flags", ⟨F_from_flags, [true, true, true]⟩), ("common", ⟨F_common, [true, true]⟩), ("mask_of", ⟨F_mask_of, [true, true]⟩)] [] [] true [("__contains__", "Sizes", ⟨F_Sizes___contains__, [true, true]⟩)]
def F_Sizes___add__ : WF := wFn 2 9 [0, 1] (denB 60 c_Sizes___add__ (defBody (inClass (top 14) 7)))
def W_Sizes___add__ : WS := (wSeq (wAsgT (gT [2, 3]) (wCall F_common [true, true] (wCons (wVar 0) (wCons (wVar 1) wNil)))) (wSeq (wAsg 4 (wBin (binOf .Add) (wBin (binOf .Mult) (wC (.int 2)) (wVar 2)) (wBin (binOf .Mult) (wC (.int 2)) (wVar 3)))) (wSeq (wAsg 5 (wCall F_mask_of [true, true] (wCons (wVar 1) (wCons (wVar 4) wNil)))) (wSeq (wAsg 6 (wC (.int 0))) (wSeq (wRng1 (wCons (wVar 4) wNil) 7 (wIf (wTest (wInM false "Sizes" F_Sizes___contains__ [true, true] (opIn false) (wVar 7) (wVar 0))) (wAsg 6 (wBin (binOf .BitOr) (wVar 6) (wBin (binOf .LShift) (wVar 5) (wVar 7)))) wNext)) (wSeq (wAsg 8 (wLcR1 (wCons (wVar 4) wNil) (.name 7) wYes (wSh (wBin (cmpOf .Eq) (wBin (binOf .Mod) (wBin (binOf .RShift) (wVar 6) (wVar 7)) (wC (.int 2))) (wC (.int 1)))))) (wRet [0, 1] (wCall F_from_flags [true, true, true] (wCons (wVar 8) (wCons (wBin (binOf .Add) (wBin (binOf .Mult) (wC (.int 2)) (wVar 2)) (wVar 3)) (wCons (wVar 3) wNil)))))))))))
theorem den_Sizes___add__ : denB 60 c_Sizes___add__ (defBody (inClass (top 14) 7)) = W_Sizes___add__ := by kernel_rfl
theorem F_Sizes___add___eq : F_Sizes___add__ = wFn 2 9 [0, 1] W_Sizes___add__ := congrArg (wFn 2 9 [0, 1]) den_Sizes___add__
theorem ok_Sizes___add__ {P : Program} {w : World} {K : PySem.W.Frag} {mg : Str → Option Value} {base : Heap} (h : Hd L w K mg base) : MtI P w K mg base 9 ("__add__", "Sizes", ⟨F_Sizes___add__, [true, true]⟩) := by
  obtain ⟨fd, FD⟩ := h.fd 19 (d := dm "Sizes" "__add__" "Sizes.__add__" 14 7) rfl
  have b := FD.bindsN (ps := ["self", "other"]) fun _ _ _ _ _ _ us hl => match us, hl with | [_, _], _ => rfl
  exact ⟨_, _, fd, ["self", "other"], Nat.le_refl _, fn_ok0 FD (N := ["self", "other", "start", "period", "many", "mask", "total", "n", "flags"]) ⟨rfl, rfl, rfl, by decide +kernel, rfl, by decide +kernel, by decide +kernel⟩ (c := c_Sizes___add__) (n := 60) rfl rfl (h.fok (all_cons (ok_from_flags h).up (all_cons (ok_common h).up (all_cons (ok_mask_of h).up all_nil))) all_nil all_nil (all_cons (ok_Sizes___contains__ h).up all_nil)), h.dun (by decide), h.clsI (by decide), b⟩
def c__law_few : DCtx := mkC L ["script", "at", "start", "period", "again", "row", "early", "step", "steps", "many_rests", "picks", "k", "n", "r"] (defScope (top 23)) [0, 1, 2, 3, 4] 1 [("_law_cell", ⟨F__law_cell, [true, true]⟩), ("_law_digits", ⟨F__law_digits, [true, true]⟩)] [] [] true
def F__law_few : WF := wFn 5 14 [0, 1, 2, 3, 4] (denB 60 c__law_few (defBody (top 23)))
def W__law_few : WS := (wSeq (wAsg 5 (wCall F__law_digits [true, true] (wCons (wCall F__law_cell [true, true] (wCons (wVar 0) (wCons (wVar 1) wNil))) (wCons (wBin (binOf .Add) (wCB opLst (wCons (wSh (wC (.int 5))) (wCons (wSh (wC (.int 5))) (wCons (wSh (wC (.int 3))) (wCons (wSh (wC (.int 60))) wNil))))) (wBin (binOf .Mult) (wCB opLst (wCons (wSh (wC (.int 2003))) wNil)) (wC (.int 7)))) wNil)))) (wSeq (wAsg 6 (wLcR1 (wCons (wBin opIx (wVar 5) (wC (.int 0))) wNil) (.name 11) (wTest (wBin (cmpOf .Gt) (wVar 2) (wC (.int 0)))) (wSh (wBin (binOf .Mod) (wCB opInt (wCons (wBin opIx (wVar 5) (wBin (binOf .Add) (wC (.int 4)) (wVar 11))) wNil)) (wVar 2))))) (wSeq (wAsg 7 (wVar 3)) (wMark (wSeq (wIf (wAndT (wTru (wVar 4)) (wTest (wBin (cmpOf .Eq) (wBin opIx (wVar 5) (wC (.int 2))) (wC (.int 0))))) (wSeq (wAsg 8 (wLcR2 (wCons (wC (.int 1)) (wCons (wBin (binOf .Add) (wVar 3) (wC (.int 1))) wNil)) (.name 11) (wTest (wBin (cmpOf .Eq) (wBin (binOf .Mod) (wCB opInt (wCons (wVar 3) wNil)) (wVar 11)) (wC (.int 0)))) (wSh (wVar 11)))) (wAsg 7 (wBin opIx (wVar 8) (wBin (binOf .Mod) (wCB opInt (wCons (wBin opIx (wVar 5) (wC (.int 3))) wNil)) (wCB opLen (wCons (wVar 8) wNil)))))) wNext) (wSeq (wAsg 9 (wCB opMax (wCons (wC (.int 0)) (wCons (wBin (binOf .Sub) (wBin opIx (wVar 5) (wC (.int 1))) (wC (.int 1))) wNil)))) (wMark (wSeq (wIf (wTest (wBin (cmpOf .Eq) (wCB opLen (wCons (wVar 6) wNil)) (wC (.int 0)))) (wAsg 9 (wCB opMax (wCons (wC (.int 1)) (wCons (wVar 9) wNil)))) wNext) (wSeq (wAsg 10 (wLcR1 (wCons (wVar 9) wNil) (.name 11) wYes (wSh (wBin (binOf .Mod) (wCB opInt (wCons (wBin opIx (wVar 5) (wBin (binOf .Add) (wC (.int 8)) (wVar 11))) wNil)) (wVar 7))))) (wRet [0, 1, 2, 3, 4] (wCB opLst (wCons (wSh (wLcR1 (wCons (wVar 2) wNil) (.name 12) (wTest (wBin (cmpOf .In) (wVar 12) (wVar 6))) (wSh (wVar 12)))) (wCons (wSh (wVar 2)) (wCons (wSh (wVar 3)) (wCons (wSh (wLcR1 (wCons (wVar 3) wNil) (.name 13) (wTest (wBin (cmpOf .In) (wBin (binOf .Mod) (wCB opInt (wCons (wVar 13) wNil)) (wVar 7)) (wVar 10))) (wSh (wVar 13)))) wNil)))))))))))))))
theorem den__law_few : denB 60 c__law_few (defBody (top 23)) = W__law_few := by kernel_rfl
theorem F__law_few_eq : F__law_few = wFn 5 14 [0, 1, 2, 3, 4] W__law_few := congrArg (wFn 5 14 [0, 1, 2, 3, 4]) den__law_few
theorem ok__law_few {P : Program} {w : World} {K : PySem.W.Frag} {mg : Str → Option Value} {base : Heap} (h : Hd L w K mg base) : FnI P w K mg base 2 ("_law_few", ⟨F__law_few, [true, true, true, true, true]⟩) := by
  obtain ⟨fd, FD⟩ := h.fd 20 (d := dd "_law_few" 23) rfl
  have b := FD.bindsN (ps := ["script", "at", "start", "period", "again"]) fun _ _ _ _ _ _ us hl => match us, hl with | [_, _, _, _, _], _ => rfl
  exact ⟨_, _, fd, ["script", "at", "start", "period", "again"], Nat.le_refl _, fn_ok0 FD (N := ["script", "at", "start", "period", "again", "row", "early", "step", "steps", "many_rests", "picks", "k", "n", "r"]) ⟨rfl, rfl, rfl, by decide +kernel, rfl, by decide +kernel, by decide +kernel⟩ (c := c__law_few) (n := 60) rfl rfl (h.fok (all_cons (ok__law_cell h).up (all_cons (ok__law_digits h).up all_nil)) all_nil all_nil), h.glo (by decide), FD.kp, b⟩
def c__law_set : DCtx := mkC L ["script", "at", "start", "period", "shape", "low", "wide", "early_row", "rests_row", "step", "steps", "flags", "bits", "n", "k", "r"] (defScope (top 22)) [0, 1, 2, 3] 1 [("_law_cell", ⟨F__law_cell, [true, true]⟩), ("_law_digits", ⟨F__law_digits, [true, true]⟩)] [] [] true
def F__law_set : WF := wFn 4 16 [0, 1, 2, 3] (denB 60 c__law_set (defBody (top 22)))
def W__law_set : WS := (wSeq (wAsg 4 (wCall F__law_digits [true, true] (wCons (wCall F__law_cell [true, true] (wCons (wVar 0) (wCons (wVar 1) wNil))) (wCons (wCB opLst (wCons (wSh (wC (.int 9))) (wCons (wSh (wC (.int 3))) (wCons (wSh (wC (.int 3))) (wCons (wSh (wC (.int 60))) (wCons (wSh (wC (.int 60))) wNil)))))) wNil)))) (wSeq (wAsg 5 (wBin opIx (wCB opLst (wCons (wSh (wC (.int 1))) (wCons (wSh (wC (.int 3))) (wCons (wSh (wC (.int 5))) wNil)))) (wBin opIx (wVar 4) (wC (.int 1))))) (wSeq (wAsg 6 (wBin opIx (wCB opLst (wCons (wSh (wC (.int 2))) (wCons (wSh (wC (.int 3))) (wCons (wSh (wC (.int 4))) wNil)))) (wBin opIx (wVar 4) (wC (.int 2))))) (wSeq (wAsg 7 (wCall F__law_digits [true, true] (wCons (wCall F__law_cell [true, true] (wCons (wVar 0) (wCons (wBin (binOf .Add) (wVar 1) (wC (.int 1))) wNil))) (wCons (wBin (binOf .Mult) (wCB opLst (wCons (wSh (wC (.int 6))) wNil)) (wVar 2)) wNil)))) (wSeq (wAsg 8 (wCall F__law_digits [true, true] (wCons (wCall F__law_cell [true, true] (wCons (wVar 0) (wCons (wBin (binOf .Add) (wVar 1) (wC (.int 2))) wNil))) (wCons (wBin (binOf .Mult) (wCB opLst (wCons (wSh (wC (.int 6))) wNil)) (wVar 3)) wNil)))) (wSeq (wAsg 9 (wVar 3)) (wMark (wSeq (wIf (wOrT (wTest (wBin (cmpOf .Eq) (wBin opIx (wVar 4) (wC (.int 0))) (wC (.int 3)))) (wTest (wBin (cmpOf .Eq) (wBin opIx (wVar 4) (wC (.int 0))) (wC (.int 5))))) (wSeq (wAsg 10 (wLcR2 (wCons (wC (.int 1)) (wCons (wBin (binOf .Add) (wVar 3) (wC (.int 1))) wNil)) (.name 14) (wTest (wBin (cmpOf .Eq) (wBin (binOf .Mod) (wCB opInt (wCons (wVar 3) wNil)) (wVar 14)) (wC (.int 0)))) (wSh (wVar 14)))) (wAsg 9 (wBin opIx (wVar 10) (wBin (binOf .Mod) (wCB opInt (wCons (wBin opIx (wVar 4) (wC (.int 3))) wNil)) (wCB opLen (wCons (wVar 10) wNil)))))) wNext) (wSeq (wAsg 11 (wLcR1 (wCons (wVar 3) wNil) (.name 15) wYes (wSh (wBin (cmpOf .GtE) (wCB opInt (wCons (wBin opIx (wVar 8) (wBin (binOf .Mod) (wCB opInt (wCons (wVar 15) wNil)) (wVar 9))) wNil)) (wBin (binOf .Sub) (wC (.int 6)) (wVar 6)))))) (wMark (wSeq (wIf (wTest (wBin (cmpOf .Eq) (wBin opIx (wVar 4) (wC (.int 0))) (wC (.int 6)))) (wAsg 11 (wLcR1 (wCons (wVar 3) wNil) (.name 15) wYes (wSh (wC (.bl false))))) wNext) (wMark (wSeq (wIf (wTest (wBin (cmpOf .Eq) (wBin opIx (wVar 4) (wC (.int 0))) (wC (.int 7)))) (wAsg 11 (wLcR1 (wCons (wVar 3) wNil) (.name 15) wYes (wSh (wC (.bl true))))) wNext) (wSeq (wAsg 12 (wLcR1 (wCons (wVar 2) wNil) (.name 13) wYes (wSh (wBin (cmpOf .GtE) (wCB opInt (wCons (wBin opIx (wVar 7) (wVar 13)) wNil)) (wBin (binOf .Sub) (wC (.int 6)) (wVar 5)))))) (wMark (wSeq (wIf (wOrT (wTest (wBin (cmpOf .Eq) (wBin opIx (wVar 4) (wC (.int 0))) (wC (.int 4)))) (wTest (wBin (cmpOf .Eq) (wBin opIx (wVar 4) (wC (.int 0))) (wC (.int 5))))) (wRng2 (wCons (wBin (binOf .Mod) (wCB opInt (wCons (wBin opIx (wVar 4) (wC (.int 4))) wNil)) (wBin (binOf .Add) (wVar 2) (wC (.int 1)))) (wCons (wVar 2) wNil)) 13 (wSetIx 12 (wSh (wBin opIx (wVar 11) (wBin (binOf .Mod) (wCB opInt (wCons (wVar 13) wNil)) (wVar 3)))) (wVar 13))) wNext) (wMark (wSeq (wIf (wTest (wBin (cmpOf .Eq) (wBin opIx (wVar 4) (wC (.int 0))) (wC (.int 8)))) (wAsg 12 (wLcR1 (wCons (wVar 2) wNil) (.name 13) wYes (wSh (wC (.bl false))))) wNext) (wRet [0, 1, 2, 3] (wCB opLst (wCons (wSh (wLcR1 (wCons (wVar 2) wNil) (.name 13) (wTru (wBin opIx (wVar 12) (wVar 13))) (wSh (wVar 13)))) (wCons (wSh (wVar 2)) (wCons (wSh (wVar 3)) (wCons (wSh (wLcR1 (wCons (wVar 3) wNil) (.name 15) (wTru (wBin opIx (wVar 11) (wVar 15))) (wSh (wVar 15)))) wNil))))))))))))))))))))))))
theorem den__law_set : denB 60 c__law_set (defBody (top 22)) = W__law_set := by kernel_rfl
theorem F__law_set_eq : F__law_set = wFn 4 16 [0, 1, 2, 3] W__law_set := congrArg (wFn 4 16 [0, 1, 2, 3]) den__law_set
theorem ok__law_set {P : Program} {w : World} {K : PySem.W.Frag} {mg : Str → Option Value} {base : Heap} (h : Hd L w K mg base) : FnI P w K mg base 2 ("_law_set", ⟨F__law_set, [true, true, true, true]⟩) := by
  obtain ⟨fd, FD⟩ := h.fd 21 (d := dd "_law_set" 22) rfl
  have b := FD.bindsN (ps := ["script", "at", "start", "period"]) fun _ _ _ _ _ _ us hl => match us, hl with | [_, _, _, _], _ => rfl
  exact ⟨_, _, fd, ["script", "at", "start", "period"], Nat.le_refl _, fn_ok0 FD (N := ["script", "at", "start", "period", "shape", "low", "wide", "early_row", "rests_row", "step", "steps", "flags", "bits", "n", "k", "r"]) ⟨rfl, rfl, rfl, by decide +kernel, rfl, by decide +kernel, by decide +kernel⟩ (c := c__law_set) (n := 60) rfl rfl (h.fok (all_cons (ok__law_cell h).up (all_cons (ok__law_digits h).up all_nil)) all_nil all_nil), h.glo (by decide), FD.kp, b⟩
def c__law_bits : DCtx := mkC L ["parts", "far", "flags", "r", "bits", "n"] (defScope (top 24)) [0, 1] 0 [] [] [] true
def F__law_bits : WF := wFn 2 6 [0, 1] (denB 60 c__law_bits (defBody (top 24)))
def W__law_bits : WS := (wSeq (wAsg 2 (wLcR1 (wCons (wBin opIx (wVar 0) (wC (.int 2))) wNil) (.name 3) wYes (wSh (wC (.bl false))))) (wSeq (wFor (wBin opIx (wVar 0) (wC (.int 3))) (gN 3) (wSetIx 2 (wSh (wC (.bl true))) (wVar 3))) (wSeq (wAsg 4 (wLcR1 (wCons (wVar 1) wNil) (.name 5) wYes (wSh (wC (.bl false))))) (wSeq (wFor (wBin opIx (wVar 0) (wC (.int 0))) (gN 5) (wIf (wTest (wBin (cmpOf .Lt) (wVar 5) (wVar 1))) (wSetIx 4 (wSh (wC (.bl true))) (wVar 5)) wNext)) (wSeq (wRng2 (wCons (wBin opIx (wVar 0) (wC (.int 1))) (wCons (wVar 1) wNil)) 5 (wSetIx 4 (wSh (wBin opIx (wVar 2) (wBin (binOf .Mod) (wCB opInt (wCons (wVar 5) wNil)) (wBin opIx (wVar 0) (wC (.int 2)))))) (wVar 5))) (wRet [0, 1] (wVar 4)))))))
theorem den__law_bits : denB 60 c__law_bits (defBody (top 24)) = W__law_bits := by kernel_rfl
theorem F__law_bits_eq : F__law_bits = wFn 2 6 [0, 1] W__law_bits := congrArg (wFn 2 6 [0, 1]) den__law_bits
theorem ok__law_bits {P : Program} {w : World} {K : PySem.W.Frag} {mg : Str → Option Value} {base : Heap} (h : Hd L w K mg base) : FnI P w K mg base 1 ("_law_bits", ⟨F__law_bits, [true, true]⟩) := by
  obtain ⟨fd, FD⟩ := h.fd 22 (d := dd "_law_bits" 24) rfl
  have b := FD.bindsN (ps := ["parts", "far"]) fun _ _ _ _ _ _ us hl => match us, hl with | [_, _], _ => rfl
  exact ⟨_, _, fd, ["parts", "far"], Nat.le_refl _, fn_ok0 FD (N := ["parts", "far", "flags", "r", "bits", "n"]) ⟨rfl, rfl, rfl, by decide +kernel, rfl, by decide +kernel, by decide +kernel⟩ (c := c__law_bits) (n := 60) rfl rfl (h.fok all_nil all_nil all_nil), h.glo (by decide), FD.kp, b⟩
def c__law_least_form : DCtx := mkC L ["bits", "start", "period", "tail", "step", "k", "begin", "early", "rests", "n"] (defScope (top 25)) [0, 1, 2] 0 [] [] [] true
def F__law_least_form : WF := wFn 3 10 [0, 1, 2] (denB 60 c__law_least_form (defBody (top 25)))
def W__law_least_form : WS := (wSeq (wAsg 3 (wSl (wVar 0) (some (wVar 1)) (some (wBin (binOf .Add) (wVar 1) (wVar 2))))) (wSeq (wAsg 4 (wC (.int 1))) (wSeq (wRng2 (wCons (wC (.int 1)) (wCons (wBin (binOf .Add) (wVar 2) (wC (.int 1))) wNil)) 5 (wSeq (wAsg 4 (wVar 5)) (wIf (wTest (wBin (cmpOf .Eq) (wBin (binOf .Add) (wSl (wVar 3) (some (wVar 5)) none) (wSl (wVar 3) none (some (wVar 5)))) (wVar 3))) wBreak wNext))) (wSeq (wAsg 6 (wVar 1)) (wSeq (wRng1 (wCons (wVar 1) wNil) 5 (wSeq (wIf (wTest (wBin (cmpOf .NotEq) (wBin opIx (wVar 0) (wBin (binOf .Sub) (wVar 6) (wC (.int 1)))) (wBin opIx (wVar 0) (wBin (binOf .Add) (wBin (binOf .Sub) (wVar 6) (wC (.int 1))) (wVar 4))))) wBreak wNext) (wAsg 6 (wBin (binOf .Sub) (wVar 6) (wC (.int 1)))))) (wSeq (wAsg 7 (wLcR1 (wCons (wVar 6) wNil) (.name 9) (wTru (wBin opIx (wVar 0) (wVar 9))) (wSh (wVar 9)))) (wSeq (wAsg 8 (wCB opSortS (wCons (wLcR2 (wCons (wVar 6) (wCons (wBin (binOf .Add) (wVar 6) (wVar 4)) wNil)) (.name 9) (wTru (wBin opIx (wVar 0) (wVar 9))) (wSh (wBin (binOf .Mod) (wCB opInt (wCons (wVar 9) wNil)) (wVar 4)))) wNil))) (wRet [0, 1, 2] (wCB opLst (wCons (wSh (wVar 7)) (wCons (wSh (wVar 6)) (wCons (wSh (wVar 4)) (wCons (wSh (wVar 8)) wNil)))))))))))))
theorem den__law_least_form : denB 60 c__law_least_form (defBody (top 25)) = W__law_least_form := by kernel_rfl
theorem F__law_least_form_eq : F__law_least_form = wFn 3 10 [0, 1, 2] W__law_least_form := congrArg (wFn 3 10 [0, 1, 2]) den__law_least_form
theorem ok__law_least_form {P : Program} {w : World} {K : PySem.W.Frag} {mg : Str → Option Value} {base : Heap} (h : Hd L w K mg base) : FnI P w K mg base 1 ("_law_least_form", ⟨F__law_least_form, [true, true, true]⟩) := by
  obtain ⟨fd, FD⟩ := h.fd 23 (d := dd "_law_least_form" 25) rfl
  have b := FD.bindsN (ps := ["bits", "start", "period"]) fun _ _ _ _ _ _ us hl => match us, hl with | [_, _, _], _ => rfl
  exact ⟨_, _, fd, ["bits", "start", "period"], Nat.le_refl _, fn_ok0 FD (N := ["bits", "start", "period", "tail", "step", "k", "begin", "early", "rests", "n"]) ⟨rfl, rfl, rfl, by decide +kernel, rfl, by decide +kernel, by decide +kernel⟩ (c := c__law_least_form) (n := 60) rfl rfl (h.fok all_nil all_nil all_nil), h.glo (by decide), FD.kp, b⟩
def c__law_fields : DCtx := mkC L ["parts"] (defScope (top 26)) [0] 1 [("_law_bits", ⟨F__law_bits, [true, true]⟩), ("_law_least_form", ⟨F__law_least_form, [true, true, true]⟩)] [] [] true
def F__law_fields : WF := wFn 1 1 [0] (denB 60 c__law_fields (defBody (top 26)))
def W__law_fields : WS := (wRet [0] (wCall F__law_least_form [true, true, true] (wCons (wCall F__law_bits [true, true] (wCons (wVar 0) (wCons (wBin (binOf .Add) (wBin opIx (wVar 0) (wC (.int 1))) (wBin opIx (wVar 0) (wC (.int 2)))) wNil))) (wCons (wBin opIx (wVar 0) (wC (.int 1))) (wCons (wBin opIx (wVar 0) (wC (.int 2))) wNil)))))
theorem den__law_fields : denB 60 c__law_fields (defBody (top 26)) = W__law_fields := by kernel_rfl
theorem F__law_fields_eq : F__law_fields = wFn 1 1 [0] W__law_fields := congrArg (wFn 1 1 [0]) den__law_fields
theorem ok__law_fields {P : Program} {w : World} {K : PySem.W.Frag} {mg : Str → Option Value} {base : Heap} (h : Hd L w K mg base) : FnI P w K mg base 2 ("_law_fields", ⟨F__law_fields, [true]⟩) := by
  obtain ⟨fd, FD⟩ := h.fd 24 (d := dd "_law_fields" 26) rfl
  have b := FD.bindsN (ps := ["parts"]) fun _ _ _ _ _ _ us hl => match us, hl with | [_], _ => rfl
  exact ⟨_, _, fd, ["parts"], Nat.le_refl _, fn_ok0 FD (N := ["parts"]) ⟨rfl, rfl, rfl, by decide +kernel, rfl, by decide +kernel, by decide +kernel⟩ (c := c__law_fields) (n := 60) rfl rfl (h.fok (all_cons (ok__law_bits h).up (all_cons (ok__law_least_form h).up all_nil)) all_nil all_nil), h.glo (by decide), FD.kp, b⟩
def c__law_summed : DCtx := mkC L ["one", "two", "start", "period", "far", "left", "right", "hits", "bits", "n", "found", "k"] (defScope (top 32)) [0, 1] 1 [("_law_least_form", ⟨F__law_least_form, [true, true, true]⟩), ("_law_lcm", ⟨F__law_lcm, [true, true]⟩), ("_law_bits", ⟨F__law_bits, [true, true]⟩)] [] [] true
def F__law_summed : WF := wFn 2 12 [0, 1] (denB 60 c__law_summed (defBody (top 32)))
def W__law_summed : WS := (wSeq (wAsg 2 (wCB opMax (wCons (wBin opIx (wVar 0) (wC (.int 1))) (wCons (wBin opIx (wVar 1) (wC (.int 1))) wNil)))) (wSeq (wAsg 3 (wCall F__law_lcm [true, true] (wCons (wBin opIx (wVar 0) (wC (.int 2))) (wCons (wBin opIx (wVar 1) (wC (.int 2))) wNil)))) (wSeq (wAsg 4 (wBin (binOf .Add) (wBin (binOf .Mult) (wC (.int 2)) (wVar 2)) (wBin (binOf .Mult) (wC (.int 2)) (wVar 3)))) (wSeq (wAsg 5 (wCall F__law_bits [true, true] (wCons (wVar 0) (wCons (wVar 4) wNil)))) (wSeq (wAsg 6 (wCall F__law_bits [true, true] (wCons (wVar 1) (wCons (wVar 4) wNil)))) (wSeq (wAsg 7 (wLcR1 (wCons (wVar 4) wNil) (.name 9) (wTru (wBin opIx (wVar 5) (wVar 9))) (wSh (wVar 9)))) (wSeq (wAsg 8 (wCB opLst wNil)) (wSeq (wRng1 (wCons (wVar 4) wNil) 9 (wSeq (wAsg 10 (wC (.bl false))) (wSeq (wFor (wVar 7) (gN 11) (wSeq (wIf (wOrT (wTru (wVar 10)) (wTest (wBin (cmpOf .Gt) (wVar 11) (wVar 9)))) wBreak wNext) (wAsg 10 (wBin opIx (wVar 6) (wBin (binOf .Sub) (wVar 9) (wVar 11)))))) (wExpr (wApp 8 (wSh (wVar 10))))))) (wRet [0, 1] (wCall F__law_least_form [true, true, true] (wCons (wVar 8) (wCons (wBin (binOf .Add) (wBin (binOf .Mult) (wC (.int 2)) (wVar 2)) (wVar 3)) (wCons (wVar 3) wNil)))))))))))))
theorem den__law_summed : denB 60 c__law_summed (defBody (top 32)) = W__law_summed := by kernel_rfl
theorem F__law_summed_eq : F__law_summed = wFn 2 12 [0, 1] W__law_summed := congrArg (wFn 2 12 [0, 1]) den__law_summed
theorem ok__law_summed {P : Program} {w : World} {K : PySem.W.Frag} {mg : Str → Option Value} {base : Heap} (h : Hd L w K mg base) : FnI P w K mg base 2 ("_law_summed", ⟨F__law_summed, [false, false]⟩) := by
  obtain ⟨fd, FD⟩ := h.fd 25 (d := dd "_law_summed" 32) rfl
  have b := FD.bindsN (ps := ["one", "two"]) fun _ _ _ _ _ _ us hl => match us, hl with | [_, _], _ => rfl
  exact ⟨_, _, fd, ["one", "two"], Nat.le_refl _, fn_ok0 FD (N := ["one", "two", "start", "period", "far", "left", "right", "hits", "bits", "n", "found", "k"]) ⟨rfl, rfl, rfl, by decide +kernel, rfl, by decide +kernel, by decide +kernel⟩ (c := c__law_summed) (n := 60) rfl rfl (h.fok (all_cons (ok__law_least_form h).up (all_cons (ok__law_lcm h).up (all_cons (ok__law_bits h).up all_nil))) all_nil all_nil), h.glo (by decide), FD.kp, b⟩
def c__law_member : DCtx := mkC L ["parts", "n"] (defScope (top 30)) [0, 1] 0 [] [] [] true
def F__law_member : WF := wFn 2 2 [0, 1] (denB 60 c__law_member (defBody (top 30)))
def W__law_member : WS := (wSeq (wIf (wTest (wBin (cmpOf .Lt) (wVar 1) (wBin opIx (wVar 0) (wC (.int 1))))) (wRet [0, 1] (wBin (cmpOf .In) (wVar 1) (wBin opIx (wVar 0) (wC (.int 0))))) wNext) (wRet [0, 1] (wBin (cmpOf .In) (wBin (binOf .Mod) (wCB opInt (wCons (wVar 1) wNil)) (wBin opIx (wVar 0) (wC (.int 2)))) (wBin opIx (wVar 0) (wC (.int 3))))))
theorem den__law_member : denB 60 c__law_member (defBody (top 30)) = W__law_member := by kernel_rfl
theorem F__law_member_eq : F__law_member = wFn 2 2 [0, 1] W__law_member := congrArg (wFn 2 2 [0, 1]) den__law_member
theorem ok__law_member {P : Program} {w : World} {K : PySem.W.Frag} {mg : Str → Option Value} {base : Heap} (h : Hd L w K mg base) : FnI P w K mg base 1 ("_law_member", ⟨F__law_member, [true, true]⟩) := by
  obtain ⟨fd, FD⟩ := h.fd 26 (d := dd "_law_member" 30) rfl
  have b := FD.bindsN (ps := ["parts", "n"]) fun _ _ _ _ _ _ us hl => match us, hl with | [_, _], _ => rfl
  exact ⟨_, _, fd, ["parts", "n"], Nat.le_refl _, fn_ok0 FD (N := ["parts", "n"]) ⟨rfl, rfl, rfl, by decide +kernel, rfl, by decide +kernel, by decide +kernel⟩ (c := c__law_member) (n := 60) rfl rfl (h.fok all_nil all_nil all_nil), h.glo (by decide), FD.kp, b⟩
def c__law_inside : DCtx := mkC L ["value", "parts", "n", "k"] (defScope (top 40)) [0, 1] 2 [("_law_member", ⟨F__law_member, [true, true]⟩)] [] [] true [("__contains__", "Sizes", ⟨F_Sizes___contains__, [true, true]⟩)]
def F__law_inside : WF := wFn 2 4 [0, 1] (denB 60 c__law_inside (defBody (top 40)))
def W__law_inside : WS := (wSeq (wFor (wBin (binOf .Add) (wLcR1 (wCons (wBin (binOf .Add) (wBin (binOf .Add) (wBin opIx (wVar 1) (wC (.int 1))) (wBin (binOf .Mult) (wC (.int 2)) (wBin opIx (wVar 1) (wC (.int 2))))) (wC (.int 3))) wNil) (.name 3) wYes (wSh (wBin (binOf .Sub) (wVar 3) (wC (.int 3))))) (wCB opLst (wCons (wSh (wBin (binOf .Add) (wBin (binOf .Pow) (wC (.int 10)) (wC (.int 9))) (wBin opIx (wVar 1) (wC (.int 1))))) (wCons (wSh (wBin (binOf .Add) (wBin (binOf .Pow) (wC (.int 10)) (wC (.int 40))) (wC (.int 1)))) wNil)))) (gN 2) (wIf (wTest (wBin (cmpOf .NotEq) (wInM false "Sizes" F_Sizes___contains__ [true, true] (opIn false) (wVar 2) (wVar 0)) (wCall F__law_member [true, true] (wCons (wVar 1) (wCons (wVar 2) wNil))))) (wRet [0, 1] (wC (.bl false))) wNext)) (wRet [0, 1] (wC (.bl true))))
theorem den__law_inside : denB 60 c__law_inside (defBody (top 40)) = W__law_inside := by kernel_rfl
theorem F__law_inside_eq : F__law_inside = wFn 2 4 [0, 1] W__law_inside := congrArg (wFn 2 4 [0, 1]) den__law_inside
theorem ok__law_inside {P : Program} {w : World} {K : PySem.W.Frag} {mg : Str → Option Value} {base : Heap} (h : Hd L w K mg base) : FnI P w K mg base 3 ("_law_inside", ⟨F__law_inside, [true, true]⟩) := by
  obtain ⟨fd, FD⟩ := h.fd 27 (d := dd "_law_inside" 40) rfl
  have b := FD.bindsN (ps := ["value", "parts"]) fun _ _ _ _ _ _ us hl => match us, hl with | [_, _], _ => rfl
  exact ⟨_, _, fd, ["value", "parts"], Nat.le_refl _, fn_ok0 FD (N := ["value", "parts", "n", "k"]) ⟨rfl, rfl, rfl, by decide +kernel, rfl, by decide +kernel, by decide +kernel⟩ (c := c__law_inside) (n := 60) rfl rfl (h.fok (all_cons (ok__law_member h).up all_nil) all_nil all_nil (all_cons (ok_Sizes___contains__ h).up all_nil)), h.glo (by decide), FD.kp, b⟩
def c__law_small : DCtx := mkC L ["one", "two"] (defScope (top 33)) [0, 1] 1 [("_law_lcm", ⟨F__law_lcm, [true, true]⟩)] [] [] true
def F__law_small : WF := wFn 2 2 [0, 1] (denB 60 c__law_small (defBody (top 33)))
def W__law_small : WS := (wRet [0, 1] (wBin (cmpOf .LtE) (wBin (binOf .Add) (wBin (binOf .Mult) (wC (.int 2)) (wCB opMax (wCons (wBin opIx (wVar 0) (wC (.int 1))) (wCons (wBin opIx (wVar 1) (wC (.int 1))) wNil)))) (wBin (binOf .Mult) (wC (.int 2)) (wCall F__law_lcm [true, true] (wCons (wBin opIx (wVar 0) (wC (.int 2))) (wCons (wBin opIx (wVar 1) (wC (.int 2))) wNil))))) (wC (.int 400))))
theorem den__law_small : denB 60 c__law_small (defBody (top 33)) = W__law_small := by kernel_rfl
theorem F__law_small_eq : F__law_small = wFn 2 2 [0, 1] W__law_small := congrArg (wFn 2 2 [0, 1]) den__law_small
theorem ok__law_small {P : Program} {w : World} {K : PySem.W.Frag} {mg : Str → Option Value} {base : Heap} (h : Hd L w K mg base) : FnI P w K mg base 2 ("_law_small", ⟨F__law_small, [false, false]⟩) := by
  obtain ⟨fd, FD⟩ := h.fd 28 (d := dd "_law_small" 33) rfl
  have b := FD.bindsN (ps := ["one", "two"]) fun _ _ _ _ _ _ us hl => match us, hl with | [_, _], _ => rfl
  exact ⟨_, _, fd, ["one", "two"], Nat.le_refl _, fn_ok0 FD (N := ["one", "two"]) ⟨rfl, rfl, rfl, by decide +kernel, rfl, by decide +kernel, by decide +kernel⟩ (c := c__law_small) (n := 60) rfl rfl (h.fok (all_cons (ok__law_lcm h).up all_nil) all_nil all_nil), h.glo (by decide), FD.kp, b⟩
def c_Sizes___or__ : DCtx := mkC L ["self", "other", "start", "period", "n"] (defScope (inClass (top 14) 3)) [0, 1] 7 [("from_flags", ⟨F_from_flags, [true, true, true]⟩), ("common", ⟨F_common, [true, true]⟩)] [] [] true [("__contains__", "Sizes", ⟨F_Sizes___contains__, [true, true]⟩)]
def F_Sizes___or__ : WF := wFn 2 5 [0, 1] (denB 60 c_Sizes___or__ (defBody (inClass (top 14) 3)))
def W_Sizes___or__ : WS := (wSeq (wAsgT (gT [2, 3]) (wCall F_common [true, true] (wCons (wVar 0) (wCons (wVar 1) wNil)))) (wRet [0, 1] (wCall F_from_flags [true, true, true] (wCons (wLcR1 (wCons (wBin (binOf .Add) (wVar 2) (wVar 3)) wNil) (.name 4) wYes (wSh (wOrV (wInM false "Sizes" F_Sizes___contains__ [true, true] (opIn false) (wVar 4) (wVar 0)) (wInM false "Sizes" F_Sizes___contains__ [true, true] (opIn false) (wVar 4) (wVar 1))))) (wCons (wVar 2) (wCons (wVar 3) wNil))))))
theorem den_Sizes___or__ : denB 60 c_Sizes___or__ (defBody (inClass (top 14) 3)) = W_Sizes___or__ := by kernel_rfl
theorem F_Sizes___or___eq : F_Sizes___or__ = wFn 2 5 [0, 1] W_Sizes___or__ := congrArg (wFn 2 5 [0, 1]) den_Sizes___or__
theorem ok_Sizes___or__ {P : Program} {w : World} {K : PySem.W.Frag} {mg : Str → Option Value} {base : Heap} (h : Hd L w K mg base) : MtI P w K mg base 9 ("__or__", "Sizes", ⟨F_Sizes___or__, [true, true]⟩) := by
  obtain ⟨fd, FD⟩ := h.fd 29 (d := dm "Sizes" "__or__" "Sizes.__or__" 14 3) rfl
  have b := FD.bindsN (ps := ["self", "other"]) fun _ _ _ _ _ _ us hl => match us, hl with | [_, _], _ => rfl
  exact ⟨_, _, fd, ["self", "other"], Nat.le_refl _, fn_ok0 FD (N := ["self", "other", "start", "period", "n"]) ⟨rfl, rfl, rfl, by decide +kernel, rfl, by decide +kernel, by decide +kernel⟩ (c := c_Sizes___or__) (n := 60) rfl rfl (h.fok (all_cons (ok_from_flags h).up (all_cons (ok_common h).up all_nil)) all_nil all_nil (all_cons (ok_Sizes___contains__ h).up all_nil)), h.dun (by decide), h.clsI (by decide), b⟩
def c_Sizes___and__ : DCtx := mkC L ["self", "other", "start", "period", "n"] (defScope (inClass (top 14) 4)) [0, 1] 7 [("from_flags", ⟨F_from_flags, [true, true, true]⟩), ("common", ⟨F_common, [true, true]⟩)] [] [] true [("__contains__", "Sizes", ⟨F_Sizes___contains__, [true, true]⟩)]
def F_Sizes___and__ : WF := wFn 2 5 [0, 1] (denB 60 c_Sizes___and__ (defBody (inClass (top 14) 4)))
def W_Sizes___and__ : WS := (wSeq (wAsgT (gT [2, 3]) (wCall F_common [true, true] (wCons (wVar 0) (wCons (wVar 1) wNil)))) (wRet [0, 1] (wCall F_from_flags [true, true, true] (wCons (wLcR1 (wCons (wBin (binOf .Add) (wVar 2) (wVar 3)) wNil) (.name 4) wYes (wSh (wAndV (wInM false "Sizes" F_Sizes___contains__ [true, true] (opIn false) (wVar 4) (wVar 0)) (wInM false "Sizes" F_Sizes___contains__ [true, true] (opIn false) (wVar 4) (wVar 1))))) (wCons (wVar 2) (wCons (wVar 3) wNil))))))
theorem den_Sizes___and__ : denB 60 c_Sizes___and__ (defBody (inClass (top 14) 4)) = W_Sizes___and__ := by kernel_rfl
theorem F_Sizes___and___eq : F_Sizes___and__ = wFn 2 5 [0, 1] W_Sizes___and__ := congrArg (wFn 2 5 [0, 1]) den_Sizes___and__
theorem ok_Sizes___and__ {P : Program} {w : World} {K : PySem.W.Frag} {mg : Str → Option Value} {base : Heap} (h : Hd L w K mg base) : MtI P w K mg base 9 ("__and__", "Sizes", ⟨F_Sizes___and__, [true, true]⟩) := by
  obtain ⟨fd, FD⟩ := h.fd 30 (d := dm "Sizes" "__and__" "Sizes.__and__" 14 4) rfl
  have b := FD.bindsN (ps := ["self", "other"]) fun _ _ _ _ _ _ us hl => match us, hl with | [_, _], _ => rfl
  exact ⟨_, _, fd, ["self", "other"], Nat.le_refl _, fn_ok0 FD (N := ["self", "other", "start", "period", "n"]) ⟨rfl, rfl, rfl, by decide +kernel, rfl, by decide +kernel, by decide +kernel⟩ (c := c_Sizes___and__) (n := 60) rfl rfl (h.fok (all_cons (ok_from_flags h).up (all_cons (ok_common h).up all_nil)) all_nil all_nil (all_cons (ok_Sizes___contains__ h).up all_nil)), h.dun (by decide), h.clsI (by decide), b⟩
def c_Sizes___sub__ : DCtx := mkC L ["self", "other", "start", "period", "n"] (defScope (inClass (top 14) 5)) [0, 1] 7 [("from_flags", ⟨F_from_flags, [true, true, true]⟩), ("common", ⟨F_common, [true, true]⟩)] [] [] true [("__contains__", "Sizes", ⟨F_Sizes___contains__, [true, true]⟩)]
def F_Sizes___sub__ : WF := wFn 2 5 [0, 1] (denB 60 c_Sizes___sub__ (defBody (inClass (top 14) 5)))
def W_Sizes___sub__ : WS := (wSeq (wAsgT (gT [2, 3]) (wCall F_common [true, true] (wCons (wVar 0) (wCons (wVar 1) wNil)))) (wRet [0, 1] (wCall F_from_flags [true, true, true] (wCons (wLcR1 (wCons (wBin (binOf .Add) (wVar 2) (wVar 3)) wNil) (.name 4) wYes (wSh (wAndV (wInM false "Sizes" F_Sizes___contains__ [true, true] (opIn false) (wVar 4) (wVar 0)) (wInM true "Sizes" F_Sizes___contains__ [true, true] (opIn true) (wVar 4) (wVar 1))))) (wCons (wVar 2) (wCons (wVar 3) wNil))))))
theorem den_Sizes___sub__ : denB 60 c_Sizes___sub__ (defBody (inClass (top 14) 5)) = W_Sizes___sub__ := by kernel_rfl
theorem F_Sizes___sub___eq : F_Sizes___sub__ = wFn 2 5 [0, 1] W_Sizes___sub__ := congrArg (wFn 2 5 [0, 1]) den_Sizes___sub__
theorem ok_Sizes___sub__ {P : Program} {w : World} {K : PySem.W.Frag} {mg : Str → Option Value} {base : Heap} (h : Hd L w K mg base) : MtI P w K mg base 9 ("__sub__", "Sizes", ⟨F_Sizes___sub__, [true, true]⟩) := by
  obtain ⟨fd, FD⟩ := h.fd 31 (d := dm "Sizes" "__sub__" "Sizes.__sub__" 14 5) rfl
  have b := FD.bindsN (ps := ["self", "other"]) fun _ _ _ _ _ _ us hl => match us, hl with | [_, _], _ => rfl
  exact ⟨_, _, fd, ["self", "other"], Nat.le_refl _, fn_ok0 FD (N := ["self", "other", "start", "period", "n"]) ⟨rfl, rfl, rfl, by decide +kernel, rfl, by decide +kernel, by decide +kernel⟩ (c := c_Sizes___sub__) (n := 60) rfl rfl (h.fok (all_cons (ok_from_flags h).up (all_cons (ok_common h).up all_nil)) all_nil all_nil (all_cons (ok_Sizes___contains__ h).up all_nil)), h.dun (by decide), h.clsI (by decide), b⟩
def c_Sizes___invert__ : DCtx := mkC L ["self", "flags", "n"] (defScope (inClass (top 14) 6)) [0] 7 [("from_flags", ⟨F_from_flags, [true, true, true]⟩)] [] [] true [("__contains__", "Sizes", ⟨F_Sizes___contains__, [true, true]⟩)]
def F_Sizes___invert__ : WF := wFn 1 3 [0] (denB 60 c_Sizes___invert__ (defBody (inClass (top 14) 6)))
def W_Sizes___invert__ : WS := (wSeq (wAsg 1 (wLcR1 (wCons (wBin (binOf .Add) (wUn (opFld L.cts "start") (wVar 0)) (wUn (opFld L.cts "period") (wVar 0))) wNil) (.name 2) wYes (wSh (wInM true "Sizes" F_Sizes___contains__ [true, true] (opIn true) (wVar 2) (wVar 0))))) (wRet [0] (wCall F_from_flags [true, true, true] (wCons (wVar 1) (wCons (wUn (opFld L.cts "start") (wVar 0)) (wCons (wUn (opFld L.cts "period") (wVar 0)) wNil))))))
theorem den_Sizes___invert__ : denB 60 c_Sizes___invert__ (defBody (inClass (top 14) 6)) = W_Sizes___invert__ := by kernel_rfl
theorem F_Sizes___invert___eq : F_Sizes___invert__ = wFn 1 3 [0] W_Sizes___invert__ := congrArg (wFn 1 3 [0]) den_Sizes___invert__
theorem ok_Sizes___invert__ {P : Program} {w : World} {K : PySem.W.Frag} {mg : Str → Option Value} {base : Heap} (h : Hd L w K mg base) : MtI P w K mg base 9 ("__invert__", "Sizes", ⟨F_Sizes___invert__, [true]⟩) := by
  obtain ⟨fd, FD⟩ := h.fd 32 (d := dm "Sizes" "__invert__" "Sizes.__invert__" 14 6) rfl
  have b := FD.bindsN (ps := ["self"]) fun _ _ _ _ _ _ us hl => match us, hl with | [_], _ => rfl
  exact ⟨_, _, fd, ["self"], Nat.le_refl _, fn_ok0 FD (N := ["self", "flags", "n"]) ⟨rfl, rfl, rfl, by decide +kernel, rfl, by decide +kernel, by decide +kernel⟩ (c := c_Sizes___invert__) (n := 60) rfl rfl (h.fok (all_cons (ok_from_flags h).up all_nil) all_nil all_nil (all_cons (ok_Sizes___contains__ h).up all_nil)), h.dun (by decide), h.clsI (by decide), b⟩
def c__law_do : DCtx := mkC L ["deed", "one", "two"] (defScope (top 36)) [0, 1, 2] 9 [] [] [] true [("__add__", "Sizes", ⟨F_Sizes___add__, [true, true]⟩), ("__or__", "Sizes", ⟨F_Sizes___or__, [true, true]⟩), ("__and__", "Sizes", ⟨F_Sizes___and__, [true, true]⟩), ("__sub__", "Sizes", ⟨F_Sizes___sub__, [true, true]⟩), ("__invert__", "Sizes", ⟨F_Sizes___invert__, [true]⟩)]
def F__law_do : WF := wFn 3 3 [0, 1, 2] (denB 60 c__law_do (defBody (top 36)))
def W__law_do : WS := (wSeq (wIf (wTest (wBin (cmpOf .Eq) (wVar 0) (wC (.int 0)))) (wRet [0, 1, 2] (wBinM "Sizes" F_Sizes___or__ [true, true] (binOf .BitOr) (wVar 1) (wVar 2))) wNext) (wSeq (wIf (wTest (wBin (cmpOf .Eq) (wVar 0) (wC (.int 1)))) (wRet [0, 1, 2] (wBinM "Sizes" F_Sizes___and__ [true, true] (binOf .BitAnd) (wVar 1) (wVar 2))) wNext) (wSeq (wIf (wTest (wBin (cmpOf .Eq) (wVar 0) (wC (.int 2)))) (wRet [0, 1, 2] (wBinM "Sizes" F_Sizes___sub__ [true, true] (binOf .Sub) (wVar 1) (wVar 2))) wNext) (wSeq (wIf (wTest (wBin (cmpOf .Eq) (wVar 0) (wC (.int 3)))) (wRet [0, 1, 2] (wUnM "Sizes" F_Sizes___invert__ [true] (wVar 1))) wNext) (wRet [0, 1, 2] (wBinM "Sizes" F_Sizes___add__ [true, true] (binOf .Add) (wVar 1) (wVar 2)))))))
theorem den__law_do : denB 60 c__law_do (defBody (top 36)) = W__law_do := by kernel_rfl
theorem F__law_do_eq : F__law_do = wFn 3 3 [0, 1, 2] W__law_do := congrArg (wFn 3 3 [0, 1, 2]) den__law_do
theorem ok__law_do {P : Program} {w : World} {K : PySem.W.Frag} {mg : Str → Option Value} {base : Heap} (h : Hd L w K mg base) : FnI P w K mg base 10 ("_law_do", ⟨F__law_do, [true, true, true]⟩) := by
  obtain ⟨fd, FD⟩ := h.fd 33 (d := dd "_law_do" 36) rfl
  have b := FD.bindsN (ps := ["deed", "one", "two"]) fun _ _ _ _ _ _ us hl => match us, hl with | [_, _, _], _ => rfl
  exact ⟨_, _, fd, ["deed", "one", "two"], Nat.le_refl _, fn_ok0 FD (N := ["deed", "one", "two"]) ⟨rfl, rfl, rfl, by decide +kernel, rfl, by decide +kernel, by decide +kernel⟩ (c := c__law_do) (n := 60) rfl rfl (h.fok all_nil all_nil all_nil (all_cons (ok_Sizes___add__ h).up (all_cons (ok_Sizes___or__ h).up (all_cons (ok_Sizes___and__ h).up (all_cons (ok_Sizes___sub__ h).up (all_cons (ok_Sizes___invert__ h).up all_nil)))))), h.glo (by decide), FD.kp, b⟩
def c__law_joined : DCtx := mkC L ["deed", "one", "two", "start", "period", "left", "right", "n", "bit"] (defScope (top 31)) [0, 1, 2] 1 [("_law_least_form", ⟨F__law_least_form, [true, true, true]⟩), ("_law_lcm", ⟨F__law_lcm, [true, true]⟩), ("_law_bits", ⟨F__law_bits, [true, true]⟩)] [] [] true
def F__law_joined : WF := wFn 3 9 [0, 1, 2] (denB 60 c__law_joined (defBody (top 31)))
def W__law_joined : WS := (wSeq (wAsg 3 (wCB opMax (wCons (wBin opIx (wVar 1) (wC (.int 1))) (wCons (wBin opIx (wVar 2) (wC (.int 1))) wNil)))) (wSeq (wAsg 4 (wCall F__law_lcm [true, true] (wCons (wBin opIx (wVar 1) (wC (.int 2))) (wCons (wBin opIx (wVar 2) (wC (.int 2))) wNil)))) (wSeq (wAsg 5 (wCall F__law_bits [true, true] (wCons (wVar 1) (wCons (wBin (binOf .Add) (wVar 3) (wVar 4)) wNil)))) (wSeq (wAsg 6 (wCall F__law_bits [true, true] (wCons (wVar 2) (wCons (wBin (binOf .Add) (wVar 3) (wVar 4)) wNil)))) (wSeq (wIf (wTest (wBin (cmpOf .Eq) (wVar 0) (wC (.int 0)))) (wAsg 5 (wLcR1 (wCons (wCB opLen (wCons (wVar 5) wNil)) wNil) (.name 7) wYes (wSh (wOrV (wBin opIx (wVar 5) (wVar 7)) (wBin opIx (wVar 6) (wVar 7)))))) (wIf (wTest (wBin (cmpOf .Eq) (wVar 0) (wC (.int 1)))) (wAsg 5 (wLcR1 (wCons (wCB opLen (wCons (wVar 5) wNil)) wNil) (.name 7) wYes (wSh (wAndV (wBin opIx (wVar 5) (wVar 7)) (wBin opIx (wVar 6) (wVar 7)))))) (wIf (wTest (wBin (cmpOf .Eq) (wVar 0) (wC (.int 2)))) (wAsg 5 (wLcR1 (wCons (wCB opLen (wCons (wVar 5) wNil)) wNil) (.name 7) wYes (wSh (wAndV (wBin opIx (wVar 5) (wVar 7)) (wNotV (wBin opIx (wVar 6) (wVar 7))))))) (wAsg 5 (wLc (wVar 5) (.name 8) wYes (wSh (wNotV (wVar 8)))))))) (wRet [0, 1, 2] (wCall F__law_least_form [true, true, true] (wCons (wVar 5) (wCons (wVar 3) (wCons (wVar 4) wNil))))))))))
theorem den__law_joined : denB 60 c__law_joined (defBody (top 31)) = W__law_joined := by kernel_rfl
theorem F__law_joined_eq : F__law_joined = wFn 3 9 [0, 1, 2] W__law_joined := congrArg (wFn 3 9 [0, 1, 2]) den__law_joined
theorem ok__law_joined {P : Program} {w : World} {K : PySem.W.Frag} {mg : Str → Option Value} {base : Heap} (h : Hd L w K mg base) : FnI P w K mg base 2 ("_law_joined", ⟨F__law_joined, [false, false, false]⟩) := by
  obtain ⟨fd, FD⟩ := h.fd 34 (d := dd "_law_joined" 31) rfl
  have b := FD.bindsN (ps := ["deed", "one", "two"]) fun _ _ _ _ _ _ us hl => match us, hl with | [_, _, _], _ => rfl
  exact ⟨_, _, fd, ["deed", "one", "two"], Nat.le_refl _, fn_ok0 FD (N := ["deed", "one", "two", "start", "period", "left", "right", "n", "bit"]) ⟨rfl, rfl, rfl, by decide +kernel, rfl, by decide +kernel, by decide +kernel⟩ (c := c__law_joined) (n := 60) rfl rfl (h.fok (all_cons (ok__law_least_form h).up (all_cons (ok__law_lcm h).up (all_cons (ok__law_bits h).up all_nil))) all_nil all_nil), h.glo (by decide), FD.kp, b⟩
def c__law_due : DCtx := mkC L ["deed", "one", "two"] (defScope (top 37)) [0, 1, 2] 2 [("_law_joined", ⟨F__law_joined, [false, false, false]⟩), ("_law_summed", ⟨F__law_summed, [false, false]⟩)] [] [] true
def F__law_due : WF := wFn 3 3 [0, 1, 2] (denB 60 c__law_due (defBody (top 37)))
def W__law_due : WS := (wSeq (wIf (wTest (wBin (cmpOf .Eq) (wVar 0) (wC (.int 4)))) (wRet [0, 1, 2] (wCall F__law_summed [false, false] (wCons (wVar 1) (wCons (wVar 2) wNil)))) wNext) (wRet [0, 1, 2] (wCall F__law_joined [false, false, false] (wCons (wVar 0) (wCons (wVar 1) (wCons (wVar 2) wNil))))))
theorem den__law_due : denB 60 c__law_due (defBody (top 37)) = W__law_due := by kernel_rfl
theorem F__law_due_eq : F__law_due = wFn 3 3 [0, 1, 2] W__law_due := congrArg (wFn 3 3 [0, 1, 2]) den__law_due
theorem ok__law_due {P : Program} {w : World} {K : PySem.W.Frag} {mg : Str → Option Value} {base : Heap} (h : Hd L w K mg base) : FnI P w K mg base 3 ("_law_due", ⟨F__law_due, [false, false, false]⟩) := by
  obtain ⟨fd, FD⟩ := h.fd 35 (d := dd "_law_due" 37) rfl
  have b := FD.bindsN (ps := ["deed", "one", "two"]) fun _ _ _ _ _ _ us hl => match us, hl with | [_, _, _], _ => rfl
  exact ⟨_, _, fd, ["deed", "one", "two"], Nat.le_refl _, fn_ok0 FD (N := ["deed", "one", "two"]) ⟨rfl, rfl, rfl, by decide +kernel, rfl, by decide +kernel, by decide +kernel⟩ (c := c__law_due) (n := 60) rfl rfl (h.fok (all_cons (ok__law_joined h).up (all_cons (ok__law_summed h).up all_nil)) all_nil all_nil), h.glo (by decide), FD.kp, b⟩
def c__law_run : DCtx := mkC L ["row", "pool", "dues", "turns", "k", "deed", "first", "second", "made", "due"] (defScope (top 38)) [0, 1, 2, 3] 10 [("_law_small", ⟨F__law_small, [false, false]⟩), ("_law_do", ⟨F__law_do, [true, true, true]⟩), ("_law_due", ⟨F__law_due, [false, false, false]⟩), ("_law_told", ⟨F__law_told, [true]⟩)] [] [] true
def F__law_run : WF := wFn 4 10 [0, 1, 2, 3] (denB 60 c__law_run (defBody (top 38)))
def W__law_run : WS := (wMark (wSeq (wRng1 (wCons (wVar 3) wNil) 4 (wSeq (wAsg 5 (wBin opIx (wCB opLst (wCons (wSh (wC (.int 4))) (wCons (wSh (wC (.int 4))) (wCons (wSh (wC (.int 4))) (wCons (wSh (wC (.int 4))) (wCons (wSh (wC (.int 0))) (wCons (wSh (wC (.int 1))) (wCons (wSh (wC (.int 2))) (wCons (wSh (wC (.int 3))) wNil))))))))) (wCB opInt (wCons (wBin opIx (wVar 0) (wBin (binOf .Mult) (wC (.int 4)) (wVar 4))) wNil)))) (wSeq (wAsg 6 (wBin (binOf .Mod) (wCB opInt (wCons (wBin opIx (wVar 0) (wBin (binOf .Add) (wBin (binOf .Mult) (wC (.int 4)) (wVar 4)) (wC (.int 1)))) wNil)) (wCB opLen (wCons (wVar 1) wNil)))) (wMark (wSeq (wIf (wTest (wBin (cmpOf .Eq) (wBin opIx (wVar 0) (wBin (binOf .Add) (wBin (binOf .Mult) (wC (.int 4)) (wVar 4)) (wC (.int 3)))) (wC (.int 1)))) (wAsg 6 (wBin (binOf .Sub) (wCB opLen (wCons (wVar 1) wNil)) (wC (.int 1)))) wNext) (wSeq (wAsg 7 (wVar 6)) (wMark (wSeq (wIf (wTest (wBin (cmpOf .GtE) (wBin opIx (wVar 0) (wBin (binOf .Add) (wBin (binOf .Mult) (wC (.int 4)) (wVar 4)) (wC (.int 2)))) (wC (.int 6)))) (wAsg 7 (wBin (binOf .Mod) (wCB opInt (wCons (wBin (binOf .Add) (wBin (binOf .Add) (wVar 6) (wC (.int 1))) (wBin (binOf .Mod) (wCB opInt (wCons (wBin opIx (wVar 0) (wBin (binOf .Add) (wBin (binOf .Mult) (wC (.int 4)) (wVar 4)) (wC (.int 2)))) wNil)) (wBin (binOf .Sub) (wCB opLen (wCons (wVar 1) wNil)) (wC (.int 1))))) wNil)) (wCB opLen (wCons (wVar 1) wNil)))) wNext) (wMark (wSeq (wIf (wAndT (wTest (wBin (cmpOf .Eq) (wVar 5) (wC (.int 4)))) (wNotT (wTru (wCall F__law_small [false, false] (wCons (wBin opIx (wVar 2) (wVar 6)) (wCons (wBin opIx (wVar 2) (wVar 7)) wNil)))))) (wAsg 5 (wC (.int 0))) wNext) (wSeq (wAsg 8 (wCall F__law_do [true, true, true] (wCons (wVar 5) (wCons (wBin opIx (wVar 1) (wVar 6)) (wCons (wBin opIx (wVar 1) (wVar 7)) wNil))))) (wSeq (wAsg 9 (wCall F__law_due [false, false, false] (wCons (wVar 5) (wCons (wBin opIx (wVar 2) (wVar 6)) (wCons (wBin opIx (wVar 2) (wVar 7)) wNil))))) (wMark (wSeq (wIf (wTest (wBin (cmpOf .NotEq) (wCall F__law_told [true] (wCons (wVar 8) wNil)) (wVar 9))) (wRet [0, 1, 2, 3] (wC (.bl false))) wNext) (wSeq (wExpr (wApp 1 (wSh (wVar 8)))) (wExpr (wApp 2 (wSh (wVar 9))))))))))))))))))) (wRet [0, 1, 2, 3] (wC (.bl true)))))
theorem den__law_run : denB 60 c__law_run (defBody (top 38)) = W__law_run := by kernel_rfl
theorem F__law_run_eq : F__law_run = wFn 4 10 [0, 1, 2, 3] W__law_run := congrArg (wFn 4 10 [0, 1, 2, 3]) den__law_run
theorem ok__law_run {P : Program} {w : World} {K : PySem.W.Frag} {mg : Str → Option Value} {base : Heap} (h : Hd L w K mg base) : FnI P w K mg base 11 ("_law_run", ⟨F__law_run, [true, true, true, true]⟩) := by
  obtain ⟨fd, FD⟩ := h.fd 36 (d := dd "_law_run" 38) rfl
  have b := FD.bindsN (ps := ["row", "pool", "dues", "turns"]) fun _ _ _ _ _ _ us hl => match us, hl with | [_, _, _, _], _ => rfl
  exact ⟨_, _, fd, ["row", "pool", "dues", "turns"], Nat.le_refl _, fn_ok0 FD (N := ["row", "pool", "dues", "turns", "k", "deed", "first", "second", "made", "due"]) ⟨rfl, rfl, rfl, by decide +kernel, rfl, by decide +kernel, by decide +kernel⟩ (c := c__law_run) (n := 60) rfl rfl (h.fok (all_cons (ok__law_small h).up (all_cons (ok__law_do h).up (all_cons (ok__law_due h).up (all_cons (ok__law_told h).up all_nil)))) all_nil all_nil), h.glo (by decide), FD.kp, b⟩
def c_Sizes___eq__ : DCtx := mkC L ["self", "other"] (defScope (inClass (top 14) 1)) [0, 1] 0 [] [] [] true
def F_Sizes___eq__ : WF := wFn 2 2 [0, 1] (denB 60 c_Sizes___eq__ (defBody (inClass (top 14) 1)))
def W_Sizes___eq__ : WS := (wRet [0, 1] (wAndV (wCB (opIsiC L.isc) (wCons (wVar 1) (wCons (wC (.cls "Sizes")) wNil))) (wAndV (wBin (cmpOf .Eq) (wUn (opFld L.cts "start") (wVar 0)) (wUn (opFld L.cts "start") (wVar 1))) (wAndV (wBin (cmpOf .Eq) (wUn (opFld L.cts "period") (wVar 0)) (wUn (opFld L.cts "period") (wVar 1))) (wAndV (wBin (cmpOf .Eq) (wUn (opFld L.cts "early") (wVar 0)) (wUn (opFld L.cts "early") (wVar 1))) (wBin (cmpOf .Eq) (wUn (opFld L.cts "rests") (wVar 0)) (wUn (opFld L.cts "rests") (wVar 1))))))))
theorem den_Sizes___eq__ : denB 60 c_Sizes___eq__ (defBody (inClass (top 14) 1)) = W_Sizes___eq__ := by kernel_rfl
theorem F_Sizes___eq___eq : F_Sizes___eq__ = wFn 2 2 [0, 1] W_Sizes___eq__ := congrArg (wFn 2 2 [0, 1]) den_Sizes___eq__
theorem ok_Sizes___eq__ {P : Program} {w : World} {K : PySem.W.Frag} {mg : Str → Option Value} {base : Heap} (h : Hd L w K mg base) : MtI P w K mg base 2 ("__eq__", "Sizes", ⟨F_Sizes___eq__, [true, true]⟩) := by
  obtain ⟨fd, FD⟩ := h.fd 37 (d := dm "Sizes" "__eq__" "Sizes.__eq__" 14 1) rfl
  have b := FD.bindsN (ps := ["self", "other"]) fun _ _ _ _ _ _ us hl => match us, hl with | [_, _], _ => rfl
  exact ⟨_, _, fd, ["self", "other"], Nat.le_refl _, fn_ok0 FD (N := ["self", "other"]) ⟨rfl, rfl, rfl, by decide +kernel, rfl, by decide +kernel, by decide +kernel⟩ (c := c_Sizes___eq__) (n := 60) rfl rfl (h.fok all_nil all_nil all_nil), h.dun (by decide), h.clsI (by decide), b⟩
def c__law_equal : DCtx := mkC L ["one", "two", "due", "told", "value"] (defScope (top 28)) [0, 1, 2] 2 [] [] [] true [("__eq__", "Sizes", ⟨F_Sizes___eq__, [true, true]⟩)]
def F__law_equal : WF := wFn 3 5 [0, 1, 2] (denB 60 c__law_equal (defBody (top 28)))
def W__law_equal : WS := (wSeq (wAsg 3 (wCB opLst (wCons (wSh (wBinM "Sizes" F_Sizes___eq__ [true, true] opEq (wVar 0) (wVar 1))) (wCons (wSh (wBinM "Sizes" F_Sizes___eq__ [true, true] opEq (wVar 1) (wVar 0))) (wCons (wSh (wNeM "Sizes" F_Sizes___eq__ [true, true] opNe (wVar 0) (wVar 1))) (wCons (wSh (wNeM "Sizes" F_Sizes___eq__ [true, true] opNe (wVar 1) (wVar 0))) wNil)))))) (wSeq (wFor (wVar 3) (gN 4) (wIf (wAndT (wTest (wBin (cmpOf .IsNot) (wVar 4) (wC (.bl true)))) (wTest (wBin (cmpOf .IsNot) (wVar 4) (wC (.bl false))))) (wRet [0, 1, 2] (wC (.bl false))) wNext)) (wRet [0, 1, 2] (wBinM "Sizes" F_Sizes___eq__ [true, true] opEq (wVar 3) (wCB opLst (wCons (wSh (wVar 2)) (wCons (wSh (wVar 2)) (wCons (wSh (wNotV (wVar 2))) (wCons (wSh (wNotV (wVar 2))) wNil)))))))))
theorem den__law_equal : denB 60 c__law_equal (defBody (top 28)) = W__law_equal := by kernel_rfl
theorem F__law_equal_eq : F__law_equal = wFn 3 5 [0, 1, 2] W__law_equal := congrArg (wFn 3 5 [0, 1, 2]) den__law_equal
theorem ok__law_equal {P : Program} {w : World} {K : PySem.W.Frag} {mg : Str → Option Value} {base : Heap} (h : Hd L w K mg base) : FnI P w K mg base 3 ("_law_equal", ⟨F__law_equal, [true, true, true]⟩) := by
  obtain ⟨fd, FD⟩ := h.fd 38 (d := dd "_law_equal" 28) rfl
  have b := FD.bindsN (ps := ["one", "two", "due"]) fun _ _ _ _ _ _ us hl => match us, hl with | [_, _, _], _ => rfl
  exact ⟨_, _, fd, ["one", "two", "due"], Nat.le_refl _, fn_ok0 FD (N := ["one", "two", "due", "told", "value"]) ⟨rfl, rfl, rfl, by decide +kernel, rfl, by decide +kernel, by decide +kernel⟩ (c := c__law_equal) (n := 60) rfl rfl (h.fok all_nil all_nil all_nil (all_cons (ok_Sizes___eq__ h).up all_nil)), h.glo (by decide), FD.kp, b⟩
def c__law_rules : DCtx := mkC L ["pool", "dues", "first_sum", "one", "two", "three", "k", "left", "right"] (defScope (top 39)) [0, 1, 2] 9 [("_law_equal", ⟨F__law_equal, [true, true, true]⟩), ("_law_told", ⟨F__law_told, [true]⟩), ("_law_small", ⟨F__law_small, [false, false]⟩), ("_law_summed", ⟨F__law_summed, [false, false]⟩)] [] [("Sizes", ⟨F_Sizes_init, [false, true, true, false]⟩)] true [("__add__", "Sizes", ⟨F_Sizes___add__, [true, true]⟩), ("__or__", "Sizes", ⟨F_Sizes___or__, [true, true]⟩)]
def F__law_rules : WF := wFn 3 9 [0, 1, 2] (denB 60 c__law_rules (defBody (top 39)))
def W__law_rules : WS := (wSeq (wAsg 3 (wBin opIx (wVar 0) (wC (.int 0)))) (wSeq (wAsg 4 (wBin opIx (wVar 0) (wC (.int 1)))) (wSeq (wAsg 5 (wBin opIx (wVar 0) (wC (.int 2)))) (wMark (wSeq (wIf (wNotT (wTru (wCall F__law_equal [true, true, true] (wCons (wVar 2) (wCons (wBinM "Sizes" F_Sizes___add__ [true, true] (binOf .Add) (wVar 4) (wVar 3)) (wCons (wC (.bl true)) wNil)))))) (wRet [0, 1, 2] (wC (.bl false))) wNext) (wMark (wSeq (wRng1 (wCons (wC (.int 3)) wNil) 6 (wIf (wOrT (wNotT (wTru (wCall F__law_equal [true, true, true] (wCons (wBinM "Sizes" F_Sizes___add__ [true, true] (binOf .Add) (wBin opIx (wVar 0) (wVar 6)) (wMake "Sizes" F_Sizes_init [false, true, true, false] (wCons (wCB opLst (wCons (wSh (wC (.int 0))) wNil)) (wCons (wC (.int 1)) (wCons (wC (.int 1)) (wCons (wCB opLst wNil) wNil)))))) (wCons (wBin opIx (wVar 0) (wVar 6)) (wCons (wC (.bl true)) wNil)))))) (wTest (wBin (cmpOf .NotEq) (wCall F__law_told [true] (wCons (wBinM "Sizes" F_Sizes___add__ [true, true] (binOf .Add) (wMake "Sizes" F_Sizes_init [false, true, true, false] (wCons (wCB opLst wNil) (wCons (wC (.int 0)) (wCons (wC (.int 1)) (wCons (wCB opLst wNil) wNil))))) (wBin opIx (wVar 0) (wVar 6))) wNil)) (wCB opLst (wCons (wSh (wCB opLst wNil)) (wCons (wSh (wC (.int 0))) (wCons (wSh (wC (.int 1))) (wCons (wSh (wCB opLst wNil)) wNil)))))))) (wRet [0, 1, 2] (wC (.bl false))) wNext)) (wMark (wSeq (wIf (wOrT (wNotT (wTru (wCall F__law_small [false, false] (wCons (wBin opIx (wVar 1) (wC (.int 0))) (wCons (wBin opIx (wVar 1) (wC (.int 1))) wNil))))) (wOrT (wNotT (wTru (wCall F__law_small [false, false] (wCons (wBin opIx (wVar 1) (wC (.int 0))) (wCons (wBin opIx (wVar 1) (wC (.int 2))) wNil))))) (wNotT (wTru (wCall F__law_small [false, false] (wCons (wBin opIx (wVar 1) (wC (.int 1))) (wCons (wBin opIx (wVar 1) (wC (.int 2))) wNil))))))) (wRet [0, 1, 2] (wC (.bl true))) wNext) (wMark (wSeq (wIf (wNotT (wTru (wCall F__law_equal [true, true, true] (wCons (wBinM "Sizes" F_Sizes___add__ [true, true] (binOf .Add) (wVar 3) (wBinM "Sizes" F_Sizes___or__ [true, true] (binOf .BitOr) (wVar 4) (wVar 5))) (wCons (wBinM "Sizes" F_Sizes___or__ [true, true] (binOf .BitOr) (wBinM "Sizes" F_Sizes___add__ [true, true] (binOf .Add) (wVar 3) (wVar 4)) (wBinM "Sizes" F_Sizes___add__ [true, true] (binOf .Add) (wVar 3) (wVar 5))) (wCons (wC (.bl true)) wNil)))))) (wRet [0, 1, 2] (wC (.bl false))) wNext) (wSeq (wAsg 7 (wCall F__law_summed [false, false] (wCons (wBin opIx (wVar 1) (wC (.int 0))) (wCons (wBin opIx (wVar 1) (wC (.int 1))) wNil)))) (wSeq (wAsg 8 (wCall F__law_summed [false, false] (wCons (wBin opIx (wVar 1) (wC (.int 1))) (wCons (wBin opIx (wVar 1) (wC (.int 2))) wNil)))) (wMark (wSeq (wIf (wAndT (wTru (wCall F__law_small [false, false] (wCons (wVar 7) (wCons (wBin opIx (wVar 1) (wC (.int 2))) wNil)))) (wTru (wCall F__law_small [false, false] (wCons (wBin opIx (wVar 1) (wC (.int 0))) (wCons (wVar 8) wNil))))) (wRet [0, 1, 2] (wCall F__law_equal [true, true, true] (wCons (wBinM "Sizes" F_Sizes___add__ [true, true] (binOf .Add) (wBinM "Sizes" F_Sizes___add__ [true, true] (binOf .Add) (wVar 3) (wVar 4)) (wVar 5)) (wCons (wBinM "Sizes" F_Sizes___add__ [true, true] (binOf .Add) (wVar 3) (wBinM "Sizes" F_Sizes___add__ [true, true] (binOf .Add) (wVar 4) (wVar 5))) (wCons (wC (.bl true)) wNil))))) wNext) (wRet [0, 1, 2] (wC (.bl true))))))))))))))))))
theorem den__law_rules : denB 60 c__law_rules (defBody (top 39)) = W__law_rules := by kernel_rfl
theorem F__law_rules_eq : F__law_rules = wFn 3 9 [0, 1, 2] W__law_rules := congrArg (wFn 3 9 [0, 1, 2]) den__law_rules
theorem ok__law_rules {P : Program} {w : World} {K : PySem.W.Frag} {mg : Str → Option Value} {base : Heap} (h : Hd L w K mg base) : FnI P w K mg base 10 ("_law_rules", ⟨F__law_rules, [true, true, true]⟩) := by
  obtain ⟨fd, FD⟩ := h.fd 39 (d := dd "_law_rules" 39) rfl
  have b := FD.bindsN (ps := ["pool", "dues", "first_sum"]) fun _ _ _ _ _ _ us hl => match us, hl with | [_, _, _], _ => rfl
  exact ⟨_, _, fd, ["pool", "dues", "first_sum"], Nat.le_refl _, fn_ok0 FD (N := ["pool", "dues", "first_sum", "one", "two", "three", "k", "left", "right"]) ⟨rfl, rfl, rfl, by decide +kernel, rfl, by decide +kernel, by decide +kernel⟩ (c := c__law_rules) (n := 60) rfl rfl (h.fok (all_cons (ok__law_equal h).up (all_cons (ok__law_told h).up (all_cons (ok__law_small h).up (all_cons (ok__law_summed h).up all_nil)))) all_nil (all_cons (ok_Sizes_init h).up all_nil) (all_cons (ok_Sizes___add__ h).up (all_cons (ok_Sizes___or__ h).up all_nil))), h.glo (by decide), FD.kp, b⟩
def c_law : DCtx := mkC L ["script", "shape", "kind", "periods", "starts", "pool", "dues", "k", "parts", "first_sum", "due"] (defScope (top 41)) [0] 11 [("_law_told", ⟨F__law_told, [true]⟩), ("_law_cell", ⟨F__law_cell, [true, true]⟩), ("_law_digits", ⟨F__law_digits, [true, true]⟩), ("_law_periods", ⟨F__law_periods, [true, true]⟩), ("_law_starts", ⟨F__law_starts, [true, true]⟩), ("_law_few", ⟨F__law_few, [true, true, true, true, true]⟩), ("_law_set", ⟨F__law_set, [true, true, true, true]⟩), ("_law_fields", ⟨F__law_fields, [true]⟩), ("_law_summed", ⟨F__law_summed, [false, false]⟩), ("_law_inside", ⟨F__law_inside, [true, true]⟩), ("_law_run", ⟨F__law_run, [true, true, true, true]⟩), ("_law_rules", ⟨F__law_rules, [true, true, true]⟩)] [] [("Sizes", ⟨F_Sizes_init, [false, true, true, false]⟩)] true [("__add__", "Sizes", ⟨F_Sizes___add__, [true, true]⟩)]
def F_law : WF := wFn 1 11 [0] (denB 60 c_law (defBody (top 41)))
def W_law : WS := (wSeq (wAsg 1 (wCall F__law_digits [true, true] (wCons (wCall F__law_cell [true, true] (wCons (wVar 0) (wCons (wC (.int 0)) wNil))) (wCons (wCB opLst (wCons (wSh (wC (.int 12))) (wCons (wSh (wC (.int 6))) (wCons (wSh (wC (.int 8))) (wCons (wSh (wC (.int 8))) (wCons (wSh (wC (.int 8))) wNil)))))) wNil)))) (wSeq (wAsg 2 (wBin opIx (wVar 1) (wC (.int 0)))) (wSeq (wAsg 3 (wCall F__law_periods [true, true] (wCons (wCall F__law_cell [true, true] (wCons (wVar 0) (wCons (wC (.int 1)) wNil))) (wCons (wVar 2) wNil)))) (wSeq (wAsg 4 (wCall F__law_starts [true, true] (wCons (wCall F__law_cell [true, true] (wCons (wVar 0) (wCons (wC (.int 2)) wNil))) (wCons (wVar 2) wNil)))) (wSeq (wAsg 5 (wCB opLst wNil)) (wSeq (wAsg 6 (wCB opLst wNil)) (wMark (wSeq (wRng1 (wCons (wC (.int 3)) wNil) 7 (wSeq (wAsg 8 (wCall F__law_few [true, true, true, true, true] (wCons (wVar 0) (wCons (wBinM "Sizes" F_Sizes___add__ [true, true] (binOf .Add) (wC (.int 3)) (wBin (binOf .Mult) (wC (.int 3)) (wVar 7))) (wCons (wBin opIx (wVar 4) (wVar 7)) (wCons (wBin opIx (wVar 3) (wVar 7)) (wCons (wBin (cmpOf .Gt) (wVar 2) (wC (.int 0))) wNil))))))) (wMark (wSeq (wIf (wAndT (wTest (wBin (cmpOf .Gt) (wVar 2) (wC (.int 0)))) (wAndT (wTest (wBin (cmpOf .NotEq) (wVar 2) (wC (.int 3)))) (wTest (wBin (cmpOf .Lt) (wBin opIx (wVar 1) (wBinM "Sizes" F_Sizes___add__ [true, true] (binOf .Add) (wC (.int 2)) (wVar 7))) (wC (.int 3)))))) (wAsg 8 (wCall F__law_set [true, true, true, true] (wCons (wVar 0) (wCons (wBinM "Sizes" F_Sizes___add__ [true, true] (binOf .Add) (wC (.int 3)) (wBin (binOf .Mult) (wC (.int 3)) (wVar 7))) (wCons (wBin opIx (wVar 4) (wVar 7)) (wCons (wBin opIx (wVar 3) (wVar 7)) wNil)))))) wNext) (wSeq (wExpr (wApp 6 (wSh (wCall F__law_fields [true] (wCons (wVar 8) wNil))))) (wExpr (wApp 5 (wSh (wMake "Sizes" F_Sizes_init [false, true, true, false] (wCons (wBin opIx (wVar 8) (wC (.int 0))) (wCons (wBin opIx (wVar 8) (wC (.int 1))) (wCons (wBin opIx (wVar 8) (wC (.int 2))) (wCons (wBin opIx (wVar 8) (wC (.int 3))) wNil))))))))))))) (wSeq (wAsg 9 (wBinM "Sizes" F_Sizes___add__ [true, true] (binOf .Add) (wBin opIx (wVar 5) (wC (.int 0))) (wBin opIx (wVar 5) (wC (.int 1))))) (wSeq (wAsg 10 (wCall F__law_summed [false, false] (wCons (wBin opIx (wVar 6) (wC (.int 0))) (wCons (wBin opIx (wVar 6) (wC (.int 1))) wNil)))) (wMark (wSeq (wIf (wOrT (wTest (wBin (cmpOf .NotEq) (wCall F__law_told [true] (wCons (wVar 9) wNil)) (wVar 10))) (wNotT (wTru (wCall F__law_inside [true, true] (wCons (wVar 9) (wCons (wVar 10) wNil)))))) (wRet [0] (wC (.bl false))) wNext) (wMark (wSeq (wIf (wTest (wBin (cmpOf .LtE) (wBin opIx (wVar 10) (wC (.int 1))) (wC (.int 400)))) (wSeq (wExpr (wApp 5 (wSh (wVar 9)))) (wExpr (wApp 6 (wSh (wVar 10))))) wNext) (wMark (wSeq (wIf (wNotT (wTru (wCall F__law_run [true, true, true, true] (wCons (wCall F__law_digits [true, true] (wCons (wCall F__law_cell [true, true] (wCons (wVar 0) (wCons (wC (.int 12)) wNil))) (wCons (wBin (binOf .Mult) (wCB opLst (wCons (wSh (wC (.int 8))) (wCons (wSh (wC (.int 60))) (wCons (wSh (wC (.int 60))) (wCons (wSh (wC (.int 2))) wNil))))) (wC (.int 5))) wNil))) (wCons (wVar 5) (wCons (wVar 6) (wCons (wBin opIx (wVar 1) (wC (.int 1))) wNil))))))) (wRet [0] (wC (.bl false))) wNext) (wMark (wSeq (wIf (wOrT (wNotT (wTru (wCall F__law_inside [true, true] (wCons (wBin opIx (wVar 5) (wBin (binOf .Sub) (wCB opLen (wCons (wVar 5) wNil)) (wC (.int 1)))) (wCons (wBin opIx (wVar 6) (wBin (binOf .Sub) (wCB opLen (wCons (wVar 6) wNil)) (wC (.int 1)))) wNil))))) (wNotT (wTru (wCall F__law_rules [true, true, true] (wCons (wVar 5) (wCons (wVar 6) (wCons (wVar 9) wNil))))))) (wRet [0] (wC (.bl false))) wNext) (wMark (wSeq (wRng1 (wCons (wCB opLen (wCons (wVar 5) wNil)) wNil) 7 (wIf (wTest (wBin (cmpOf .NotEq) (wCall F__law_told [true] (wCons (wBin opIx (wVar 5) (wVar 7)) wNil)) (wBin opIx (wVar 6) (wVar 7)))) (wRet [0] (wC (.bl false))) wNext)) (wRet [0] (wBin (cmpOf .Eq) (wCall F__law_told [true] (wCons (wVar 9) wNil)) (wVar 10)))))))))))))))))))))))
theorem den_law : denB 60 c_law (defBody (top 41)) = W_law := by kernel_rfl
theorem F_law_eq : F_law = wFn 1 11 [0] W_law := congrArg (wFn 1 11 [0]) den_law
theorem ok_law {P : Program} {w : World} {K : PySem.W.Frag} (hs : ∃ h, He.SaysX L.fa L.fn L.ts [] L.ex w h K) : ∃ fd, (∀ (s : Shared) (v : Value), BindsTo s fd ⟨[v], []⟩ [("script", v)]) ∧
    ∀ (mg : Str → Option Value) (base : Heap), K.In base → base.Ns mainGlobals mg → FnOk P w K mg base CX0 12 (He.ga K "law") fd ["script"] (spD ⟨K, w⟩ F_law 1) := by
  obtain ⟨hp, sx⟩ := hs
  obtain ⟨fd, FD⟩ := sx.t.d.def_ 40 (d := dd "law" 41) rfl
  have b := FunD.bindsA (ps := ["script"]) FD fun _ _ _ _ _ _ us hl => match us, hl with | [_], _ => rfl
  refine ⟨fd, fun s v => b s [v] rfl, fun mg base KB GB => ?_⟩
  have h : Hd L w K mg base := ⟨⟨hp, sx⟩, KB, GB⟩
  exact fn_ok0 FD (N := ["script", "shape", "kind", "periods", "starts", "pool", "dues", "k", "parts", "first_sum", "due"]) ⟨rfl, rfl, rfl, by decide +kernel, rfl, by decide +kernel, by decide +kernel⟩ (c := c_law) (n := 60) rfl rfl (h.fok (all_cons (ok__law_told h).up (all_cons (ok__law_cell h).up (all_cons (ok__law_digits h).up (all_cons (ok__law_periods h).up (all_cons (ok__law_starts h).up (all_cons (ok__law_few h).up (all_cons (ok__law_set h).up (all_cons (ok__law_fields h).up (all_cons (ok__law_summed h).up (all_cons (ok__law_inside h).up (all_cons (ok__law_run h).up (all_cons (ok__law_rules h).up all_nil)))))))))))) all_nil (all_cons (ok_Sizes_init h).up all_nil) (all_cons (ok_Sizes___add__ h).up all_nil))
end K47

end
section
set_option maxHeartbeats 0
namespace K47
open PySem PySem.W PySem.Spec PySem.Calls PyProof.Rows L2 FL

abbrev R : PySem.W.OpenRow := PySem.W.OpenLaw.row PySem.Challenge.rw_oneheadeach_k47_sizes_summed
abbrev hk : PySem.W.Hook := He.hookX 5 L.fa L.fn L.ts [] L.ex
def ob (s : PySem.W.SharedT) : He.AlX := He.obsX 5 L.fa L.fn L.ts [] L.ex (HandSHeadRun.getT s)
theorem ob_eq (s : PySem.W.SharedT) : ob s = hk.obs s.abs := He.obsX_eq (HandSHeadRun.getT_eq s)
def loose : List Str := (["frozen", "is_whole", "is_below", "OneHeadError", "BadSizes", "GREATEST", "are_below", "check_fields", "least_period", "least_start", "Sizes", "common", "from_flags", "mask_of", "_law_whole", "_law_cell", "_law_digits", "_law_set", "_law_few", "_law_bits"] : List Str) ++ (["_law_least_form", "_law_fields", "_law_told", "_law_equal", "_law_lcm", "_law_member", "_law_joined", "_law_summed", "_law_small", "_law_periods", "_law_starts", "_law_do", "_law_due", "_law_run", "_law_rules", "_law_inside"] : List Str)
theorem run (w : World) : HandSHeadRun.RunEqI R (PySem.W.view R.prog [0, 41]) hk ob 20000 loose w := by
  unfold HandSHeadRun.RunEqI
  kernel_rfl
end K47

end
section
set_option maxHeartbeats 1000000
namespace K47
open PySem PySem.Spec PyProof.Rows L2 FL SZ
theorem s_frozen {X : XD} {E : List Int} {P : D → List D → Prop} (hl : E.length < 1000000) (h : P (.tup (nI E)) [.lst (nI E)]) : F_frozen 3 X [.lst (nI E)] P := by
  rw [F_frozen_eq]
  simp -dsimp [W_frozen, sizeLine]
  refine lc_genY (v := fun k => D.int (E.getD k 0)) rfl (by simp [sizeLine]; omega) (fun k d hd N hN => ?_) (go ?_)
  · rw [List.getElem?_map] at hd
    obtain ⟨i, hi, rfl⟩ := Option.map_eq_some_iff.mp hd
    simp -dsimp
    rw [F_frozen_eq]
    simp -dsimp [W_frozen, sizeLine]
    refine go ?_
    simp -dsimp
    simpa [List.getD_eq_getElem?_getD, hi] using hN
  · have e : (List.range (nI E).length).map (fun k => D.int (E.getD k 0)) = nI E := by
      refine List.ext_getElem (by simp) fun k h1 h2 => ?_
      have h3 : k < E.length := by simpa using h2
      simp [List.getD_eq_getElem?_getD, h3]
    rw [e]
    simp -dsimp [opTuple_own]
    exact h
theorem s_is_whole {X : XD} {i : Int} {P : D → List D → Prop} (h : P (.bl true) [.int i]) : F_is_whole X [.int i] P := by
  rw [F_is_whole_eq]
  simp -dsimp [W_is_whole]
  exact h
theorem s_is_below {X : XD} {i n : Int} {P : D → List D → Prop} (h : P (.bl (decide (0 ≤ i ∧ i < n))) [.int i, .int n]) : F_is_below X [.int i, .int n] P := by
  rw [F_is_below_eq]
  simp -dsimp [W_is_below]
  refine s_is_whole (go ?_)
  by_cases h0 : 0 ≤ i
  · simp -dsimp [h0] at h ⊢
    exact h
  · simp -dsimp [h0] at h ⊢
    exact h
theorem s_are_below {X : XD} {E : List Int} {n : Int} {P : D → List D → Prop} (hl : E.length < 1000000) (h : P (.bl (E.all fun i => decide (0 ≤ i ∧ i < n))) [.tup (nI E), .int n]) : F_are_below X [.tup (nI E), .int n] P := by
  rw [F_are_below_eq]
  simp -dsimp [W_are_below]
  refine lc_genY (v := fun k => D.bl (decide (0 ≤ E.getD k 0 ∧ E.getD k 0 < n))) rfl (by simp [sizeLine]; omega) (fun k d hd N hN => ?_) (go ?_)
  · rw [List.getElem?_map] at hd
    obtain ⟨i, hi, rfl⟩ := Option.map_eq_some_iff.mp hd
    simp -dsimp
    refine s_is_below (go ?_)
    simp -dsimp
    simpa [List.getD_eq_getElem?_getD, hi] using hN
  · have e : (List.range (nI E).length).map (fun k => D.bl (decide (0 ≤ E.getD k 0 ∧ E.getD k 0 < n))) = (E.map fun i => decide (0 ≤ i ∧ i < n)).map D.bl := by
      refine List.ext_getElem (by simp) fun k h1 h2 => ?_
      have h3 : k < E.length := by simpa using h2
      simp [List.getD_eq_getElem?_getD, h3]
    rw [e]
    have h2 : P (.bl ((E.map fun i => decide (0 ≤ i ∧ i < n)).all id)) [.tup (nI E), .int n] := by
      rw [List.all_map]
      exact h
    generalize (E.map fun i => decide (0 ≤ i ∧ i < n)) = bs at h2 ⊢
    simp -dsimp
    refine opAll_nB ?_
    simp -dsimp
    exact h2
theorem s_check {X : XD} {E R : List Int} {s p : Nat} {P : D → List D → Prop} (hE : E.length < 1000000) (hR : R.length < 1000000) (hs : s ≤ 2000) (hp : p ≤ 2000) (h0 : 0 < p) (he : ∀ x ∈ E, 0 ≤ x ∧ x < s) (hr : ∀ x ∈ R, 0 ≤ x ∧ x < p)
    (h : P .non [.tup (nI E), .int s, .int p, .tup (nI R)]) : F_check_fields X [.tup (nI E), .int s, .int p, .tup (nI R)] P := by
  have e1 : decide (0 ≤ (s : Int) ∧ (s : Int) < 2000 + 1) = true := by simp; omega
  have e2 : decide (0 ≤ (p : Int) ∧ (p : Int) < 2000 + 1) = true := by simp; omega
  have e3 : (E.all fun i => decide (0 ≤ i ∧ i < (s : Int))) = true := List.all_eq_true.mpr fun x hx => decide_eq_true (he x hx)
  have e4 : (R.all fun i => decide (0 ≤ i ∧ i < (p : Int))) = true := List.all_eq_true.mpr fun x hx => decide_eq_true (hr x hx)
  have e5 : ¬ (p = 0) := by omega
  rw [F_check_fields_eq]
  simp -dsimp [W_check_fields]
  refine s_is_below (go ?_)
  rw [show (2000 : Int) + 1 = 2001 from rfl] at *
  rw [e1]
  simp -dsimp
  refine s_is_below (go ?_)
  rw [e2]
  simp -dsimp [e5]
  refine s_are_below hE (go ?_)
  rw [e3]
  simp -dsimp
  refine s_are_below hR (go ?_)
  rw [e4]
  simp -dsimp
  exact h
/-- turn: the p values from s on -/
def turnB (f : Nat → Bool) (s p : Nat) : List Bool := (List.range p).map fun k => f (s + k)
theorem turn_get {f : Nat → Bool} {s p k : Nat} (h : k < p) : (turnB f s p)[k]? = some (f (s + k)) := by simp [turnB, h]
theorem turn_len {f : Nat → Bool} {s p : Nat} : (turnB f s p).length = p := by simp [turnB]
theorem turn_ix {f : Nat → Bool} {s p : Nat} {k : Int} (h0 : 0 ≤ k) (h : k < p) {q : D → Prop} (hq : q (.bl (f (s + k.toNat)))) : opIx (.own (nB (turnB f s p))) (.int k) q := by
  have e := ix_own (p := q) (nB_pl (turnB f s p)) (nB_get (turn_get (f := f) (s := s) (p := p) (k := k.toNat) (by omega)))
  rw [Int.toNat_of_nonneg h0] at e
  exact e.mpr hq
theorem s_least_period {X : XD} {f : Nat → Bool} {s p : Nat} {P : D → List D → Prop} (hp : 0 < p) (hp2 : p ≤ 2000) (per : Per f p s)
    (h : ∀ q : Nat, 0 < q → q ≤ p → Per f q s → (∀ r N, 0 < r → Per f r N → q ≤ r) → P (.int q) [.own (nB (turnB f s p))]) : F_least_period X [.own (nB (turnB f s p))] P := by
  rw [F_least_period_eq]
  simp -dsimp [W_least_period, turn_len]
  refine ⟨_, _, ⟨rfl, rfl⟩, rgOk_of (by omega) (by omega), rgOk_of (by omega) (by omega), ?_⟩
  -- no divisor below was right so far
  have le_of : ∀ q : Nat, q ≤ p → (∀ g : Nat, 0 < g → g < q → ¬ (g ∣ p ∧ Per f g s)) → ∀ r N, 0 < r → Per f r N → q ≤ r := fun q hq hno r N hr hN => by
    have g1 := gcd_per hp per hN
    have g2 : 0 < Nat.gcd p r := Nat.gcd_pos_of_pos_left _ hp
    have g3 : Nat.gcd p r ≤ r := Nat.le_of_dvd hr (Nat.gcd_dvd_right p r)
    rcases Nat.lt_or_ge (Nat.gcd p r) q with z | z
    · exact absurd ⟨Nat.gcd_dvd_left p r, g1⟩ (hno _ g2 z)
    · omega
  refine for_inv (fun k ρ => (∀ g : Nat, 0 < g → g < k + 1 → g < p → ¬ (g ∣ p ∧ Per f g s)) ∧ ∃ d, ρ = [.own (nB (turnB f s p)), .int p, d, .und]) ⟨fun g h1 h2 => by omega, _, rfl⟩ (fun k ρ N hk ⟨hno, d, e⟩ hN => ?_) fun ρ ⟨hno, d, e⟩ => ?_
  · subst e
    have kp : k + 1 < p := by omega
    have e1 : (1 : Int) + k = ((k + 1 : Nat) : Int) := by omega
    simp -dsimp
    refine ⟨by omega, ?_⟩
    by_cases hd : (p : Int) % (1 + k) = 0
    · have hd2 : (k + 1) ∣ p := by
        rw [e1] at hd
        exact Nat.dvd_of_mod_eq_zero (by omega)
      simp -dsimp [hd]
      refine ⟨_, _, ⟨rfl, rfl⟩, rgOk_of (by omega) (by omega), rgOk_of (by omega) (by omega), ?_⟩
      refine lc_rngY (v := fun j => D.bl (decide (f (s + (k + 1 + j)) = f (s + j)))) rfl (by unfold sizeLine; omega) (fun j hj N hN => ?_) (go ?_)
      · simp -dsimp
        refine turn_ix (by omega) (by omega) ?_
        simp -dsimp
        refine turn_ix (by omega) (by omega) ?_
        simp -dsimp
        have a1 : (1 + (k : Int) + (j : Int)).toNat = k + 1 + j := by omega
        have a2 : (1 + (k : Int) + (j : Int) - (1 + (k : Int))).toNat = j := by omega
        rw [a1, a2]
        exact hN
      · have e3 : (List.range ((p : Int) - (1 + (k : Int))).toNat).map (fun j => D.bl (decide (f (s + (k + 1 + j)) = f (s + j)))) = nB ((List.range (p - (k + 1))).map fun j => decide (f (s + (k + 1 + j)) = f (s + j))) := by
          have : ((p : Int) - (1 + (k : Int))).toNat = p - (k + 1) := by omega
          rw [this]
          simp [Function.comp_def]
        rw [e3]
        simp -dsimp only [x_unw0, x_unw1, x_getv, List.map_cons, List.map_nil]
        refine opAll_nB ?_
        by_cases ha : ((List.range (p - (k + 1))).map fun j => decide (f (s + (k + 1 + j)) = f (s + j))).all id = true
        · rw [ha]
          simp -dsimp
          have per2 : Per f (k + 1) s := by
            refine per_of_turn hp per hd2 fun a h1 h2 => ?_
            have := List.all_eq_true.mp ha (decide (f (s + (k + 1 + (a - (k + 1)))) = f (s + (a - (k + 1))))) (by
              rw [List.mem_map]
              exact ⟨a - (k + 1), by rw [List.mem_range]; omega, rfl⟩)
            have z : k + 1 + (a - (k + 1)) = a := by omega
            rw [z] at this
            simpa using this
          rw [e1]
          refine h (k + 1) (by omega) (by omega) per2 (le_of (k + 1) (by omega) fun g g1 g2 => hno g g1 g2 (by omega))
        · rw [Bool.eq_false_iff.mpr ha]
          simp -dsimp
          refine hN _ ⟨fun g g1 g2 g3 => ?_, _, rfl⟩
          by_cases c : g = k + 1
          · subst c
            rintro ⟨_, y⟩
            refine ha (List.all_eq_true.mpr fun b hb => ?_)
            obtain ⟨j, hj, e⟩ := List.mem_map.mp hb
            subst e
            rw [List.mem_range] at hj
            have := y (s + j) (by omega)
            have z : s + j + (k + 1) = s + (k + 1 + j) := by omega
            rw [z] at this
            simpa using this
          · exact hno g g1 (by omega) g3
    · simp -dsimp [hd]
      refine hN _ ⟨fun g g1 g2 g3 => ?_, _, rfl⟩
      by_cases c : g = k + 1
      · subst c
        rintro ⟨y, _⟩
        apply hd
        rw [e1]
        have := Nat.mod_eq_zero_of_dvd y
        omega
      · exact hno g g1 (by omega) g3
  · subst e
    simp -dsimp
    refine h p hp (Nat.le_refl _) per (le_of p (Nat.le_refl _) fun g g1 g2 => hno g g1 (by omega) g2)
end K47

end
section
set_option maxHeartbeats 1000000
namespace K47
open PySem PySem.Spec PyProof.Rows L2 FL SZ
/-- the first n values -/
def bitsB (f : Nat → Bool) (n : Nat) : List Bool := (List.range n).map f
theorem bits_get {f : Nat → Bool} {n k : Nat} (h : k < n) : (bitsB f n)[k]? = some (f k) := by simp [bitsB, h]
@[simp] theorem bits_len {f : Nat → Bool} {n : Nat} : (bitsB f n).length = n := by simp [bitsB]
theorem bits_ix {f : Nat → Bool} {n : Nat} {k : Int} (h0 : 0 ≤ k) (h : k < n) {q : D → Prop} (hq : q (.bl (f k.toNat))) : opIx (.own (nB (bitsB f n))) (.int k) q := by
  have e := ix_own (p := q) (nB_pl (bitsB f n)) (nB_get (bits_get (f := f) (n := n) (k := k.toNat) (by omega)))
  rw [Int.toNat_of_nonneg h0] at e
  exact e.mpr hq
theorem bits_ixT {f : Nat → Bool} {n : Nat} {k : Int} (h0 : 0 ≤ k) (h : k < n) {q : D → Prop} (hq : q (.bl (f k.toNat))) : opIx (.tup (nB (bitsB f n))) (.int k) q :=
  ix_of rfl (atI_int h0 (nB_get (bits_get (by omega)))) hq
theorem s_least_start {X : XD} {f : Nat → Bool} {s p q : Nat} {P : D → List D → Prop} (hs : s ≤ 2000) (hp : 0 < p) (hp2 : p ≤ 2000) (hq : 0 < q) (hqp : q ≤ p) (per : Per f p s) (perq : Per f q s)
    (h : ∀ s0 d, s0 ≤ s → Per f q s0 → (s0 = 0 ∨ f (s0 - 1 + q) ≠ f (s0 - 1)) → P (.int s0) [.own (nB (bitsB f s)), d, .int q, .own (nB (turnB f s p))]) : F_least_start X [.own (nB (bitsB f s)), .int s, .int q, .own (nB (turnB f s p))] P := by
  rw [F_least_start_eq]
  simp -dsimp [W_least_start]
  refine while_inv (fun m ρ => ∃ (s0 : Nat) (d1 d2 : D), m = s0 ∧ s0 ≤ s ∧ Per f q s0 ∧ ρ = [.own (nB (bitsB f s)), .int s0, .int q, .own (nB (turnB f s p)), d1, d2]) s ⟨s, _, _, rfl, Nat.le_refl _, perq, rfl⟩ ?_
  rintro m ρ ⟨_, d1, d2, rfl, hs0, per0, rfl⟩
  by_cases c : m = 0
  · subst c
    simp -dsimp
    exact h 0 _ (by omega) per0 (.inl rfl)
  · have c2 : 0 < m := by omega
    have b1 : ((m : Int) - 1).toNat = m - 1 := by omega
    have b2 : ((m : Int) - 1 + q).toNat = m - 1 + q := by omega
    have e2 : (m : Int) - 1 = ((m - 1 : Nat) : Int) := by omega
    have stepP : f (m - 1) = f (m - 1 + q) → Per f q (m - 1) := fun e n hn => by
      by_cases z : n = m - 1
      · subst z; exact e.symm
      · exact per0 n (by omega)
    simp -dsimp [c2]
    by_cases l : (m : Int) - 1 + q < s
    · simp -dsimp [l]
      refine bits_ix (by omega) (by omega) ?_
      simp -dsimp
      refine bits_ix (by omega) (by omega) ?_
      simp -dsimp
      rw [b2]
      by_cases e : f (m - 1) = f (m - 1 + q)
      · simp -dsimp [e]
        exact ⟨m - 1, by omega, by omega, stepP e, e2⟩
      · simp -dsimp [e]
        exact h m _ hs0 per0 (.inr fun z => e z.symm)
    · simp -dsimp [l, turn_len]
      refine ⟨by omega, ?_⟩
      have b3 : (((m : Int) - 1 + q - s) % p) = (((m - 1 + q - s) % p : Nat) : Int) := by
        have : (m : Int) - 1 + q - s = ((m - 1 + q - s : Nat) : Int) := by omega
        rw [this]; rfl
      have hm := Nat.mod_lt (m - 1 + q - s) hp
      have val : f (s + (m - 1 + q - s) % p) = f (m - 1 + q) := by
        rw [← per.mod]
        congr 1
        omega
      refine turn_ix (by omega) (by omega) ?_
      simp -dsimp
      refine bits_ix (by omega) (by omega) ?_
      simp -dsimp
      rw [b3, Int.toNat_natCast, val]
      by_cases e : f (m - 1) = f (m - 1 + q)
      · simp -dsimp [e]
        exact ⟨m - 1, by omega, by omega, stepP e, e2⟩
      · simp -dsimp [e]
        exact h m _ hs0 per0 (.inr fun z => e z.symm)
end K47

end
section
set_option maxHeartbeats 1000000
namespace K47
open PySem PySem.Spec PyProof.Rows L2 FL SZ
abbrev KS : List Str := ["period", "start", "flags", "early", "rests"]
/-- the instance of the set f in least form -/
def szD (f : Nat → Bool) (s p : Nat) : D := .ins "Sizes" KS [.int p, .int s, .tup (nB (bitsB f (s + p))), .tup (nI (earlyOf f s)), .tup (nI (restsOf f s p))]
@[simp] theorem pk1 {d : D} : putK [] [] "period" d = ((["period"] : List Str), [d]) := putK_new (by decide)
@[simp] theorem pk2 {xs : List D} {d : D} : putK ["period"] xs "start" d = ((["period", "start"] : List Str), xs ++ [d]) := putK_new (by decide)
@[simp] theorem pk3 {xs : List D} {d : D} : putK ["period", "start"] xs "flags" d = ((["period", "start", "flags"] : List Str), xs ++ [d]) := putK_new (by decide)
@[simp] theorem pk4 {xs : List D} {d : D} : putK ["period", "start", "flags"] xs "early" d = ((["period", "start", "flags", "early"] : List Str), xs ++ [d]) := putK_new (by decide)
@[simp] theorem pk5 {xs : List D} {d : D} : putK ["period", "start", "flags", "early"] xs "rests" d = (KS, xs ++ [d]) := putK_new (by decide)
@[simp] theorem hs1 : L.cts.has "Sizes" "period" = true := by decide +kernel
@[simp] theorem hs2 : L.cts.has "Sizes" "start" = true := by decide +kernel
@[simp] theorem hs3 : L.cts.has "Sizes" "flags" = true := by decide +kernel
@[simp] theorem hs4 : L.cts.has "Sizes" "early" = true := by decide +kernel
@[simp] theorem hs5 : L.cts.has "Sizes" "rests" = true := by decide +kernel
@[simp] theorem fo1 {ks : List Str} {xs : List D} {i : Int} {q : D → Prop} : opFld L.cts "period" (.oins "Sizes" ("period" :: ks) (.int i :: xs)) q ↔ q (.int i) := fld_oins (j := 0) hs1 rfl rfl rfl
@[simp] theorem fo2 {ks : List Str} {xs : List D} {d : D} {i : Int} {q : D → Prop} : opFld L.cts "start" (.oins "Sizes" ("period" :: "start" :: ks) (d :: .int i :: xs)) q ↔ q (.int i) := fld_oins (j := 1) hs2 rfl rfl rfl
@[simp] theorem fo3 {ks : List Str} {xs : List D} {d e : D} {ys : List D} {q : D → Prop} : opFld L.cts "flags" (.oins "Sizes" ("period" :: "start" :: "flags" :: ks) (d :: e :: .tup ys :: xs)) q ↔ q (.tup ys) := fld_oins (j := 2) hs3 rfl rfl rfl
theorem early_flags {f : Nat → Bool} {E : List Int} {s p : Nat} {R : List Int} (d : Desc f E s p R) : ∀ n : Nat, n < s → (decide ((n : Int) ∈ E) = f n) := fun n hn => by
  have := d.2.2.2.1 n hn
  cases h : f n <;> simp [h] at this ⊢ <;> exact this
theorem s_init {X : XD} {f : Nat → Bool} {E R : List Int} {s p : Nat} {P : D → List D → Prop} (hE : E.length < 1000000) (hR : R.length < 1000000) (hs : s ≤ 2000) (hp : p ≤ 2000) (d : Desc f E s p R)
    (h : ∀ s0 p0, Canon f s0 p0 → s0 ≤ s → p0 ∣ p → ∀ xs, D.shs xs = [.int p0, .int s0, .tup (nB (bitsB f (s0 + p0))), .tup (nI (earlyOf f s0)), .tup (nI (restsOf f s0 p0))] → P .non [.oins "Sizes" KS xs, .und, .int s, .int p, .und]) :
    F_Sizes_init X [.oins "Sizes" [] [], .lst (nI E), .int s, .int p, .lst (nI R)] P := by
  rw [F_Sizes_init_eq]
  simp -dsimp [W_Sizes_init]
  refine s_frozen hE (go ?_)
  simp -dsimp
  refine s_frozen hR (go ?_)
  simp -dsimp
  refine s_check hE hR hs hp d.1 d.2.1 d.2.2.1 (go ?_)
  simp -dsimp
  refine ⟨rgOk_of (by omega) (by omega), ?_⟩
  refine lc_rngY (v := fun _ => D.bl false) rfl (by unfold sizeLine; omega) (fun k hk N hN => ?_) (go ?_)
  · simp -dsimp at hN ⊢
    exact hN
  have f0 : (List.range s).map (fun _ => D.bl false) = nB (bitsB (fun n => decide (((n : Nat) : Int) ∈ E.take 0)) s) := by
    simp [bitsB]
  rw [f0]
  simp -dsimp
  refine fol_inv (fun k ρ => ∃ x : D, x.pl = true ∧ ρ = [.oins "Sizes" [] [], .tup (nI E), .int s, .int p, .tup (nI R), .own (nB (bitsB (fun n => decide (((n : Nat) : Int) ∈ E.take k)) s)), x, .und, .und]) ⟨_, rfl, rfl⟩ (fun k d' ρ N hd ⟨x, hx, e⟩ hN => ?_) fun ρ ⟨x, hx, e⟩ => ?_
  · subst e
    rw [List.getElem?_map] at hd
    obtain ⟨i, hi, rfl⟩ := Option.map_eq_some_iff.mp hd
    have hi2 := d.2.1 i (List.mem_of_getElem? hi)
    simp -dsimp
    refine ⟨i.toNat, ixN_of (by omega) (by first | omega | (simp; omega)), hN _ ⟨.int i, rfl, ?_⟩⟩
    have e3 : (nB (bitsB (fun n => decide (((n : Nat) : Int) ∈ E.take k)) s)).set i.toNat (.bl true) = nB (bitsB (fun n => decide (((n : Nat) : Int) ∈ E.take (k + 1))) s) := by
      refine List.ext_getElem (by simp) fun j h1 h2 => ?_
      have h3 : j < s := by simpa using h2
      rw [List.getElem_set]
      have ht : E.take (k + 1) = E.take k ++ [i] := by rw [List.take_succ, hi]; rfl
      by_cases c : i.toNat = j
      · rw [if_pos c]
        have : (j : Int) = i := by omega
        simp [bitsB, ht, this]
      · rw [if_neg c]
        have : ¬ (j : Int) = i := by omega
        simp [bitsB, ht, this]
    rw [e3]
  subst e
  have f1 : bitsB (fun n => decide (((n : Nat) : Int) ∈ E.take (nI E).length)) s = bitsB f s := by
    refine List.map_congr_left fun n hn => ?_
    rw [List.mem_range] at hn
    rw [List.length_map, List.take_length]
    exact early_flags d n hn
  rw [f1]
  simp -dsimp
  refine ⟨_, _, ⟨rfl, rfl⟩, rgOk_of (by omega) (by omega), rgOk_of (by omega) (by omega), hx, ?_⟩
  refine lc_rngY (v := fun k => D.bl (f (s + k))) rfl (by unfold sizeLine; omega) (fun k hk N hN => ?_) (go ?_)
  · simp -dsimp
    refine ⟨by omega, ?_⟩
    refine inI_tup ?_
    have e4 : ((s : Int) + k) % p = (((s + k) % p : Nat) : Int) := by rw [Int.natCast_emod, Int.natCast_add]
    have e5 : decide ((((s + k) % p : Nat) : Int) ∈ R) = f (s + k) := by
      have := d.2.2.2.2 (s + k) (by omega)
      cases h : f (s + k) <;> simp [h] at this ⊢ <;> exact this
    rw [e4, e5]
    simpa using hN
  have per := d.per
  have e6 : (List.range ((s : Int) + p - s).toNat).map (fun k => D.bl (f (s + k))) = nB (turnB f s p) := by
    have : ((s : Int) + p - s).toNat = p := by omega
    rw [this]
    simp [turnB]
  rw [e6]
  simp -dsimp
  refine s_least_period d.1 hp per (fun q hq hqp perq hmin => go ?_)
  simp -dsimp
  refine s_least_start hs d.1 hp hq hqp per perq (fun s0 d0 hs0 per0 hls => go ?_)
  simp -dsimp
  have can : SZ.Canon f s0 q := ⟨hq, per0, hmin, hls⟩
  refine addL (nB_pl _) (nB_pl _) (by simp [turn_len]; unfold sizeLine; omega) ?_
  simp -dsimp
  refine sl_own (by rw [List.all_append, nB_pl, nB_pl]; rfl) ?_
  have cut : cutD (nB (bitsB f s) ++ nB (turnB f s p)) none (some ((s0 : Int) + q)) = nB (bitsB f (s0 + q)) := by
    rw [cut_take (by omega) (by simp [turn_len]; omega)]
    have e7 : ((s0 : Int) + q).toNat = s0 + q := by omega
    rw [e7]
    refine List.ext_getElem (by simp [turn_len]; omega) fun j h1 h2 => ?_
    have h3 : j < s0 + q := by simpa using h2
    rw [List.getElem_take, List.getElem_append]
    split
    · simp [bitsB]
    · rename_i h4
      have h4 : ¬ j < s := by simpa using h4
      simp [bitsB, turnB]
      congr 1
      omega
  rw [cut]
  simp -dsimp
  refine (opTuple_own (nB_pl _)).mpr ?_
  simp -dsimp
  refine ⟨rgOk_of (by omega) (by omega), hx, ?_⟩
  refine lc_rng (b := f) (v := fun k => D.int k) rfl (by unfold sizeLine; omega) (fun k hk T hT => ?_) (fun k hk hb N hN => ?_) (go ?_)
  · simp -dsimp
    refine bits_ixT (by omega) (by omega) ?_
    simp -dsimp
    simpa using hT
  · simp -dsimp
    simpa using hN
  have e8 : ((List.range s0).filter f).map (fun k : Nat => D.int k) = nI (earlyOf f s0) := by simp [earlyOf]
  rw [e8]
  simp -dsimp
  refine (opTuple_own (nI_pl _)).mpr ?_
  simp -dsimp
  refine ⟨_, _, ⟨rfl, rfl⟩, rgOk_of (by omega) (by omega), rgOk_of (by omega) (by omega), hx, ?_⟩
  have e9 : ((s0 : Int) + q - s0).toNat = q := by omega
  rw [e9]
  refine lc_rng (b := fun k => f (s0 + k)) (v := fun k => D.int (((s0 + k) % q : Nat) : Int)) rfl (by unfold sizeLine; omega) (fun k hk T hT => ?_) (fun k hk hb N hN => ?_) (go ?_)
  · simp -dsimp
    refine bits_ixT (by omega) (by omega) ?_
    simp -dsimp
    have e10 : ((s0 : Int) + k).toNat = s0 + k := by omega
    rw [e10]
    exact hT
  · simp -dsimp
    refine ⟨by omega, ?_⟩
    have e4 : ((s0 : Int) + k) % q = (((s0 + k) % q : Nat) : Int) := by rw [Int.natCast_emod, Int.natCast_add]
    rw [e4]
    exact hN
  have e11 : ((List.range q).filter fun k => f (s0 + k)).map (fun k : Nat => D.int (((s0 + k) % q : Nat) : Int)) = nI (lateOf f s0 q) := by
    unfold lateOf
    rw [List.range'_eq_map_range, List.filter_map, List.map_map]
    show _ = List.map D.int (List.map _ _)
    rw [List.map_map]
    rfl
  rw [e11]
  simp -dsimp
  refine .inl ⟨lateOf f s0 q, if_pos (nI_pl _), fun ms h1 h2 => ?_⟩
  have e12 := srt_eq h1 h2
  subst e12
  simp -dsimp
  refine (opTuple_own (nI_pl _)).mpr ?_
  simp -dsimp
  exact h s0 q can hs0 (can.dvd d.1 per) _ rfl
end K47

end
section
set_option maxHeartbeats 1000000
namespace K47
open PySem PySem.Spec PyProof.Rows L2 FL SZ
@[simp] theorem sz_pl {f : Nat → Bool} {s p : Nat} : (szD f s p).pl = true := rfl
@[simp] theorem sz_kn {f : Nat → Bool} {s p : Nat} : (szD f s p).known = true := rfl
@[simp] theorem sz_sh {f : Nat → Bool} {s p : Nat} : (szD f s p).sh = szD f s p := rfl
@[simp] theorem sz_isI {f : Nat → Bool} {s p : Nat} : (szD f s p).isI "Sizes" = true := x_isI1
@[simp] theorem sz_fp {f : Nat → Bool} {s p : Nat} {q : D → Prop} : opFld L.cts "period" (szD f s p) q ↔ q (.int p) := fld_ins (j := 0) hs1 rfl rfl rfl
@[simp] theorem sz_fs {f : Nat → Bool} {s p : Nat} {q : D → Prop} : opFld L.cts "start" (szD f s p) q ↔ q (.int s) := fld_ins (j := 1) hs2 rfl rfl rfl
@[simp] theorem sz_ff {f : Nat → Bool} {s p : Nat} {q : D → Prop} : opFld L.cts "flags" (szD f s p) q ↔ q (.tup (nB (bitsB f (s + p)))) := fld_ins (j := 2) hs3 rfl rfl rfl
@[simp] theorem sz_fe {f : Nat → Bool} {s p : Nat} {q : D → Prop} : opFld L.cts "early" (szD f s p) q ↔ q (.tup (nI (earlyOf f s))) := fld_ins (j := 3) hs4 rfl rfl rfl
@[simp] theorem sz_fr {f : Nat → Bool} {s p : Nat} {q : D → Prop} : opFld L.cts "rests" (szD f s p) q ↔ q (.tup (nI (restsOf f s p))) := fld_ins (j := 4) hs5 rfl rfl rfl
theorem s_contains {X : XD} {f : Nat → Bool} {s p : Nat} {x : Int} {P : D → List D → Prop} (hp : 0 < p) (per : Per f p s) (h : P (.bl (memD f x)) [szD f s p, .int x]) : F_Sizes___contains__ X [szD f s p, .int x] P := by
  rw [F_Sizes___contains___eq]
  unfold memD at h
  by_cases c : x < 0
  · simp -dsimp [W_Sizes___contains__, c] at h ⊢
    exact h
  · by_cases c2 : x < s
    · simp -dsimp [W_Sizes___contains__, c, c2] at h ⊢
      refine bits_ixT (by omega) (by omega) ?_
      simp -dsimp
      exact h
    · simp -dsimp [W_Sizes___contains__, c, c2] at h ⊢
      refine ⟨by omega, ?_⟩
      have e : (x - s) % p = (((x.toNat - s) % p : Nat) : Int) := by
        have : x - s = ((x.toNat - s : Nat) : Int) := by omega
        rw [this, Int.natCast_emod]
      have hm := Nat.mod_lt (x.toNat - s) hp
      refine bits_ixT (by omega) (by omega) ?_
      simp -dsimp
      have e2 : ((s : Int) + (x - s) % p).toNat = s + (x.toNat - s) % p := by omega
      rw [e2, per_at per (by omega)]
      exact h
theorem s_common {X : XD} {f g : Nat → Bool} {s p t q : Nat} {P : D → List D → Prop} (hp : p ≤ 2000) (hq : q ≤ 2000) (h : P (.tup [.int (max s t : Nat), .int (Nat.lcm p q)]) [szD f s p, szD g t q]) : F_common X [szD f s p, szD g t q] P := by
  rw [F_common_eq]
  have e : (if s < t then (t : Int) else s) = ((max s t : Nat) : Int) := by
    split <;> omega
  simp -dsimp [W_common, sizeLine]
  refine ⟨by omega, by omega, ?_⟩
  rw [e]
  exact h
theorem s_from {X : XD} {f : Nat → Bool} {s p n : Nat} {P : D → List D → Prop} (hs : s ≤ 2000) (hp : p ≤ 2000) (hp0 : 0 < p) (hn : s + p ≤ n) (per : Per f p s)
    (h : ∀ s0 p0, SZ.Canon f s0 p0 → s0 ≤ s → p0 ∣ p → P (szD f s0 p0) [.own (nB (bitsB f n)), .int s, .int p]) : F_from_flags X [.own (nB (bitsB f n)), .int s, .int p] P := by
  rw [F_from_flags_eq]
  simp -dsimp [W_from_flags]
  refine ⟨rgOk_of (by omega) (by omega), ?_⟩
  refine lc_rng (b := f) (v := fun k => D.int k) rfl (by unfold sizeLine; omega) (fun k hk T hT => ?_) (fun k hk hb N hN => ?_) (go ?_)
  · simp -dsimp
    refine bits_ix (by omega) (by omega) ?_
    simp -dsimp
    simpa using hT
  · simp -dsimp
    simpa using hN
  have e8 : ((List.range s).filter f).map (fun k : Nat => D.int k) = nI (earlyOf f s) := by simp [earlyOf]
  rw [e8]
  simp -dsimp
  refine ⟨_, _, ⟨rfl, rfl⟩, rgOk_of (by omega) (by omega), rgOk_of (by omega) (by omega), ?_⟩
  have e9 : ((s : Int) + p - s).toNat = p := by omega
  rw [e9]
  refine lc_rng (b := fun k => f (s + k)) (v := fun k => D.int (((s + k) % p : Nat) : Int)) rfl (by unfold sizeLine; omega) (fun k hk T hT => ?_) (fun k hk hb N hN => ?_) (go ?_)
  · simp -dsimp
    refine bits_ix (by omega) (by omega) ?_
    simp -dsimp
    have e10 : ((s : Int) + k).toNat = s + k := by omega
    rw [e10]
    exact hT
  · simp -dsimp
    refine ⟨by omega, ?_⟩
    have e4 : ((s : Int) + k) % p = (((s + k) % p : Nat) : Int) := by rw [Int.natCast_emod, Int.natCast_add]
    rw [e4]
    exact hN
  have e11 : ((List.range p).filter fun k => f (s + k)).map (fun k : Nat => D.int (((s + k) % p : Nat) : Int)) = nI (lateOf f s p) := by
    unfold lateOf
    rw [List.range'_eq_map_range, List.filter_map, List.map_map]
    show _ = List.map D.int (List.map _ _)
    rw [List.map_map]
    rfl
  rw [e11]
  simp -dsimp
  refine s_init (by have := len_early (f := f) (s := s); omega) (by have := len_late (f := f) (s := s) (p := p); omega) hs hp (desc_late hp0 per) (fun s0 p0 can h1 h2 xs hxs => ⟨rfl, go ?_⟩)
  simp -dsimp [hxs]
  exact h s0 p0 can h1 h2
end K47

end
section
set_option maxHeartbeats 1000000
namespace K47
open PySem PySem.Spec PyProof.Rows L2 FL SZ
theorem s_frozenO {X : XD} {E : List Int} {P : D → List D → Prop} (hl : E.length < 1000000) (h : P (.tup (nI E)) [.lst (nI E)]) : F_frozen 3 X [.own (nI E)] P := by
  rw [F_frozen_eq]
  simp -dsimp [W_frozen, sizeLine]
  refine lc_genY (v := fun k => D.int (E.getD k 0)) rfl (by simp [sizeLine]; omega) (fun k d hd N hN => ?_) (go ?_)
  · rw [List.getElem?_map] at hd
    obtain ⟨i, hi, rfl⟩ := Option.map_eq_some_iff.mp hd
    simp -dsimp
    rw [F_frozen_eq]
    simp -dsimp [W_frozen, sizeLine]
    refine go ?_
    simp -dsimp
    simpa [List.getD_eq_getElem?_getD, hi] using hN
  · have e : (List.range (nI E).length).map (fun k => D.int (E.getD k 0)) = nI E := by
      refine List.ext_getElem (by simp) fun k h1 h2 => ?_
      have h3 : k < E.length := by simpa using h2
      simp [List.getD_eq_getElem?_getD, h3]
    rw [e]
    simp -dsimp [opTuple_own]
    exact h
theorem s_initO {X : XD} {f : Nat → Bool} {E R : List Int} {s p : Nat} {P : D → List D → Prop} (hE : E.length < 1000000) (hR : R.length < 1000000) (hs : s ≤ 2000) (hp : p ≤ 2000) (d : Desc f E s p R)
    (h : ∀ s0 p0, Canon f s0 p0 → s0 ≤ s → p0 ∣ p → ∀ xs, D.shs xs = [.int p0, .int s0, .tup (nB (bitsB f (s0 + p0))), .tup (nI (earlyOf f s0)), .tup (nI (restsOf f s0 p0))] → P .non [.oins "Sizes" KS xs, .und, .int s, .int p, .und]) :
    F_Sizes_init X [.oins "Sizes" [] [], .own (nI E), .int s, .int p, .own (nI R)] P := by
  rw [F_Sizes_init_eq]
  simp -dsimp [W_Sizes_init]
  refine s_frozenO hE (go ?_)
  simp -dsimp
  refine s_frozenO hR (go ?_)
  simp -dsimp
  refine s_check hE hR hs hp d.1 d.2.1 d.2.2.1 (go ?_)
  simp -dsimp
  refine ⟨rgOk_of (by omega) (by omega), ?_⟩
  refine lc_rngY (v := fun _ => D.bl false) rfl (by unfold sizeLine; omega) (fun k hk N hN => ?_) (go ?_)
  · simp -dsimp at hN ⊢
    exact hN
  have f0 : (List.range s).map (fun _ => D.bl false) = nB (bitsB (fun n => decide (((n : Nat) : Int) ∈ E.take 0)) s) := by
    simp [bitsB]
  rw [f0]
  simp -dsimp
  refine fol_inv (fun k ρ => ∃ x : D, x.pl = true ∧ ρ = [.oins "Sizes" [] [], .tup (nI E), .int s, .int p, .tup (nI R), .own (nB (bitsB (fun n => decide (((n : Nat) : Int) ∈ E.take k)) s)), x, .und, .und]) ⟨_, rfl, rfl⟩ (fun k d' ρ N hd ⟨x, hx, e⟩ hN => ?_) fun ρ ⟨x, hx, e⟩ => ?_
  · subst e
    rw [List.getElem?_map] at hd
    obtain ⟨i, hi, rfl⟩ := Option.map_eq_some_iff.mp hd
    have hi2 := d.2.1 i (List.mem_of_getElem? hi)
    simp -dsimp
    refine ⟨i.toNat, ixN_of (by omega) (by first | omega | (simp; omega)), hN _ ⟨.int i, rfl, ?_⟩⟩
    have e3 : (nB (bitsB (fun n => decide (((n : Nat) : Int) ∈ E.take k)) s)).set i.toNat (.bl true) = nB (bitsB (fun n => decide (((n : Nat) : Int) ∈ E.take (k + 1))) s) := by
      refine List.ext_getElem (by simp) fun j h1 h2 => ?_
      have h3 : j < s := by simpa using h2
      rw [List.getElem_set]
      have ht : E.take (k + 1) = E.take k ++ [i] := by rw [List.take_succ, hi]; rfl
      by_cases c : i.toNat = j
      · rw [if_pos c]
        have : (j : Int) = i := by omega
        simp [bitsB, ht, this]
      · rw [if_neg c]
        have : ¬ (j : Int) = i := by omega
        simp [bitsB, ht, this]
    rw [e3]
  subst e
  have f1 : bitsB (fun n => decide (((n : Nat) : Int) ∈ E.take (nI E).length)) s = bitsB f s := by
    refine List.map_congr_left fun n hn => ?_
    rw [List.mem_range] at hn
    rw [List.length_map, List.take_length]
    exact early_flags d n hn
  rw [f1]
  simp -dsimp
  refine ⟨_, _, ⟨rfl, rfl⟩, rgOk_of (by omega) (by omega), rgOk_of (by omega) (by omega), hx, ?_⟩
  refine lc_rngY (v := fun k => D.bl (f (s + k))) rfl (by unfold sizeLine; omega) (fun k hk N hN => ?_) (go ?_)
  · simp -dsimp
    refine ⟨by omega, ?_⟩
    refine inI_tup ?_
    have e4 : ((s : Int) + k) % p = (((s + k) % p : Nat) : Int) := by rw [Int.natCast_emod, Int.natCast_add]
    have e5 : decide ((((s + k) % p : Nat) : Int) ∈ R) = f (s + k) := by
      have := d.2.2.2.2 (s + k) (by omega)
      cases h : f (s + k) <;> simp [h] at this ⊢ <;> exact this
    rw [e4, e5]
    simpa using hN
  have per := d.per
  have e6 : (List.range ((s : Int) + p - s).toNat).map (fun k => D.bl (f (s + k))) = nB (turnB f s p) := by
    have : ((s : Int) + p - s).toNat = p := by omega
    rw [this]
    simp [turnB]
  rw [e6]
  simp -dsimp
  refine s_least_period d.1 hp per (fun q hq hqp perq hmin => go ?_)
  simp -dsimp
  refine s_least_start hs d.1 hp hq hqp per perq (fun s0 d0 hs0 per0 hls => go ?_)
  simp -dsimp
  have can : SZ.Canon f s0 q := ⟨hq, per0, hmin, hls⟩
  refine addL (nB_pl _) (nB_pl _) (by simp [turn_len]; unfold sizeLine; omega) ?_
  simp -dsimp
  refine sl_own (by rw [List.all_append, nB_pl, nB_pl]; rfl) ?_
  have cut : cutD (nB (bitsB f s) ++ nB (turnB f s p)) none (some ((s0 : Int) + q)) = nB (bitsB f (s0 + q)) := by
    rw [cut_take (by omega) (by simp [turn_len]; omega)]
    have e7 : ((s0 : Int) + q).toNat = s0 + q := by omega
    rw [e7]
    refine List.ext_getElem (by simp [turn_len]; omega) fun j h1 h2 => ?_
    have h3 : j < s0 + q := by simpa using h2
    rw [List.getElem_take, List.getElem_append]
    split
    · simp [bitsB]
    · rename_i h4
      have h4 : ¬ j < s := by simpa using h4
      simp [bitsB, turnB]
      congr 1
      omega
  rw [cut]
  simp -dsimp
  refine (opTuple_own (nB_pl _)).mpr ?_
  simp -dsimp
  refine ⟨rgOk_of (by omega) (by omega), hx, ?_⟩
  refine lc_rng (b := f) (v := fun k => D.int k) rfl (by unfold sizeLine; omega) (fun k hk T hT => ?_) (fun k hk hb N hN => ?_) (go ?_)
  · simp -dsimp
    refine bits_ixT (by omega) (by omega) ?_
    simp -dsimp
    simpa using hT
  · simp -dsimp
    simpa using hN
  have e8 : ((List.range s0).filter f).map (fun k : Nat => D.int k) = nI (earlyOf f s0) := by simp [earlyOf]
  rw [e8]
  simp -dsimp
  refine (opTuple_own (nI_pl _)).mpr ?_
  simp -dsimp
  refine ⟨_, _, ⟨rfl, rfl⟩, rgOk_of (by omega) (by omega), rgOk_of (by omega) (by omega), hx, ?_⟩
  have e9 : ((s0 : Int) + q - s0).toNat = q := by omega
  rw [e9]
  refine lc_rng (b := fun k => f (s0 + k)) (v := fun k => D.int (((s0 + k) % q : Nat) : Int)) rfl (by unfold sizeLine; omega) (fun k hk T hT => ?_) (fun k hk hb N hN => ?_) (go ?_)
  · simp -dsimp
    refine bits_ixT (by omega) (by omega) ?_
    simp -dsimp
    have e10 : ((s0 : Int) + k).toNat = s0 + k := by omega
    rw [e10]
    exact hT
  · simp -dsimp
    refine ⟨by omega, ?_⟩
    have e4 : ((s0 : Int) + k) % q = (((s0 + k) % q : Nat) : Int) := by rw [Int.natCast_emod, Int.natCast_add]
    rw [e4]
    exact hN
  have e11 : ((List.range q).filter fun k => f (s0 + k)).map (fun k : Nat => D.int (((s0 + k) % q : Nat) : Int)) = nI (lateOf f s0 q) := by
    unfold lateOf
    rw [List.range'_eq_map_range, List.filter_map, List.map_map]
    show _ = List.map D.int (List.map _ _)
    rw [List.map_map]
    rfl
  rw [e11]
  simp -dsimp
  refine .inl ⟨lateOf f s0 q, if_pos (nI_pl _), fun ms h1 h2 => ?_⟩
  have e12 := srt_eq h1 h2
  subst e12
  simp -dsimp
  refine (opTuple_own (nI_pl _)).mpr ?_
  simp -dsimp
  exact h s0 q can hs0 (can.dvd d.1 per) _ rfl
end K47

end
section
set_option maxHeartbeats 1000000
namespace K47
open PySem PySem.Spec PyProof.Rows L2 FL SZ
theorem bits_map {f : Nat → Bool} {n : Nat} : (List.range n).map (fun k => D.bl (f k)) = nB (bitsB f n) := by simp [bitsB]
theorem mem_nat {f : Nat → Bool} {k : Nat} : memD f ((0 : Int) + k) = f k := by
  unfold memD
  rw [if_neg (by omega)]
  congr 1
  omega
theorem mem_nat' {f : Nat → Bool} {k : Nat} : memD f (k : Int) = f k := by
  unfold memD
  rw [if_neg (by omega)]
  rfl
section
variable {X : XD} {f g : Nat → Bool} {s p t q : Nat} {P : D → List D → Prop}
theorem s_or (hp : 0 < p) (hq : 0 < q) (hp2 : p ≤ 2000) (hq2 : q ≤ 2000) (hs : s ≤ 2000) (ht : t ≤ 2000) (hl : Nat.lcm p q ≤ 2000) (pf : Per f p s) (pg : Per g q t)
    (h : ∀ s0 p0, SZ.Canon (fun n => f n || g n) s0 p0 → s0 ≤ max s t → p0 ∣ Nat.lcm p q → P (szD (fun n => f n || g n) s0 p0) [szD f s p, szD g t q]) : F_Sizes___or__ X [szD f s p, szD g t q] P := by
  have lp : 0 < Nat.lcm p q := Nat.lcm_pos hp hq
  rw [F_Sizes___or___eq]
  simp -dsimp [W_Sizes___or__]
  refine s_common hp2 hq2 (go ?_)
  simp -dsimp
  refine ⟨rgOk_of (by omega) (by omega), ?_⟩
  have e0 : (((max s t : Nat) : Int) + ((Nat.lcm p q : Nat) : Int)).toNat = max s t + Nat.lcm p q := by omega
  rw [e0]
  refine lc_rngY (v := fun n => D.bl (f n || g n)) rfl (by unfold sizeLine; omega) (fun k hk N hN => ?_) (go ?_)
  · simp -dsimp
    refine s_contains hp pf (go ?_)
    simp -dsimp
    rw [mem_nat']
    cases c : f k with
    | true =>
      simp -dsimp
      simpa [c] using hN
    | false =>
      simp -dsimp
      refine s_contains hq pg (go ?_)
      simp -dsimp
      rw [mem_nat']
      simpa [c] using hN
  · rw [bits_map (f := fun n => f n || g n)]
    simp -dsimp
    refine s_from (by omega) hl lp (Nat.le_refl _) (per_op (fun a b => a || b) pf pg) (fun s0 p0 can h1 h2 => go ?_)
    simp -dsimp
    exact h s0 p0 can h1 h2
theorem s_and (hp : 0 < p) (hq : 0 < q) (hp2 : p ≤ 2000) (hq2 : q ≤ 2000) (hs : s ≤ 2000) (ht : t ≤ 2000) (hl : Nat.lcm p q ≤ 2000) (pf : Per f p s) (pg : Per g q t)
    (h : ∀ s0 p0, SZ.Canon (fun n => f n && g n) s0 p0 → s0 ≤ max s t → p0 ∣ Nat.lcm p q → P (szD (fun n => f n && g n) s0 p0) [szD f s p, szD g t q]) : F_Sizes___and__ X [szD f s p, szD g t q] P := by
  have lp : 0 < Nat.lcm p q := Nat.lcm_pos hp hq
  rw [F_Sizes___and___eq]
  simp -dsimp [W_Sizes___and__]
  refine s_common hp2 hq2 (go ?_)
  simp -dsimp
  refine ⟨rgOk_of (by omega) (by omega), ?_⟩
  have e0 : (((max s t : Nat) : Int) + ((Nat.lcm p q : Nat) : Int)).toNat = max s t + Nat.lcm p q := by omega
  rw [e0]
  refine lc_rngY (v := fun n => D.bl (f n && g n)) rfl (by unfold sizeLine; omega) (fun k hk N hN => ?_) (go ?_)
  · simp -dsimp
    refine s_contains hp pf (go ?_)
    simp -dsimp
    rw [mem_nat']
    cases c : f k with
    | false =>
      simp -dsimp
      simpa [c] using hN
    | true =>
      simp -dsimp
      refine s_contains hq pg (go ?_)
      simp -dsimp
      rw [mem_nat']
      simpa [c] using hN
  · rw [bits_map (f := fun n => f n && g n)]
    simp -dsimp
    refine s_from (by omega) hl lp (Nat.le_refl _) (per_op (fun a b => a && b) pf pg) (fun s0 p0 can h1 h2 => go ?_)
    simp -dsimp
    exact h s0 p0 can h1 h2
theorem s_sub (hp : 0 < p) (hq : 0 < q) (hp2 : p ≤ 2000) (hq2 : q ≤ 2000) (hs : s ≤ 2000) (ht : t ≤ 2000) (hl : Nat.lcm p q ≤ 2000) (pf : Per f p s) (pg : Per g q t)
    (h : ∀ s0 p0, SZ.Canon (fun n => f n && !g n) s0 p0 → s0 ≤ max s t → p0 ∣ Nat.lcm p q → P (szD (fun n => f n && !g n) s0 p0) [szD f s p, szD g t q]) : F_Sizes___sub__ X [szD f s p, szD g t q] P := by
  have lp : 0 < Nat.lcm p q := Nat.lcm_pos hp hq
  rw [F_Sizes___sub___eq]
  simp -dsimp [W_Sizes___sub__]
  refine s_common hp2 hq2 (go ?_)
  simp -dsimp
  refine ⟨rgOk_of (by omega) (by omega), ?_⟩
  have e0 : (((max s t : Nat) : Int) + ((Nat.lcm p q : Nat) : Int)).toNat = max s t + Nat.lcm p q := by omega
  rw [e0]
  refine lc_rngY (v := fun n => D.bl (f n && !g n)) rfl (by unfold sizeLine; omega) (fun k hk N hN => ?_) (go ?_)
  · simp -dsimp
    refine s_contains hp pf (go ?_)
    simp -dsimp
    rw [mem_nat']
    cases c : f k with
    | false =>
      simp -dsimp
      simpa [c] using hN
    | true =>
      simp -dsimp
      refine s_contains hq pg (go ?_)
      simp -dsimp
      rw [mem_nat']
      simpa [c] using hN
  · rw [bits_map (f := fun n => f n && !g n)]
    simp -dsimp
    refine s_from (by omega) hl lp (Nat.le_refl _) (per_op (fun a b => a && !b) pf pg) (fun s0 p0 can h1 h2 => go ?_)
    simp -dsimp
    exact h s0 p0 can h1 h2
theorem s_inv (hp : 0 < p) (hp2 : p ≤ 2000) (hs : s ≤ 2000) (pf : Per f p s)
    (h : ∀ s0 p0, SZ.Canon (fun n => !f n) s0 p0 → s0 ≤ s → p0 ∣ p → P (szD (fun n => !f n) s0 p0) [szD f s p]) : F_Sizes___invert__ X [szD f s p] P := by
  rw [F_Sizes___invert___eq]
  simp -dsimp [W_Sizes___invert__]
  refine ⟨rgOk_of (by omega) (by omega), ?_⟩
  have e0 : ((s : Int) + (p : Int)).toNat = s + p := by omega
  rw [e0]
  refine lc_rngY (v := fun n => D.bl (!f n)) rfl (by unfold sizeLine; omega) (fun k hk N hN => ?_) (go ?_)
  · simp -dsimp
    refine s_contains hp pf (go ?_)
    simp -dsimp
    rw [mem_nat']
    simpa using hN
  · rw [bits_map (f := fun n => !f n)]
    simp -dsimp
    refine s_from hs hp2 hp (Nat.le_refl _) (per_not pf) (fun s0 p0 can h1 h2 => go ?_)
    simp -dsimp
    exact h s0 p0 can h1 h2
/-- the fields are the same -/
def eqSz (f : Nat → Bool) (s p : Nat) (g : Nat → Bool) (t q : Nat) : Bool := decide (s = t) && (decide (p = q) && (decide (earlyOf f s = earlyOf g t) && decide (restsOf f s p = restsOf g t q)))
end
theorem eqv_ints : ∀ a b : List Int, PyData.eqvAll (D.pys (nI a)) (D.pys (nI b)) = decide (a = b)
  | [], [] => rfl
  | x :: a, [] => rfl
  | [], y :: b => rfl
  | x :: a, y :: b => by
    show (D.eqv (.int x) (.int y) && PyData.eqvAll (D.pys (nI a)) (D.pys (nI b))) = _
    rw [eqv_ints a b, eqv_int]
    by_cases c : x = y <;> by_cases c2 : a = b <;> simp [c, c2]
theorem eqT {a b : List Int} {p : D → Prop} (h : p (.bl (decide (a = b)))) : opEq (.tup (nI a)) (.tup (nI b)) p := by
  have sh : ∀ a : List Int, SeqAt.shaped (D.tup (nI a)).py = true := fun a => by
    show (PyData.canLayAll0 (D.pys (nI a)) && decide (PyData.depthAll (D.pys (nI a)) + 1 ≤ 64)) = true
    rw [canLay_ints, depth_ints]; rfl
  refine ⟨.inr ⟨dats_ints a, dats_ints b, sh a, sh b⟩, ?_⟩
  have e : D.eqv (.tup (nI a)) (.tup (nI b)) = decide (a = b) := eqv_ints a b
  rw [e]
  exact h
theorem s_eq {X : XD} {f g : Nat → Bool} {s p t q : Nat} {P : D → List D → Prop} (h : P (.bl (eqSz f s p g t q)) [szD f s p, szD g t q]) : F_Sizes___eq__ X [szD f s p, szD g t q] P := by
  rw [F_Sizes___eq___eq]
  unfold eqSz at h
  simp -dsimp [W_Sizes___eq__]
  refine (isc_ins (by decide) (by decide)).mpr ?_
  simp -dsimp
  by_cases c1 : s = t
  · subst c1
    by_cases c2 : p = q
    · subst c2
      simp -dsimp at h ⊢
      refine eqT ?_
      by_cases c3 : earlyOf f s = earlyOf g s
      · simp -dsimp [c3] at h ⊢
        refine eqT ?_
        simp -dsimp
        exact h
      · simp -dsimp [c3] at h ⊢
        exact h
    · have c2' : ¬ ((p : Int) = q) := by omega
      simp -dsimp [c2, c2'] at h ⊢
      exact h
  · have c1' : ¬ ((s : Int) = t) := by omega
    simp -dsimp [c1, c1'] at h ⊢
    exact h
end K47

end
section
set_option maxHeartbeats 1000000
namespace K47
open PySem PySem.Spec PyProof.Rows L2 FL SZ
def partsD (E : List Int) (s p : Nat) (R : List Int) : List D := [.lst (nI E), .int s, .int p, .lst (nI R)]
def isSq (d : D) (xs : List D) : Prop := d = .own xs ∨ d = .lst xs
section
variable {d : D} {E R : List Int} {s p : Nat} {q : D → Prop}
theorem parts_pl : (partsD E s p R).all D.pl = true := rfl
theorem isSq.kn {xs : List D} (h : isSq d xs) : d.known = true := by rcases h with e | e <;> subst e <;> rfl
theorem isSq.sq {xs : List D} (h : isSq d xs) (hp : xs.all D.pl = true) : d.sq = some xs := by
  rcases h with e | e <;> subst e
  · exact sq_own hp
  · rfl
theorem px0 (h : isSq d (partsD E s p R)) : opIx d (.int 0) q ↔ q (.lst (nI E)) := by
  rcases h with e | e <;> subst e
  · exact ix_iff (sq_own parts_pl) (atI_n (k := 0) rfl)
  · exact ix_iff rfl (atI_n (k := 0) rfl)
theorem px1 (h : isSq d (partsD E s p R)) : opIx d (.int 1) q ↔ q (.int s) := by
  rcases h with e | e <;> subst e
  · exact ix_iff (sq_own parts_pl) (atI_n (k := 1) rfl)
  · exact ix_iff rfl (atI_n (k := 1) rfl)
theorem px2 (h : isSq d (partsD E s p R)) : opIx d (.int 2) q ↔ q (.int p) := by
  rcases h with e | e <;> subst e
  · exact ix_iff (sq_own parts_pl) (atI_n (k := 2) rfl)
  · exact ix_iff rfl (atI_n (k := 2) rfl)
theorem px3 (h : isSq d (partsD E s p R)) : opIx d (.int 3) q ↔ q (.lst (nI R)) := by
  rcases h with e | e <;> subst e
  · exact ix_iff (sq_own parts_pl) (atI_n (k := 3) rfl)
  · exact ix_iff rfl (atI_n (k := 3) rfl)
end
theorem bits_congr {f g : Nat → Bool} {n : Nat} (h : ∀ m, m < n → f m = g m) : bitsB f n = bitsB g n := List.map_congr_left fun m hm => h m (List.mem_range.mp hm)
theorem bits_set {f : Nat → Bool} {n j : Nat} {b : Bool} : (nB (bitsB f n)).set j (.bl b) = nB (bitsB (fun m => if m = j then b else f m) n) := by
  refine List.ext_getElem (by simp) fun i h1 h2 => ?_
  have h3 : i < n := by simpa using h2
  rw [List.getElem_set]
  by_cases c : j = i
  · subst c; simp [bitsB]
  · have c2 : ¬ i = j := fun z => c z.symm
    simp [bitsB, c, c2]
theorem bits_false {n : Nat} : (List.range n).map (fun _ => D.bl false) = nB (bitsB (fun _ => false) n) := by simp [bitsB]
theorem rests_flags {f : Nat → Bool} {E : List Int} {s p : Nat} {R : List Int} (d : Desc f E s p R) {n : Nat} (hn : s ≤ n) : decide (((n % p : Nat) : Int) ∈ R) = f n := by
  have := d.2.2.2.2 n hn
  cases h : f n <;> simp [h] at this ⊢ <;> exact this
theorem s_bits {X : XD} {dd : D} {f : Nat → Bool} {E R : List Int} {s p far : Nat} {P : D → List D → Prop} (hd : isSq dd (partsD E s p R)) (hs : s < 1000000) (hp : p < 1000000) (hf : far < 1000000) (d : Desc f E s p R)
    (h : P (.own (nB (bitsB f far))) [dd, .int far]) : F__law_bits X [dd, .int far] P := by
  rw [F__law_bits_eq]
  have kn := hd.kn
  simp -dsimp [W__law_bits, kn, px0 hd, px1 hd, px2 hd, px3 hd]
  refine ⟨rgOk_of (by omega) (by omega), ?_⟩
  refine lc_rngY (v := fun _ => D.bl false) rfl (by unfold sizeLine; omega) (fun k hk N hN => ?_) (go ?_)
  · simp -dsimp
    simpa using hN
  rw [bits_false]
  simp -dsimp [kn, px0 hd, px1 hd, px2 hd, px3 hd]
  refine fol_inv (fun k ρ => ∃ x : D, x.pl = true ∧ ρ = [dd, .int far, .own (nB (bitsB (fun n => decide (((n : Nat) : Int) ∈ R.take k)) p)), x, .und, .und]) ⟨.und, rfl, ?_⟩ (fun k d' ρ N hd' ⟨x, hx, e⟩ hN => ?_) fun ρ ⟨x, hx, e⟩ => ?_
  · simp
  · subst e
    rw [List.getElem?_map] at hd'
    obtain ⟨i, hi, rfl⟩ := Option.map_eq_some_iff.mp hd'
    have hi2 := d.2.2.1 i (List.mem_of_getElem? hi)
    simp -dsimp [kn]
    refine ⟨i.toNat, ixN_of (by omega) (by first | omega | (simp; omega)), hN _ ⟨.int i, rfl, ?_⟩⟩
    rw [bits_set]
    have e3 : bitsB (fun m => if m = i.toNat then true else decide (((m : Nat) : Int) ∈ R.take k)) p = bitsB (fun n => decide (((n : Nat) : Int) ∈ R.take (k + 1))) p := bits_congr fun m hm => by
      have ht : R.take (k + 1) = R.take k ++ [i] := by rw [List.take_succ, hi]; rfl
      rw [ht]
      by_cases c : m = i.toNat
      · have : (m : Int) = i := by omega
        simp [c, this]
        right; omega
      · have : ¬ (m : Int) = i := by omega
        simp [c, this]
    rw [e3]
  subst e
  have t1 : R.take (nI R).length = R := by rw [List.length_map, List.take_length]
  rw [t1]
  simp -dsimp [kn, px0 hd, px1 hd, px2 hd, px3 hd]
  refine ⟨rgOk_of (by omega) (by omega), ?_⟩
  refine lc_rngY (v := fun _ => D.bl false) rfl (by unfold sizeLine; omega) (fun k hk N hN => ?_) (go ?_)
  · simp -dsimp
    simpa using hN
  rw [bits_false]
  simp -dsimp [kn, px0 hd, px1 hd, px2 hd, px3 hd]
  refine fol_inv (fun k ρ => ∃ x y : D, ρ = [dd, .int far, .own (nB (bitsB (fun n => decide (((n : Nat) : Int) ∈ R)) p)), x, .own (nB (bitsB (fun n => decide (((n : Nat) : Int) ∈ E.take k)) far)), y]) ⟨x, .und, ?_⟩ (fun k d' ρ N hd' ⟨x, y, e⟩ hN => ?_) fun ρ ⟨x, y, e⟩ => ?_
  · simp
  · subst e
    rw [List.getElem?_map] at hd'
    obtain ⟨i, hi, rfl⟩ := Option.map_eq_some_iff.mp hd'
    have hi2 := d.2.1 i (List.mem_of_getElem? hi)
    have ht : E.take (k + 1) = E.take k ++ [i] := by rw [List.take_succ, hi]; rfl
    by_cases c : i < far
    · simp -dsimp [kn, c]
      refine ⟨i.toNat, ixN_of (by omega) (by first | omega | (simp; omega)), hN _ ⟨x, .int i, ?_⟩⟩
      rw [bits_set]
      have e3 : bitsB (fun m => if m = i.toNat then true else decide (((m : Nat) : Int) ∈ E.take k)) far = bitsB (fun n => decide (((n : Nat) : Int) ∈ E.take (k + 1))) far := bits_congr fun m hm => by
        rw [ht]
        by_cases c : m = i.toNat
        · have : (m : Int) = i := by omega
          simp [c, this]
          right; omega
        · have : ¬ (m : Int) = i := by omega
          simp [c, this]
      rw [e3]
    · simp -dsimp [kn, c]
      refine hN _ ⟨x, .int i, ?_⟩
      have e3 : bitsB (fun n => decide (((n : Nat) : Int) ∈ E.take (k + 1))) far = bitsB (fun n => decide (((n : Nat) : Int) ∈ E.take k)) far := bits_congr fun m hm => by
        rw [ht]
        have : ¬ (m : Int) = i := by omega
        simp [this]
      rw [e3]
  subst e
  have t2 : E.take (nI E).length = E := by rw [List.length_map, List.take_length]
  rw [t2]
  simp -dsimp [kn, px0 hd, px1 hd, px2 hd, px3 hd]
  refine ⟨_, _, ⟨rfl, rfl⟩, rgOk_of (by omega) (by omega), rgOk_of (by omega) (by omega), ?_⟩
  have e4 : bitsB (fun n => decide (((n : Nat) : Int) ∈ E)) far = bitsB (fun n => decide (n < s + 0) && f n) far := bits_congr fun m hm => by
    by_cases c : m < s
    · have := d.2.2.2.1 m c
      cases h : f m <;> simp [h, c] at this ⊢ <;> exact this
    · have : ¬ ((m : Int) ∈ E) := fun z => by have := d.2.1 _ z; omega
      simp [c, this]
  rw [e4]
  refine for_inv (fun k ρ => ∃ y : D, ρ = [dd, .int far, .own (nB (bitsB (fun n => decide (((n : Nat) : Int) ∈ R)) p)), x, .own (nB (bitsB (fun n => decide (n < s + k) && f n) far)), y]) ⟨y, rfl⟩ (fun k ρ N hk ⟨y, e⟩ hN => ?_) fun ρ ⟨y, e⟩ => ?_
  · subst e
    have hp0 := d.1
    simp -dsimp [kn, px0 hd, px1 hd, px2 hd, px3 hd]
    refine ⟨hp0, ?_⟩
    have e5 : ((s : Int) + k) % p = (((s + k) % p : Nat) : Int) := by rw [Int.natCast_emod, Int.natCast_add]
    have hm := Nat.mod_lt (s + k) hp0
    rw [e5]
    refine bits_ix (by omega) (by omega) ?_
    have e6 := rests_flags d (n := s + k) (by omega)
    have e8 : decide ((((((s + k) % p : Nat) : Int).toNat : Nat) : Int) ∈ R) = f (s + k) := by rw [Int.toNat_natCast]; exact e6
    rw [e8]
    simp -dsimp [kn]
    refine ⟨s + k, by rw [show (s : Int) + k = ((s + k : Nat) : Int) by omega, ixN_of (by omega) (by omega)]; rfl, hN _ ⟨.int ((s : Int) + k), ?_⟩⟩
    rw [bits_set]
    have e3 : bitsB (fun m => if m = s + k then f (s + k) else decide (m < s + k) && f m) far = bitsB (fun n => decide (n < s + (k + 1)) && f n) far := bits_congr fun m hm => by
      by_cases c : m = s + k
      · subst c
        rw [if_pos rfl, decide_eq_true (show s + k < s + (k + 1) by omega)]
        rfl
      · rw [if_neg c]
        have : decide (m < s + k) = decide (m < s + (k + 1)) := decide_eq_decide.mpr (by omega)
        rw [this]
    rw [e3]
  subst e
  have e7 : bitsB (fun n => decide (n < s + ((far : Int) - s).toNat) && f n) far = bitsB f far := bits_congr fun m hm => by
    have : m < s + ((far : Int) - s).toNat := by omega
    rw [decide_eq_true this]
    rfl
  rw [e7]
  simp -dsimp [kn]
  exact h
end K47

end
section
set_option maxHeartbeats 1000000
namespace K47
open PySem PySem.Spec PyProof.Rows L2 FL SZ
theorem eqv_bls : ∀ a b : List Bool, PyData.eqvAll (D.pys (nB a)) (D.pys (nB b)) = decide (a = b)
  | [], [] => rfl
  | x :: a, [] => rfl
  | [], y :: b => rfl
  | x :: a, y :: b => by
    show (D.eqv (.bl x) (.bl y) && PyData.eqvAll (D.pys (nB a)) (D.pys (nB b))) = _
    rw [eqv_bls a b, eqv_bl]
    by_cases c : x = y <;> by_cases c2 : a = b <;> simp [c, c2]
theorem shB (a : List Bool) : SeqAt.shaped (D.own (nB a)).py = true := by
  show (PyData.canLayAll0 (D.pys (nB a)) && decide (PyData.depthAll (D.pys (nB a)) + 1 ≤ 64)) = true
  rw [canLay_bls, depth_bls]; rfl
theorem eqB {a b : List Bool} {p : D → Prop} (h : p (.bl (decide (a = b)))) : opEq (.own (nB a)) (.own (nB b)) p := by
  refine ⟨.inr ⟨dats_bls a, dats_bls b, shB a, shB b⟩, ?_⟩
  have e : D.eqv (.own (nB a)) (.own (nB b)) = decide (a = b) := eqv_bls a b
  rw [e]
  exact h
theorem rot_iff {f : Nat → Bool} {s p k : Nat} (hk : k ≤ p) : ((turnB f s p).drop k ++ (turnB f s p).take k = turnB f s p) ↔ ∀ i, i < p → f (s + (i + k) % p) = f (s + i) := by
  have len : ((turnB f s p).drop k ++ (turnB f s p).take k).length = p := by simp [turn_len]; omega
  have val : ∀ i, i < p → ((turnB f s p).drop k ++ (turnB f s p).take k)[i]? = some (f (s + (i + k) % p)) := fun i hi => by
    by_cases c : i < p - k
    · rw [List.getElem?_append_left (by simp [turn_len]; omega), List.getElem?_drop, turn_get (by omega)]
      have : (i + k) % p = k + i := by rw [Nat.mod_eq_of_lt (by omega)]; omega
      rw [this]
    · rw [List.getElem?_append_right (by simp [turn_len]; omega)]
      have e1 : i - ((turnB f s p).drop k).length = i + k - p := by simp [turn_len]; omega
      rw [e1, List.getElem?_take, if_pos (by omega), turn_get (by omega)]
      have : (i + k) % p = i + k - p := by rw [Nat.mod_eq_sub_mod (by omega), Nat.mod_eq_of_lt (by omega)]
      rw [this]
  constructor
  · intro h i hi
    have a := val i hi
    rw [h, turn_get hi] at a
    exact (Option.some.inj a).symm
  · intro h
    refine List.ext_getElem? fun i => ?_
    by_cases c : i < p
    · rw [val i c, turn_get c, h i c]
    · rw [List.getElem?_eq_none (by omega), List.getElem?_eq_none (by rw [turn_len]; omega)]
theorem s_least_form {X : XD} {f : Nat → Bool} {s p n : Nat} {P : D → List D → Prop} (hs : s < 100000) (hp0 : 0 < p) (hp : p < 100000) (hn : s + p ≤ n) (hn2 : n < 1000000) (per : Per f p s)
    (h : ∀ s0 p0, SZ.Canon f s0 p0 → s0 ≤ s → p0 ∣ p → P (.own (partsD (earlyOf f s0) s0 p0 (restsOf f s0 p0))) [.own (nB (bitsB f n)), .int s, .int p]) : F__law_least_form X [.own (nB (bitsB f n)), .int s, .int p] P := by
  rw [F__law_least_form_eq]
  simp -dsimp [W__law_least_form]
  refine sl_own (nB_pl _) ?_
  have tail : cutD (nB (bitsB f n)) (some (s : Int)) (some ((s : Int) + p)) = nB (turnB f s p) := by
    rw [cut_mid (by omega) (by simp; omega) (by omega) (by simp; omega)]
    refine List.ext_getElem? fun i => ?_
    rw [List.getElem?_take]
    by_cases c : i < p
    · rw [if_pos (by omega), List.getElem?_drop, nB_get (turn_get c), nB_get (bits_get (by omega))]
      simp
    · rw [if_neg (by omega), List.getElem?_eq_none (by simp [turn_len]; omega)]
  rw [tail]
  simp -dsimp
  refine ⟨_, _, ⟨rfl, rfl⟩, rgOk_of (by omega) (by omega), rgOk_of (by omega) (by omega), ?_⟩
  have cut1 : ∀ k : Nat, k ≤ p → cutD (nB (turnB f s p)) (some (k : Int)) none = nB ((turnB f s p).drop k) := fun k hk => by
    rw [cut_drop (by omega) (by simp [turn_len]; omega), Int.toNat_natCast]
    show List.drop k (List.map D.bl _) = List.map D.bl (List.drop k _)
    simp only [List.map_drop]
  have cut2 : ∀ k : Nat, k ≤ p → cutD (nB (turnB f s p)) none (some (k : Int)) = nB ((turnB f s p).take k) := fun k hk => by
    rw [cut_take (by omega) (by simp [turn_len]; omega), Int.toNat_natCast]
    show List.take k (List.map D.bl _) = List.map D.bl (List.take k _)
    simp only [List.map_take]
  have e1 : ((p : Int) + 1 - 1).toNat = p := by omega
  rw [e1]
  refine for_brk (fun k ρ => (∀ g : Nat, 0 < g → g ≤ k → ¬ Per f g s) ∧ ∃ st x : D, x.pl = true ∧ ρ = [.own (nB (bitsB f n)), .int s, .int p, .own (nB (turnB f s p)), st, x, .und, .und, .und, .und])
    (fun ρ => ∃ (q : Nat) (x : D), 0 < q ∧ q ≤ p ∧ Per f q s ∧ (∀ g : Nat, 0 < g → g < q → ¬ Per f g s) ∧ x.pl = true ∧ ρ = [.own (nB (bitsB f n)), .int s, .int p, .own (nB (turnB f s p)), .int q, x, .und, .und, .und, .und])
    ⟨fun g h1 h2 => by omega, _, .und, rfl, rfl⟩ (fun k ρ N B hk ⟨hno, st, x, hx, e⟩ hN hB => ?_) (fun ρ ⟨hno, _⟩ => absurd per (hno p hp0 (Nat.le_refl _))) ?_
  · subst e
    obtain ⟨k1, hk1, ek⟩ : ∃ k1 : Nat, k1 = k + 1 ∧ (1 : Int) + k = k1 := ⟨k + 1, rfl, by omega⟩
    obtain ⟨A, hA⟩ : ∃ A, A = (turnB f s p).drop k1 := ⟨_, rfl⟩
    obtain ⟨A2, hA2⟩ : ∃ A, A = (turnB f s p).take k1 := ⟨_, rfl⟩
    obtain ⟨C, hC⟩ : ∃ C, C = A ++ A2 := ⟨_, rfl⟩
    have hC2 : nB A ++ nB A2 = nB C := by rw [hC]; exact (List.map_append).symm
    simp -dsimp
    rw [ek]
    refine sl_own (nB_pl _) ?_
    rw [cut1 k1 (by omega), ← hA]
    simp -dsimp
    refine sl_own (nB_pl _) ?_
    rw [cut2 k1 (by omega), ← hA2]
    simp -dsimp
    refine addL (nB_pl _) (nB_pl _) (by rw [hA, hA2]; simp [turn_len]; unfold sizeLine; omega) ?_
    rw [hC2]
    simp -dsimp
    refine eqB ?_
    rw [hC, hA, hA2]
    by_cases c : (turnB f s p).drop k1 ++ (turnB f s p).take k1 = turnB f s p
    · rw [decide_eq_true c]
      simp -dsimp
      refine hB _ ⟨k1, .int k1, by omega, by omega, per_of_rot hp0 per ((rot_iff (by omega)).mp c), fun g h1 h2 => hno g h1 (by omega), rfl, rfl⟩
    · rw [decide_eq_false c]
      simp -dsimp
      refine hN _ ⟨fun g h1 h2 => ?_, _, .int k1, rfl, rfl⟩
      by_cases z : g = k1
      · subst z
        exact fun y => c ((rot_iff (by omega)).mpr fun i hi => rot_of_per per y i)
      · exact hno g h1 (by omega)
  rintro ρ ⟨q, x, hq, hqp, perq, hno, hx, rfl⟩
  have hmin : ∀ r N, 0 < r → Per f r N → q ≤ r := fun r N hr hN => by
    have g1 := gcd_per hp0 per hN
    have g2 : 0 < Nat.gcd p r := Nat.gcd_pos_of_pos_left _ hp0
    have g3 : Nat.gcd p r ≤ r := Nat.le_of_dvd hr (Nat.gcd_dvd_right p r)
    rcases Nat.lt_or_ge (Nat.gcd p r) q with z | z
    · exact absurd g1 (hno _ g2 z)
    · omega
  simp -dsimp
  refine ⟨rgOk_of (by omega) (by omega), ?_⟩
  refine for_brk (fun k ρ => Per f q (s - k) ∧ ∃ x : D, x.pl = true ∧ ρ = [.own (nB (bitsB f n)), .int s, .int p, .own (nB (turnB f s p)), .int q, x, .int ((s - k : Nat) : Int), .und, .und, .und])
    (fun ρ => ∃ (s0 : Nat) (x : D), s0 ≤ s ∧ Per f q s0 ∧ (s0 = 0 ∨ f (s0 - 1 + q) ≠ f (s0 - 1)) ∧ x.pl = true ∧ ρ = [.own (nB (bitsB f n)), .int s, .int p, .own (nB (turnB f s p)), .int q, x, .int s0, .und, .und, .und])
    ⟨by simpa using perq, x, hx, by simp⟩ (fun k ρ N B hk ⟨per0, x, hx, e⟩ hN hB => ?_) (fun ρ ⟨per0, x, hx, e⟩ => ⟨0, x, by omega, by simpa using per0, .inl rfl, hx, by rw [e]; simp⟩) ?_
  · subst e
    obtain ⟨m, hm, hm0⟩ : ∃ m : Nat, m = s - k ∧ 0 < m := ⟨_, rfl, by omega⟩
    rw [← hm] at per0 ⊢
    have b1 : ((m : Int) - 1).toNat = m - 1 := by omega
    have b2 : ((m : Int) - 1 + q).toNat = m - 1 + q := by omega
    simp -dsimp
    refine bits_ix (by omega) (by omega) ?_
    simp -dsimp
    refine bits_ix (by omega) (by omega) ?_
    simp -dsimp
    rw [b2]
    by_cases e : f (m - 1) = f (m - 1 + q)
    · simp -dsimp [e]
      have e2 : (m : Int) - 1 = ((s - (k + 1) : Nat) : Int) := by omega
      rw [e2]
      refine hN _ ⟨fun j hj => ?_, _, rfl, rfl⟩
      by_cases z : j = m - 1
      · subst z; exact e.symm
      · exact per0 j (by omega)
    · simp -dsimp [e]
      exact hB _ ⟨m, _, by omega, per0, .inr fun z => e z.symm, rfl, rfl⟩
  rintro ρ ⟨s0, x, hs0, per0, hls, hx, rfl⟩
  have can : SZ.Canon f s0 q := ⟨hq, per0, hmin, hls⟩
  simp -dsimp
  refine ⟨rgOk_of (by omega) (by omega), ?_⟩
  refine lc_rng (b := f) (v := fun k => D.int k) rfl (by unfold sizeLine; omega) (fun k hk T hT => ?_) (fun k hk hb N hN => ?_) (go ?_)
  · simp -dsimp
    refine bits_ix (by omega) (by omega) ?_
    simp -dsimp
    simpa using hT
  · simp -dsimp
    simpa using hN
  have e8 : ((List.range s0).filter f).map (fun k : Nat => D.int k) = nI (earlyOf f s0) := by simp [earlyOf]
  rw [e8]
  simp -dsimp
  refine ⟨_, _, ⟨rfl, rfl⟩, rgOk_of (by omega) (by omega), rgOk_of (by omega) (by omega), ?_⟩
  have e9 : ((s0 : Int) + q - s0).toNat = q := by omega
  rw [e9]
  refine lc_rng (b := fun k => f (s0 + k)) (v := fun k => D.int (((s0 + k) % q : Nat) : Int)) rfl (by unfold sizeLine; omega) (fun k hk T hT => ?_) (fun k hk hb N hN => ?_) (go ?_)
  · simp -dsimp
    refine bits_ix (by omega) (by omega) ?_
    simp -dsimp
    have e10 : ((s0 : Int) + k).toNat = s0 + k := by omega
    rw [e10]
    exact hT
  · simp -dsimp
    refine ⟨by omega, ?_⟩
    have e4 : ((s0 : Int) + k) % q = (((s0 + k) % q : Nat) : Int) := by rw [Int.natCast_emod, Int.natCast_add]
    rw [e4]
    exact hN
  have e11 : ((List.range q).filter fun k => f (s0 + k)).map (fun k : Nat => D.int (((s0 + k) % q : Nat) : Int)) = nI (lateOf f s0 q) := by
    unfold lateOf
    rw [List.range'_eq_map_range, List.filter_map, List.map_map]
    show _ = List.map D.int (List.map _ _)
    rw [List.map_map]
    rfl
  rw [e11]
  simp -dsimp
  refine .inl ⟨lateOf f s0 q, if_pos (nI_pl _), fun ms h1 h2 => ?_⟩
  have e12 := srt_eq h1 h2
  subst e12
  simp -dsimp [sizeLine]
  exact h s0 q can hs0 (can.dvd hp0 per)
end K47

end
section
set_option maxHeartbeats 1000000
namespace K47
open PySem PySem.Spec PyProof.Rows L2 FL SZ
/-- the fields in least form -/
abbrev canD (f : Nat → Bool) (s p : Nat) : List D := partsD (earlyOf f s) s p (restsOf f s p)
theorem lcm_first {p q k : Nat} (hp : 0 < p) (hq : 0 < q) (hk : 0 < k) (h : q ∣ p * k) (hno : ∀ j, 0 < j → j < k → ¬ q ∣ p * j) : p * k = Nat.lcm p q := by
  have h1 : Nat.lcm p q ∣ p * k := Nat.lcm_dvd (Nat.dvd_mul_right p k) h
  obtain ⟨j, hj⟩ := Nat.dvd_lcm_left p q
  have lp : 0 < Nat.lcm p q := Nat.lcm_pos hp hq
  have hj0 : 0 < j := by
    rcases Nat.eq_zero_or_pos j with z | z
    · subst z; omega
    · exact z
  have h2 : q ∣ p * j := by rw [← hj]; exact Nat.dvd_lcm_right p q
  have h3 : k ≤ j := by
    rcases Nat.lt_or_ge j k with z | z
    · exact absurd h2 (hno j hj0 z)
    · exact z
  have h4 : p * k ≤ p * j := Nat.mul_le_mul_left p h3
  rw [← hj] at h4
  exact Nat.le_antisymm h4 (Nat.le_of_dvd (Nat.mul_pos hp hk) h1)
theorem s_lcm {X : XD} {p q : Nat} {P : D → List D → Prop} (hp : 0 < p) (hq : 0 < q) (hp2 : p ≤ 100000) (hq2 : q ≤ 100000) (h : P (.int ((Nat.lcm p q : Nat) : Int)) [.int p, .int q]) : F__law_lcm X [.int p, .int q] P := by
  rw [F__law_lcm_eq]
  simp -dsimp [W__law_lcm]
  refine ⟨_, _, ⟨rfl, rfl⟩, rgOk_of (by omega) (by omega), rgOk_of (by omega) (by omega), ?_⟩
  have e1 : ((q : Int) + 1 - 1).toNat = q := by omega
  rw [e1]
  refine for_inv (fun k ρ => (∀ j : Nat, 0 < j → j < k + 1 → ¬ q ∣ p * j) ∧ ∃ x : D, ρ = [.int p, .int q, x]) ⟨fun j h1 h2 => by omega, _, rfl⟩ (fun k ρ N hk ⟨hno, x, e⟩ hN => ?_) fun ρ ⟨hno, _⟩ => absurd (Nat.dvd_mul_left q p) (hno q hq (by omega))
  subst e
  obtain ⟨k1, hk1, ek⟩ : ∃ k1 : Nat, k1 = k + 1 ∧ (1 : Int) + k = k1 := ⟨k + 1, rfl, by omega⟩
  have em : ((p : Int) * (k1 : Int)) = ((p * k1 : Nat) : Int) := (Int.natCast_mul p k1).symm
  have w : CMulW (p : Int) (k1 : Int) := cmulW (bits_up (j := 64) (by omega) (by decide)) (bits_up (j := 64) (by omega) (by decide))
  rw [ek]
  simp -dsimp [w]
  refine ⟨by omega, ?_⟩
  by_cases c : q ∣ p * k1
  · have c2 : ((p : Int) * (k1 : Int)) % (q : Int) = 0 := by
      rw [em]
      have := Nat.mod_eq_zero_of_dvd c
      omega
    simp -dsimp [c2, w]
    rw [em, lcm_first hp hq (by omega) c fun j h1 h2 => hno j h1 (by omega)]
    exact h
  · have c2 : ¬ ((p : Int) * (k1 : Int)) % (q : Int) = 0 := fun z => by
      rw [em] at z
      exact c (Nat.dvd_of_mod_eq_zero (by omega))
    simp -dsimp [c2]
    refine hN _ ⟨fun j h1 h2 => ?_, _, rfl⟩
    by_cases z : j = k1
    · subst z; exact c
    · exact hno j h1 (by omega)
theorem s_fields {X : XD} {dd : D} {f : Nat → Bool} {E R : List Int} {s p : Nat} {P : D → List D → Prop} (hd : isSq dd (partsD E s p R)) (hs : s ≤ 4000) (hp : p ≤ 4000) (d : Desc f E s p R)
    (h : ∀ s0 p0, SZ.Canon f s0 p0 → s0 ≤ s → p0 ∣ p → P (.own (canD f s0 p0)) [dd]) : F__law_fields X [dd] P := by
  have kn := hd.kn
  rw [F__law_fields_eq]
  rcases hd with e | e <;> subst e
  · have hd : isSq (.own (partsD E s p R)) (partsD E s p R) := .inl rfl
    simp -dsimp [W__law_fields, px1 hd, px2 hd]
    refine s_bits (far := s + p) hd (by omega) (by omega) (by omega) d (go ?_)
    simp -dsimp [px1 hd, px2 hd]
    refine s_least_form (n := s + p) (by omega) d.1 (by omega) (Nat.le_refl _) (by omega) d.per (fun s0 p0 can h1 h2 => go ?_)
    simp -dsimp
    exact h s0 p0 can h1 h2
  · have hd : isSq (.lst (partsD E s p R)) (partsD E s p R) := .inr rfl
    simp -dsimp [W__law_fields, px1 hd, px2 hd]
    refine s_bits (far := s + p) hd (by omega) (by omega) (by omega) d (go ?_)
    simp -dsimp [px1 hd, px2 hd]
    refine s_least_form (n := s + p) (by omega) d.1 (by omega) (Nat.le_refl _) (by omega) d.per (fun s0 p0 can h1 h2 => go ?_)
    simp -dsimp
    exact h s0 p0 can h1 h2
theorem whole_ok {X : XD} {i : Int} {P : D → List D → Prop} (h : P (.bl true) [.int i]) : F__law_whole X [.int i] P := by
  rw [F__law_whole_eq]
  simp -dsimp [W__law_whole]
  exact h
theorem s_told {X : XD} {f : Nat → Bool} {s p : Nat} {P : D → List D → Prop} (hs : s ≤ 4000) (hp : p ≤ 4000) (h : P (.own (canD f s p)) [szD f s p]) : F__law_told X [szD f s p] P := by
  have l1 := len_early (f := f) (s := s)
  have l2 := len_rests (f := f) (s := s) (p := p)
  rw [F__law_told_eq]
  simp -dsimp [W__law_told]
  refine (isc_ins (by decide) (by decide)).mpr ?_
  simp -dsimp [sizeLine]
  have a1 : (nI (earlyOf f s)).length + (nI (restsOf f s p)).length ≤ sizeLine := by simp; unfold sizeLine; omega
  have a2 : (nI (earlyOf f s) ++ nI (restsOf f s p)).length + 2 ≤ sizeLine := by simp; unfold sizeLine; omega
  refine (addT a1).mpr ?_
  simp -dsimp [sizeLine]
  refine (addT a2).mpr ?_
  simp -dsimp
  have e : nI (earlyOf f s) ++ (nI (restsOf f s p) ++ [.int s, .int p]) = nI (earlyOf f s ++ (restsOf f s p ++ [(s : Int), (p : Int)])) := by simp
  rw [e]
  refine fol_inv (fun k ρ => ∃ x : D, ρ = [szD f s p, x]) ⟨_, rfl⟩ (fun k d ρ N hd ⟨x, e⟩ hN => ?_) fun ρ ⟨x, e⟩ => ?_
  · subst e
    rw [List.getElem?_map] at hd
    obtain ⟨i, hi, rfl⟩ := Option.map_eq_some_iff.mp hd
    simp -dsimp
    refine whole_ok (go ?_)
    simp -dsimp
    exact hN _ ⟨_, rfl⟩
  · subst e
    simp -dsimp [sizeLine]
    exact h
theorem eqSz_symm {f g : Nat → Bool} {s p t q : Nat} : eqSz g t q f s p = eqSz f s p g t q := by
  unfold eqSz
  have a {α : Type} [DecidableEq α] (x y : α) : decide (x = y) = decide (y = x) := decide_eq_decide.mpr ⟨Eq.symm, Eq.symm⟩
  rw [a t s, a q p, a (earlyOf g t), a (restsOf g t q)]
theorem eqLO {a b : List Bool} {p : D → Prop} (h : p (.bl (decide (a = b)))) : opEq (.lst (nB a)) (.own (nB b)) p := by
  refine ⟨.inr ⟨dats_bls a, dats_bls b, shB a, shB b⟩, ?_⟩
  have e : D.eqv (.lst (nB a)) (.own (nB b)) = decide (a = b) := eqv_bls a b
  rw [e]
  exact h
theorem s_equal {X : XD} {f g : Nat → Bool} {s p t q : Nat} {due : Bool} {P : D → List D → Prop} (h : P (.bl (decide (eqSz f s p g t q = due))) [szD f s p, szD g t q, .bl due]) : F__law_equal X [szD f s p, szD g t q, .bl due] P := by
  rw [F__law_equal_eq]
  simp -dsimp [W__law_equal]
  refine s_eq (go ?_)
  simp -dsimp
  refine s_eq (go ?_)
  simp -dsimp
  refine s_eq (go ?_)
  simp -dsimp
  refine s_eq (go ?_)
  rw [eqSz_symm]
  generalize eqSz f s p g t q = e at h ⊢
  simp -dsimp [sizeLine]
  refine fol_inv (fun k ρ => ∃ x : D, ρ = [szD f s p, szD g t q, .bl due, .lst [.bl e, .bl e, .bl (!e), .bl (!e)], x]) ⟨_, rfl⟩ (fun k d ρ N hd ⟨x, e1⟩ hN => ?_) fun ρ ⟨x, e1⟩ => ?_
  · subst e1
    have hb : ∃ b, d = .bl b := by
      have := List.mem_of_getElem? hd
      simp only [List.mem_cons, List.not_mem_nil, or_false] at this
      rcases this with z | z | z | z <;> exact ⟨_, z⟩
    obtain ⟨b, rfl⟩ := hb
    cases b <;> simp -dsimp <;> exact hN _ ⟨_, rfl⟩
  · subst e1
    simp -dsimp [sizeLine]
    refine eqLO (a := [e, e, !e, !e]) (b := [due, due, !due, !due]) ?_
    simp -dsimp
    have : decide ([e, e, !e, !e] = [due, due, !due, !due]) = decide (e = due) := by cases e <;> cases due <;> rfl
    rw [this] at *
    first
      | exact h
      | simpa using h
end K47

end
section
set_option maxHeartbeats 1000000
namespace K47
open PySem PySem.Spec PyProof.Rows L2 FL SZ
theorem s_member {X : XD} {dd : D} {f : Nat → Bool} {E R : List Int} {s p : Nat} {x : Int} {P : D → List D → Prop} (hd : isSq dd (partsD E s p R)) (d : Desc f E s p R) (h : P (.bl (memD f x)) [dd, .int x]) : F__law_member X [dd, .int x] P := by
  have kn := hd.kn
  have main : ∀ dd' : D, dd' = dd.sh ∨ dd' = dd → True := fun _ _ => trivial
  rw [F__law_member_eq]
  by_cases c : x < s
  · have e : decide (x ∈ E) = memD f x := by
      unfold memD
      by_cases c0 : x < 0
      · rw [if_pos c0]
        exact decide_eq_false fun z => by have := d.2.1 x z; omega
      · rw [if_neg c0]
        have := d.2.2.2.1 x.toNat (by omega)
        rw [Int.toNat_of_nonneg (by omega)] at this
        cases h : f x.toNat <;> simp [h] at this ⊢ <;> exact this
    rcases hd with z | z <;> subst z
    · have hd : isSq (.own (partsD E s p R)) (partsD E s p R) := .inl rfl
      simp -dsimp [W__law_member, px0 hd, px1 hd, c]
      refine inI_lst ?_
      rw [e]
      simp -dsimp
      exact h
    · have hd : isSq (.lst (partsD E s p R)) (partsD E s p R) := .inr rfl
      simp -dsimp [W__law_member, px0 hd, px1 hd, c]
      refine inI_lst ?_
      rw [e]
      simp -dsimp
      exact h
  · have e : decide (x % p ∈ R) = memD f x := by
      unfold memD
      rw [if_neg (by omega)]
      have e2 : x % p = ((x.toNat % p : Nat) : Int) := by
        rw [Int.natCast_emod, Int.toNat_of_nonneg (by omega)]
      rw [e2]
      exact rests_flags d (by omega)
    have hp0 := d.1
    rcases hd with z | z <;> subst z
    · have hd : isSq (.own (partsD E s p R)) (partsD E s p R) := .inl rfl
      simp -dsimp [W__law_member, px1 hd, px2 hd, px3 hd, c]
      refine ⟨by omega, inI_lst ?_⟩
      rw [e]
      simp -dsimp
      exact h
    · have hd : isSq (.lst (partsD E s p R)) (partsD E s p R) := .inr rfl
      simp -dsimp [W__law_member, px1 hd, px2 hd, px3 hd, c]
      refine ⟨by omega, inI_lst ?_⟩
      rw [e]
      simp -dsimp
      exact h
/-- what the deed makes -/
def opF (deed : Nat) (f g : Nat → Bool) : Nat → Bool := if deed = 0 then fun n => f n || g n else if deed = 1 then fun n => f n && g n else if deed = 2 then fun n => f n && !g n else fun n => !f n
theorem per_opF {deed : Nat} {f g : Nat → Bool} {p q s t : Nat} (hf : Per f p s) (hg : Per g q t) : Per (opF deed f g) (Nat.lcm p q) (max s t) := by
  unfold opF
  split
  · exact per_op (fun a b => a || b) hf hg
  split
  · exact per_op (fun a b => a && b) hf hg
  split
  · exact per_op (fun a b => a && !b) hf hg
  · exact per_not (per_lcm hf (Nat.dvd_lcm_left p q) (Nat.le_max_left s t))
end K47

end
section
set_option maxHeartbeats 1000000
namespace K47
open PySem PySem.Spec PyProof.Rows L2 FL SZ
theorem max_int {s t : Nat} : (if (t : Int) > (s : Int) then (t : Int) else s) = ((max s t : Nat) : Int) := by split <;> omega
theorem s_joined {X : XD} {f g : Nat → Bool} {E R E2 R2 : List Int} {s p t q deed : Nat} {P : D → List D → Prop} (hdd : deed < 4) (hp2 : p ≤ 2000) (hq2 : q ≤ 2000) (hs : s ≤ 2000) (ht : t ≤ 2000) (hl : Nat.lcm p q ≤ 2000) (d : Desc f E s p R) (d2 : Desc g E2 t q R2)
    (h : ∀ s0 p0, SZ.Canon (opF deed f g) s0 p0 → s0 ≤ max s t → p0 ∣ Nat.lcm p q → P (.own (canD (opF deed f g) s0 p0)) [.int deed, .lst (partsD E s p R), .lst (partsD E2 t q R2)]) : F__law_joined X [.int deed, .lst (partsD E s p R), .lst (partsD E2 t q R2)] P := by
  have lp : 0 < Nat.lcm p q := Nat.lcm_pos d.1 d2.1
  have h1 : isSq (.lst (partsD E s p R)) (partsD E s p R) := .inr rfl
  have h2 : isSq (.lst (partsD E2 t q R2)) (partsD E2 t q R2) := .inr rfl
  have perO : Per (opF deed f g) (Nat.lcm p q) (max s t) := per_opF d.per d2.per
  obtain ⟨st, hst⟩ : ∃ st, max s t = st := ⟨_, rfl⟩
  obtain ⟨pe, hpe⟩ : ∃ pe, Nat.lcm p q = pe := ⟨_, rfl⟩
  rw [hst, hpe] at h perO
  rw [hpe] at lp hl
  obtain ⟨far, hfar⟩ : ∃ far, far = st + pe := ⟨_, rfl⟩
  have hst2 : st ≤ 2000 := by omega
  have efar : (st : Int) + (pe : Int) = (far : Int) := by omega
  have fin : ∀ (Q : D → List D → Prop) (X : XD), (∀ s0 p0, SZ.Canon (opF deed f g) s0 p0 → s0 ≤ st → p0 ∣ pe → Q (.own (canD (opF deed f g) s0 p0)) [.own (nB (bitsB (opF deed f g) far)), .int st, .int pe]) →
      F__law_least_form X [.own (nB (bitsB (opF deed f g) far)), .int st, .int pe] Q := fun Q X hQ =>
    s_least_form (by omega) lp (by omega) (by omega) (by omega) perO hQ
  rw [F__law_joined_eq]
  simp -dsimp [W__law_joined, px1 h1, px1 h2]
  rw [max_int, hst]
  simp -dsimp [px2 h1, px2 h2]
  refine s_lcm d.1 d2.1 (by omega) (by omega) (go ?_)
  rw [hpe]
  simp -dsimp
  rw [efar]
  refine s_bits (far := far) h1 (by omega) (by omega) (by omega) d (go ?_)
  simp -dsimp
  rw [efar]
  refine s_bits (far := far) h2 (by omega) (by omega) (by omega) d2 (go ?_)
  rcases (show deed = 0 ∨ deed = 1 ∨ deed = 2 ∨ deed = 3 by omega) with z | z | z | z <;> subst z
  · simp -dsimp
    refine ⟨rgOk_of (by omega) (by omega), ?_⟩
    refine lc_rngY (v := fun n => D.bl (f n || g n)) rfl (by unfold sizeLine; omega) (fun k hk N hN => ?_) (go ?_)
    · simp -dsimp
      refine bits_ix (by omega) (by omega) ?_
      simp -dsimp
      cases c : f k with
      | true =>
        simp -dsimp
        simpa [c] using hN
      | false =>
        simp -dsimp
        refine bits_ix (by omega) (by omega) ?_
        simp -dsimp
        simpa [c] using hN
    · rw [bits_map (f := fun n => f n || g n)]
      simp -dsimp
      refine fin _ _ (fun s0 p0 can a b => go ?_)
      simp -dsimp
      exact h s0 p0 can a b
  · simp -dsimp
    refine ⟨rgOk_of (by omega) (by omega), ?_⟩
    refine lc_rngY (v := fun n => D.bl (f n && g n)) rfl (by unfold sizeLine; omega) (fun k hk N hN => ?_) (go ?_)
    · simp -dsimp
      refine bits_ix (by omega) (by omega) ?_
      simp -dsimp
      cases c : f k with
      | false =>
        simp -dsimp
        simpa [c] using hN
      | true =>
        simp -dsimp
        refine bits_ix (by omega) (by omega) ?_
        simp -dsimp
        simpa [c] using hN
    · rw [bits_map (f := fun n => f n && g n)]
      simp -dsimp
      refine fin _ _ (fun s0 p0 can a b => go ?_)
      simp -dsimp
      exact h s0 p0 can a b
  · simp -dsimp
    refine ⟨rgOk_of (by omega) (by omega), ?_⟩
    refine lc_rngY (v := fun n => D.bl (f n && !g n)) rfl (by unfold sizeLine; omega) (fun k hk N hN => ?_) (go ?_)
    · simp -dsimp
      refine bits_ix (by omega) (by omega) ?_
      simp -dsimp
      cases c : f k with
      | false =>
        simp -dsimp
        simpa [c] using hN
      | true =>
        simp -dsimp
        refine bits_ix (by omega) (by omega) ?_
        simp -dsimp
        simpa [c] using hN
    · rw [bits_map (f := fun n => f n && !g n)]
      simp -dsimp
      refine fin _ _ (fun s0 p0 can a b => go ?_)
      simp -dsimp
      exact h s0 p0 can a b
  · simp -dsimp
    refine lc_genY (v := fun n => D.bl (!f n)) rfl (by simp; unfold sizeLine; omega) (fun k d' hk N hN => ?_) (go ?_)
    · rw [List.getElem?_map] at hk
      obtain ⟨i, hi, rfl⟩ := Option.map_eq_some_iff.mp hk
      have hk2 : k < far := by have := (List.getElem?_eq_some_iff.mp hi).1; simpa using this
      rw [bits_get hk2] at hi
      cases hi
      simp -dsimp
      exact hN
    · have e : (List.range (nB (bitsB f far)).length).map (fun n => D.bl (!f n)) = nB (bitsB (fun n => !f n) far) := by simp [bitsB]
      rw [e]
      simp -dsimp
      refine fin _ _ (fun s0 p0 can a b => go ?_)
      simp -dsimp
      exact h s0 p0 can a b
end K47

end
section
set_option maxHeartbeats 1000000
namespace K47
open PySem PySem.Spec PyProof.Rows L2 FL SZ
theorem mulL {a : Int} {s : Nat} {p : D → Prop} (hs : s < 1000000) (h : ∀ L : List Int, L.length = s → (∀ x ∈ L, x = a) → p (.own (nI L))) : opMul (.own [.int a]) (.int s) p :=
  mulI hs (h _ (List.length_replicate) fun x hx => List.eq_of_mem_replicate hx)
theorem s_cell {X : XD} {ns : List Int} {k : Int} {P : D → List D → Prop} (h0 : 0 ≤ k) (hk : k < 1000) (h : ∀ c, P (.int c) [.flst (nI ns), .int k]) : F__law_cell X [.flst (nI ns), .int k] P := by
  rw [F__law_cell_eq]
  exact cell_ok h0 hk h
theorem s_digits {X : XD} {c : Int} {sz : List Int} {P : D → List D → Prop} (hl : sz.length < 1000000) (hz : ∀ s ∈ sz, 0 < s ∧ s < 1000000000000)
    (h : ∀ row d, row.length = sz.length → Good sz row → P (.own (nI row)) [.int c, d]) : F__law_digits X [.int c, .own (nI sz)] P := by
  rw [F__law_digits_eq]
  exact digits_ok hl hz h
theorem good_at {sz row : List Int} (hl : row.length = sz.length) (g : Good sz row) {i : Nat} {s : Int} (h : sz[i]? = some s) : ∃ v, row[i]? = some v ∧ 0 ≤ v ∧ v < s := by
  have h2 : i < row.length := by rw [hl]; exact (List.getElem?_eq_some_iff.mp h).1
  exact ⟨row[i], List.getElem?_eq_getElem h2, g i _ _ (List.getElem?_eq_getElem h2) h⟩
theorem ix_at {xs : List Int} {k : Nat} {v : Int} {q : D → Prop} (h : xs[k]? = some v) (hq : q (.int v)) : opIx (.own (nI xs)) (.int (k : Int)) q := (ix_own (nI_pl xs) (nI_get h)).mpr hq
theorem ix_at0 {xs : List Int} {v : Int} {q : D → Prop} (h : xs[0]? = some v) : opIx (.own (nI xs)) (.int 0) q ↔ q (.int v) := ix_own (k := 0) (nI_pl xs) (nI_get h)
theorem ix_at1 {xs : List Int} {v : Int} {q : D → Prop} (h : xs[1]? = some v) : opIx (.own (nI xs)) (.int 1) q ↔ q (.int v) := ix_own (k := 1) (nI_pl xs) (nI_get h)
theorem ix_at2 {xs : List Int} {v : Int} {q : D → Prop} (h : xs[2]? = some v) : opIx (.own (nI xs)) (.int 2) q ↔ q (.int v) := ix_own (k := 2) (nI_pl xs) (nI_get h)
theorem ix_at3 {xs : List Int} {v : Int} {q : D → Prop} (h : xs[3]? = some v) : opIx (.own (nI xs)) (.int 3) q ↔ q (.int v) := ix_own (k := 3) (nI_pl xs) (nI_get h)
theorem ix_at4 {xs : List Int} {v : Int} {q : D → Prop} (h : xs[4]? = some v) : opIx (.own (nI xs)) (.int 4) q ↔ q (.int v) := ix_own (k := 4) (nI_pl xs) (nI_get h)
theorem ix_at5 {xs : List Int} {v : Int} {q : D → Prop} (h : xs[5]? = some v) : opIx (.own (nI xs)) (.int 5) q ↔ q (.int v) := ix_own (k := 5) (nI_pl xs) (nI_get h)
theorem ix_at6 {xs : List Int} {v : Int} {q : D → Prop} (h : xs[6]? = some v) : opIx (.own (nI xs)) (.int 6) q ↔ q (.int v) := ix_own (k := 6) (nI_pl xs) (nI_get h)
theorem ix_at7 {xs : List Int} {v : Int} {q : D → Prop} (h : xs[7]? = some v) : opIx (.own (nI xs)) (.int 7) q ↔ q (.int v) := ix_own (k := 7) (nI_pl xs) (nI_get h)
theorem ix_at8 {xs : List Int} {v : Int} {q : D → Prop} (h : xs[8]? = some v) : opIx (.own (nI xs)) (.int 8) q ↔ q (.int v) := ix_own (k := 8) (nI_pl xs) (nI_get h)
/-- divisors, in order -/
def divs (p : Nat) : List Int := ((List.range p).filter fun k => decide (p % (k + 1) = 0)).map fun k => ((k + 1 : Nat) : Int)
theorem divs_pos {p : Nat} (hp : 0 < p) : 0 < (divs p).length := by
  have : ((0 + 1 : Nat) : Int) ∈ divs p := by
    unfold divs
    rw [List.mem_map]
    exact ⟨0, by rw [List.mem_filter, List.mem_range]; exact ⟨hp, by simp [Nat.mod_one]⟩, rfl⟩
  exact List.length_pos_of_mem this
theorem divs_mem {p : Nat} {v : Int} (h : v ∈ divs p) : ∃ d : Nat, v = d ∧ 0 < d ∧ d ≤ p ∧ d ∣ p := by
  unfold divs at h
  obtain ⟨k, hk, e⟩ := List.mem_map.mp h
  rw [List.mem_filter, List.mem_range, decide_eq_true_eq] at hk
  exact ⟨k + 1, e.symm, by omega, by omega, Nat.dvd_of_mod_eq_zero hk.2⟩
theorem desc_raw {b g : Nat → Bool} {s p : Nat} (hp : 0 < p) : Desc (fun n => if n < s then b n else g (n % p)) (earlyOf b s) s p (earlyOf g p) := by
  refine ⟨hp, fun x hx => ?_, fun x hx => ?_, fun n hn => ?_, fun n hn => ?_⟩
  · obtain ⟨n, h1, _, h3⟩ := mem_early.mp hx
    omega
  · obtain ⟨n, h1, _, h3⟩ := mem_early.mp hx
    omega
  · show _ ↔ (if n < s then b n else g (n % p)) = true
    rw [mem_early, if_pos hn]
    exact ⟨fun ⟨m, _, h2, h3⟩ => by have : m = n := by omega
                                    subst this; exact h2, fun h => ⟨n, hn, h, rfl⟩⟩
  · show _ ↔ (if n < s then b n else g (n % p)) = true
    rw [mem_early, if_neg (show ¬ n < s by omega)]
    exact ⟨fun ⟨m, _, h2, h3⟩ => by have : m = n % p := by omega
                                    subst this; exact h2, fun h => ⟨n % p, Nat.mod_lt n hp, h, rfl⟩⟩
theorem s_set {X : XD} {ns : List Int} {at_ : Int} {s p : Nat} {P : D → List D → Prop} (h0 : 0 ≤ at_) (h1 : at_ < 900) (hs : s ≤ 2000) (hp0 : 0 < p) (hp : p ≤ 2000)
    (h : ∀ f E R, Desc f E s p R → E.length ≤ s → R.length ≤ p → P (.own (partsD E s p R)) [.flst (nI ns), .int at_, .int s, .int p]) : F__law_set X [.flst (nI ns), .int at_, .int s, .int p] P := by
  rw [F__law_set_eq]
  simp -dsimp [W__law_set]
  refine s_cell h0 (by omega) (fun c => go ?_)
  simp -dsimp [sizeLine]
  refine s_digits (sz := [9, 3, 3, 60, 60]) (by simp) (by simp) (fun row d hl hg => go ?_)
  obtain ⟨v0, g0, a0, b0⟩ := good_at hl hg (i := 0) (s := 9) rfl
  obtain ⟨v1, g1, a1, b1⟩ := good_at hl hg (i := 1) (s := 3) rfl
  obtain ⟨v2, g2, a2, b2⟩ := good_at hl hg (i := 2) (s := 3) rfl
  obtain ⟨v3, g3, a3, b3⟩ := good_at hl hg (i := 3) (s := 60) rfl
  obtain ⟨v4, g4, a4, b4⟩ := good_at hl hg (i := 4) (s := 60) rfl
  simp -dsimp [ix_at1 g1, sizeLine]
  refine ixOI (xs := [1, 3, 5]) a1 (by simp; omega) (fun low hlow => ?_)
  simp -dsimp [ix_at2 g2, sizeLine]
  refine ixOI (xs := [2, 3, 4]) a2 (by simp; omega) (fun wide hwide => ?_)
  simp -dsimp [sizeLine]
  refine s_cell (by omega) (by omega) (fun c2 => go ?_)
  simp -dsimp [sizeLine]
  refine mulL (by omega) (fun L1 l1 m1 => ?_)
  simp -dsimp
  refine s_digits (by omega) (fun x hx => by rw [m1 x hx]; omega) (fun er d1 hl1 hg1 => go ?_)
  simp -dsimp
  refine s_cell (by omega) (by omega) (fun c3 => go ?_)
  simp -dsimp [sizeLine]
  refine mulL (by omega) (fun L2 l2 m2 => ?_)
  simp -dsimp
  refine s_digits (by omega) (fun x hx => by rw [m2 x hx]; omega) (fun rr d2 hl2 hg2 => go ?_)
  simp -dsimp
  refine mk_cut (fun ρ => ∃ (st : Nat) (x : D), 0 < st ∧ st ≤ p ∧ ρ = [.flst (nI ns), .int at_, .int s, .int p, .own (nI row), .int low, .int wide, .own (nI er), .own (nI rr), .int st, x, .und, .und, .und, .und, .und]) (fun N hN => ?_) ?_
  · by_cases z : v0 = 3 ∨ v0 = 5
    · have c35 : (v0 = 3) ∨ (¬ v0 = 3 ∧ v0 = 5) := by omega
      have body : (wSeq (wAsg 10 (wLcR2 (wCons (wC (.int 1)) (wCons (wBin (binOf .Add) (wVar 3) (wC (.int 1))) wNil)) (.name 14) (wTest (wBin (cmpOf .Eq) (wBin (binOf .Mod) (wCB opInt (wCons (wVar 3) wNil)) (wVar 14)) (wC (.int 0)))) (wSh (wVar 14)))) (wAsg 9 (wBin opIx (wVar 10) (wBin (binOf .Mod) (wCB opInt (wCons (wBin opIx (wVar 4) (wC (.int 3))) wNil)) (wCB opLen (wCons (wVar 10) wNil))))))
          (fun x ρ => X x (finD [0, 1, 2, 3] 0 4 ρ)) ((⟨fun ρ => P .non (finD [0, 1, 2, 3] 0 4 ρ), fun d ρ => P d (finD [0, 1, 2, 3] 0 4 ρ), fun _ => False, fun _ => False⟩ : WEnds).th N) [.flst (nI ns), .int at_, .int s, .int p, .own (nI row), .int low, .int wide, .own (nI er), .own (nI rr), .int p, .und, .und, .und, .und, .und, .und] := by
        simp -dsimp
        refine ⟨_, _, ⟨rfl, rfl⟩, rgOk_of (by omega) (by omega), rgOk_of (by omega) (by omega), ?_⟩
        have ep : ((p : Int) + 1 - 1).toNat = p := by omega
        rw [ep]
        refine lc_rng (b := fun k => decide (p % (k + 1) = 0)) (v := fun k => D.int ((k + 1 : Nat) : Int)) rfl (by unfold sizeLine; omega) (fun k hk T hT => ?_) (fun k hk hb N hN => ?_) (go ?_)
        · simp -dsimp
          refine ⟨by omega, ?_⟩
          have e : decide ((p : Int) % (1 + k) = 0) = decide (p % (k + 1) = 0) := decide_eq_decide.mpr (by
            have : (p : Int) % (1 + k) = ((p % (k + 1) : Nat) : Int) := by
              rw [Int.natCast_emod]
              congr 1
              omega
            omega)
          rw [e]
          exact hT
        · simp -dsimp
          have e : (1 : Int) + k = ((k + 1 : Nat) : Int) := by omega
          rw [e] at hN ⊢
          exact hN
        have ed : ((List.range p).filter fun k => decide (p % (k + 1) = 0)).map (fun k => D.int ((k + 1 : Nat) : Int)) = nI (divs p) := by
          unfold divs
          show _ = List.map D.int (List.map _ _)
          rw [List.map_map]
          rfl
        rw [ed]
        have dp := divs_pos hp0
        simp -dsimp [ix_at3 g3]
        refine ⟨by omega, ?_⟩
        refine ixOI (Int.emod_nonneg _ (by omega)) (Int.emod_lt_of_pos _ (by omega)) (fun v hv => ?_)
        obtain ⟨dv, e, e1, e2, _⟩ := divs_mem (List.mem_of_getElem? hv)
        subst e
        simp -dsimp
        exact hN _ ⟨dv, _, e1, e2, rfl⟩
      rcases c35 with z | ⟨y, z⟩
      · simp -dsimp only [x_if, x_orT, x_test, x_bin, x_var, x_c, x_dAt0, x_dAtS, x_kn9, x_kn4, true_and, x_gets, x_getv, ix_at0 g0, x_hid1, x_co1, x_eqI, x_blc, z, decide_true, if_true]
        exact body
      · simp -dsimp only [x_if, x_orT, x_test, x_bin, x_var, x_c, x_dAt0, x_dAtS, x_kn9, x_kn4, true_and, x_gets, x_getv, ix_at0 g0, x_hid1, x_co1, x_eqI, x_blc, z, decide_true, if_true]
        exact body
    · have z3 : ¬ v0 = 3 := fun e => z (.inl e)
      have z5 : ¬ v0 = 5 := fun e => z (.inr e)
      simp -dsimp [ix_at0 g0, z3, z5]
      exact hN _ ⟨p, _, hp0, Nat.le_refl _, rfl⟩
  rintro ρ ⟨st, x10, hst0, hst, rfl⟩
  have frest : ∀ k : Nat, k < p → ∃ v, rr[k % st]? = some v := fun k hk => by
    have := Nat.mod_lt k hst0
    exact ⟨_, List.getElem?_eq_getElem (by rw [hl2, l2]; omega)⟩
  simp -dsimp
  refine ⟨rgOk_of (by omega) (by omega), ?_⟩
  refine lc_rngY (v := fun k => D.bl (decide (6 - wide ≤ rr.getD (k % st) 0))) rfl (by unfold sizeLine; omega) (fun k hk N hN => ?_) (go ?_)
  · simp -dsimp
    refine ⟨by omega, ?_⟩
    have e4 : (k : Int) % st = ((k % st : Nat) : Int) := by rw [Int.natCast_emod]
    obtain ⟨v, hv⟩ := frest k hk
    rw [e4]
    refine ix_at hv ?_
    simp -dsimp
    simpa [List.getD_eq_getElem?_getD, hv] using hN
  rw [bits_map (f := fun k => decide (6 - wide ≤ rr.getD (k % st) 0))]
  simp -dsimp
  refine mk_cut (fun ρ => ∃ g : Nat → Bool, ρ = [.flst (nI ns), .int at_, .int s, .int p, .own (nI row), .int low, .int wide, .own (nI er), .own (nI rr), .int st, x10, .own (nB (bitsB g p)), .und, .und, .und, .und]) (fun N hN => ?_) ?_
  · by_cases z : v0 = 6
    · simp -dsimp [ix_at0 g0, z]
      refine ⟨rgOk_of (by omega) (by omega), ?_⟩
      refine lc_rngY (v := fun _ => D.bl false) rfl (by unfold sizeLine; omega) (fun k hk N hN => ?_) (go ?_)
      · simp -dsimp
        simpa using hN
      rw [bits_false]
      simp -dsimp
      exact hN _ ⟨_, rfl⟩
    · simp -dsimp [ix_at0 g0, z]
      exact hN _ ⟨_, rfl⟩
  rintro ρ ⟨g, rfl⟩
  refine mk_cut (fun ρ => ∃ g : Nat → Bool, ρ = [.flst (nI ns), .int at_, .int s, .int p, .own (nI row), .int low, .int wide, .own (nI er), .own (nI rr), .int st, x10, .own (nB (bitsB g p)), .und, .und, .und, .und]) (fun N hN => ?_) ?_
  · by_cases z : v0 = 7
    · simp -dsimp [ix_at0 g0, z]
      refine ⟨rgOk_of (by omega) (by omega), ?_⟩
      refine lc_rngY (v := fun _ => D.bl true) rfl (by unfold sizeLine; omega) (fun k hk N hN => ?_) (go ?_)
      · simp -dsimp
        simpa using hN
      rw [bits_map (f := fun _ => true)]
      simp -dsimp
      exact hN _ ⟨_, rfl⟩
    · simp -dsimp [ix_at0 g0, z]
      exact hN _ ⟨_, rfl⟩
  rintro ρ ⟨g, rfl⟩
  simp -dsimp
  refine ⟨rgOk_of (by omega) (by omega), ?_⟩
  refine lc_rngY (v := fun k => D.bl (decide (6 - low ≤ er.getD k 0))) rfl (by unfold sizeLine; omega) (fun k hk N hN => ?_) (go ?_)
  · simp -dsimp
    have hv : er[k]? = some er[k] := List.getElem?_eq_getElem (by omega)
    refine ix_at hv ?_
    simp -dsimp
    simpa [List.getD_eq_getElem?_getD, hv] using hN
  rw [bits_map (f := fun k => decide (6 - low ≤ er.getD k 0))]
  simp -dsimp
  refine mk_cut (fun ρ => ∃ (b : Nat → Bool) (x : D), x.pl = true ∧ ρ = [.flst (nI ns), .int at_, .int s, .int p, .own (nI row), .int low, .int wide, .own (nI er), .own (nI rr), .int st, x10, .own (nB (bitsB g p)), .own (nB (bitsB b s)), x, .und, .und]) (fun N hN => ?_) ?_
  · by_cases z : v0 = 4 ∨ v0 = 5
    · have body : (wRng2 (wCons (wBin (binOf .Mod) (wCB opInt (wCons (wBin opIx (wVar 4) (wC (.int 4))) wNil)) (wBin (binOf .Add) (wVar 2) (wC (.int 1)))) (wCons (wVar 2) wNil)) 13 (wSetIx 12 (wSh (wBin opIx (wVar 11) (wBin (binOf .Mod) (wCB opInt (wCons (wVar 13) wNil)) (wVar 3)))) (wVar 13)))
          (fun x ρ => X x (finD [0, 1, 2, 3] 0 4 ρ)) ((⟨fun ρ => P .non (finD [0, 1, 2, 3] 0 4 ρ), fun d ρ => P d (finD [0, 1, 2, 3] 0 4 ρ), fun _ => False, fun _ => False⟩ : WEnds).th N) [.flst (nI ns), .int at_, .int s, .int p, .own (nI row), .int low, .int wide, .own (nI er), .own (nI rr), .int st, x10, .own (nB (bitsB g p)), .own (nB (bitsB (fun k => decide (6 - low ≤ er.getD k 0)) s)), .und, .und, .und] := by
        simp -dsimp [ix_at4 g4]
        refine ⟨_, _, ⟨rfl, rfl⟩, ?_⟩
        have m0 := Int.emod_nonneg v4 (show ((s : Int) + 1) ≠ 0 by omega)
        have m1 := Int.emod_lt_of_pos v4 (show (0 : Int) < (s : Int) + 1 by omega)
        obtain ⟨lo, hlo⟩ : ∃ lo : Nat, v4 % ((s : Int) + 1) = lo := ⟨(v4 % ((s : Int) + 1)).toNat, by omega⟩
        rw [hlo] at m0 m1 ⊢
        refine ⟨rgOk_of (by omega) (by omega), rgOk_of (by omega) (by omega), ?_⟩
        refine for_inv (fun k ρ => ∃ (b : Nat → Bool) (x : D), x.pl = true ∧ ρ = [.flst (nI ns), .int at_, .int s, .int p, .own (nI row), .int low, .int wide, .own (nI er), .own (nI rr), .int st, x10, .own (nB (bitsB g p)), .own (nB (bitsB b s)), x, .und, .und]) ⟨_, _, rfl, rfl⟩ (fun k ρ N hk ⟨b, x, hx, e⟩ hN => ?_) (fun ρ hρ => hN ρ hρ)
        subst e
        simp -dsimp
        refine ⟨by omega, ?_⟩
        have e4 : ((lo : Int) + k) % p = (((lo + k) % p : Nat) : Int) := by rw [Int.natCast_emod, Int.natCast_add]
        have hm := Nat.mod_lt (lo + k) hp0
        rw [e4]
        refine bits_ix (by omega) (by omega) ?_
        simp -dsimp
        refine ⟨lo + k, by rw [show (lo : Int) + k = ((lo + k : Nat) : Int) by omega, ixN_of (by omega) (by omega)]; rfl, hN _ ?_⟩
        rw [bits_set]
        exact ⟨_, .int ((lo : Int) + k), rfl, rfl⟩
      have c45 : (v0 = 4) ∨ (¬ v0 = 4 ∧ v0 = 5) := by omega
      rcases c45 with z | ⟨y, z⟩
      · simp -dsimp only [x_if, x_orT, x_test, x_bin, x_var, x_c, x_dAt0, x_dAtS, x_kn9, x_kn4, true_and, x_gets, x_getv, ix_at0 g0, x_hid1, x_co1, x_eqI, x_blc, z, decide_true, if_true]
        exact body
      · simp -dsimp only [x_if, x_orT, x_test, x_bin, x_var, x_c, x_dAt0, x_dAtS, x_kn9, x_kn4, true_and, x_gets, x_getv, ix_at0 g0, x_hid1, x_co1, x_eqI, x_blc, z, decide_true, if_true]
        exact body
    · have z3 : ¬ v0 = 4 := fun e => z (.inl e)
      have z5 : ¬ v0 = 5 := fun e => z (.inr e)
      simp -dsimp [ix_at0 g0, z3, z5]
      exact hN _ ⟨_, _, rfl, rfl⟩
  rintro ρ ⟨b, x, hx, rfl⟩
  refine mk_cut (fun ρ => ∃ (b : Nat → Bool) (x : D), x.pl = true ∧ ρ = [.flst (nI ns), .int at_, .int s, .int p, .own (nI row), .int low, .int wide, .own (nI er), .own (nI rr), .int st, x10, .own (nB (bitsB g p)), .own (nB (bitsB b s)), x, .und, .und]) (fun N hN => ?_) ?_
  · by_cases z : v0 = 8
    · simp -dsimp [ix_at0 g0, z]
      refine ⟨rgOk_of (by omega) (by omega), hx, ?_⟩
      refine lc_rngY (v := fun _ => D.bl false) rfl (by unfold sizeLine; omega) (fun k hk N hN => ?_) (go ?_)
      · simp -dsimp
        simpa using hN
      rw [bits_false]
      simp -dsimp
      exact hN _ ⟨_, x, hx, rfl⟩
    · simp -dsimp [ix_at0 g0, z]
      exact hN _ ⟨_, x, hx, rfl⟩
  rintro ρ ⟨b, x, hx, rfl⟩
  simp -dsimp
  refine ⟨rgOk_of (by omega) (by omega), hx, ?_⟩
  refine lc_rng (b := b) (v := fun k => D.int k) rfl (by unfold sizeLine; omega) (fun k hk T hT => ?_) (fun k hk hb N hN => ?_) (go ?_)
  · simp -dsimp
    refine bits_ix (by omega) (by omega) ?_
    simp -dsimp
    simpa using hT
  · simp -dsimp
    simpa using hN
  have e8 : ((List.range s).filter b).map (fun k : Nat => D.int k) = nI (earlyOf b s) := by simp [earlyOf]
  rw [e8]
  simp -dsimp
  refine ⟨rgOk_of (by omega) (by omega), ?_⟩
  refine lc_rng (b := g) (v := fun k => D.int k) rfl (by unfold sizeLine; omega) (fun k hk T hT => ?_) (fun k hk hb N hN => ?_) (go ?_)
  · simp -dsimp
    refine bits_ix (by omega) (by omega) ?_
    simp -dsimp
    simpa using hT
  · simp -dsimp
    simpa using hN
  have e9 : ((List.range p).filter g).map (fun k : Nat => D.int k) = nI (earlyOf g p) := by simp [earlyOf]
  rw [e9]
  simp -dsimp [sizeLine]
  exact h _ _ _ (desc_raw hp0) len_early len_early
end K47

end
section
set_option maxHeartbeats 1000000
namespace K47
open PySem PySem.Spec PyProof.Rows L2 FL SZ
/-- a set of the pool: least form, start to 400, its period divides M -/
structure En (M : Nat) (f : Nat → Bool) (s p : Nat) : Prop where
  can : SZ.Canon f s p
  hs : s ≤ 400
  hd : p ∣ M
theorem eqSz_self {f : Nat → Bool} {s p : Nat} : eqSz f s p f s p = true := by simp [eqSz]
theorem eqSz_of {f g : Nat → Bool} {s p t q : Nat} (h : ∀ n, f n = g n) (a : SZ.Canon f s p) (b : SZ.Canon g t q) : eqSz f s p g t q = true := by
  have e : f = g := funext h
  subst e
  obtain ⟨e1, e2⟩ := canon_uniq a b
  subst e1 e2
  exact eqSz_self
section
variable {X : XD} {M : Nat} {f g : Nat → Bool} {s p t q : Nat} {P : D → List D → Prop}
theorem En.le (hM : 0 < M) (hM2 : M ≤ 400) (a : En M f s p) : p ≤ 400 := Nat.le_trans (Nat.le_of_dvd hM a.hd) hM2
theorem En.lcm (a : En M f s p) (b : En M g t q) : Nat.lcm p q ∣ M := Nat.lcm_dvd a.hd b.hd
theorem En.lcm_le (hM : 0 < M) (hM2 : M ≤ 400) (a : En M f s p) (b : En M g t q) : Nat.lcm p q ≤ 400 := Nat.le_trans (Nat.le_of_dvd hM (a.lcm b)) hM2
theorem r_or (hM : 0 < M) (hM2 : M ≤ 400) (a : En M f s p) (b : En M g t q) (h : ∀ (u : Nat → Bool) (s0 p0 : Nat), (∀ n, u n = (f n || g n)) → En M u s0 p0 → P (szD u s0 p0) [szD f s p, szD g t q]) : F_Sizes___or__ X [szD f s p, szD g t q] P := by
  have := a.le hM hM2; have := b.le hM hM2; have := a.lcm_le hM hM2 b; have := a.hs; have := b.hs
  exact s_or a.can.pos b.can.pos (by omega) (by omega) (by omega) (by omega) (by omega) a.can.per b.can.per fun s0 p0 can h1 h2 => h _ s0 p0 (fun _ => rfl) ⟨can, by omega, Nat.dvd_trans h2 (a.lcm b)⟩
theorem r_and (hM : 0 < M) (hM2 : M ≤ 400) (a : En M f s p) (b : En M g t q) (h : ∀ (u : Nat → Bool) (s0 p0 : Nat), (∀ n, u n = (f n && g n)) → En M u s0 p0 → P (szD u s0 p0) [szD f s p, szD g t q]) : F_Sizes___and__ X [szD f s p, szD g t q] P := by
  have := a.le hM hM2; have := b.le hM hM2; have := a.lcm_le hM hM2 b; have := a.hs; have := b.hs
  exact s_and a.can.pos b.can.pos (by omega) (by omega) (by omega) (by omega) (by omega) a.can.per b.can.per fun s0 p0 can h1 h2 => h _ s0 p0 (fun _ => rfl) ⟨can, by omega, Nat.dvd_trans h2 (a.lcm b)⟩
theorem r_sub (hM : 0 < M) (hM2 : M ≤ 400) (a : En M f s p) (b : En M g t q) (h : ∀ (u : Nat → Bool) (s0 p0 : Nat), (∀ n, u n = (f n && !g n)) → En M u s0 p0 → P (szD u s0 p0) [szD f s p, szD g t q]) : F_Sizes___sub__ X [szD f s p, szD g t q] P := by
  have := a.le hM hM2; have := b.le hM hM2; have := a.lcm_le hM hM2 b; have := a.hs; have := b.hs
  exact s_sub a.can.pos b.can.pos (by omega) (by omega) (by omega) (by omega) (by omega) a.can.per b.can.per fun s0 p0 can h1 h2 => h _ s0 p0 (fun _ => rfl) ⟨can, by omega, Nat.dvd_trans h2 (a.lcm b)⟩
theorem r_inv (hM : 0 < M) (hM2 : M ≤ 400) (a : En M f s p) (h : ∀ (u : Nat → Bool) (s0 p0 : Nat), (∀ n, u n = !f n) → En M u s0 p0 → P (szD u s0 p0) [szD f s p]) : F_Sizes___invert__ X [szD f s p] P := by
  have := a.le hM hM2; have := a.hs
  exact s_inv a.can.pos (by omega) (by omega) a.can.per fun s0 p0 can h1 h2 => h _ s0 p0 (fun _ => rfl) ⟨can, by omega, Nat.dvd_trans h2 a.hd⟩
theorem s_equalT (hfg : ∀ n, f n = g n) (a : En M f s p) (b : En M g t q) (h : P (.bl true) [szD f s p, szD g t q, .bl true]) : F__law_equal X [szD f s p, szD g t q, .bl true] P := by
  refine s_equal ?_
  rw [eqSz_of hfg a.can b.can]
  exact h
end
/-! ### == of fields -/
theorem eqv_li {a b : List Int} : D.eqv (.lst (nI a)) (.lst (nI b)) = decide (a = b) := eqv_ints a b
theorem eqv_parts {f g : Nat → Bool} {s p t q : Nat} : PyData.eqvAll (D.pys (canD f s p)) (D.pys (canD g t q)) = eqSz f s p g t q := by
  show (D.eqv (.lst (nI (earlyOf f s))) (.lst (nI (earlyOf g t))) && (D.eqv (.int s) (.int t) && (D.eqv (.int p) (.int q) && (D.eqv (.lst (nI (restsOf f s p))) (.lst (nI (restsOf g t q))) && true)))) = _
  rw [eqv_li, eqv_li, eqv_int, eqv_int]
  unfold eqSz
  have e1 : decide ((s : Int) = t) = decide (s = t) := decide_eq_decide.mpr (by omega)
  have e2 : decide ((p : Int) = q) = decide (p = q) := decide_eq_decide.mpr (by omega)
  rw [e1, e2]
  cases decide (earlyOf f s = earlyOf g t) <;> cases decide (s = t) <;> cases decide (p = q) <;> cases decide (restsOf f s p = restsOf g t q) <;> rfl
theorem parts_dat {E R : List Int} {s p : Nat} : D.dats (partsD E s p R) = true := by
  show (D.dats (nI E) && (true && (true && (D.dats (nI R) && true)))) = true
  rw [dats_ints, dats_ints]; rfl
theorem parts_lay {E R : List Int} {s p : Nat} : PyData.canLayAll0 (D.pys (partsD E s p R)) = true := by
  show (PyData.canLayAll0 (D.pys (nI E)) && (true && (true && (PyData.canLayAll0 (D.pys (nI R)) && true)))) = true
  rw [canLay_ints, canLay_ints]; rfl
theorem parts_dep {E R : List Int} {s p : Nat} : PyData.depthAll (D.pys (partsD E s p R)) = 1 := by
  show max (PyData.depthAll (D.pys (nI E)) + 1) (max 0 (max 0 (max (PyData.depthAll (D.pys (nI R)) + 1) 0))) = 1
  rw [depth_ints, depth_ints]; rfl
theorem parts_sh {d : D} {E R : List Int} {s p : Nat} (h : isSq d (partsD E s p R)) : SeqAt.shaped d.py = true ∧ d.dat = true := by
  have e : (PyData.canLayAll0 (D.pys (partsD E s p R)) && decide (PyData.depthAll (D.pys (partsD E s p R)) + 1 ≤ 64)) = true := by
    rw [parts_lay, parts_dep]; rfl
  rcases h with z | z <;> subst z <;> exact ⟨e, parts_dat⟩
theorem eq_parts {d e : D} {f g : Nat → Bool} {s p t q : Nat} {r : D → Prop} (hd : isSq d (canD f s p)) (he : isSq e (canD g t q)) (h : r (.bl (eqSz f s p g t q))) : opEq d e r := by
  obtain ⟨a1, a2⟩ := parts_sh hd
  obtain ⟨b1, b2⟩ := parts_sh he
  refine ⟨.inr ⟨a2, b2, a1, b1⟩, ?_⟩
  have z : D.eqv d e = eqSz f s p g t q := by
    rw [← eqv_parts]
    rcases hd with y | y <;> subst y <;> rcases he with y | y <;> subst y <;> rfl
  rw [z]
  exact h
theorem ne_parts {d e : D} {f g : Nat → Bool} {s p t q : Nat} {r : D → Prop} (hd : isSq d (canD f s p)) (he : isSq e (canD g t q)) (h : r (.bl (!eqSz f s p g t q))) : opNe d e r := by
  obtain ⟨a1, a2⟩ := parts_sh hd
  obtain ⟨b1, b2⟩ := parts_sh he
  refine ⟨.inr ⟨a2, b2, a1, b1⟩, ?_⟩
  have z : D.eqv d e = eqSz f s p g t q := by
    rw [← eqv_parts]
    rcases hd with y | y <;> subst y <;> rcases he with y | y <;> subst y <;> rfl
  rw [z]
  exact h
end K47

end
section
set_option maxHeartbeats 1000000
namespace K47
open PySem PySem.Spec PyProof.Rows L2 FL SZ
theorem s_mask {X : XD} {g : Nat → Bool} {t q many : Nat} {P : D → List D → Prop} (hq : 0 < q) (pg : Per g q t) (hm : many ≤ 100000) (h : ∀ m : Nat, (∀ i, m.testBit i = (decide (i < many) && g i)) → P (.int m) [szD g t q, .int many]) : F_mask_of X [szD g t q, .int many] P := by
  rw [F_mask_of_eq]
  simp -dsimp [W_mask_of]
  refine ⟨rgOk_of (by omega) (by omega), ?_⟩
  refine for_inv (fun k ρ => ∃ (m : Nat) (x : D), (∀ i, m.testBit i = (decide (i < k) && g i)) ∧ ρ = [szD g t q, .int many, .int m, x]) ⟨0, _, by simp, rfl⟩ (fun k ρ N hk ⟨m, x, hb, e⟩ hN => ?_) fun ρ ⟨m, x, hb, e⟩ => ?_
  · subst e
    simp -dsimp
    refine s_contains hq pg (go ?_)
    simp -dsimp
    rw [mem_nat']
    cases c : g k with
    | true =>
      have w : CShl 1 (k : Int) := shl_ok (n := 1) (by decide) (by omega)
      simp -dsimp [x_shlB, x_orB, w]
      have e : Builtin.bitOr (m : Int) ((2 : Int) ^ k) = ((m ||| 2 ^ k : Nat) : Int) := by
        rw [bitOr_nn (by omega) (Int.le_of_lt (Int.pow_pos (by omega)))]
        congr 2
      first
        | rw [e]
        | (rw [show (1 : Int) * 2 ^ k = 2 ^ k by omega, e])
      exact hN _ ⟨_, _, mask_step hb c, rfl⟩
    | false =>
      simp -dsimp
      exact hN _ ⟨_, _, mask_skip hb c, rfl⟩
  · subst e
    simp -dsimp
    exact h m hb
end K47

end
section
set_option maxHeartbeats 1000000
namespace K47
open PySem PySem.Spec PyProof.Rows L2 FL SZ
theorem s_add {X : XD} {f g : Nat → Bool} {s p t q : Nat} {P : D → List D → Prop} (hp : 0 < p) (hq : 0 < q) (hp2 : p ≤ 2000) (hq2 : q ≤ 2000) (hl : 2 * max s t + Nat.lcm p q ≤ 2000) (pf : Per f p s) (pg : Per g q t)
    (h : ∀ s0 p0, SZ.Canon (sumF f g) s0 p0 → s0 ≤ 2 * max s t + Nat.lcm p q → p0 ∣ Nat.lcm p q → P (szD (sumF f g) s0 p0) [szD f s p, szD g t q]) : F_Sizes___add__ X [szD f s p, szD g t q] P := by
  have lp : 0 < Nat.lcm p q := Nat.lcm_pos hp hq
  have perS : Per (sumF f g) (Nat.lcm p q) (2 * max s t + Nat.lcm p q) := per_sum (per_lcm pf (Nat.dvd_lcm_left p q) (Nat.le_max_left s t)) (per_lcm pg (Nat.dvd_lcm_right p q) (Nat.le_max_right s t))
  rw [F_Sizes___add___eq]
  simp -dsimp [W_Sizes___add__]
  refine s_common hp2 hq2 (go ?_)
  generalize Nat.lcm p q = pe at hl lp perS h ⊢
  generalize max s t = st at hl perS h ⊢
  obtain ⟨many, hmany⟩ : ∃ many, many = 2 * st + 2 * pe := ⟨_, rfl⟩
  have em : (2 : Int) * (st : Int) + 2 * (pe : Int) = (many : Int) := by omega
  have es : (2 : Int) * (st : Int) + (pe : Int) = ((2 * st + pe : Nat) : Int) := by omega
  have w1 : CMulW 2 (st : Int) := cmulW (by decide +kernel) (bits_up (j := 64) (by omega) (by decide))
  have w2 : CMulW 2 (pe : Int) := cmulW (by decide +kernel) (bits_up (j := 64) (by omega) (by decide))
  simp -dsimp [w1, w2]
  rw [em]
  refine s_mask hq pg (by omega) (fun m hm => go ?_)
  have m0 : m < 2 ^ many := Nat.lt_pow_two_of_testBit m fun i hi => by rw [hm, decide_eq_false (by omega)]; rfl
  simp -dsimp [w1, w2]
  refine ⟨rgOk_of (by omega) (by omega), ?_⟩
  refine for_inv (fun k ρ => ∃ (T : Nat) (x : D), x.pl = true ∧ (∀ i, T.testBit i = gath f g many k i) ∧ ρ = [szD f s p, szD g t q, .int st, .int pe, .int many, .int m, .int T, x, .und]) ⟨0, .und, rfl, by simp [gath], rfl⟩ (fun k ρ N hk ⟨T, x, hx, hb, e⟩ hN => ?_) fun ρ ⟨T, x, hx, hb, e⟩ => ?_
  · subst e
    have hk : k < many := by omega
    simp -dsimp
    refine s_contains hp pf (go ?_)
    simp -dsimp
    rw [mem_nat']
    cases c : f k with
    | true =>
      have w : CShl (m : Int) (k : Int) := shl_ok (n := many) (by rw [Int.natAbs_natCast]; exact m0) (by omega)
      simp -dsimp [x_shlB, x_orB, w]
      have e : Builtin.bitOr (T : Int) ((m : Int) * 2 ^ k) = ((T ||| m * 2 ^ k : Nat) : Int) := by
        rw [bitOr_nn (by omega) (Int.mul_nonneg (by omega) (Int.le_of_lt (Int.pow_pos (by omega))))]
        congr 2
      rw [e]
      exact hN _ ⟨_, .int (k : Int), rfl, gath_step hm hb c, rfl⟩
    | false =>
      simp -dsimp
      exact hN _ ⟨_, .int (k : Int), rfl, gath_skip hb c, rfl⟩
  · subst e
    have en : ((many : Int)).toNat = many := rfl
    simp -dsimp
    refine ⟨rgOk_of (by omega) (by omega), hx, ?_⟩
    refine lc_rngY (v := fun n => D.bl (sumF f g n)) rfl (by unfold sizeLine; omega) (fun k hk N hN => ?_) (go ?_)
    · simp -dsimp [x_shrB]
      have e : decide ((T : Int) / 2 ^ k % 2 = 1) = sumF f g k := by
        have b := hb k
        rw [gath_sum hk, Nat.testBit_eq_decide_div_mod_eq] at b
        rw [← b]
        refine decide_eq_decide.mpr ?_
        rw [show (T : Int) / 2 ^ k % 2 = ((T / 2 ^ k % 2 : Nat) : Int) by simp]
        omega
      rw [e]
      simpa using hN
    · rw [bits_map (f := sumF f g)]
      simp -dsimp [w1]
      rw [es]
      refine s_from (f := sumF f g) (s := 2 * st + pe) (n := many) (by omega) (by omega) lp (by omega) perS (fun s0 p0 can h1 h2 => go ?_)
      simp -dsimp
      exact h s0 p0 can h1 h2
end K47

end
section
set_option maxHeartbeats 1000000
namespace K47
open PySem PySem.Spec PyProof.Rows L2 FL SZ
theorem max_int2 {s t : Nat} : (if s < t then (t : Int) else s) = ((max s t : Nat) : Int) := by split <;> omega
def smallB (s t p q : Nat) : Bool := decide (2 * max s t + 2 * Nat.lcm p q ≤ 400)
theorem s_small {X : XD} {E R E2 R2 : List Int} {s p t q : Nat} {P : D → List D → Prop} (hp : 0 < p) (hq : 0 < q) (hp2 : p ≤ 2000) (hq2 : q ≤ 2000) (hs : s ≤ 4000) (ht : t ≤ 4000)
    (h : P (.bl (smallB s t p q)) [.lst (partsD E s p R), .lst (partsD E2 t q R2)]) : F__law_small X [.lst (partsD E s p R), .lst (partsD E2 t q R2)] P := by
  have h1 : isSq (.lst (partsD E s p R)) (partsD E s p R) := .inr rfl
  have h2 : isSq (.lst (partsD E2 t q R2)) (partsD E2 t q R2) := .inr rfl
  have lp : Nat.lcm p q ≤ p * q := Nat.le_of_dvd (Nat.mul_pos hp hq) (Nat.lcm_dvd (Nat.dvd_mul_right p q) (Nat.dvd_mul_left q p))
  have lp2 : p * q ≤ 2000 * 2000 := Nat.mul_le_mul hp2 hq2
  obtain ⟨st, hst⟩ : ∃ st, max s t = st := ⟨_, rfl⟩
  obtain ⟨pe, hpe⟩ : ∃ pe, Nat.lcm p q = pe := ⟨_, rfl⟩
  have w1 : CMulW 2 (st : Int) := cmulW (by decide +kernel) (bits_up (j := 64) (by omega) (by decide))
  have w2 : CMulW 2 (pe : Int) := cmulW (by decide +kernel) (bits_up (j := 64) (by omega) (by decide))
  rw [F__law_small_eq]
  simp -dsimp [W__law_small, px1 h1, px1 h2]
  rw [max_int2, hst]
  simp -dsimp [px2 h1, px2 h2, w1]
  refine s_lcm hp hq (by omega) (by omega) (go ?_)
  rw [hpe]
  simp -dsimp [w1, w2]
  have e : decide ((2 : Int) * (st : Int) + 2 * (pe : Int) ≤ 400) = smallB s t p q := by
    unfold smallB
    rw [hst, hpe]
    exact decide_eq_decide.mpr (by omega)
  rw [e]
  exact h
theorem bits_snoc {u : Nat → Bool} {k : Nat} : nB (bitsB u k) ++ [.bl (u k)] = nB (bitsB u (k + 1)) := by simp [bitsB, List.range_succ]
theorem s_summed {X : XD} {f g : Nat → Bool} {E R E2 R2 : List Int} {s p t q : Nat} {P : D → List D → Prop} (hp2 : p ≤ 2000) (hq2 : q ≤ 2000) (hs : s ≤ 2000) (ht : t ≤ 2000) (hl : Nat.lcm p q ≤ 2000) (d : Desc f E s p R) (d2 : Desc g E2 t q R2)
    (h : ∀ s0 p0, SZ.Canon (sumF f g) s0 p0 → s0 ≤ 2 * max s t + Nat.lcm p q → p0 ∣ Nat.lcm p q → P (.own (canD (sumF f g) s0 p0)) [.lst (partsD E s p R), .lst (partsD E2 t q R2)]) : F__law_summed X [.lst (partsD E s p R), .lst (partsD E2 t q R2)] P := by
  have lp : 0 < Nat.lcm p q := Nat.lcm_pos d.1 d2.1
  have h1 : isSq (.lst (partsD E s p R)) (partsD E s p R) := .inr rfl
  have h2 : isSq (.lst (partsD E2 t q R2)) (partsD E2 t q R2) := .inr rfl
  have perS : Per (sumF f g) (Nat.lcm p q) (2 * max s t + Nat.lcm p q) := per_sum (per_lcm d.per (Nat.dvd_lcm_left p q) (Nat.le_max_left s t)) (per_lcm d2.per (Nat.dvd_lcm_right p q) (Nat.le_max_right s t))
  obtain ⟨st, hst⟩ : ∃ st, max s t = st := ⟨_, rfl⟩
  obtain ⟨pe, hpe⟩ : ∃ pe, Nat.lcm p q = pe := ⟨_, rfl⟩
  rw [hst, hpe] at h perS
  rw [hpe] at lp hl
  have hst2 : st ≤ 2000 := by omega
  obtain ⟨far, hfar⟩ : ∃ far, far = 2 * st + 2 * pe := ⟨_, rfl⟩
  have efar : (2 : Int) * (st : Int) + 2 * (pe : Int) = (far : Int) := by omega
  have es : (2 : Int) * (st : Int) + (pe : Int) = ((2 * st + pe : Nat) : Int) := by omega
  have w1 : CMulW 2 (st : Int) := cmulW (by decide +kernel) (bits_up (j := 64) (by omega) (by decide))
  have w2 : CMulW 2 (pe : Int) := cmulW (by decide +kernel) (bits_up (j := 64) (by omega) (by decide))
  rw [F__law_summed_eq]
  simp -dsimp [W__law_summed, px1 h1, px1 h2]
  rw [max_int, hst]
  simp -dsimp [px2 h1, px2 h2]
  refine s_lcm d.1 d2.1 (by omega) (by omega) (go ?_)
  rw [hpe]
  simp -dsimp [w1, w2]
  rw [efar]
  refine s_bits (far := far) h1 (by omega) (by omega) (by omega) d (go ?_)
  simp -dsimp
  refine s_bits (far := far) h2 (by omega) (by omega) (by omega) d2 (go ?_)
  simp -dsimp
  refine ⟨rgOk_of (by omega) (by omega), ?_⟩
  refine lc_rng (b := f) (v := fun k => D.int k) rfl (by unfold sizeLine; omega) (fun k hk T hT => ?_) (fun k hk hb N hN => ?_) (go ?_)
  · simp -dsimp
    refine bits_ix (by omega) (by omega) ?_
    simp -dsimp
    simpa using hT
  · simp -dsimp
    simpa using hN
  have e8 : ((List.range far).filter f).map (fun k : Nat => D.int k) = (hitsN f far).map (fun k : Nat => D.int k) := rfl
  rw [e8]
  obtain ⟨H, hH⟩ : ∃ H, H = hitsN f far := ⟨_, rfl⟩
  rw [← hH]
  have eH : H.map (fun k : Nat => D.int k) = nI (H.map fun k : Nat => (k : Int)) := by
    show _ = List.map D.int (List.map _ _)
    rw [List.map_map]; rfl
  rw [eH]
  obtain ⟨HL, hHL⟩ : ∃ HL : List Int, HL = H.map fun k : Nat => (k : Int) := ⟨_, rfl⟩
  rw [← hHL]
  clear eH e8
  simp -dsimp [sizeLine]
  refine ⟨rgOk_of (by omega) (by omega), ?_⟩
  refine for_inv (fun k ρ => ∃ x7 x9 x10 x11 : D, (x7 = .own (nI HL) ∨ x7 = .lst (nI HL)) ∧ ρ = [.lst (partsD E s p R), .lst (partsD E2 t q R2), .int st, .int pe, .int far, .own (nB (bitsB f far)), .own (nB (bitsB g far)), x7, .own (nB (bitsB (sumF f g) k)), x9, x10, x11]) ⟨_, _, _, _, .inl rfl, rfl⟩ (fun n ρ N hn ⟨x7, x9, x10, x11, hx7, e⟩ hN => ?_) fun ρ ⟨x7, x9, x10, x11, hx7, e⟩ => ?_
  · subst e
    have hn : n < far := by omega
    have any := hits_any (f := f) (g := g) hn
    rw [← hH] at any
    have key : ∀ x11 : D, N [.lst (partsD E s p R), .lst (partsD E2 t q R2), .int st, .int pe, .int far, .own (nB (bitsB f far)), .own (nB (bitsB g far)), .lst (nI HL), .own (nB (bitsB (sumF f g) n) ++ [.bl (sumF f g n)]), .int (n : Int), .bl (sumF f g n), x11] := fun x11 => by
      rw [bits_snoc]
      exact hN _ ⟨_, _, _, _, .inr rfl, rfl⟩
    clear hN
    rcases hx7 with z | z <;> subst z <;> (
      simp -dsimp
      refine fol_brk (fun j ρ => ∃ x11 : D, ρ = [.lst (partsD E s p R), .lst (partsD E2 t q R2), .int st, .int pe, .int far, .own (nB (bitsB f far)), .own (nB (bitsB g far)), .lst (nI HL), .own (nB (bitsB (sumF f g) n)), .int (n : Int), .bl ((H.take j).any fun a => decide (a ≤ n) && g (n - a)), x11])
        (fun ρ => ∃ x11 : D, ρ = [.lst (partsD E s p R), .lst (partsD E2 t q R2), .int st, .int pe, .int far, .own (nB (bitsB f far)), .own (nB (bitsB g far)), .lst (nI HL), .own (nB (bitsB (sumF f g) n)), .int (n : Int), .bl (sumF f g n), x11])
        ⟨_, rfl⟩ (fun j d' ρ N' B hd ⟨x11, e⟩ hN' hB => ?_) (fun ρ ⟨x11, e⟩ => ?_) (fun ρ ⟨x11, e⟩ => ?_)
      · subst e
        rw [hHL, List.getElem?_map] at hd
        obtain ⟨i, hi, rfl⟩ := Option.map_eq_some_iff.mp hd
        rw [List.getElem?_map] at hi
        obtain ⟨a, ha, rfl⟩ := Option.map_eq_some_iff.mp hi
        have hal : a < far := (hits_mem (by rw [← hH]; exact ha)).1
        cases c : (H.take j).any fun a => decide (a ≤ n) && g (n - a) with
        | true =>
          simp -dsimp
          have := any_found c
          rw [any] at this
          exact hB _ ⟨_, by rw [this]⟩
        | false =>
          by_cases z : n < a
          · have z2 : (n : Int) < (a : Int) := by omega
            simp -dsimp [z2]
            have := any_past (g := g) (by rw [hH]; exact hits_sorted) ha z
            rw [any, c] at this
            exact hB _ ⟨_, by rw [this]⟩
          · have z2 : ¬ (n : Int) < (a : Int) := by omega
            have st := any_step (g := g) ha (by omega) c
            simp -dsimp [z2]
            refine bits_ix (by omega) (by omega) ?_
            have en : ((n : Int) - (a : Int)).toNat = n - a := by omega
            rw [en]
            simp -dsimp
            exact hN' _ ⟨_, by rw [st]⟩
      · subst e
        refine ⟨x11, ?_⟩
        have : H.take ((nI HL).length) = H := by
          rw [List.take_of_length_le]; simp [hHL]
        rw [this, any]
      · subst e
        simp -dsimp [sizeLine]
        first
          | exact key _
          | exact ⟨by omega, key _⟩)
  · subst e
    simp -dsimp [w1]
    rw [es]
    refine s_least_form (f := sumF f g) (s := 2 * st + pe) (n := far) (by omega) lp (by omega) (by omega) (by omega) perS (fun s0 p0 can a b => go ?_)
    simp -dsimp
    exact h s0 p0 can a b
end K47

end
section
set_option maxHeartbeats 1000000
namespace K47
open PySem PySem.Spec PyProof.Rows L2 FL SZ
/-- what the five deeds make -/
def opS (deed : Nat) (f g : Nat → Bool) : Nat → Bool := if deed = 4 then sumF f g else opF deed f g
theorem opS4 {f g : Nat → Bool} : opS 4 f g = sumF f g := rfl
theorem opS_lt {deed : Nat} {f g : Nat → Bool} (h : deed < 4) : opS deed f g = opF deed f g := if_neg (by omega)
theorem small_le {s t p q : Nat} (h : smallB s t p q = true) : 2 * max s t + 2 * Nat.lcm p q ≤ 400 := of_decide_eq_true h
section
variable {X : XD} {M : Nat} {f g : Nat → Bool} {s p t q deed : Nat} {P : D → List D → Prop}
theorem r_do (hM : 0 < M) (hM2 : M ≤ 400) (hdd : deed < 5) (h4 : deed = 4 → smallB s t p q = true) (a : En M f s p) (b : En M g t q)
    (h : ∀ s0 p0, En M (opS deed f g) s0 p0 → P (szD (opS deed f g) s0 p0) [.int deed, szD f s p, szD g t q]) : F__law_do X [.int deed, szD f s p, szD g t q] P := by
  have l1 := a.le hM hM2; have l2 := b.le hM hM2; have l3 := a.lcm_le hM hM2 b; have l4 := a.hs; have l5 := b.hs
  have hp := a.can.pos; have hq := b.can.pos
  rw [F__law_do_eq]
  rcases (show deed = 0 ∨ deed = 1 ∨ deed = 2 ∨ deed = 3 ∨ deed = 4 by omega) with z | z | z | z | z <;> subst z
  · simp -dsimp [W__law_do]
    refine s_or hp hq (by omega) (by omega) (by omega) (by omega) (by omega) a.can.per b.can.per (fun s0 p0 can h1 h2 => go ?_)
    simp -dsimp
    exact h s0 p0 ⟨can, by omega, Nat.dvd_trans h2 (a.lcm b)⟩
  · simp -dsimp [W__law_do]
    refine s_and hp hq (by omega) (by omega) (by omega) (by omega) (by omega) a.can.per b.can.per (fun s0 p0 can h1 h2 => go ?_)
    simp -dsimp
    exact h s0 p0 ⟨can, by omega, Nat.dvd_trans h2 (a.lcm b)⟩
  · simp -dsimp [W__law_do]
    refine s_sub hp hq (by omega) (by omega) (by omega) (by omega) (by omega) a.can.per b.can.per (fun s0 p0 can h1 h2 => go ?_)
    simp -dsimp
    exact h s0 p0 ⟨can, by omega, Nat.dvd_trans h2 (a.lcm b)⟩
  · simp -dsimp [W__law_do]
    refine s_inv hp (by omega) (by omega) a.can.per (fun s0 p0 can h1 h2 => go ?_)
    simp -dsimp
    exact h s0 p0 ⟨can, by omega, Nat.dvd_trans h2 a.hd⟩
  · have l6 := small_le (h4 rfl)
    simp -dsimp [W__law_do]
    refine s_add hp hq (by omega) (by omega) (by omega) a.can.per b.can.per (fun s0 p0 can h1 h2 => go ?_)
    simp -dsimp
    exact h s0 p0 ⟨can, by omega, Nat.dvd_trans h2 (a.lcm b)⟩
theorem r_due (hM : 0 < M) (hM2 : M ≤ 400) (hdd : deed < 5) (h4 : deed = 4 → smallB s t p q = true) (a : En M f s p) (b : En M g t q)
    (h : ∀ s0 p0, En M (opS deed f g) s0 p0 → P (.own (canD (opS deed f g) s0 p0)) [.int deed, .lst (canD f s p), .lst (canD g t q)]) : F__law_due X [.int deed, .lst (canD f s p), .lst (canD g t q)] P := by
  have l1 := a.le hM hM2; have l2 := b.le hM hM2; have l3 := a.lcm_le hM hM2 b; have l4 := a.hs; have l5 := b.hs
  rw [F__law_due_eq]
  by_cases z : deed = 4
  · subst z
    have l6 := small_le (h4 rfl)
    simp -dsimp [W__law_due]
    refine s_summed (by omega) (by omega) (by omega) (by omega) (by omega) (desc_of_per a.can.pos a.can.per) (desc_of_per b.can.pos b.can.per) (fun s0 p0 can h1 h2 => go ?_)
    simp -dsimp
    exact h s0 p0 ⟨can, by omega, Nat.dvd_trans h2 (a.lcm b)⟩
  · have z2 : ¬ (deed : Int) = 4 := by omega
    simp -dsimp [W__law_due, z2]
    refine s_joined (deed := deed) (by omega) (by omega) (by omega) (by omega) (by omega) (by omega) (desc_of_per a.can.pos a.can.per) (desc_of_per b.can.pos b.can.per) (fun s0 p0 can h1 h2 => go ?_)
    have e : opF deed f g = opS deed f g := (opS_lt (by omega)).symm
    rw [e] at can ⊢
    simp -dsimp
    exact h s0 p0 ⟨can, by omega, Nat.dvd_trans h2 (a.lcm b)⟩
end
theorem s_inside {X : XD} {f : Nat → Bool} {s p : Nat} {dd : D} {P : D → List D → Prop} (hd : isSq dd (canD f s p)) (hs : s ≤ 4000) (hp0 : 0 < p) (hp : p ≤ 4000) (per : Per f p s) (h : P (.bl true) [szD f s p, dd]) : F__law_inside X [szD f s p, dd] P := by
  have w2 : CMulW 2 (p : Int) := cmulW (by decide +kernel) (bits_up (j := 64) (by omega) (by decide))
  have w9 : CPow 10 9 := by unfold CPow; omega
  have w40 : CPow 10 40 := by unfold CPow; omega
  rw [F__law_inside_eq]
  rcases hd with z | z <;> subst z
  · have hd : isSq (.own (canD f s p)) (canD f s p) := .inl rfl
    simp -dsimp [W__law_inside, px1 hd, px2 hd, w2]
    refine ⟨rgOk_of (by omega) (by omega), ?_⟩
    refine lc_rngY (v := fun k => D.int ((k : Int) - 3)) rfl (by unfold sizeLine; omega) (fun k hk N hN => ?_) (go ?_)
    · simp -dsimp
      simpa using hN
    obtain ⟨n, hn⟩ : ∃ n, n = ((s : Int) + 2 * (p : Int) + 3).toNat := ⟨_, rfl⟩
    have e5 : (List.range ((s : Int) + 2 * (p : Int) + 3).toNat).map (fun k : Nat => D.int ((k : Int) - 3)) = nI ((List.range n).map fun k : Nat => (k : Int) - 3) := by
      rw [← hn]
      show _ = List.map D.int (List.map _ _)
      rw [List.map_map]
      rfl
    rw [e5]
    have hl : ((List.range n).map fun k : Nat => (k : Int) - 3).length = n := by simp
    generalize ((List.range n).map fun k : Nat => (k : Int) - 3) = sp at hl
    simp -dsimp [px1 hd, w9, w40, sizeLine]
    refine addL (nI_pl sp) rfl (by simp; unfold sizeLine; omega) ?_
    have e6 : ∀ a b : Int, nI sp ++ [.int a, .int b] = nI (sp ++ [a, b]) := fun a b => by simp
    rw [e6]
    generalize sp ++ [_, _] = spots
    simp -dsimp
    refine fol_inv (fun k ρ => ∃ x : D, ρ = [szD f s p, .own (canD f s p), x, .und]) ⟨_, rfl⟩ (fun k d ρ N hdd ⟨x, e1⟩ hN => ?_) fun ρ ⟨x, e1⟩ => ?_
    · subst e1
      rw [List.getElem?_map] at hdd
      obtain ⟨i, hi, rfl⟩ := Option.map_eq_some_iff.mp hdd
      simp -dsimp
      refine s_contains hp0 per (go ?_)
      simp -dsimp
      refine s_member hd (desc_of_per hp0 per) (go ?_)
      simp -dsimp
      exact hN _ ⟨_, rfl⟩
    · subst e1
      simp -dsimp
      exact h
  · have hd : isSq (.lst (canD f s p)) (canD f s p) := .inr rfl
    simp -dsimp [W__law_inside, px1 hd, px2 hd, w2]
    refine ⟨rgOk_of (by omega) (by omega), ?_⟩
    refine lc_rngY (v := fun k => D.int ((k : Int) - 3)) rfl (by unfold sizeLine; omega) (fun k hk N hN => ?_) (go ?_)
    · simp -dsimp
      simpa using hN
    obtain ⟨n, hn⟩ : ∃ n, n = ((s : Int) + 2 * (p : Int) + 3).toNat := ⟨_, rfl⟩
    have e5 : (List.range ((s : Int) + 2 * (p : Int) + 3).toNat).map (fun k : Nat => D.int ((k : Int) - 3)) = nI ((List.range n).map fun k : Nat => (k : Int) - 3) := by
      rw [← hn]
      show _ = List.map D.int (List.map _ _)
      rw [List.map_map]
      rfl
    rw [e5]
    have hl : ((List.range n).map fun k : Nat => (k : Int) - 3).length = n := by simp
    generalize ((List.range n).map fun k : Nat => (k : Int) - 3) = sp at hl
    simp -dsimp [px1 hd, w9, w40, sizeLine]
    refine addL (nI_pl sp) rfl (by simp; unfold sizeLine; omega) ?_
    have e6 : ∀ a b : Int, nI sp ++ [.int a, .int b] = nI (sp ++ [a, b]) := fun a b => by simp
    rw [e6]
    generalize sp ++ [_, _] = spots
    simp -dsimp
    refine fol_inv (fun k ρ => ∃ x : D, ρ = [szD f s p, .lst (canD f s p), x, .und]) ⟨_, rfl⟩ (fun k d ρ N hdd ⟨x, e1⟩ hN => ?_) fun ρ ⟨x, e1⟩ => ?_
    · subst e1
      rw [List.getElem?_map] at hdd
      obtain ⟨i, hi, rfl⟩ := Option.map_eq_some_iff.mp hdd
      simp -dsimp
      refine s_contains hp0 per (go ?_)
      simp -dsimp
      refine s_member hd (desc_of_per hp0 per) (go ?_)
      simp -dsimp
      exact hN _ ⟨_, rfl⟩
    · subst e1
      simp -dsimp
      exact h
end K47

end
section
set_option maxHeartbeats 1000000
namespace K47
open PySem PySem.Spec PyProof.Rows L2 FL SZ
structure Ent where
  f : Nat → Bool
  s : Nat
  p : Nat
def plD (es : List Ent) : List D := es.map fun e => szD e.f e.s e.p
def duD (es : List Ent) : List D := es.map fun e => .lst (canD e.f e.s e.p)
def Pool (M : Nat) (es : List Ent) : Prop := ∀ e ∈ es, En M e.f e.s e.p
@[simp] theorem pl_pl (es : List Ent) : (plD es).all D.pl = true := by simp [plD, List.all_map, Function.comp_def]
@[simp] theorem du_pl (es : List Ent) : (duD es).all D.pl = true := by simp [duD, List.all_map, Function.comp_def]
@[simp] theorem pl_shs (es : List Ent) : D.shs (plD es) = plD es := shs_of_pl (pl_pl es)
@[simp] theorem du_shs (es : List Ent) : D.shs (duD es) = duD es := shs_of_pl (du_pl es)
@[simp] theorem pl_len (es : List Ent) : (plD es).length = es.length := by simp [plD]
@[simp] theorem du_len (es : List Ent) : (duD es).length = es.length := by simp [duD]
theorem pl_ix {es : List Ent} {k : Nat} {e : Ent} {q : D → Prop} (h : es[k]? = some e) (hq : q (szD e.f e.s e.p)) : opIx (.own (plD es)) (.int (k : Int)) q := (ix_own (pl_pl es) (by unfold plD; rw [List.getElem?_map, h]; rfl)).mpr hq
theorem du_ix {es : List Ent} {k : Nat} {e : Ent} {q : D → Prop} (h : es[k]? = some e) (hq : q (.lst (canD e.f e.s e.p))) : opIx (.own (duD es)) (.int (k : Int)) q := (ix_own (du_pl es) (by unfold duD; rw [List.getElem?_map, h]; rfl)).mpr hq
theorem s_run {X : XD} {M many : Nat} {row : List Int} {es : List Ent} {P : D → List D → Prop} (hM : 0 < M) (hM2 : M ≤ 400)
    (hr : ∀ k, k < 5 → ∃ v0 v1 v2 v3, row[4 * k]? = some v0 ∧ row[4 * k + 1]? = some v1 ∧ row[4 * k + 2]? = some v2 ∧ row[4 * k + 3]? = some v3 ∧ 0 ≤ v0 ∧ v0 < 8 ∧ 0 ≤ v1 ∧ 0 ≤ v2 ∧ 0 ≤ v3) (hm : many ≤ 5) (h2 : 2 ≤ es.length) (h10 : es.length ≤ 10) (hp : Pool M es)
    (h : ∀ more : List Ent, more.length = many → Pool M (es ++ more) → P (.bl true) [.own (nI row), .own (plD (es ++ more)), .own (duD (es ++ more)), .int many]) : F__law_run X [.own (nI row), .own (plD es), .own (duD es), .int many] P := by
  rw [F__law_run_eq]
  simp -dsimp [W__law_run]
  refine mk_go ?_
  simp -dsimp
  refine ⟨rgOk_of (by omega) (by omega), ?_⟩
  refine for_inv (fun k ρ => ∃ (more : List Ent) (x4 x5 x6 x7 x8 x9 : D), more.length = k ∧ Pool M (es ++ more) ∧ ρ = [.own (nI row), .own (plD (es ++ more)), .own (duD (es ++ more)), .int many, x4, x5, x6, x7, x8, x9])
    ⟨[], _, _, _, _, _, _, rfl, by simpa using hp, by simp; exact ⟨rfl, rfl, rfl, rfl, rfl, rfl⟩⟩ (fun k ρ N hk ⟨more, x4, x5, x6, x7, x8, x9, hml, hpo, e⟩ hN => ?_) fun ρ ⟨more, x4, x5, x6, x7, x8, x9, hml, hpo, e⟩ => ?_
  · subst e
    have hk : k < 5 := by omega
    obtain ⟨v0, v1, v2, v3, g0, g1, g2, g3, a0, b0, a1, a2, a3⟩ := hr k hk
    obtain ⟨fs, hfs⟩ : ∃ fs, fs = es ++ more := ⟨_, rfl⟩
    have hlen : fs.length = es.length + k := by rw [hfs, List.length_append, hml]
    have put : ∀ (e : Ent) (x4 x5 x6 x7 x8 x9 : D), En M e.f e.s e.p → N [.own (nI row), .own (plD fs ++ [szD e.f e.s e.p]), .own (duD fs ++ [.lst (canD e.f e.s e.p)]), .int many, x4, x5, x6, x7, x8, x9] := fun e x4 x5 x6 x7 x8 x9 he => by
      refine hN _ ⟨more ++ [e], x4, x5, x6, x7, x8, x9, by rw [List.length_append, hml]; rfl, ?_, ?_⟩
      · rw [← List.append_assoc, ← hfs]
        intro e' he'
        rcases List.mem_append.mp he' with z | z
        · exact hpo e' (hfs ▸ z)
        · rw [List.mem_singleton.mp z]; exact he
      · rw [← List.append_assoc, ← hfs]
        simp [plD, duD]
    rw [← hfs] at hpo ⊢
    clear hN
    have e0 : (4 : Int) * k = ((4 * k : Nat) : Int) := by omega
    have e1 : ((4 * k : Nat) : Int) + 1 = ((4 * k + 1 : Nat) : Int) := by omega
    have e2 : ((4 * k : Nat) : Int) + 2 = ((4 * k + 2 : Nat) : Int) := by omega
    have e3 : ((4 * k : Nat) : Int) + 3 = ((4 * k + 3 : Nat) : Int) := by omega
    have w : CMulW 4 (k : Int) := cmulW (by decide +kernel) (bits_up (j := 64) (by omega) (by decide))
    simp -dsimp [w, sizeLine]
    rw [e0]
    refine ix_at g0 ?_
    simp -dsimp
    refine ixOI (xs := [4, 4, 4, 4, 0, 1, 2, 3]) a0 (by simp; omega) (fun dv hdv => ?_)
    obtain ⟨deed, rfl, hdl⟩ : ∃ deed : Nat, dv = deed ∧ deed < 5 := by
      have := List.mem_of_getElem? hdv
      simp only [List.mem_cons, List.not_mem_nil, or_false] at this
      exact ⟨dv.toNat, by omega, by omega⟩
    simp -dsimp [w]
    rw [e0, e1]
    refine ix_at g1 ?_
    have n0 : (0 : Int) < fs.length := by omega
    obtain ⟨first, hfirst, hfl⟩ : ∃ n : Nat, v1 % (fs.length : Int) = n ∧ n < fs.length := ⟨(v1 % (fs.length : Int)).toNat, by have := Int.emod_nonneg v1 (show (fs.length : Int) ≠ 0 by omega); omega, by have := Int.emod_lt_of_pos v1 n0; have := Int.emod_nonneg v1 (show (fs.length : Int) ≠ 0 by omega); omega⟩
    simp -dsimp
    refine ⟨by omega, ?_⟩
    rw [hfirst]
    refine mk_cut (fun ρ => ∃ n6 : Nat, n6 < fs.length ∧ ρ = [.own (nI row), .own (plD fs), .own (duD fs), .int many, .int (k : Int), .int deed, .int n6, x7, x8, x9]) (fun N' hN => ?_) ?_
    · by_cases z : v3 = 1
      · simp -dsimp [w]
        rw [e0, e3]
        refine ix_at g3 ?_
        simp -dsimp [z]
        have : (fs.length : Int) - 1 = ((fs.length - 1 : Nat) : Int) := by omega
        rw [this]
        exact hN _ ⟨fs.length - 1, by omega, rfl⟩
      · simp -dsimp [w]
        rw [e0, e3]
        refine ix_at g3 ?_
        simp -dsimp [z]
        exact hN _ ⟨first, hfl, rfl⟩
    rintro ρ ⟨n6, hn6, rfl⟩
    simp -dsimp
    refine mk_cut (fun ρ => ∃ n7 : Nat, n7 < fs.length ∧ ρ = [.own (nI row), .own (plD fs), .own (duD fs), .int many, .int (k : Int), .int deed, .int n6, .int n7, x8, x9]) (fun N' hN => ?_) ?_
    · by_cases z : 6 ≤ v2
      · simp -dsimp [w]
        rw [e0, e2]
        refine ix_at g2 ?_
        simp -dsimp [z, w]
        rw [e0, e2]
        refine ix_at g2 ?_
        simp -dsimp
        have m0 := Int.emod_nonneg v2 (show (fs.length : Int) - 1 ≠ 0 by omega)
        refine ⟨by omega, by omega, ?_⟩
        have q0 := Int.emod_nonneg ((n6 : Int) + 1 + v2 % ((fs.length : Int) - 1)) (show (fs.length : Int) ≠ 0 by omega)
        have q1 := Int.emod_lt_of_pos ((n6 : Int) + 1 + v2 % ((fs.length : Int) - 1)) n0
        obtain ⟨n7, h7⟩ : ∃ n7 : Nat, ((n6 : Int) + 1 + v2 % ((fs.length : Int) - 1)) % (fs.length : Int) = n7 := ⟨(((n6 : Int) + 1 + v2 % ((fs.length : Int) - 1)) % (fs.length : Int)).toNat, by omega⟩
        rw [h7] at q0 q1 ⊢
        exact hN _ ⟨n7, by omega, rfl⟩
      · simp -dsimp [w]
        rw [e0, e2]
        refine ix_at g2 ?_
        simp -dsimp [z]
        exact hN _ ⟨n6, hn6, rfl⟩
    rintro ρ ⟨n7, hn7, rfl⟩
    have h6 : fs[n6]? = some fs[n6] := List.getElem?_eq_getElem hn6
    have h7 : fs[n7]? = some fs[n7] := List.getElem?_eq_getElem hn7
    have A := hpo _ (List.getElem_mem hn6)
    have B := hpo _ (List.getElem_mem hn7)
    have l1 := A.le hM hM2; have l2 := B.le hM hM2; have l3 := A.lcm_le hM hM2 B; have l4 := A.hs; have l5 := B.hs
    refine mk_cut (fun ρ => ∃ deed : Nat, deed < 5 ∧ (deed = 4 → smallB fs[n6].s fs[n7].s fs[n6].p fs[n7].p = true) ∧ ρ = [.own (nI row), .own (plD fs), .own (duD fs), .int many, .int (k : Int), .int deed, .int n6, .int n7, x8, x9]) (fun N' hN => ?_) ?_
    · by_cases z : deed = 4
      · subst z
        simp -dsimp
        refine du_ix h6 ?_
        simp -dsimp
        refine du_ix h7 ?_
        simp -dsimp
        refine s_small A.can.pos B.can.pos (by omega) (by omega) (by omega) (by omega) (go ?_)
        simp -dsimp
        cases c : smallB fs[n6].s fs[n7].s fs[n6].p fs[n7].p with
        | true =>
          simp -dsimp
          exact hN _ ⟨4, by omega, fun _ => c, rfl⟩
        | false =>
          simp -dsimp
          exact hN _ ⟨0, by omega, fun e => absurd e (by decide), rfl⟩
      · have z2 : ¬ (deed : Int) = 4 := by omega
        simp -dsimp [z2]
        exact hN _ ⟨deed, hdl, fun e => absurd e z, rfl⟩
    clear hdl hdv
    clear deed
    rintro ρ ⟨deed, hdl, h4, rfl⟩
    simp -dsimp
    refine pl_ix h6 ?_
    simp -dsimp
    refine pl_ix h7 ?_
    simp -dsimp
    refine r_do hM hM2 hdl h4 A B (fun s0 p0 en => go ?_)
    simp -dsimp
    refine du_ix h6 ?_
    simp -dsimp
    refine du_ix h7 ?_
    simp -dsimp
    refine r_due hM hM2 hdl h4 A B (fun s1 p1 en1 => go ?_)
    obtain ⟨c1, c2⟩ := canon_uniq en1.can en.can
    subst c1 c2
    have lp1 := en.le hM hM2
    have ls1 := en.hs
    obtain ⟨u, hu⟩ : ∃ u, u = opS deed fs[n6].f fs[n7].f := ⟨_, rfl⟩
    rw [← hu] at en ⊢
    clear en1
    simp -dsimp
    refine mk_cut (fun ρ => ρ = [.own (nI row), .own (plD fs), .own (duD fs), .int many, .int (k : Int), .int deed, .int n6, .int n7, szD u s1 p1, .own (canD u s1 p1)]) (fun N' hN => ?_) ?_
    · simp -dsimp
      refine s_told (by omega) (by omega) (go ?_)
      simp -dsimp
      refine ne_parts (.inl rfl) (.inl rfl) ?_
      rw [eqSz_self]
      simp -dsimp
      exact hN _ rfl
    rintro ρ rfl
    simp -dsimp [sizeLine]
    exact ⟨by omega, put ⟨u, s1, p1⟩ _ _ _ _ _ _ en⟩
  · subst e
    simp -dsimp
    exact h more hml hpo
end K47

end
section
set_option maxHeartbeats 1000000
namespace K47
open PySem PySem.Spec PyProof.Rows L2 FL SZ
theorem mulG {xs : List Int} {k : Nat} {p : D → Prop} (hk : k < 1000000) (hl : xs.length * k < 1000000) (h : p (.own (nI (List.replicate k xs).flatten))) : opMul (.own (nI xs)) (.int k) p := by
  refine ⟨nI xs, if_pos (nI_pl xs), by omega, by omega, by simp; unfold sizeLine; omega, ?_⟩
  have e : ∀ n : Nat, (List.replicate n (nI xs)).flatten = nI (List.replicate n xs).flatten := fun n => by
    induction n with
    | zero => rfl
    | succ n ih =>
      rw [List.replicate_succ, List.flatten_cons, ih, List.replicate_succ, List.flatten_cons]
      exact (List.map_append).symm
  rw [Int.toNat_natCast, e]
  exact h
theorem lcm_le {a b : Nat} (ha : 0 < a) (hb : 0 < b) : Nat.lcm a b ≤ a * b := Nat.le_of_dvd (Nat.mul_pos ha hb) (Nat.lcm_dvd (Nat.dvd_mul_right a b) (Nat.dvd_mul_left b a))
theorem lcm_le2 {a b : Nat} (x y : Nat) (ha0 : 0 < a) (hb0 : 0 < b) (ha : a ≤ x) (hb : b ≤ y) (h : x * y ≤ 400) : Nat.lcm a b ≤ 400 := Nat.le_trans (lcm_le ha0 hb0) (Nat.le_trans (Nat.mul_le_mul ha hb) h)
theorem divs_len {p : Nat} : (divs p).length ≤ p := by
  unfold divs
  rw [List.length_map]
  exact Nat.le_trans (List.length_filter_le _ _) (by simp)
theorem s_starts {X : XD} {c : Int} {kind : Int} {P : D → List D → Prop} (h : ∀ L : List Nat, L.length = 3 → (∀ x ∈ L, x ≤ 400) → P (.own (L.map fun x : Nat => D.int x)) [.int c, .int kind]) : F__law_starts X [.int c, .int kind] P := by
  rw [F__law_starts_eq]
  simp -dsimp [W__law_starts, sizeLine]
  refine mulG (xs := [16, 401, 4]) (k := 3) (by omega) (by simp) ?_
  obtain ⟨sz, hsz⟩ : ∃ sz : List Int, (List.replicate 3 ([16, 401, 4] : List Int)).flatten = sz := ⟨_, rfl⟩
  have hsz2 : sz = [16, 401, 4, 16, 401, 4, 16, 401, 4] := by rw [← hsz]; rfl
  rw [hsz]
  simp -dsimp
  refine s_digits (sz := sz) (by rw [hsz2]; simp) (by rw [hsz2]; simp) (fun row d hl hg => go ?_)
  have at3 : ∀ k : Nat, k < 3 → (∃ v, row[3 * k]? = some v ∧ 0 ≤ v ∧ v < 16) ∧ (∃ v, row[3 * k + 1]? = some v ∧ 0 ≤ v ∧ v < 401) ∧ (∃ v, row[3 * k + 2]? = some v ∧ 0 ≤ v ∧ v < 4) := fun k hk => by
    rcases (show k = 0 ∨ k = 1 ∨ k = 2 by omega) with z | z | z <;> subst z <;> exact ⟨good_at hl hg (by rw [hsz2]; rfl), good_at hl hg (by rw [hsz2]; rfl), good_at hl hg (by rw [hsz2]; rfl)⟩
  simp -dsimp [sizeLine]
  refine ⟨rgOk_of (by omega) (by omega), ?_⟩
  refine for_inv (fun k ρ => ∃ (L : List Nat) (x y : D), L.length = k ∧ (∀ x ∈ L, x ≤ 400) ∧ ρ = [.int c, .int kind, .own (nI row), .own (L.map fun x : Nat => D.int x), x, y]) ⟨[], _, _, rfl, by simp, rfl⟩ (fun k ρ N hk ⟨L, x, y, hL, hle, e⟩ hN => ?_) fun ρ ⟨L, x, y, hL, hle, e⟩ => ?_
  · subst e
    have hk : k < 3 := hk
    obtain ⟨⟨u0, i0, p0, q0⟩, ⟨u1, i1, p1, q1⟩, ⟨u2, i2, p2, q2⟩⟩ := at3 k hk
    have e0 : (3 : Int) * k = ((3 * k : Nat) : Int) := by omega
    have e1 : ((3 * k : Nat) : Int) + 1 = ((3 * k + 1 : Nat) : Int) := by omega
    have e2 : ((3 * k : Nat) : Int) + 2 = ((3 * k + 2 : Nat) : Int) := by omega
    have w : CMulW 3 (k : Int) := cmulW (by decide +kernel) (bits_up (j := 64) (by omega) (by decide))
    have put : ∀ n : Nat, n ≤ 400 → ∀ y : D, N [.int c, .int kind, .own (nI row), .own (L.map (fun x : Nat => D.int x) ++ [.int n]), .int (k : Int), y] := fun n hn y => hN _ ⟨L ++ [n], .int (k : Int), y, by rw [List.length_append, hL]; rfl, fun x hx => by
      rcases List.mem_append.mp hx with z | z
      · exact hle x z
      · rw [List.mem_singleton.mp z]; exact hn, by rw [List.map_append]; rfl⟩
    simp -dsimp [w]
    rw [e0]
    refine ix_at i0 ?_
    have ck : kind = 0 ∨ (¬ kind = 0 ∧ kind = 3) ∨ (¬ kind = 0 ∧ ¬ kind = 3) := by omega
    rcases ck with z | ⟨y, z⟩ | ⟨y, z⟩
    · subst z
      simp -dsimp [w]
      rw [e0, e1]
      refine ix_at i1 ?_
      simp -dsimp [w]
      rw [e0, e2]
      refine ix_at i2 ?_
      by_cases z0 : u2 = 0
      · simp -dsimp [z0, sizeLine]
        exact ⟨by omega, put 400 (by omega) _⟩
      · simp -dsimp [z0, sizeLine]
        have e : u1 = ((u1.toNat : Nat) : Int) := by omega
        rw [e]
        exact ⟨by omega, put _ (by omega) _⟩
    · subst z
      simp -dsimp [w]
      rw [e0, e1]
      refine ix_at i1 ?_
      simp -dsimp [w]
      rw [e0, e2]
      refine ix_at i2 ?_
      by_cases z0 : u2 = 0
      · simp -dsimp [z0, sizeLine]
        exact ⟨by omega, put 400 (by omega) _⟩
      · simp -dsimp [z0, sizeLine]
        have e : u1 = ((u1.toNat : Nat) : Int) := by omega
        rw [e]
        exact ⟨by omega, put _ (by omega) _⟩
    · simp -dsimp [y, z, sizeLine]
      refine ⟨by omega, ?_⟩
      split
      · have e : u0 - 3 = (((u0 - 3).toNat : Nat) : Int) := by omega
        rw [e]
        exact put _ (by omega) _
      · exact put 0 (by omega) _
  · subst e
    simp -dsimp
    exact h L hL hle
theorem s_periods {X : XD} {c kind : Int} {P : D → List D → Prop}
    (h : ∀ (M a b c1 : Nat), 0 < M → M ≤ 400 → a ∣ M → b ∣ M → c1 ∣ M → P (.own [.int a, .int b, .int c1]) [.int c, .int kind]) : F__law_periods X [.int c, .int kind] P := by
  rw [F__law_periods_eq]
  simp -dsimp [W__law_periods, sizeLine]
  refine s_digits (sz := [12, 12, 20, 20, 301, 3, 60, 60]) (by simp) (by simp) (fun row d hl hg => go ?_)
  obtain ⟨v0, g0, a0, b0⟩ := good_at hl hg (i := 0) (s := 12) rfl
  obtain ⟨v1, g1, a1, b1⟩ := good_at hl hg (i := 1) (s := 12) rfl
  obtain ⟨v2, g2, a2, b2⟩ := good_at hl hg (i := 2) (s := 20) rfl
  obtain ⟨v3, g3, a3, b3⟩ := good_at hl hg (i := 3) (s := 20) rfl
  obtain ⟨v4, g4, a4, b4⟩ := good_at hl hg (i := 4) (s := 301) rfl
  obtain ⟨v5, g5, a5, b5⟩ := good_at hl hg (i := 5) (s := 3) rfl
  obtain ⟨v6, g6, a6, b6⟩ := good_at hl hg (i := 6) (s := 60) rfl
  obtain ⟨v7, g7, a7, b7⟩ := good_at hl hg (i := 7) (s := 60) rfl
  simp -dsimp [ix_at0 g0, ix_at1 g1, sizeLine]
  obtain ⟨n0, e0, l0, k0⟩ : ∃ n : Nat, 1 + v0 = n ∧ 0 < n ∧ n ≤ 12 := ⟨(1 + v0).toNat, by omega, by omega, by omega⟩
  obtain ⟨n1, e1, l1, k1⟩ : ∃ n : Nat, 1 + v1 = n ∧ 0 < n ∧ n ≤ 12 := ⟨(1 + v1).toNat, by omega, by omega, by omega⟩
  rw [e0, e1]
  let J : List D → Prop := fun ρ => ∃ a b : Nat, 0 < a ∧ 0 < b ∧ a ≤ 1000 ∧ b ≤ 1000 ∧ Nat.lcm a b ≤ 400 ∧ ρ = [.int c, .int kind, .own (nI row), .own [.int a, .int b], .und, .und, .und]
  refine mk_cut J (fun N hN => ?_) ?_
  · by_cases z : v5 = 0
    · have w : CMulW (n0 : Int) (1 + v1 % 3) := cmulW (bits_up (j := 64) (by omega) (by decide)) (bits_up (j := 64) (by omega) (by decide))
      obtain ⟨m, em, m0, m3⟩ : ∃ m : Nat, 1 + v1 % 3 = m ∧ 0 < m ∧ m ≤ 3 := ⟨(1 + v1 % 3).toNat, by omega, by omega, by omega⟩
      simp -dsimp [ix_at5 g5, ix_at0 g0, ix_at1 g1, z, sizeLine]
      rw [e0]
      refine ⟨w, ?_⟩
      rw [em, ← Int.natCast_mul]
      have q : n0 * m ≤ 12 * 3 := Nat.mul_le_mul k0 m3
      exact hN _ ⟨n0, n0 * m, l0, Nat.mul_pos l0 m0, by omega, by omega, Nat.le_trans (Nat.le_of_dvd (Nat.mul_pos l0 m0) (Nat.lcm_dvd (Nat.dvd_mul_right n0 m) (Nat.dvd_refl _))) (by omega), rfl⟩
    · simp -dsimp [ix_at5 g5, z]
      exact hN _ ⟨n0, n1, l0, l1, by omega, by omega, lcm_le2 12 12 l0 l1 k0 k1 (by decide), rfl⟩
  rintro ρ ⟨a, b, ha, hb, ha2, hb2, hab, rfl⟩
  refine mk_cut J (fun N hN => ?_) ?_
  · by_cases z : kind = 1
    · subst z
      simp -dsimp [ix_at2 g2, ix_at3 g3, sizeLine]
      obtain ⟨n, e, l, k⟩ : ∃ n : Nat, 18 + v2 % 3 = n ∧ 0 < n ∧ n ≤ 20 := ⟨(18 + v2 % 3).toNat, by omega, by omega, by omega⟩
      obtain ⟨n', e', l', k'⟩ : ∃ n : Nat, 17 + v3 % 3 = n ∧ 0 < n ∧ n ≤ 19 := ⟨(17 + v3 % 3).toNat, by omega, by omega, by omega⟩
      rw [e, e']
      exact hN _ ⟨n, n', l, l', by omega, by omega, lcm_le2 20 19 l l' k k' (by decide), rfl⟩
    · simp -dsimp [z]
      exact hN _ ⟨a, b, ha, hb, ha2, hb2, hab, rfl⟩
  clear ha hb ha2 hb2 hab a b
  rintro ρ ⟨a, b, ha, hb, ha2, hb2, hab, rfl⟩
  refine mk_cut J (fun N hN => ?_) ?_
  · by_cases z : kind = 2
    · subst z
      simp -dsimp [ix_at2 g2, ix_at3 g3, sizeLine]
      obtain ⟨n, e, l, k⟩ : ∃ n : Nat, 1 + v2 = n ∧ 0 < n ∧ n ≤ 20 := ⟨(1 + v2).toNat, by omega, by omega, by omega⟩
      obtain ⟨n', e', l', k'⟩ : ∃ n : Nat, 1 + v3 = n ∧ 0 < n ∧ n ≤ 20 := ⟨(1 + v3).toNat, by omega, by omega, by omega⟩
      rw [e, e']
      exact hN _ ⟨n, n', l, l', by omega, by omega, lcm_le2 20 20 l l' k k' (by decide), rfl⟩
    · simp -dsimp [z]
      exact hN _ ⟨a, b, ha, hb, ha2, hb2, hab, rfl⟩
  clear ha hb ha2 hb2 hab a b
  rintro ρ ⟨a, b, ha, hb, ha2, hb2, hab, rfl⟩
  refine mk_cut (fun ρ => ∃ a b : Nat, 0 < a ∧ 0 < b ∧ a ≤ 1000 ∧ b ≤ 1000 ∧ Nat.lcm a b ≤ 400 ∧ (kind = 0 → 100 ≤ Nat.lcm a b) ∧ ρ = [.int c, .int kind, .own (nI row), .own [.int a, .int b], .und, .und, .und]) (fun N hN => ?_) ?_
  · by_cases z : kind = 0
    · subst z
      by_cases y : v5 = 0
      · simp -dsimp [ix_at4 g4, ix_at5 g5, y, sizeLine]
        exact hN _ ⟨400, 1, by omega, by omega, by omega, by omega, by decide, fun _ => by decide, rfl⟩
      · simp -dsimp [ix_at4 g4, ix_at5 g5, y, sizeLine]
        obtain ⟨n, e, l, k⟩ : ∃ n : Nat, 100 + v4 = n ∧ 100 ≤ n ∧ n ≤ 400 := ⟨(100 + v4).toNat, by omega, by omega, by omega⟩
        rw [e]
        exact hN _ ⟨n, 1, by omega, by omega, by omega, by omega, by rw [Nat.lcm_one_right]; exact k, fun _ => by rw [Nat.lcm_one_right]; exact l, rfl⟩
    · simp -dsimp [z]
      exact hN _ ⟨a, b, ha, hb, ha2, hb2, hab, fun e => absurd e z, rfl⟩
  clear ha hb ha2 hb2 hab a b
  rintro ρ ⟨a, b, ha, hb, ha2, hb2, M400, hk0, rfl⟩
  simp -dsimp
  refine s_lcm ha hb (by omega) (by omega) (go ?_)
  have M0 : 0 < Nat.lcm a b := Nat.lcm_pos ha hb
  have dM1 := Nat.dvd_lcm_left a b
  have dM2 := Nat.dvd_lcm_right a b
  generalize Nat.lcm a b = M at M400 M0 dM1 dM2 hk0 ⊢
  simp -dsimp
  refine ⟨_, _, ⟨rfl, rfl⟩, rgOk_of (by omega) (by omega), rgOk_of (by omega) (by omega), ?_⟩
  have ep : ((M : Int) + 1 - 1).toNat = M := by omega
  rw [ep]
  refine lc_rng (b := fun k => decide (M % (k + 1) = 0)) (v := fun k => D.int ((k + 1 : Nat) : Int)) rfl (by unfold sizeLine; omega) (fun k hk T hT => ?_) (fun k hk hb N hN => ?_) (go ?_)
  · simp -dsimp
    refine ⟨by omega, ?_⟩
    have e : decide ((M : Int) % (1 + k) = 0) = decide (M % (k + 1) = 0) := decide_eq_decide.mpr (by
      have : (M : Int) % (1 + k) = ((M % (k + 1) : Nat) : Int) := by
        rw [Int.natCast_emod]
        congr 1
        omega
      omega)
    rw [e]
    exact hT
  · simp -dsimp
    have e : (1 : Int) + k = ((k + 1 : Nat) : Int) := by omega
    rw [e] at hN ⊢
    exact hN
  have ed : ((List.range M).filter fun k => decide (M % (k + 1) = 0)).map (fun k => D.int ((k + 1 : Nat) : Int)) = nI (divs M) := by
    unfold divs
    show _ = List.map D.int (List.map _ _)
    rw [List.map_map]
    rfl
  rw [ed]
  have dp := divs_pos M0
  have dl := divs_len (p := M)
  have pick : ∀ {S : List Int} {v : Int} {q : D → Prop}, 0 < S.length → (∀ v ∈ S, ∃ dv : Nat, v = dv ∧ dv ∣ M) → (∀ dv : Nat, dv ∣ M → q (.int dv)) → opIx (.own (nI S)) (.int (v % S.length)) q := fun {S v q} hS0 hS hq =>
    ixOI (Int.emod_nonneg _ (by omega)) (Int.emod_lt_of_pos _ (by omega)) (fun w hw => by
      obtain ⟨dv, e, e3⟩ := hS _ (List.mem_of_getElem? hw)
      subst e
      exact hq dv e3)
  have dS : ∀ v ∈ divs M, ∃ dv : Nat, v = dv ∧ dv ∣ M := fun v hv => by
    obtain ⟨dv, e, _, _, e3⟩ := divs_mem hv
    exact ⟨dv, e, e3⟩
  have dMM : (M : Int) ∈ divs M := by
    unfold divs
    rw [List.mem_map]
    refine ⟨M - 1, ?_, by omega⟩
    rw [List.mem_filter, List.mem_range, decide_eq_true_eq]
    refine ⟨by omega, ?_⟩
    have : M - 1 + 1 = M := by omega
    rw [this, Nat.mod_self]
  simp -dsimp
  refine mk_cut (fun ρ => ∃ (a b : Nat) (S : List Int), a ∣ M ∧ b ∣ M ∧ 0 < S.length ∧ (∀ v ∈ S, ∃ dv : Nat, v = dv ∧ dv ∣ M) ∧ ρ = [.int c, .int kind, .own (nI row), .own [.int a, .int b], .int M, .own (nI S), .und]) (fun N hN => ?_) ?_
  · by_cases z : kind = 0
    · subst z
      have M100 := hk0 rfl
      simp -dsimp
      refine lc_gen (b := fun k => decide (50 ≤ (divs M).getD k 0)) (v := fun k => D.int ((divs M).getD k 0)) rfl (by simp; unfold sizeLine; omega) (fun k d hd T hT => ?_) (fun k d hd hb N hN => ?_) (go ?_)
      · rw [List.getElem?_map] at hd
        obtain ⟨i, hi, rfl⟩ := Option.map_eq_some_iff.mp hd
        have e : (divs M).getD k 0 = i := by rw [List.getD_eq_getElem?_getD, hi]; rfl
        rw [e] at hT
        simp -dsimp
        simpa using hT
      · rw [List.getElem?_map] at hd
        obtain ⟨i, hi, rfl⟩ := Option.map_eq_some_iff.mp hd
        have e : (divs M).getD k 0 = i := by rw [List.getD_eq_getElem?_getD, hi]; rfl
        rw [e] at hN
        simp -dsimp
        simpa using hN
      have eS : ((List.range (nI (divs M)).length).filter fun k => decide (50 ≤ (divs M).getD k 0)).map (fun k => D.int ((divs M).getD k 0)) = nI (((List.range (divs M).length).filter fun k => decide (50 ≤ (divs M).getD k 0)).map fun k => (divs M).getD k 0) := by
        show _ = List.map D.int (List.map _ _)
        rw [List.map_map, List.length_map]
        rfl
      rw [eS]
      have hS : ∀ v ∈ (((List.range (divs M).length).filter fun k => decide (50 ≤ (divs M).getD k 0)).map fun k => (divs M).getD k 0), ∃ dv : Nat, v = dv ∧ dv ∣ M := fun v hv => by
        obtain ⟨k, hk, rfl⟩ := List.mem_map.mp hv
        rw [List.mem_filter, List.mem_range] at hk
        have : (divs M).getD k 0 = (divs M)[k] := by rw [List.getD_eq_getElem?_getD, List.getElem?_eq_getElem hk.1]; rfl
        rw [this]
        exact dS _ (List.getElem_mem _)
      have hS0 : 0 < (((List.range (divs M).length).filter fun k => decide (50 ≤ (divs M).getD k 0)).map fun k => (divs M).getD k 0).length := by
        obtain ⟨k, hk, e⟩ := List.mem_iff_getElem.mp dMM
        have e2 : (divs M).getD k 0 = (M : Int) := by rw [List.getD_eq_getElem?_getD, List.getElem?_eq_getElem hk]; exact e
        refine List.length_pos_of_mem (a := (M : Int)) (List.mem_map.mpr ⟨k, ?_, e2⟩)
        rw [List.mem_filter, List.mem_range, e2, decide_eq_true_eq]
        exact ⟨hk, by omega⟩
      generalize (((List.range (divs M).length).filter fun k => decide (50 ≤ (divs M).getD k 0)).map fun k => (divs M).getD k 0) = S at hS hS0
      simp -dsimp [ix_at6 g6, sizeLine]
      refine ⟨by omega, pick hS0 hS fun dv hdv => ?_⟩
      simp -dsimp [sizeLine]
      exact hN _ ⟨a, dv, S, dM1, hdv, hS0, hS, rfl⟩
    · simp -dsimp [z]
      exact hN _ ⟨a, b, divs M, dM1, dM2, dp, dS, rfl⟩
  rintro ρ ⟨a2, b2, S, ha2, hb2, hS0, hS, rfl⟩
  simp -dsimp [ix_at7 g7, sizeLine]
  refine ⟨by omega, pick hS0 hS fun dv hdv => ?_⟩
  simp -dsimp [sizeLine]
  refine addL rfl rfl (by simp [sizeLine]) ?_
  simp -dsimp
  exact h M a2 b2 dv M0 M400 ha2 hb2 hdv
end K47

end
section
set_option maxHeartbeats 1000000
namespace K47
open PySem PySem.Spec PyProof.Rows L2 FL SZ
theorem divs_len' {p : Nat} : (divs p).length ≤ p := by
  unfold divs
  rw [List.length_map]
  exact Nat.le_trans (List.length_filter_le _ _) (by simp)
theorem s_few {X : XD} {ns : List Int} {at_ : Int} {s p : Nat} {again : Bool} {P : D → List D → Prop} (h0 : 0 ≤ at_) (h1 : at_ < 900) (hs : s ≤ 2000) (hp0 : 0 < p) (hp : p ≤ 2000)
    (h : ∀ f E R, Desc f E s p R → E.length ≤ s → R.length ≤ p → P (.own (partsD E s p R)) [.flst (nI ns), .int at_, .int s, .int p, .bl again]) : F__law_few X [.flst (nI ns), .int at_, .int s, .int p, .bl again] P := by
  rw [F__law_few_eq]
  simp -dsimp [W__law_few]
  refine s_cell h0 (by omega) (fun c => go ?_)
  simp -dsimp [sizeLine]
  refine mulI (a := 2003) (s := 7) (by omega) ?_
  obtain ⟨s7, hs7⟩ : ∃ s7 : List Int, List.replicate 7 2003 = s7 := ⟨_, rfl⟩
  have hs72 : s7 = [2003, 2003, 2003, 2003, 2003, 2003, 2003] := by rw [← hs7]; rfl
  rw [hs7]
  simp -dsimp [sizeLine]
  refine addL (ds := [.int 5, .int 5, .int 3, .int 60]) rfl (nI_pl s7) (by rw [hs72]; simp [sizeLine]) ?_
  obtain ⟨sz, hsz⟩ : ∃ sz : List Int, [5, 5, 3, 60] ++ s7 = sz := ⟨_, rfl⟩
  have hsz2 : sz = [5, 5, 3, 60, 2003, 2003, 2003, 2003, 2003, 2003, 2003] := by rw [← hsz, hs72]; rfl
  have esz : [D.int 5, .int 5, .int 3, .int 60] ++ nI s7 = nI sz := by rw [← hsz]; rfl
  rw [esz]
  simp -dsimp
  refine s_digits (sz := sz) (by rw [hsz2]; simp) (by rw [hsz2]; simp) (fun row d hl hg => go ?_)
  obtain ⟨v0, g0, a0, b0⟩ := good_at hl hg (i := 0) (s := 5) (by rw [hsz2]; rfl)
  obtain ⟨v1, g1, a1, b1⟩ := good_at hl hg (i := 1) (s := 5) (by rw [hsz2]; rfl)
  obtain ⟨v2, g2, a2, b2⟩ := good_at hl hg (i := 2) (s := 3) (by rw [hsz2]; rfl)
  obtain ⟨v3, g3, a3, b3⟩ := good_at hl hg (i := 3) (s := 60) (by rw [hsz2]; rfl)
  have at4 : ∀ k : Nat, k < 11 → ∃ v, row[k]? = some v := fun k hk => ⟨_, List.getElem?_eq_getElem (by rw [hl, hsz2]; exact hk)⟩
  obtain ⟨m0, rfl, c0⟩ : ∃ m : Nat, v0 = m ∧ m < 5 := ⟨v0.toNat, by omega, by omega⟩
  simp -dsimp [ix_at0 g0]
  refine ⟨rgOk_of (by omega) (by omega), ?_⟩
  refine lc_rng (b := fun _ => decide (0 < s)) (v := fun k => D.int (row.getD (4 + k) 0 % s)) rfl (by unfold sizeLine; omega) (fun k hk T hT => ?_) (fun k hk hb N hN => ?_) (go ?_)
  · have e : decide ((0 : Int) < s) = decide (0 < s) := decide_eq_decide.mpr (by omega)
    simp -dsimp
    rw [← e] at hT
    simpa using hT
  · have hs0 := of_decide_eq_true hb
    have hk2 : k < m0 := by omega
    obtain ⟨v, hv⟩ := at4 (4 + k) (by omega)
    have e : (4 : Int) + (k : Int) = ((4 + k : Nat) : Int) := by omega
    have ev : row.getD (4 + k) 0 = v := by rw [List.getD_eq_getElem?_getD, hv]; rfl
    rw [ev] at hN
    simp -dsimp
    rw [e]
    refine ix_at hv ?_
    simp -dsimp
    exact ⟨by omega, by simpa using hN⟩
  have eE : ((List.range m0).filter fun _ => decide (0 < s)).map (fun k => D.int (row.getD (4 + k) 0 % s)) = nI (((List.range m0).filter fun _ => decide (0 < s)).map fun k => row.getD (4 + k) 0 % s) := by
    show _ = List.map D.int (List.map _ _)
    rw [List.map_map]
    rfl
  rw [eE]
  have lE : (((List.range m0).filter fun _ => decide (0 < s)).map fun k => row.getD (4 + k) 0 % s).length ≤ 5 := by
    rw [List.length_map]
    refine Nat.le_trans (List.length_filter_le _ _) ?_
    simp; omega
  generalize (((List.range m0).filter fun _ => decide (0 < s)).map fun k => row.getD (4 + k) 0 % s) = ER at lE
  simp -dsimp
  refine mk_cut (fun ρ => ∃ (st : Nat) (x : D), 0 < st ∧ st ≤ p ∧ ρ = [.flst (nI ns), .int at_, .int s, .int p, .bl again, .own (nI row), .own (nI ER), .int st, x, .und, .und, .und, .und, .und]) (fun N hN => ?_) ?_
  · by_cases z : again = true ∧ v2 = 0
    · obtain ⟨z, y⟩ := z
      subst z
      simp -dsimp [ix_at2 g2, y]
      refine ⟨_, _, ⟨rfl, rfl⟩, rgOk_of (by omega) (by omega), rgOk_of (by omega) (by omega), ?_⟩
      have ep : ((p : Int) + 1 - 1).toNat = p := by omega
      rw [ep]
      refine lc_rng (b := fun k => decide (p % (k + 1) = 0)) (v := fun k => D.int ((k + 1 : Nat) : Int)) rfl (by unfold sizeLine; omega) (fun k hk T hT => ?_) (fun k hk hb N hN => ?_) (go ?_)
      · simp -dsimp
        refine ⟨by omega, ?_⟩
        have e : decide ((p : Int) % (1 + k) = 0) = decide (p % (k + 1) = 0) := decide_eq_decide.mpr (by
          have : (p : Int) % (1 + k) = ((p % (k + 1) : Nat) : Int) := by
            rw [Int.natCast_emod]
            congr 1
            omega
          omega)
        rw [e]
        exact hT
      · simp -dsimp
        have e : (1 : Int) + k = ((k + 1 : Nat) : Int) := by omega
        rw [e] at hN ⊢
        exact hN
      have ed : ((List.range p).filter fun k => decide (p % (k + 1) = 0)).map (fun k => D.int ((k + 1 : Nat) : Int)) = nI (divs p) := by
        unfold divs
        show _ = List.map D.int (List.map _ _)
        rw [List.map_map]
        rfl
      rw [ed]
      have dp := divs_pos hp0
      simp -dsimp [ix_at3 g3]
      refine ⟨by omega, ?_⟩
      refine ixOI (Int.emod_nonneg _ (by omega)) (Int.emod_lt_of_pos _ (by omega)) (fun v hv => ?_)
      obtain ⟨dv, e, e1, e2, _⟩ := divs_mem (List.mem_of_getElem? hv)
      subst e
      simp -dsimp
      exact hN _ ⟨dv, _, e1, e2, rfl⟩
    · cases again with
      | false =>
        simp -dsimp
        exact hN _ ⟨p, _, hp0, Nat.le_refl _, rfl⟩
      | true =>
        have y : ¬ v2 = 0 := fun e => z ⟨rfl, e⟩
        simp -dsimp [ix_at2 g2, y]
        exact hN _ ⟨p, _, hp0, Nat.le_refl _, rfl⟩
  rintro ρ ⟨st, x8, hst0, hst, rfl⟩
  have fin : ∀ n9 : Nat, n9 ≤ 3 → (wSeq (wAsg 10 (wLcR1 (wCons (wVar 9) wNil) (.name 11) wYes (wSh (wBin (binOf .Mod) (wCB opInt (wCons (wBin opIx (wVar 5) (wBin (binOf .Add) (wC (.int 8)) (wVar 11))) wNil)) (wVar 7))))) (wRet [0, 1, 2, 3, 4] (wCB opLst (wCons (wSh (wLcR1 (wCons (wVar 2) wNil) (.name 12) (wTest (wBin (cmpOf .In) (wVar 12) (wVar 6))) (wSh (wVar 12)))) (wCons (wSh (wVar 2)) (wCons (wSh (wVar 3)) (wCons (wSh (wLcR1 (wCons (wVar 3) wNil) (.name 13) (wTest (wBin (cmpOf .In) (wBin (binOf .Mod) (wCB opInt (wCons (wVar 13) wNil)) (wVar 7)) (wVar 10))) (wSh (wVar 13)))) wNil)))))))
      (fun x ρ => X x (finD [0, 1, 2, 3, 4] 0 5 ρ)) (⟨fun ρ => P .non (finD [0, 1, 2, 3, 4] 0 5 ρ), fun d ρ => P d (finD [0, 1, 2, 3, 4] 0 5 ρ), fun _ => False, fun _ => False⟩ : WEnds) [.flst (nI ns), .int at_, .int s, .int p, .bl again, .own (nI row), .own (nI ER), .int st, x8, .int n9, .und, .und, .und, .und] := fun n9 l9 => by
    simp -dsimp
    refine ⟨rgOk_of (by omega) (by omega), ?_⟩
    refine lc_rngY (v := fun k => D.int (row.getD (8 + k) 0 % st)) rfl (by unfold sizeLine; omega) (fun k hk N hN => ?_) (go ?_)
    · have hk2 : k < n9 := by omega
      obtain ⟨v, hv⟩ := at4 (8 + k) (by omega)
      have e : (8 : Int) + (k : Int) = ((8 + k : Nat) : Int) := by omega
      have ev : row.getD (8 + k) 0 = v := by rw [List.getD_eq_getElem?_getD, hv]; rfl
      rw [ev] at hN
      simp -dsimp
      rw [e]
      refine ix_at hv ?_
      simp -dsimp
      exact ⟨by omega, by simpa using hN⟩
    have eP : (List.range n9).map (fun k => D.int (row.getD (8 + k) 0 % st)) = nI ((List.range n9).map fun k => row.getD (8 + k) 0 % st) := by
      show _ = List.map D.int (List.map _ _)
      rw [List.map_map]
      rfl
    rw [eP]
    generalize ((List.range n9).map fun k => row.getD (8 + k) 0 % st) = PK
    simp -dsimp
    refine ⟨rgOk_of (by omega) (by omega), ?_⟩
    refine lc_rng (b := fun k : Nat => decide ((k : Int) ∈ ER)) (v := fun k => D.int k) rfl (by unfold sizeLine; omega) (fun k hk T hT => ?_) (fun k hk hb N hN => ?_) (go ?_)
    · simp -dsimp
      refine inI_own ?_
      simp -dsimp
      simpa using hT
    · simp -dsimp
      simpa using hN
    have e8 : ((List.range s).filter fun k : Nat => decide ((k : Int) ∈ ER)).map (fun k : Nat => D.int k) = nI (earlyOf (fun k : Nat => decide ((k : Int) ∈ ER)) s) := by simp [earlyOf]
    rw [e8]
    generalize hb1 : (fun k : Nat => decide ((k : Int) ∈ ER)) = b1
    simp -dsimp
    refine ⟨rgOk_of (by omega) (by omega), ?_⟩
    refine lc_rng (b := fun k : Nat => decide (((k % st : Nat) : Int) ∈ PK)) (v := fun k => D.int k) rfl (by unfold sizeLine; omega) (fun k hk T hT => ?_) (fun k hk hb N hN => ?_) (go ?_)
    · have e4 : (k : Int) % st = ((k % st : Nat) : Int) := by rw [Int.natCast_emod]
      simp -dsimp
      refine ⟨by omega, ?_⟩
      rw [e4]
      refine inI_own ?_
      simp -dsimp
      simpa using hT
    · simp -dsimp
      simpa using hN
    have e9 : ((List.range p).filter fun k : Nat => decide (((k % st : Nat) : Int) ∈ PK)).map (fun k : Nat => D.int k) = nI (earlyOf (fun k : Nat => decide (((k % st : Nat) : Int) ∈ PK)) p) := by simp [earlyOf]
    rw [e9]
    generalize hb2 : (fun k : Nat => decide (((k % st : Nat) : Int) ∈ PK)) = b2
    simp -dsimp [sizeLine]
    exact h _ _ _ (desc_raw hp0) len_early len_early
  have key : ∀ n9 : Nat, n9 ≤ 3 → _ := fun n9 l9 => mk_cut (X := (fun x ρ => X x (finD [0, 1, 2, 3, 4] 0 5 ρ))) (E := (⟨fun ρ => P .non (finD [0, 1, 2, 3, 4] 0 5 ρ), fun d ρ => P d (finD [0, 1, 2, 3, 4] 0 5 ρ), fun _ => False, fun _ => False⟩ : WEnds)) (v := wIf (wTest (wBin (cmpOf .Eq) (wCB opLen (wCons (wVar 6) wNil)) (wC (.int 0)))) (wAsg 9 (wCB opMax (wCons (wC (.int 1)) (wCons (wVar 9) wNil)))) wNext) (ρ := [.flst (nI ns), .int at_, .int s, .int p, .bl again, .own (nI row), .own (nI ER), .int st, x8, .int n9, .und, .und, .und, .und])
    (fun ρ => ∃ n9 : Nat, n9 ≤ 3 ∧ ρ = [.flst (nI ns), .int at_, .int s, .int p, .bl again, .own (nI row), .own (nI ER), .int st, x8, .int n9, .und, .und, .und, .und]) (fun N hN => by
      by_cases z : ER = []
      · simp -dsimp
        rw [if_pos z]
        split
        · exact hN _ ⟨n9, l9, rfl⟩
        · exact hN _ ⟨1, by omega, rfl⟩
      · simp -dsimp
        rw [if_neg z]
        exact hN _ ⟨n9, l9, rfl⟩) (fun ρ ⟨n, l, e⟩ => by subst e; exact fin n l)
  simp -dsimp [ix_at1 g1]
  split
  · have e : v1 - 1 = (((v1 - 1).toNat : Nat) : Int) := by omega
    rw [e]
    exact key _ (by omega)
  · exact key 0 (by omega)
end K47

end
section
set_option maxHeartbeats 1000000
namespace K47
open PySem PySem.Spec PyProof.Rows L2 FL SZ
/-- a set with a start to 1200 -/
structure Wd (M : Nat) (f : Nat → Bool) (s p : Nat) : Prop where
  can : SZ.Canon f s p
  hs : s ≤ 1200
  hd : p ∣ M
def zeroF : Nat → Bool := fun n => decide (n = 0)
def noneF : Nat → Bool := fun _ => false
theorem desc_zero : Desc zeroF [0] 1 1 [] := by
  refine ⟨by decide, fun x hx => ?_, (fun x hx => nomatch hx), fun n hn => ?_, fun n hn => ?_⟩
  · rw [List.mem_singleton.mp hx]; decide
  · have : n = 0 := by omega
    subst this
    simp [zeroF]
  · have : ¬ n = 0 := by omega
    simp [zeroF, this]
theorem desc_none : Desc noneF [] 0 1 [] := ⟨by decide, (fun x hx => nomatch hx), (fun x hx => nomatch hx), fun n hn => by omega, fun n hn => by simp [noneF]⟩
theorem can_none : SZ.Canon noneF 0 1 := ⟨by decide, fun n hn => rfl, fun q N hq _ => hq, .inl rfl⟩
section
variable {X : XD} {M : Nat} {f g : Nat → Bool} {s p t q : Nat} {P : D → List D → Prop}
theorem En.wd (a : En M f s p) : Wd M f s p := ⟨a.can, Nat.le_trans a.hs (by decide), a.hd⟩
theorem Wd.le (hM : 0 < M) (hM2 : M ≤ 400) (a : Wd M f s p) : p ≤ 400 := Nat.le_trans (Nat.le_of_dvd hM a.hd) hM2
theorem Wd.lcm_le (hM : 0 < M) (hM2 : M ≤ 400) (a : Wd M f s p) (b : Wd M g t q) : Nat.lcm p q ≤ 400 := Nat.le_trans (Nat.le_of_dvd hM (Nat.lcm_dvd a.hd b.hd)) hM2
theorem r_add (hM : 0 < M) (hM2 : M ≤ 400) (a : En M f s p) (b : En M g t q) (h : ∀ (u : Nat → Bool) (s0 p0 : Nat), u = sumF f g → Wd M u s0 p0 → P (szD u s0 p0) [szD f s p, szD g t q]) : F_Sizes___add__ X [szD f s p, szD g t q] P := by
  have := a.le hM hM2; have := b.le hM hM2; have := a.lcm_le hM hM2 b; have := a.hs; have := b.hs
  exact s_add a.can.pos b.can.pos (by omega) (by omega) (by omega) a.can.per b.can.per fun s0 p0 can h1 h2 => h _ s0 p0 rfl ⟨can, by omega, Nat.dvd_trans h2 (a.lcm b)⟩
theorem r_orW (hM : 0 < M) (hM2 : M ≤ 400) (a : Wd M f s p) (b : Wd M g t q) (h : ∀ (u : Nat → Bool) (s0 p0 : Nat), (∀ n, u n = (f n || g n)) → SZ.Canon u s0 p0 → P (szD u s0 p0) [szD f s p, szD g t q]) : F_Sizes___or__ X [szD f s p, szD g t q] P := by
  have := a.le hM hM2; have := b.le hM hM2; have := a.lcm_le hM hM2 b; have := a.hs; have := b.hs
  exact s_or a.can.pos b.can.pos (by omega) (by omega) (by omega) (by omega) (by omega) a.can.per b.can.per fun s0 p0 can h1 h2 => h _ s0 p0 (fun _ => rfl) can
theorem s_equalC (hfg : ∀ n, f n = g n) (a : SZ.Canon f s p) (b : SZ.Canon g t q) (h : P (.bl true) [szD f s p, szD g t q, .bl true]) : F__law_equal X [szD f s p, szD g t q, .bl true] P := by
  refine s_equal ?_
  rw [eqSz_of hfg a b]
  exact h
theorem mk_zero (h : ∀ s0 p0, En M zeroF s0 p0 → ∀ xs, D.ins "Sizes" KS (D.shs xs) = szD zeroF s0 p0 → P .non [.oins "Sizes" KS xs, .und, .int 1, .int 1, .und]) : F_Sizes_init X [.oins "Sizes" [] [], .own [.int 0], .int 1, .int 1, .own []] P :=
  s_initO (f := zeroF) (E := [0]) (R := []) (s := 1) (p := 1) (by decide) (by decide) (by decide) (by decide) desc_zero fun s0 p0 can h1 h2 xs hxs => h s0 p0 ⟨can, by omega, Nat.dvd_trans h2 (Nat.one_dvd M)⟩ xs (by rw [hxs]; rfl)
theorem mk_none (h : ∀ s0 p0, En M noneF s0 p0 → ∀ xs, D.ins "Sizes" KS (D.shs xs) = szD noneF s0 p0 → P .non [.oins "Sizes" KS xs, .und, .int 0, .int 1, .und]) : F_Sizes_init X [.oins "Sizes" [] [], .own [], .int 0, .int 1, .own []] P :=
  s_initO (f := noneF) (E := []) (R := []) (s := 0) (p := 1) (by decide) (by decide) (by decide) (by decide) desc_none fun s0 p0 can h1 h2 xs hxs => h s0 p0 ⟨can, by omega, Nat.dvd_trans h2 (Nat.one_dvd M)⟩ xs (by rw [hxs]; rfl)
end
theorem canD_none : canD noneF 0 1 = [.lst [], .int 0, .int 1, .lst []] := by
  have e1 : earlyOf noneF 0 = [] := rfl
  have e2 : restsOf noneF 0 1 = [] := by
    have : restsOf noneF 0 1 = srt [] := rfl
    rw [this]
    unfold srt
    simp
  show partsD _ _ _ _ = _
  rw [e1, e2]
  rfl
theorem s_rules {X : XD} {M : Nat} {es : List Ent} {F : Nat → Bool} {S Q : Nat} {P : D → List D → Prop} (hM : 0 < M) (hM2 : M ≤ 400) (h3 : 3 ≤ es.length) (hp : Pool M es) (hF : ∀ a b, es[0]? = some a → es[1]? = some b → F = sumF a.f b.f) (wF : SZ.Canon F S Q)
    (h : P (.bl true) [.own (plD es), .own (duD es), szD F S Q]) : F__law_rules X [.own (plD es), .own (duD es), szD F S Q] P := by
  have i0 : es[0]? = some es[0] := List.getElem?_eq_getElem (by omega)
  have i1 : es[1]? = some es[1] := List.getElem?_eq_getElem (by omega)
  have i2 : es[2]? = some es[2] := List.getElem?_eq_getElem (by omega)
  have A := hp _ (List.getElem_mem (show 0 < es.length by omega))
  have B := hp _ (List.getElem_mem (show 1 < es.length by omega))
  have C := hp _ (List.getElem_mem (show 2 < es.length by omega))
  have eF := hF _ _ i0 i1
  rw [F__law_rules_eq]
  simp -dsimp [W__law_rules]
  refine pl_ix (k := 0) i0 ?_
  simp -dsimp
  refine pl_ix (k := 1) i1 ?_
  simp -dsimp
  refine pl_ix (k := 2) i2 ?_
  generalize hA : es[0] = a at A i0 eF
  generalize hB : es[1] = b at B i1 eF
  generalize hC : es[2] = c at C i2
  have la := A.hs; have lb := B.hs; have lc := C.hs
  have pa := A.le hM hM2; have pb := B.le hM hM2; have pc := C.le hM hM2
  simp -dsimp
  refine mk_cut (fun ρ => ρ = [.own (plD es), .own (duD es), szD F S Q, szD a.f a.s a.p, szD b.f b.s b.p, szD c.f c.s c.p, .und, .und, .und]) (fun N hN => ?_) ?_
  · simp -dsimp
    refine r_add hM hM2 B A (fun u s0 p0 hu wu => go ?_)
    simp -dsimp
    refine s_equalC (fun n => by rw [hu, eF]; exact sum_comm n) wF wu.can (go ?_)
    simp -dsimp
    exact hN _ rfl
  rintro ρ rfl
  refine mk_cut (fun ρ => ∃ x6 : D, ρ = [.own (plD es), .own (duD es), szD F S Q, szD a.f a.s a.p, szD b.f b.s b.p, szD c.f c.s c.p, x6, .und, .und]) (fun N hN => ?_) ?_
  · simp -dsimp
    refine ⟨rgOk_of (by omega) (by omega), ?_⟩
    refine for_inv (fun k ρ => ∃ x6 : D, ρ = [.own (plD es), .own (duD es), szD F S Q, szD a.f a.s a.p, szD b.f b.s b.p, szD c.f c.s c.p, x6, .und, .und]) ⟨_, rfl⟩ (fun k ρ N hk ⟨x6, e⟩ hN => ?_) (fun ρ h => hN ρ h)
    subst e
    have hk3 : k < 3 := hk
    have ik : es[k]? = some es[k] := List.getElem?_eq_getElem (by omega)
    have E := hp _ (List.getElem_mem (show k < es.length by omega))
    generalize hE : es[k] = e at E ik
    have le1 := E.hs; have pe1 := E.le hM hM2
    simp -dsimp
    refine pl_ix ik ?_
    simp -dsimp [sizeLine]
    refine mk_zero (M := M) (fun s0 p0 en xs hxs => ⟨rfl, go ?_⟩)
    simp -dsimp [hxs]
    refine r_add hM hM2 E en (fun u s1 p1 hu wu => go ?_)
    simp -dsimp
    refine pl_ix ik ?_
    simp -dsimp
    refine s_equalC (fun n => by rw [hu]; exact sum_zero n) wu.can E.can (go ?_)
    simp -dsimp [sizeLine]
    refine mk_none (M := M) (fun s2 p2 en2 xs2 hxs2 => ⟨rfl, go ?_⟩)
    simp -dsimp [hxs2]
    refine pl_ix ik ?_
    simp -dsimp [hxs2]
    refine r_add hM hM2 en2 E (fun u2 s3 p3 hu2 wu2 => go ?_)
    have q1 := wu2.hs; have q2 := wu2.le hM hM2
    simp -dsimp
    refine s_told (by omega) (by omega) (go ?_)
    simp -dsimp [sizeLine]
    refine ne_parts (g := noneF) (t := 0) (q := 1) (.inl rfl) (.inl (by rw [canD_none])) ?_
    rw [eqSz_of (fun n => by rw [hu2]; exact sum_none n) wu2.can can_none]
    simp -dsimp
    exact hN _ ⟨_, rfl⟩
  rintro ρ ⟨x6, rfl⟩
  refine mk_cut (fun ρ => ρ = [.own (plD es), .own (duD es), szD F S Q, szD a.f a.s a.p, szD b.f b.s b.p, szD c.f c.s c.p, x6, .und, .und]) (fun N hN => ?_) ?_
  · simp -dsimp
    refine du_ix (k := 0) i0 ?_
    simp -dsimp
    refine du_ix (k := 1) i1 ?_
    simp -dsimp
    refine s_small A.can.pos B.can.pos (by omega) (by omega) (by omega) (by omega) (go ?_)
    simp -dsimp
    cases c1 : smallB a.s b.s a.p b.p with
    | false =>
      simp -dsimp
      exact h
    | true =>
      simp -dsimp
      refine du_ix (k := 0) i0 ?_
      simp -dsimp
      refine du_ix (k := 2) i2 ?_
      simp -dsimp
      refine s_small A.can.pos C.can.pos (by omega) (by omega) (by omega) (by omega) (go ?_)
      simp -dsimp
      cases c2 : smallB a.s c.s a.p c.p with
      | false =>
        simp -dsimp
        exact h
      | true =>
        simp -dsimp
        refine du_ix (k := 1) i1 ?_
        simp -dsimp
        refine du_ix (k := 2) i2 ?_
        simp -dsimp
        refine s_small B.can.pos C.can.pos (by omega) (by omega) (by omega) (by omega) (go ?_)
        simp -dsimp
        cases c3 : smallB b.s c.s b.p c.p with
        | false =>
          simp -dsimp
          exact h
        | true =>
          simp -dsimp
          exact hN _ rfl
  rintro ρ rfl
  refine mk_cut (fun ρ => ρ = [.own (plD es), .own (duD es), szD F S Q, szD a.f a.s a.p, szD b.f b.s b.p, szD c.f c.s c.p, x6, .und, .und]) (fun N hN => ?_) ?_
  · simp -dsimp
    refine r_or hM hM2 B C (fun u1 s1 p1 w1 e1 => go ?_)
    simp -dsimp
    refine r_add hM hM2 A e1 (fun u2 s2 p2 w2 e2 => go ?_)
    simp -dsimp
    refine r_add hM hM2 A B (fun u3 s3 p3 w3 e3 => go ?_)
    simp -dsimp
    refine r_add hM hM2 A C (fun u4 s4 p4 w4 e4 => go ?_)
    simp -dsimp
    refine r_orW hM hM2 e3 e4 (fun u5 s5 p5 w5 e5 => go ?_)
    simp -dsimp
    refine s_equalC (fun n => by
      rw [w5, w2, w3, w4, ← sum_or]
      exact sum_congr (fun _ => rfl) w1 n) e2.can e5 (go ?_)
    simp -dsimp
    exact hN _ rfl
  rintro ρ rfl
  have lab := A.lcm_le hM hM2 B; have lbc := B.lcm_le hM hM2 C
  simp -dsimp
  refine du_ix (k := 0) i0 ?_
  simp -dsimp
  refine du_ix (k := 1) i1 ?_
  simp -dsimp
  refine s_summed (by omega) (by omega) (by omega) (by omega) (by omega) (desc_of_per A.can.pos A.can.per) (desc_of_per B.can.pos B.can.per) (fun sL pL canL bL dL => go ?_)
  simp -dsimp
  refine du_ix (k := 1) i1 ?_
  simp -dsimp
  refine du_ix (k := 2) i2 ?_
  simp -dsimp
  refine s_summed (by omega) (by omega) (by omega) (by omega) (by omega) (desc_of_per B.can.pos B.can.per) (desc_of_per C.can.pos C.can.per) (fun sR pR canR bR dR => go ?_)
  obtain ⟨u, hu⟩ : ∃ u, u = sumF a.f b.f := ⟨_, rfl⟩
  obtain ⟨v, hv⟩ : ∃ v, v = sumF b.f c.f := ⟨_, rfl⟩
  rw [← hu] at canL ⊢
  rw [← hv] at canR ⊢
  have L : Wd M u sL pL := ⟨canL, by omega, Nat.dvd_trans dL (A.lcm B)⟩
  have R : Wd M v sR pR := ⟨canR, by omega, Nat.dvd_trans dR (B.lcm C)⟩
  have l1 := L.le hM hM2; have l2 := R.le hM hM2; have l3 := L.hs; have l4 := R.hs
  simp -dsimp
  refine mk_go ?_
  simp -dsimp
  refine du_ix (k := 2) i2 ?_
  simp -dsimp
  refine s_small L.can.pos C.can.pos (by omega) (by omega) (by omega) (by omega) (go ?_)
  simp -dsimp
  cases c1 : smallB sL c.s pL c.p with
  | false =>
    simp -dsimp
    exact h
  | true =>
    simp -dsimp
    refine du_ix (k := 0) i0 ?_
    simp -dsimp
    refine s_small A.can.pos R.can.pos (by omega) (by omega) (by omega) (by omega) (go ?_)
    simp -dsimp
    cases c2 : smallB a.s sR a.p pR with
    | false =>
      simp -dsimp
      exact h
    | true =>
      have m1 := small_le c1; have m2 := small_le c2
      simp -dsimp
      refine r_add hM hM2 A B (fun u3 s3 p3 w3 e3 => go ?_)
      have e : u3 = u := by rw [w3, hu]
      subst e
      obtain ⟨k1, k2⟩ := canon_uniq e3.can canL
      subst k1 k2
      simp -dsimp
      refine s_add e3.can.pos C.can.pos (by omega) (by omega) (by omega) e3.can.per C.can.per (fun s5 p5 can5 _ _ => go ?_)
      generalize hx : sumF u3 c.f = x5 at can5
      simp -dsimp
      refine r_add hM hM2 B C (fun u4 s4 p4 w4 e4 => go ?_)
      have e : u4 = v := by rw [w4, hv]
      subst e
      obtain ⟨k1, k2⟩ := canon_uniq e4.can canR
      subst k1 k2
      simp -dsimp
      refine s_add A.can.pos e4.can.pos (by omega) (by omega) (by omega) A.can.per e4.can.per (fun s6 p6 can6 _ _ => go ?_)
      generalize hy : sumF a.f u4 = x6' at can6
      simp -dsimp
      refine s_equalC (fun n => by rw [← hx, ← hy, w3, w4]; exact sum_assoc n) can5 can6 (go ?_)
      simp -dsimp
      exact h
end K47

end
section
set_option maxHeartbeats 1000000
namespace K47
open PySem PySem.Spec PyProof.Rows L2 FL SZ
/-- Sizes(parts[0], ..) -/
theorem s_made {X : XD} {f : Nat → Bool} {E R : List Int} {s p : Nat} {P : D → List D → Prop} (hE : E.length ≤ s) (hR : R.length ≤ p) (hs : s ≤ 2000) (hp : p ≤ 2000) (d : Desc f E s p R)
    (h : ∀ s0 p0, SZ.Canon f s0 p0 → s0 ≤ s → p0 ∣ p → ∀ xs, D.shs xs = [.int p0, .int s0, .tup (nB (bitsB f (s0 + p0))), .tup (nI (earlyOf f s0)), .tup (nI (restsOf f s0 p0))] → P .non [.oins "Sizes" KS xs, .und, .int s, .int p, .und]) :
    F_Sizes_init X [.oins "Sizes" [] [], .lst (nI E), .int s, .int p, .lst (nI R)] P := s_init (by omega) (by omega) hs hp d h
theorem natL_ix {L : List Nat} {k v : Nat} {q : D → Prop} (h : L[k]? = some v) (hq : q (.int v)) : opIx (.own (L.map fun x : Nat => D.int x)) (.int (k : Int)) q :=
  (ix_own (by simp [List.all_map, Function.comp_def]) (by rw [List.getElem?_map, h]; rfl)).mpr hq
def Bs (ns row : List Int) (kind : Int) (PL SL : List Nat) (r : List D) : List D := [.flst (nI ns), .own (nI row), .int kind, .own (PL.map fun x : Nat => D.int x), .own (SL.map fun x : Nat => D.int x)] ++ r
@[simp] theorem Bs_eq {ns row : List Int} {kind : Int} {PL SL : List Nat} {r : List D} : Bs ns row kind PL SL r = .flst (nI ns) :: .own (nI row) :: .int kind :: .own (PL.map fun x : Nat => D.int x) :: .own (SL.map fun x : Nat => D.int x) :: r := rfl
theorem law_plain (ns : List Int) (hl : ns.length ≤ 63) : F_law (fun _ _ => False) [.flst (ns.map D.int)] (fun d _ => d = .bl true) := by
  rw [F_law_eq]
  simp -dsimp [W_law]
  refine s_cell (ns := ns) (by omega) (by omega) (fun c => go ?_)
  simp -dsimp [sizeLine]
  refine s_digits (sz := [12, 6, 8, 8, 8]) (by simp) (by simp) (fun row d hl hg => go ?_)
  obtain ⟨v0, g0, a0, b0⟩ := good_at hl hg (i := 0) (s := 12) rfl
  obtain ⟨v1, g1, a1, b1⟩ := good_at hl hg (i := 1) (s := 6) rfl
  obtain ⟨v2, g2, a2, b2⟩ := good_at hl hg (i := 2) (s := 8) rfl
  obtain ⟨v3, g3, a3, b3⟩ := good_at hl hg (i := 3) (s := 8) rfl
  obtain ⟨v4, g4, a4, b4⟩ := good_at hl hg (i := 4) (s := 8) rfl
  have at2 : ∀ k : Nat, k < 3 → ∃ v, row[2 + k]? = some v := fun k hk => by
    rcases (show k = 0 ∨ k = 1 ∨ k = 2 by omega) with z | z | z <;> subst z
    · exact ⟨_, g2⟩
    · exact ⟨_, g3⟩
    · exact ⟨_, g4⟩
  simp -dsimp [ix_at0 g0]
  refine s_cell (ns := ns) (by omega) (by omega) (fun c => go ?_)
  simp -dsimp
  refine s_periods (fun M pa pb pc hM hM2 da db dc => go ?_)
  obtain ⟨PL, hPL⟩ : ∃ PL : List Nat, PL = [pa, pb, pc] := ⟨_, rfl⟩
  have hPe : [D.int pa, .int pb, .int pc] = PL.map fun x : Nat => D.int x := by rw [hPL]; rfl
  have hPd : ∀ k, k < 3 → ∃ v, PL[k]? = some v ∧ v ∣ M := fun k hk => by
    rw [hPL]
    rcases (show k = 0 ∨ k = 1 ∨ k = 2 by omega) with z | z | z <;> subst z
    · exact ⟨_, rfl, da⟩
    · exact ⟨_, rfl, db⟩
    · exact ⟨_, rfl, dc⟩
  rw [hPe]
  simp -dsimp
  refine s_cell (ns := ns) (by omega) (by omega) (fun c => go ?_)
  simp -dsimp
  refine s_starts (fun SL hSl hSle => go ?_)
  have hSd : ∀ k, k < 3 → ∃ v, SL[k]? = some v ∧ v ≤ 400 := fun k hk => ⟨SL[k], List.getElem?_eq_getElem (by omega), hSle _ (List.getElem_mem _)⟩
  clear hPe hPL hSle
  simp -dsimp [sizeLine]
  refine mk_cut (fun ρ => ∃ (es : List Ent) (x7 x8 : D), es.length = 3 ∧ Pool M es ∧ ρ = Bs ns row v0 PL SL [.own (plD es), .own (duD es), x7, x8, .und, .und]) (fun N hN => ?_) ?_
  · simp -dsimp
    refine ⟨rgOk_of (by omega) (by omega), ?_⟩
    refine for_inv (fun k ρ => ∃ (es : List Ent) (x7 x8 : D), es.length = k ∧ Pool M es ∧ ρ = Bs ns row v0 PL SL [.own (plD es), .own (duD es), x7, x8, .und, .und]) ⟨[], _, _, rfl, (fun e he => nomatch he), rfl⟩ (fun k ρ N2 hk ⟨es, x7, x8, hes, hpo, e⟩ hN2 => ?_) (fun ρ ⟨es, x7, x8, hes, hpo, e⟩ => hN ρ ⟨es, x7, x8, hes, hpo, e⟩)
    subst e
    have hk3 : k < 3 := hk
    obtain ⟨s, hs1, hs2⟩ := hSd k (by omega)
    obtain ⟨p, hp1, hp2⟩ := hPd k (by omega)
    obtain ⟨vk, hvk⟩ := at2 k hk3
    have hp0 : 0 < p := Nat.pos_of_dvd_of_pos hp2 hM
    have hp3 : p ≤ 400 := Nat.le_trans (Nat.le_of_dvd hM hp2) hM2
    have w : CMulW 3 (k : Int) := cmulW (by decide +kernel) (bits_up (j := 64) (by omega) (by decide))
    have e2 : (2 : Int) + (k : Int) = ((2 + k : Nat) : Int) := by omega
    simp -dsimp [w]
    refine natL_ix hs1 ?_
    simp -dsimp
    refine natL_ix hp1 ?_
    simp -dsimp
    refine s_few (again := decide (0 < v0)) (by omega) (by omega) (by omega) hp0 (by omega) (fun f E R dd hE hR => go ?_)
    simp -dsimp
    refine mk_cut (fun ρ => ∃ (f : Nat → Bool) (E R : List Int), Desc f E s p R ∧ E.length ≤ s ∧ R.length ≤ p ∧ ρ = Bs ns row v0 PL SL [.own (plD es), .own (duD es), .int (k : Int), .own (partsD E s p R), .und, .und]) (fun N3 hN3 => ?_) ?_
    · have skip : N3 (Bs ns row v0 PL SL [.own (plD es), .own (duD es), .int (k : Int), .own (partsD E s p R), .und, .und]) := hN3 _ ⟨f, E, R, dd, hE, hR, rfl⟩
      simp only [Bs_eq] at skip
      by_cases z : 0 < v0
      · by_cases y : v0 = 3
        · subst y
          simp -dsimp
          exact skip
        · simp -dsimp [z, y]
          rw [e2]
          refine ix_at hvk ?_
          by_cases x : vk < 3
          · simp -dsimp [x, w]
            refine natL_ix hs1 ?_
            simp -dsimp
            refine natL_ix hp1 ?_
            simp -dsimp
            refine s_set (by omega) (by omega) (by omega) hp0 (by omega) (fun f E R dd hE hR => go ?_)
            simp -dsimp
            exact hN3 _ ⟨f, E, R, dd, hE, hR, rfl⟩
          · simp -dsimp [x]
            exact skip
      · simp -dsimp [z]
        exact skip
    clear dd hE hR
    clear f E R
    rintro ρ ⟨f, E, R, dd, hE, hR, rfl⟩
    have hd : isSq (.own (partsD E s p R)) (partsD E s p R) := .inl rfl
    simp -dsimp
    refine s_fields hd (by omega) (by omega) dd (fun s0 p0 can h1 h2 => go ?_)
    simp -dsimp [px0 hd, px1 hd, px2 hd, px3 hd, sizeLine]
    refine ⟨by omega, s_made hE hR (by omega) (by omega) dd (fun s1 p1 can1 h3 h4 xs hxs => ⟨rfl, go ?_⟩)⟩
    obtain ⟨c1, c2⟩ := canon_uniq can1 can
    subst c1 c2
    have e : D.ins "Sizes" KS (D.shs xs) = szD f s1 p1 := by rw [hxs]; rfl
    simp -dsimp [e, sizeLine]
    refine ⟨by omega, hN2 _ ⟨es ++ [⟨f, s1, p1⟩], .int (k : Int), .own (partsD E s p R), by rw [List.length_append, hes]; rfl, fun e' he' => ?_, ?_⟩⟩
    · rcases List.mem_append.mp he' with z | z
      · exact hpo e' z
      · rw [List.mem_singleton.mp z]
        exact ⟨can, by show s1 ≤ 400; omega, Nat.dvd_trans h2 hp2⟩
    · simp [plD, duD]
      first | done | rfl
  rintro ρ ⟨es, x7, x8, hes, hpo, rfl⟩
  have i0 : es[0]? = some es[0] := List.getElem?_eq_getElem (by omega)
  have i1 : es[1]? = some es[1] := List.getElem?_eq_getElem (by omega)
  have A := hpo _ (List.getElem_mem (show 0 < es.length by omega))
  have B := hpo _ (List.getElem_mem (show 1 < es.length by omega))
  generalize hA : es[0] = a at A i0
  generalize hB : es[1] = b at B i1
  have la := A.hs; have lb := B.hs
  have pa' := A.le hM hM2; have pb' := B.le hM hM2; have lab := A.lcm_le hM hM2 B
  simp -dsimp
  refine pl_ix (k := 0) i0 ?_
  simp -dsimp
  refine pl_ix (k := 1) i1 ?_
  simp -dsimp
  refine r_add hM hM2 A B (fun u s0 p0 hu wu => go ?_)
  simp -dsimp
  refine du_ix (k := 0) i0 ?_
  simp -dsimp
  refine du_ix (k := 1) i1 ?_
  simp -dsimp
  refine s_summed (by omega) (by omega) (by omega) (by omega) (by omega) (desc_of_per A.can.pos A.can.per) (desc_of_per B.can.pos B.can.per) (fun s1 p1 can1 _ _ => go ?_)
  rw [← hu] at can1 ⊢
  obtain ⟨c1, c2⟩ := canon_uniq can1 wu.can
  subst c1 c2
  have lu := wu.hs
  have pu := wu.le hM hM2
  simp -dsimp
  refine mk_cut (fun ρ => ρ = Bs ns row v0 PL SL [.own (plD es), .own (duD es), x7, x8, szD u s1 p1, .own (canD u s1 p1)]) (fun N hN => ?_) ?_
  · simp -dsimp
    refine s_told (by omega) (by omega) (go ?_)
    simp -dsimp
    refine ne_parts (.inl rfl) (.inl rfl) ?_
    rw [eqSz_self]
    simp -dsimp
    refine s_inside (.inl rfl) (by omega) wu.can.pos (by omega) wu.can.per (go ?_)
    simp -dsimp
    exact hN _ rfl
  rintro ρ rfl
  refine mk_cut (fun ρ => ∃ (es1 : List Ent) (x10 : D), 3 ≤ es1.length ∧ es1.length ≤ 4 ∧ Pool M es1 ∧ es1[0]? = some a ∧ es1[1]? = some b ∧ isSq x10 (canD u s1 p1) ∧ ρ = Bs ns row v0 PL SL [.own (plD es1), .own (duD es1), x7, x8, szD u s1 p1, x10]) (fun N hN => ?_) ?_
  · have hq : isSq (.own (canD u s1 p1)) (canD u s1 p1) := .inl rfl
    by_cases z : s1 ≤ 400
    · have z2 : (s1 : Int) ≤ 400 := by omega
      simp -dsimp [px1 hq, z2, sizeLine]
      have esh : D.shs (canD u s1 p1) = canD u s1 p1 := rfl
      rw [esh]
      refine ⟨by omega, hN _ ⟨es ++ [⟨u, s1, p1⟩], .lst (canD u s1 p1), by rw [List.length_append]; omega, by rw [List.length_append, hes]; simp, fun e' he' => ?_, by rw [List.getElem?_append_left (by omega)]; exact i0, by rw [List.getElem?_append_left (by omega)]; exact i1, .inr rfl, ?_⟩⟩
      · rcases List.mem_append.mp he' with z | z
        · exact hpo e' z
        · rw [List.mem_singleton.mp z]
          exact ⟨wu.can, by show s1 ≤ 400; omega, wu.hd⟩
      · simp [plD, duD]
        first | done | rfl
    · have z2 : ¬ (s1 : Int) ≤ 400 := by omega
      simp -dsimp [px1 hq, z2]
      exact hN _ ⟨es, _, by omega, by omega, hpo, i0, i1, .inl rfl, rfl⟩
  clear hpo i0 i1 hes hA hB
  clear es
  rintro ρ ⟨es, x10, he1, he2, hpo, i0, i1, hq, rfl⟩
  have kq : x10.known = true := hq.kn
  refine mk_cut (fun ρ => ∃ es1 : List Ent, 3 ≤ es1.length ∧ es1.length ≤ 100 ∧ Pool M es1 ∧ es1[0]? = some a ∧ es1[1]? = some b ∧ ρ = Bs ns row v0 PL SL [.own (plD es1), .own (duD es1), x7, x8, szD u s1 p1, x10]) (fun N hN => ?_) ?_
  · simp -dsimp
    refine s_cell (ns := ns) (by omega) (by omega) (fun c => go ?_)
    simp -dsimp [sizeLine]
    refine mulG (xs := [8, 60, 60, 2]) (k := 5) (by omega) (by simp) ?_
    obtain ⟨sz, hsz⟩ : ∃ sz : List Int, (List.replicate 5 ([8, 60, 60, 2] : List Int)).flatten = sz := ⟨_, rfl⟩
    have hsz2 : sz = [8, 60, 60, 2, 8, 60, 60, 2, 8, 60, 60, 2, 8, 60, 60, 2, 8, 60, 60, 2] := by rw [← hsz]; rfl
    rw [hsz]
    simp -dsimp
    refine s_digits (sz := sz) (by rw [hsz2]; simp) (by rw [hsz2]; simp) (fun rw2 d2 hl2 hg2 => go ?_)
    have hr : ∀ k, k < 5 → ∃ v0 v1 v2 v3, rw2[4 * k]? = some v0 ∧ rw2[4 * k + 1]? = some v1 ∧ rw2[4 * k + 2]? = some v2 ∧ rw2[4 * k + 3]? = some v3 ∧ 0 ≤ v0 ∧ v0 < 8 ∧ 0 ≤ v1 ∧ 0 ≤ v2 ∧ 0 ≤ v3 := fun k hk => by
      have g : ∀ i (s : Int), sz[i]? = some s → _ := fun i s h => good_at hl2 hg2 (i := i) (s := s) h
      have key : sz[4 * k]? = some 8 ∧ sz[4 * k + 1]? = some 60 ∧ sz[4 * k + 2]? = some 60 ∧ sz[4 * k + 3]? = some 2 := by
        rw [hsz2]
        rcases (show k = 0 ∨ k = 1 ∨ k = 2 ∨ k = 3 ∨ k = 4 by omega) with z | z | z | z | z <;> subst z <;> exact ⟨rfl, rfl, rfl, rfl⟩
      obtain ⟨w0, q0, r0, t0⟩ := g _ _ key.1
      obtain ⟨w1, q1, r1, t1⟩ := g _ _ key.2.1
      obtain ⟨w2, q2, r2, t2⟩ := g _ _ key.2.2.1
      obtain ⟨w3, q3, r3, t3⟩ := g _ _ key.2.2.2
      exact ⟨w0, w1, w2, w3, q0, q1, q2, q3, r0, t0, r1, r2, r3⟩
    obtain ⟨many, hm, hm2⟩ : ∃ many : Nat, v1 = many ∧ many ≤ 5 := ⟨v1.toNat, by omega, by omega⟩
    simp -dsimp [ix_at1 g1]
    rw [hm]
    refine s_run hM hM2 hr hm2 (by omega) (by omega) hpo (fun more hml hpo2 => go ?_)
    simp -dsimp
    exact hN _ ⟨es ++ more, by rw [List.length_append]; omega, by rw [List.length_append]; omega, hpo2, by rw [List.getElem?_append_left (by omega)]; exact i0, by rw [List.getElem?_append_left (by omega)]; exact i1, rfl⟩
  clear hpo i0 i1 he1 he2
  clear es
  rintro ρ ⟨es, he1, he2, hpo, i0, i1, rfl⟩
  obtain ⟨kl, hkl⟩ : ∃ kl : Nat, kl + 1 = es.length := ⟨es.length - 1, by omega⟩
  have hlast : es[kl]? = some es[kl] := List.getElem?_eq_getElem (by omega)
  have elast : ((es.length : Int) - 1) = (kl : Int) := by omega
  have C := hpo _ (List.getElem_mem (show kl < es.length by omega))
  generalize hC : es[kl] = e at C hlast
  have lc := C.hs; have pc := C.le hM hM2
  refine mk_cut (fun ρ => ρ = Bs ns row v0 PL SL [.own (plD es), .own (duD es), x7, x8, szD u s1 p1, x10]) (fun N hN => ?_) ?_
  · simp -dsimp
    rw [elast]
    refine pl_ix hlast ?_
    simp -dsimp
    rw [elast]
    refine du_ix hlast ?_
    simp -dsimp
    refine s_inside (.inr rfl) (by omega) C.can.pos (by omega) C.can.per (go ?_)
    simp -dsimp
    refine s_rules hM hM2 he1 hpo (fun a' b' h1 h2 => by rw [i0] at h1; rw [i1] at h2; cases h1; cases h2; exact hu) wu.can (go ?_)
    simp -dsimp
    exact hN _ rfl
  rintro ρ rfl
  refine mk_cut (fun ρ => ∃ x7 : D, ρ = Bs ns row v0 PL SL [.own (plD es), .own (duD es), x7, x8, szD u s1 p1, x10]) (fun N hN => ?_) ?_
  · simp -dsimp
    refine ⟨rgOk_of (by omega) (by omega), ?_⟩
    refine for_inv (fun k ρ => ∃ x7 : D, ρ = Bs ns row v0 PL SL [.own (plD es), .own (duD es), x7, x8, szD u s1 p1, x10]) ⟨_, rfl⟩ (fun k ρ N2 hk ⟨x7, e⟩ hN2 => ?_) (fun ρ h => hN ρ h)
    subst e
    have hk2 : es[k]? = some es[k] := List.getElem?_eq_getElem hk
    have A := hpo _ (List.getElem_mem hk)
    have l1 := A.le hM hM2; have l4 := A.hs
    simp -dsimp
    refine pl_ix hk2 ?_
    simp -dsimp
    refine s_told (by omega) (by omega) (go ?_)
    simp -dsimp
    refine du_ix hk2 ?_
    simp -dsimp
    refine ne_parts (.inl rfl) (.inr rfl) ?_
    rw [eqSz_self]
    simp -dsimp
    exact hN2 _ ⟨_, rfl⟩
  rintro ρ ⟨x7, rfl⟩
  simp -dsimp
  refine s_told (by omega) (by omega) (go ?_)
  rcases hq with z | z <;> subst z <;> (
    simp -dsimp
    first
      | refine eq_parts (.inl rfl) (.inl rfl) ?_
      | refine eq_parts (.inl rfl) (.inr rfl) ?_
    rw [eqSz_self]
    simp -dsimp)
end K47

end
section

end
section
set_option maxHeartbeats 0
open PySem PySem.W PySem.Calls PyProof.Rows
theorem PySem.Challenge.cw_oneheadeach_k47_sizes_summed_holds : PySem.Challenge.rw_oneheadeach_k47_sizes_summed.Holds := by
  w_on; o_law
  refine HandSHeadRun.head_imp (r := OpenLaw.row PySem.Challenge.rw_oneheadeach_k47_sizes_summed) (q := view (OpenLaw.row PySem.Challenge.rw_oneheadeach_k47_sizes_summed).prog [0, 41]) (H := K47.hk) (ob := K47.ob) (M := 20000) (loose := K47.loose) (d := HandSHeadRun.topDef (OpenLaw.row PySem.Challenge.rw_oneheadeach_k47_sizes_summed).prog 41) (kwd := []) K47.ob_eq
    K47.run (by kernel_rfl) (by kernel_rfl) (by kernel_rfl) (by rfl) (by first | assumption | decide +kernel) (by decide +kernel) ⟨rfl, rfl, rfl, rfl, rfl, by decide +kernel⟩ ?hw ?hc
  case hw => w_witness2
  case hc =>
    refine L2.walk_ofE (l := PySem.Challenge.rw_oneheadeach_k47_sizes_summed) (n := 63) (k := 12) (x := "script") (CX := L2.CX0) rfl (by decide) (by kernel_rfl) ⟨rfl, by decide, by decide⟩ ?F (fun _ _ _ _ z => z)
    intro w mg fa h Y G hmg0
    obtain ⟨K, KX, c⟩ := Y
    have hmg : mg ("law" : PySem.Str) = some (.ref fa) := by
      have e : (HandSHeadRun.topDef (OpenLaw.row PySem.Challenge.rw_oneheadeach_k47_sizes_summed).prog 41).name = ("law" : PySem.Str) := by kernel_rfl
      rw [← e]
      exact hmg0
    have hd : FL.Hd K47.L w K mg h := ⟨⟨h, c⟩, KX, G⟩
    have e := hmg.symm.trans (hd.glo (by decide))
    cases e
    obtain ⟨fd, hb, hF⟩ := K47.ok_law (P := (PySem.Challenge.rw_oneheadeach_k47_sizes_summed).prog) ⟨h, c⟩
    exact ⟨K, fd, FL.spD ⟨K, w⟩ K47.F_law 1, KX, hb, fun H a ns hl _ hS => FL.law_sp hS (K47.law_plain ns hl), fun base KB GB => hF mg base KB GB⟩

end
